import PyProof.Rows.All
import Wide.All
import OpenK.AllK
import Wide.FinOn
import HandS.ForMost
import HandS.Defaults
import HandS.Wide
import KE.KIntText
import PyProof.Rows.Digits
import PyProof.StrBlock2
import HandS.SortKw
import KE.SortData
import KE.SortKeyHeap
import KE.DataMinMax
import KE.KTupSum
import HandS.TupMul
import HandS.TupAny
import HandS.Deep
import HandS.Style
import HandS.IsInst
import PyProof.ReprReads
import HandS.RaiseMore
import PyProof.ReprRoads
import HandS.More
import HandS.Walk
import HandS.Conv
import HandS.Words
import HandS.Zip
import KE.GoesMore
import KE.GoesEnumKw
import KE.GoesZip
import KE.GoesEnum
import HandS.DictComp
import HandS.Ends
import HandS.EndBits
import HandS.HeadEnd
import HandS.Head0
import HandS.Head1
import HandS.Head2
import HandS.HeadHook1
import HandS.HeadHook2
import HandS.MakeKw
import HandS.MakeKwOnly
import PySem.Challenge.RW_staybonds_k50_pieces_walked
set_option Elab.async false
set_option linter.all false
set_option maxRecDepth 100000
/-! LA: codes over pure data, and what they are worth (weakest preconditions). -/
namespace Q
open PySem

/-- what a name may hold: pure data, an own list of pure data, an own dict -/
inductive M where
  | p (d : PyData)
  | l (ds : List PyData)
  | dc (kvs : List (L2.Key × M))

abbrev De := List (Option M)
/-- what an expression gives: a value of its own, or what a name of the frame holds -/
inductive Val where
  | own (m : M)
  | at (i : Nat)

inductive BOp where | add | sub | mul | fdiv | mod | pow | shl | shr | band
  deriving DecidableEq
inductive COp where | eq | ne | lt | le | gt | ge | isin | notin | is | isnot
  deriving DecidableEq
inductive BI where | len | sum | max | min | all | any | tuple | list | repr | abs | int | str | bool | sorted
  deriving DecidableEq
inductive ME where | join | split | index | upper | count
  deriving DecidableEq
inductive MU where | append | insert | pop | extend | remove
  deriving DecidableEq
inductive Tg where | n (i : Nat) | t0 | tc (a as : Tg)

inductive C where
  | nil | cons (a as : C)
  | v (i : Nat) | k (d : PyData) | gk (x : Str) (d : PyData)
  | tup (l : C) | lst (l : C) | dct (ks : List Str) (l : C)
  | bin (op : BOp) (a b : C) | neg (a : C)
  | cmp (op : COp) (a b : C) | ch (o1 o2 : COp) (a b c : C)
  | and (l : C) | or (l : C) | not (t : C) | ite (t a b : C)
  | ix (a b : C) | sl (a lo hi : C) | rev (a : C)
  | ixs (i : Nat) (key : Str) (b : C) | nes (i : Nat) (key : Str) | lens (i : Nat) (key : Str)
  | bi (f : BI) (l : C) | isi (a : C) (ty : String) | me (f : ME) (o l : C) | mu (f : MU) (i : Nat) (l : C)
  | call (f : Nat) (l kl : C)
  | rng (l : C) | enum (a : C) | zip (a b : C) (strict : Bool) | zip3 (a b c : C)
  | mxd (mx : Bool) (a d : C) | dcm (own : List Nat) (tg : Tg) (src ifs key val : C)
  | comp (own : List Nat) (tg : Tg) (src ifs elt : C)
  | tupI (src : C) | lstI (src : C) | tv (c : C) | sv (c : C)

structure Exn where
  cls : Str
  fs : List (Str × PyData)
/-- what a def promises: of its arguments, for what is wanted of its answer and of what the arguments are then -/
abbrev Spec := List M → (M → List M → Prop) → (Exn → List M → Prop) → Prop

/-! ### data -/
def pureKvs : List (L2.Key × M) → Option (List (PyData × PyData))
  | [] => some []
  | (k, .p d) :: r => (pureKvs r).map fun q => ((match k with | .inl i => .int i | .inr x => .str x), d) :: q
  | _ :: _ => none
def M.data : M → Option PyData
  | .p d => some d
  | .l ds => some (.list ds)
  | .dc kvs => (pureKvs kvs).map .dict
def M.seq : M → Option (List PyData)
  | .p (.list ds) => some ds
  | .p (.tuple ds) => some ds
  | .l ds => some ds
  | _ => none
/-- the items of a list -/
def M.lst : M → Option (List PyData)
  | .p (.list ds) => some ds
  | .l ds => some ds
  | _ => none
def M.isP : M → Bool
  | .p _ => true
  | _ => false
def peek (δ : De) : Val → Option M
  | .own m => some m
  | .at i => (δ[i]?).getD none
def peeks (δ : De) : List Val → Option (List M)
  | [] => some []
  | v :: vs => match peek δ v, peeks δ vs with
    | some m, some ms => some (m :: ms)
    | _, _ => none
/-- a value kept: what a name holds is its own no more -/
def frz : Val → De → (PyData → De → Prop) → Prop
  | .own m, δ, K => match m.data with
    | some d => K d δ
    | none => False
  | .at i, δ, K => match (δ[i]?).getD none with
    | some m => match m.data with
      | some d => K d (δ.set i (some (.p d)))
      | none => False
    | none => False
/-- a value moved into another one -/
def mov : Val → De → (M → De → Prop) → Prop
  | .own m, δ, K => K m δ
  | .at i, δ, K => frz (.at i) δ fun d δ' => K (.p d) δ'

/-! ### operators -/
def mulOk (i j : Int) : Prop := (-(2 ^ 64) < i ∧ i < 2 ^ 64) ∨ (-(2 ^ 64) < j ∧ j < 2 ^ 64) ∨ i.natAbs.log2 + j.natAbs.log2 < 1000000
def rep {α : Type} (n : Nat) (xs : List α) : List α := (List.replicate n xs).flatten
def binM : BOp → M → M → (M → Prop) → Prop
  | .add, .p (.int i), .p (.int j), K => K (.p (.int (i + j)))
  | .add, .p (.str a), .p (.str b), K => a.length + b.length ≤ sizeLine ∧ K (.p (.str (a ++ b)))
  | .add, .p (.tuple a), .p (.tuple b), K => a.length + b.length ≤ sizeLine ∧ K (.p (.tuple (a ++ b)))
  | .add, x, y, K => ∃ a b, x.lst = some a ∧ y.lst = some b ∧ a.length + b.length ≤ sizeLine ∧ K (.l (a ++ b))
  | .sub, .p (.int i), .p (.int j), K => K (.p (.int (i - j)))
  | .mul, .p (.int i), .p (.int j), K => mulOk i j ∧ K (.p (.int (i * j)))
  | .mul, .p (.tuple a), .p (.int j), K => a ≠ [] ∧ 2 ≤ j ∧ j ≤ 1000 ∧ a.length ≤ 1000 ∧ K (.p (.tuple (rep j.toNat a)))
  | .mul, .p (.str a), .p (.int j), K => MulOk a j ∧ K (.p (.str (Txt.mul a j)))
  | .mul, .l a, .p (.int j), K => -(2 ^ 63) ≤ j ∧ j < 2 ^ 63 ∧ a.length * j.toNat ≤ sizeLine ∧ K (.l (rep j.toNat a))
  | .fdiv, .p (.int i), .p (.int j), K => (0 < j ∧ j.natAbs.log2 < 9000) ∧ K (.p (.int (i / j)))
  | .mod, .p (.int i), .p (.int j), K => 0 < j ∧ K (.p (.int (i % j)))
  | .pow, .p (.int i), .p (.int j), K => (0 ≤ j ∧ j ≤ 1000000 ∧ i.natAbs < 2 ^ 64) ∧ K (.p (.int (i ^ j.toNat)))
  | .shl, .p (.int i), .p (.int j), K => (0 ≤ j ∧ j ≤ 1000000 ∧ i.natAbs < 2 ^ 64) ∧ K (.p (.int (i * 2 ^ j.toNat)))
  | .shr, .p (.int i), .p (.int j), K => 0 ≤ j ∧ K (.p (.int (i / 2 ^ j.toNat)))
  | .band, .p (.int i), .p (.int j), K => K (.p (.int (Builtin.bitAnd i j)))
  | _, _, _, _ => False
def strLt (a b : Str) : Bool := decide (a.cps.toList < b.cps.toList)
/-- is equal, where that is told -/
def eqM : M → M → (Bool → Prop) → Prop
  | .p (.int i), .p (.int j), K => K (decide (i = j))
  | .p (.str a), .p (.str b), K => K (decide (a = b))
  | .p (.bool a), .p (.bool b), K => K (decide (a = b))
  | x, y, K => ∃ d e, x.data = some d ∧ y.data = some e ∧ SeqAt.shaped d = true ∧ SeqAt.shaped e = true ∧ K (PyData.eqv d e)
def isM : M → M → (Bool → Prop) → Prop
  | .p .none, .p .none, K => K true
  | .p _, .p .none, K => K false
  | .p (.bool a), .p (.bool b), K => K (a == b)
  | .l _, .p .none, K => K false
  | .dc _, .p .none, K => K false
  | _, _, _ => False
def flatD : PyData → Bool
  | .none | .bool _ | .int _ | .str _ => true
  | _ => false
def kget : List (L2.Key × M) → L2.Key → Option M
  | [], _ => none
  | (k, m) :: r, x => if k = x then some m else kget r x
def kput : List (L2.Key × M) → L2.Key → M → List (L2.Key × M)
  | [], x, z => [(x, z)]
  | (k, m) :: r, x, z => if k = x then (k, z) :: r else (k, m) :: kput r x z
def keyOf : PyData → Option L2.Key
  | .int i => some (.inl i)
  | .str x => some (.inr x)
  | _ => none
def inM : M → M → (Bool → Prop) → Prop
  | .p (.str a), .p (.str b), K => K (!(Builtin.Str.occurrences b a 0 b.length 1).isEmpty)
  | .p d, .dc kvs, K => ∃ k, keyOf d = some k ∧ K (kget kvs k).isSome
  | x, y, K => ∃ d ds, x.data = some d ∧ y.seq = some ds ∧ ((flatD d = true ∧ ds.all flatD = true) ∨ (y.lst = some ds ∧ SeqAt.shaped d = true ∧ SeqAt.shaped (.list ds) = true)) ∧ K (ds.any fun z => PyData.eqv z d)
def cmpM : COp → M → M → (Bool → Prop) → Prop
  | .eq, x, y, K => eqM x y K
  | .ne, x, y, K => eqM x y fun b => K (!b)
  | .lt, .p (.int i), .p (.int j), K => K (decide (i < j))
  | .le, .p (.int i), .p (.int j), K => K (decide (i ≤ j))
  | .gt, .p (.int i), .p (.int j), K => K (decide (j < i))
  | .ge, .p (.int i), .p (.int j), K => K (decide (j ≤ i))
  | .lt, .p (.str a), .p (.str b), K => K (strLt a b)
  | .is, x, y, K => isM x y K
  | .isnot, x, y, K => isM x y fun b => K (!b)
  | .isin, x, y, K => inM x y K
  | .notin, x, y, K => inM x y fun b => K (!b)
  | _, _, _, _ => False
/-- a value's truth -/
def truM : M → (Bool → Prop) → Prop
  | .p (.bool b), K => K b
  | .p (.int i), K => K (i != 0)
  | .p .none, K => K false
  | .l ds, K => K (!ds.isEmpty)
  | _, _ => False
def ixM : M → PyData → (PyData → Prop) → Prop
  | .p (.str z), .int i, K => z.length ≤ sizeLine ∧ ∃ c, L2.atI z.cps.toList i = some c ∧ K (.str ⟨#[c]⟩)
  | .dc kvs, k, K => ∃ key d, keyOf k = some key ∧ kget kvs key = some (.p d) ∧ K d
  | m, .int i, K => ∃ ds d, m.seq = some ds ∧ L2.atI ds i = some d ∧ K d
  | _, _, _ => False
def cut {α : Type} (xs : List α) (lo hi : Option Int) : List α := (xs.drop (HT.sIx xs.length 0 lo)).take (HT.sIx xs.length xs.length hi - HT.sIx xs.length 0 lo)
def slM : M → Option Int → Option Int → (M → Prop) → Prop
  | .p (.str z), lo, hi, K => z.length ≤ sizeLine ∧ K (.p (.str (L2.cutS z lo hi)))
  | .p (.tuple ds), lo, hi, K => K (.p (.tuple (cut ds lo hi)))
  | m, lo, hi, K => ∃ ds, m.lst = some ds ∧ K (.l (cut ds lo hi))
def intL : List PyData → Option (List Int)
  | [] => some []
  | .int i :: r => (intL r).map (i :: ·)
  | _ :: _ => none
def boolL : List PyData → Option (List Bool)
  | [] => some []
  | .bool b :: r => (boolL r).map (b :: ·)
  | _ :: _ => none
def strL : List PyData → Option (List Str)
  | [] => some []
  | .str x :: r => (strL r).map (x :: ·)
  | _ :: _ => none
def biM : BI → List M → (M → Prop) → Prop
  | .len, [.p (.str z)], K => z.length ≤ sizeLine ∧ K (.p (.int z.length))
  | .len, [.dc kvs], K => K (.p (.int kvs.length))
  | .len, [m], K => ∃ ds, m.seq = some ds ∧ K (.p (.int ds.length))
  | .sum, [m], K => ∃ ds ns, m.seq = some ds ∧ intL ds = some ns ∧ K (.p (.int ns.sum))
  | .max, [.p (.int i), .p (.int j)], K => K (.p (.int (if j > i then j else i)))
  | .min, [.p (.int i), .p (.int j)], K => K (.p (.int (if j < i then j else i)))
  | .max, [m], K => ∃ ds ns, m.lst = some ds ∧ intL ds = some ns ∧ 0 < ns.length ∧ ∀ z, z ∈ ns → (∀ y, y ∈ ns → y ≤ z) → K (.p (.int z))
  | .min, [m], K => ∃ ds ns, m.lst = some ds ∧ intL ds = some ns ∧ 0 < ns.length ∧ ∀ z, z ∈ ns → (∀ y, y ∈ ns → z ≤ y) → K (.p (.int z))
  | .all, [m], K => ∃ ds bs, m.lst = some ds ∧ boolL ds = some bs ∧ K (.p (.bool (bs.all id)))
  | .any, [m], K => ∃ ds bs, m.lst = some ds ∧ boolL ds = some bs ∧ K (.p (.bool (bs.any id)))
  | .tuple, [m], K => ∃ ds, m.seq = some ds ∧ K (.p (.tuple ds))
  | .list, [m], K => ∃ ds, m.seq = some ds ∧ K (.l ds)
  | .repr, [m], K => ∃ d, m.data = some d ∧ d.showable = true ∧ d.hasDict = false ∧ d.shown.length ≤ sizeLine ∧ d.depth ≤ 100 ∧ K (.p (.str d.shown))
  | .sorted, [m], K => ∃ ds, m.lst = some ds ∧ PySem.W.AllAlike ds ∧ PySem.W.Sortable ds ∧ PyData.hasDictAll ds = false ∧ (∀ d ∈ ds, d.depth ≤ 90) ∧ K (.l (ds.mergeSort (PySem.W.dataLe false id)))
  | .abs, [.p (.int i)], K => K (.p (.int (if i < 0 then -i else i)))
  | .int, [.p (.int i)], K => K (.p (.int i))
  | .int, [.p (.bool b)], K => K (.p (.int (if b then 1 else 0)))
  | .int, [.p (.str x)], K => ∃ n, PySem.intText? x = some n ∧ (x.length ≤ 640 ∨ (x.length ≤ sizeLine ∧ ¬ (numSeenOf x).length ≤ 640)) ∧ K (.p (.int n))
  | .str, [.p (.int i)], K => i.natAbs.log2 < 1920 ∧ K (.p (.str (toString i)))
  | .str, [.p (.str x)], K => K (.p (.str x))
  | _, _, _ => False
def M.kn : M → String
  | .p .none => "NoneType"
  | .p (.bool _) => "bool"
  | .p (.int _) => "int"
  | .p (.str _) => "str"
  | .p (.list _) => "list"
  | .p (.tuple _) => "tuple"
  | .p (.dict _) => "dict"
  | .l _ => "list"
  | .dc _ => "dict"
def isiS (k t : String) : Bool := k == t || (k == "bool" && t == "int")
def isiM (m : M) (t : String) (K : Bool → Prop) : Prop := t ∈ ["int", "bool", "str", "list", "tuple", "dict"] ∧ K (isiS m.kn t)
def meTy : ME → M → Prop
  | .join, m => ∃ a, m = .p (.str a)
  | _, _ => False
def meM : ME → M → List M → (M → Prop) → Prop
  | .join, .p (.str a), [m], K => ∃ ds xs, m.seq = some ds ∧ strL ds = some xs ∧ (xs.map (·.length)).sum + xs.length * a.length ≤ 16777216 ∧ K (.p (.str (Txt.join a xs)))
  | _, _, _, _ => False
def muM : MU → M → List PyData → (PyData → M → Prop) → Prop
  | .append, .l ds, [d], K => ds.length < sizeLine ∧ K .none (.l (ds ++ [d]))
  | .insert, .l ds, [.int i, d], K => ds.length < sizeLine ∧ 0 ≤ i ∧ i < 2 ^ 63 ∧ K .none (.l (ds.take i.toNat ++ [d] ++ ds.drop i.toNat))
  | .pop, .l ds, [.int i], K => -(2 ^ 63) ≤ i ∧ i < 2 ^ 63 ∧ ∃ j d, seqIndex? i ds.length = some j ∧ ds[j]? = some d ∧ K d (.l (ds.eraseIdx j))
  | _, _, _, _ => False

/-! ### names -/
def wipe (δ : De) : List Nat → De
  | [] => δ
  | i :: is => (wipe δ is).set i none
def back (δ₀ δ : De) : List Nat → De
  | [] => δ
  | i :: is => (back δ₀ δ is).set i ((δ₀[i]?).getD none)
def light : Option M → Bool
  | none => true
  | some m => m.isP
def lightAll (δ : De) (is : List Nat) : Bool := is.all fun i => decide (i < δ.length) && light ((δ[i]?).getD none)
mutual
def bindT (lk : List Nat) : Tg → PyData → De → Option De
  | .n i, d, δ => if i ∈ lk then none else if i < δ.length then some (δ.set i (some (.p d))) else none
  | .t0, .tuple [], δ => some δ
  | .tc a as, .tuple (d :: ds), δ => match bindT lk a d δ with
    | some δ' => bindTs lk as ds δ'
    | none => none
  | _, _, _ => none
def bindTs (lk : List Nat) : Tg → List PyData → De → Option De
  | .t0, [], δ => some δ
  | .tc a as, d :: ds, δ => match bindT lk a d δ with
    | some δ' => bindTs lk as ds δ'
    | none => none
  | _, _, _ => none
end
/-- what is walked: the items, and the names whose lists must stay as they are meanwhile -/
structure Src where
  items : List PyData
  gd : List (Nat × List PyData)
def gdOk (gd : List (Nat × List PyData)) (δ : De) : Prop := ∀ g ∈ gd, ∃ m : M, (δ[g.1]?).getD none = some m ∧ m.lst = some g.2
def srcOf (δ : De) : Val → Option Src
  | .own (.p (.str z)) => some ⟨z.cps.toList.map fun c => .str ⟨#[c]⟩, []⟩
  | .own m => m.seq.map fun ds => ⟨ds, []⟩
  | .at i => match (δ[i]?).getD none with
    | some (.l ds) => some ⟨ds, [(i, ds)]⟩
    | _ => none
def lsrcOf (δ : De) : Val → Option Src
  | .own m => m.lst.map fun ds => ⟨ds, []⟩
  | .at i => match (δ[i]?).getD none with
    | some (.l ds) => some ⟨ds, [(i, ds)]⟩
    | _ => none
def compLoop (own : List Nat) (gd : List (Nat × List PyData)) (turn : PyData → De → (Option PyData → De → Prop) → Prop) : List PyData → De → (List PyData → De → Prop) → Prop
  | [], δ, K => gdOk gd δ ∧ K [] δ
  | x :: xs, δ, K => gdOk gd δ ∧ turn x δ fun o δ' => compLoop own gd turn xs (wipe δ' own) fun ds δ'' => K (o.toList ++ ds) δ''
def ats : List Val → List Nat
  | [] => []
  | .at i :: r => i :: ats r
  | .own _ :: r => ats r
def writeB : List Val → List M → De → De
  | .at i :: vs, m :: ms, δ => writeB vs ms (δ.set i (some m))
  | .own _ :: vs, _ :: ms, δ => writeB vs ms δ
  | _, _, δ => δ
def rngOf : List PyData → Option (Int × Int)
  | [.int j] => some (0, j)
  | [.int i, .int j] => some (i, j)
  | _ => none
def rngItems (lo hi : Int) : List PyData := (List.range (hi - lo).toNat).map fun (k : Nat) => PyData.int (lo + (k : Int))
def enumItems (xs : List PyData) : List PyData := List.zipWith (fun (k : Nat) x => PyData.tuple [.int (k : Int), x]) (List.range xs.length) xs
def zipItems (xs ys : List PyData) : List PyData := List.zipWith (fun x y => .tuple [x, y]) xs ys
def zip3Items (xs ys zs : List PyData) : List PyData := List.zipWith (fun x (yz : PyData × PyData) => .tuple [x, yz.1, yz.2]) xs (ys.zip zs)
/-- of zip: lists and tuples -/
def zsrcOf (δ : De) : Val → Option Src
  | .own (.p (.str _)) => none
  | x => srcOf δ x
/-- the entries of a dict made by a comprehension -/
def dcAdd (kvs : List (L2.Key × M)) : PyData → List (L2.Key × M)
  | .tuple [.int i, d] => kput kvs (.inl i) (.p d)
  | .tuple [.str x, d] => kput kvs (.inr x) (.p d)
  | _ => kvs
def dcOf (kvs : List (L2.Key × M)) : List PyData → List (L2.Key × M)
  | [] => kvs
  | d :: ds => dcOf (dcAdd kvs d) ds
def optI : List PyData → Option (Option Int)
  | [] => some none
  | [.int i] => some (some i)
  | _ => none

/-- numbers that are told without changing anything -/
def qI : C → De → Option Int
  | .v i, δ => match (δ[i]?).getD none with
    | some (.p (.int z)) => some z
    | _ => none
  | .k (.int z), _ => some z
  | .bin op a b, δ => match op, qI a δ, qI b δ with
    | .add, some i, some j => some (i + j)
    | .sub, some i, some j => some (i - j)
    | .mod, some i, some j => if 0 < j then some (i % j) else none
    | .fdiv, some i, some j => if 0 < j ∧ j.natAbs.log2 < 9000 then some (i / j) else none
    | _, _, _ => none
  | _, _ => none
def mxOf (b : Bool) (e : PyData) : List Int → PyData
  | [] => e
  | n :: r => .int (if b = true then r.foldl max n else r.foldl min n)
/-! ### expressions -/
mutual
def wpE (Γ : List Spec) (X : Exn → De → Prop) : C → De → (Val → De → Prop) → Prop
  | .v i, δ, K => match (δ[i]?).getD none with
    | some (.p d) => K (.own (.p d)) δ
    | some _ => K (.at i) δ
    | none => False
  | .k d, δ, K => K (.own (.p d)) δ
  | .gk _ d, δ, K => K (.own (.p d)) δ
  | .tup l, δ, K => wpF Γ X l δ fun ds δ' => ds.length ≤ sizeLine ∧ K (.own (.p (.tuple ds))) δ'
  | .lst l, δ, K => wpF Γ X l δ fun ds δ' => ds.length ≤ sizeLine ∧ K (.own (.l ds)) δ'
  | .dct ks l, δ, K => wpD Γ X l δ fun ms δ' => K (.own (.dc ((ks.map Sum.inr).zip ms))) δ'
  | .bin op a b, δ, K => wpE Γ X a δ fun x δ1 => wpE Γ X b δ1 fun y δ2 => ∃ m n, peek δ2 x = some m ∧ peek δ2 y = some n ∧ binM op m n fun r => K (.own r) δ2
  | .neg a, δ, K => wpE Γ X a δ fun x δ1 => ∃ i, peek δ1 x = some (.p (.int i)) ∧ K (.own (.p (.int (-i)))) δ1
  | .cmp op a b, δ, K => wpE Γ X a δ fun x δ1 => wpE Γ X b δ1 fun y δ2 => ∃ m n, peek δ2 x = some m ∧ peek δ2 y = some n ∧ cmpM op m n fun r => K (.own (.p (.bool r))) δ2
  | .ch o1 o2 a b c, δ, K => wpE Γ X a δ fun x δ1 => wpE Γ X b δ1 fun y δ2 => ∃ m n, peek δ2 x = some m ∧ peek δ2 y = some n ∧ cmpM o1 m n fun r =>
      if r = true then wpE Γ X c δ2 fun z δ3 => ∃ n' q, peek δ3 y = some n' ∧ peek δ3 z = some q ∧ cmpM o2 n' q fun r => K (.own (.p (.bool r))) δ3 else K (.own (.p (.bool false))) δ2
  | .and l, δ, K => wpAV Γ X l δ K
  | .or l, δ, K => wpOV Γ X l δ K
  | .not t, δ, K => wpE Γ X t δ fun x δ1 => ∃ m, peek δ1 x = some m ∧ truM m fun b => K (.own (.p (.bool (!b)))) δ1
  | .ite t a b, δ, K => wpT Γ X t δ fun r δ1 => if r = true then wpE Γ X a δ1 K else wpE Γ X b δ1 K
  | .ix a b, δ, K => wpE Γ X a δ fun x δ1 => wpE Γ X b δ1 fun y δ2 => ∃ m d, peek δ2 x = some m ∧ y = .own (.p d) ∧ ixM m d fun r => K (.own (.p r)) δ2
  | .sl a lo hi, δ, K => wpE Γ X a δ fun x δ1 => wpF Γ X lo δ1 fun ls δ2 => ∃ l, optI ls = some l ∧ wpF Γ X hi δ2 fun hs δ3 => ∃ h, optI hs = some h ∧ ∃ m, peek δ3 x = some m ∧ slM m l h fun r => K (.own r) δ3
  | .rev a, δ, K => wpE Γ X a δ fun x δ1 => ∃ m ds, peek δ1 x = some m ∧ m.lst = some ds ∧ K (.own (.l ds.reverse)) δ1
  | .ixs i key b, δ, K => ∃ kvs ds z d, (δ[i]?).getD none = some (.dc kvs) ∧ kget kvs (.inr key) = some (.l ds) ∧ qI b δ = some z ∧ L2.atI ds z = some d ∧ K (.own (.p d)) δ
  | .nes i key, δ, K => ∃ kvs ds, (δ[i]?).getD none = some (.dc kvs) ∧ kget kvs (.inr key) = some (.l ds) ∧ SeqAt.shaped (.list ds) = true ∧ K (.own (.p (.bool (!ds.isEmpty)))) δ
  | .lens i key, δ, K => ∃ kvs ds, (δ[i]?).getD none = some (.dc kvs) ∧ kget kvs (.inr key) = some (.l ds) ∧ K (.own (.p (.int ds.length))) δ
  | .bi f l, δ, K => wpV Γ X l δ fun vs δ1 => ∃ ms, peeks δ1 vs = some ms ∧ biM f ms fun r => K (.own r) δ1
  | .isi a t, δ, K => wpE Γ X a δ fun x δ1 => ∃ m, peek δ1 x = some m ∧ isiM m t fun r => K (.own (.p (.bool r))) δ1
  | .me f o l, δ, K => wpE Γ X o δ fun x δ1 => (∃ m0, peek δ1 x = some m0 ∧ meTy f m0) ∧ wpV Γ X l δ1 fun vs δ2 => ∃ m ms, peek δ2 x = some m ∧ peeks δ2 vs = some ms ∧ meM f m ms fun r => K (.own r) δ2
  | .mu f i l, δ, K => (∃ ds0, (δ[i]?).getD none = some (.l ds0)) ∧ wpF Γ X l δ fun ds δ1 => ∃ m, (δ1[i]?).getD none = some m ∧ muM f m ds fun r m' => K (.own (.p r)) (δ1.set i (some m'))
  | .call f l kl, δ, K => wpV Γ X l δ fun vs δ1 => wpV Γ X kl δ1 fun ks δ2 => ∃ sp ms, Γ[f]? = some sp ∧ (ats (vs ++ ks)).Nodup ∧ peeks δ2 (vs ++ ks) = some ms ∧
      sp ms (fun r outs => K (.own r) (writeB (vs ++ ks) outs δ2)) fun e outs => X e (writeB (vs ++ ks) outs δ2)
  | .comp own tg src ifs elt, δ, K => wpI Γ X src δ fun s δ1 => lightAll δ1 own = true ∧ s.items.length ≤ sizeLine ∧
      compLoop own s.gd (fun x δ2 k => ∃ δ3, bindT [] tg x δ2 = some δ3 ∧ wpA Γ X ifs δ3 fun b δ4 => if b = true then wpE Γ X elt δ4 fun y δ5 => frz y δ5 fun d δ6 => k (some d) δ6 else k none δ4)
        s.items (wipe δ1 own) fun ds δ2 => K (.own (.l ds)) (back δ1 δ2 own)
  | .mxd b a d, δ, K => wpE Γ X a δ fun x δ1 => wpE Γ X d δ1 fun y δ2 => ∃ m e ds ns, peek δ2 x = some m ∧ y = .own (.p e) ∧ m.lst = some ds ∧ intL ds = some ns ∧ K (.own (.p (mxOf b e ns))) δ2
  | .dcm own tg src ifs key val, δ, K => wpI Γ X src δ fun s δ1 => lightAll δ1 own = true ∧ s.items.length ≤ sizeLine ∧
      compLoop own s.gd (fun x δ2 k => ∃ δ3, bindT [] tg x δ2 = some δ3 ∧ wpA Γ X ifs δ3 fun b δ4 => if b = true then wpE Γ X key δ4 fun y δ5 => ∃ kd, y = .own (.p kd) ∧ (keyOf kd).isSome = true ∧ wpE Γ X val δ5 fun z δ6 => frz z δ6 fun d δ7 => k (some (.tuple [kd, d])) δ7 else k none δ4)
        s.items (wipe δ1 own) fun ds δ2 => K (.own (.dc (dcOf [] ds))) (back δ1 δ2 own)
  | .tupI src, δ, K => wpI Γ X src δ fun s δ1 => s.items.length ≤ sizeLine ∧ K (.own (.p (.tuple s.items))) δ1
  | .lstI src, δ, K => wpI Γ X src δ fun s δ1 => s.items.length ≤ sizeLine ∧ K (.own (.l s.items)) δ1
  | _, _, _ => False
/-- values, kept -/
def wpF (Γ : List Spec) (X : Exn → De → Prop) : C → De → (List PyData → De → Prop) → Prop
  | .nil, δ, K => K [] δ
  | .cons a as, δ, K => wpE Γ X a δ fun x δ1 => frz x δ1 fun d δ2 => wpF Γ X as δ2 fun ds δ3 => K (d :: ds) δ3
  | _, _, _ => False
/-- values, moved -/
def wpD (Γ : List Spec) (X : Exn → De → Prop) : C → De → (List M → De → Prop) → Prop
  | .nil, δ, K => K [] δ
  | .cons a as, δ, K => wpE Γ X a δ fun x δ1 => mov x δ1 fun d δ2 => wpD Γ X as δ2 fun ds δ3 => K (d :: ds) δ3
  | _, _, _ => False
/-- values, looked at -/
def wpV (Γ : List Spec) (X : Exn → De → Prop) : C → De → (List Val → De → Prop) → Prop
  | .nil, δ, K => K [] δ
  | .cons a as, δ, K => wpE Γ X a δ fun x δ1 => wpV Γ X as δ1 fun xs δ2 => K (x :: xs) δ2
  | _, _, _ => False
/-- what is walked -/
def wpI (Γ : List Spec) (X : Exn → De → Prop) : C → De → (Src → De → Prop) → Prop
  | .rng l, δ, K => wpF Γ X l δ fun ds δ1 => ∃ lo hi, rngOf ds = some (lo, hi) ∧ (-(2 ^ 62) ≤ lo ∧ lo < 2 ^ 62 ∧ -(2 ^ 62) ≤ hi ∧ hi < 2 ^ 62) ∧ K ⟨rngItems lo hi, []⟩ δ1
  | .enum a, δ, K => wpE Γ X a δ fun x δ1 => ∃ s, zsrcOf δ1 x = some s ∧ K ⟨enumItems s.items, s.gd⟩ δ1
  | .zip a b st, δ, K => wpE Γ X a δ fun x δ1 => wpE Γ X b δ1 fun y δ2 => ∃ s t, zsrcOf δ2 x = some s ∧ zsrcOf δ2 y = some t ∧ (st = true → s.items.length = t.items.length) ∧ K ⟨zipItems s.items t.items, s.gd ++ t.gd⟩ δ2
  | .zip3 a b c, δ, K => wpE Γ X a δ fun x δ1 => wpE Γ X b δ1 fun y δ2 => wpE Γ X c δ2 fun z δ3 => ∃ s t u, zsrcOf δ3 x = some s ∧ zsrcOf δ3 y = some t ∧ zsrcOf δ3 z = some u ∧ K ⟨zip3Items s.items t.items u.items, s.gd ++ t.gd ++ u.gd⟩ δ3
  | .sv a, δ, K => wpE Γ X a δ fun x δ1 => ∃ s, srcOf δ1 x = some s ∧ K s δ1
  | _, _, _ => False
/-- a test -/
def wpT (Γ : List Spec) (X : Exn → De → Prop) : C → De → (Bool → De → Prop) → Prop
  | .not t, δ, K => wpT Γ X t δ fun b δ1 => K (!b) δ1
  | .and l, δ, K => wpA Γ X l δ K
  | .or l, δ, K => wpO Γ X l δ K
  | .tv c, δ, K => wpE Γ X c δ fun x δ1 => ∃ m, peek δ1 x = some m ∧ truM m fun b => K b δ1
  | _, _, _ => False
def wpA (Γ : List Spec) (X : Exn → De → Prop) : C → De → (Bool → De → Prop) → Prop
  | .nil, δ, K => K true δ
  | .cons a as, δ, K => wpT Γ X a δ fun b δ1 => if b = true then wpA Γ X as δ1 K else K false δ1
  | _, _, _ => False
def wpO (Γ : List Spec) (X : Exn → De → Prop) : C → De → (Bool → De → Prop) → Prop
  | .nil, δ, K => K false δ
  | .cons a as, δ, K => wpT Γ X a δ fun b δ1 => if b = true then K true δ1 else wpO Γ X as δ1 K
  | _, _, _ => False
def wpAV (Γ : List Spec) (X : Exn → De → Prop) : C → De → (Val → De → Prop) → Prop
  | .cons a .nil, δ, K => wpE Γ X a δ K
  | .cons a as, δ, K => wpE Γ X a δ fun x δ1 => ∃ b, x = .own (.p (.bool b)) ∧ if b = true then wpAV Γ X as δ1 K else K (.own (.p (.bool false))) δ1
  | _, _, _ => False
def wpOV (Γ : List Spec) (X : Exn → De → Prop) : C → De → (Val → De → Prop) → Prop
  | .cons a .nil, δ, K => wpE Γ X a δ K
  | .cons a as, δ, K => wpE Γ X a δ fun x δ1 => ∃ b, x = .own (.p (.bool b)) ∧ if b = true then K (.own (.p (.bool true))) δ1 else wpOV Γ X as δ1 K
  | _, _, _ => False
end

/-! ### statements -/
structure EndD where
  nx : De → Prop
  rt : Val → De → Prop
  bk : De → Prop
  ct : De → Prop
inductive S where
  | nil | cons (a as : S)
  | set (i : Nat) (e : C) | setT (tg : Tg) (e : C) | par (is : List Nat) (l : C) | parL (is : List Nat) (l : C)
  | setIx (i : Nat) (b e : C) | setQ (is : List Nat) (bs e : C) | setSub (i : Nat) (key : Str) (b e : C) | setK (i : Nat) (key : Str) (e : C)
  | aug (i : Nat) (op : BOp) (e : C) | augIx (i : Nat) (op : BOp) (b e : C)
  | ex (e : C) | ret (e : C) | retN
  | ife (t : C) (a b : S) | forS (tg : Tg) (src : C) (body : S) | whl (t : C) (body : S)
  | pass | brk | cont | stop
def setAll : List Nat → List M → De → De
  | i :: is, m :: ms, δ => setAll is ms (δ.set i (some m))
  | _, _, δ => δ
def setAt (i : Nat) (key d : PyData) (δ : De) (K : De → Prop) : Prop := match (δ[i]?).getD none with
  | some (.l ds) => ∃ z j, key = .int z ∧ L2.ixN ds.length z = some j ∧ K (δ.set i (some (.l (ds.set j d))))
  | some (.dc kvs) => ∃ k, keyOf key = some k ∧ kvs.length < sizeLine ∧ K (δ.set i (some (.dc (kput kvs k (.p d)))))
  | _ => False
/-- several places of own lists and dicts, one behind the other -/
def wpQ (Γ : List Spec) (X : Exn → De → Prop) : List Nat → C → List PyData → De → (De → Prop) → Prop
  | [], .nil, [], δ, K => K δ
  | i :: is, .cons b bs, d :: ds, δ, K => (∃ m0, (δ[i]?).getD none = some m0) ∧ wpE Γ X b δ fun y δ1 => ∃ k, y = .own (.p k) ∧ setAt i k d δ1 fun δ2 => wpQ Γ X is bs ds δ2 K
  | _, _, _, _, _ => False
def forLoop (gd : List (Nat × List PyData)) (turn : PyData → De → EndD → Prop) : List PyData → De → EndD → Prop
  | [], δ, D => gdOk gd δ ∧ D.nx δ
  | x :: xs, δ, D => gdOk gd δ ∧ turn x δ ⟨fun δ' => forLoop gd turn xs δ' D, D.rt, D.nx, fun δ' => forLoop gd turn xs δ' D⟩
def wpS (Γ : List Spec) (X : Exn → De → Prop) (lk : List Nat) : S → De → EndD → Prop
  | .nil, δ, D => D.nx δ
  | .cons a as, δ, D => wpS Γ X lk a δ ⟨fun δ' => wpS Γ X lk as δ' D, D.rt, D.bk, D.ct⟩
  | .set i e, δ, D => wpE Γ X e δ fun x δ1 => mov x δ1 fun m δ2 => i ∉ lk ∧ i < δ2.length ∧ D.nx (δ2.set i (some m))
  | .setT tg e, δ, D => wpE Γ X e δ fun x δ1 => ∃ d δ2, x = .own (.p d) ∧ bindT lk tg d δ1 = some δ2 ∧ D.nx δ2
  | .par is l, δ, D => wpD Γ X l δ fun ms δ2 => ms.length = is.length ∧ (∀ i ∈ is, i ∉ lk ∧ i < δ2.length) ∧ D.nx (setAll is ms δ2)
  | .parL is l, δ, D => wpD Γ X l δ fun ms δ2 => ms.length = is.length ∧ (∀ i ∈ is, i ∉ lk ∧ i < δ2.length) ∧ D.nx (setAll is ms δ2)
  | .setIx i b e, δ, D => wpE Γ X e δ fun x δ1 => frz x δ1 fun d δ2 => (∃ m0, (δ2[i]?).getD none = some m0) ∧ wpE Γ X b δ2 fun y δ3 => ∃ k, y = .own (.p k) ∧ setAt i k d δ3 D.nx
  | .setQ is bs e, δ, D => wpE Γ X e δ fun x δ1 => ∃ ds, x = .own (.p (.tuple ds)) ∧ ds.length = is.length ∧ wpQ Γ X is bs ds δ1 D.nx
  | .setSub i key b e, δ, D => wpE Γ X e δ fun x δ1 => frz x δ1 fun d δ2 => ∃ kvs ds z j, (δ2[i]?).getD none = some (.dc kvs) ∧ kget kvs (.inr key) = some (.l ds) ∧
      qI b δ2 = some z ∧ L2.ixN ds.length z = some j ∧ D.nx (δ2.set i (some (.dc (kput kvs (.inr key) (.l (ds.set j d))))))
  | .setK i key e, δ, D => wpE Γ X e δ fun x δ1 => mov x δ1 fun m δ2 => ∃ kvs, (δ2[i]?).getD none = some (.dc kvs) ∧ kvs.length < sizeLine ∧ D.nx (δ2.set i (some (.dc (kput kvs (.inr key) m))))
  | .aug i op e, δ, D => ∃ a, (δ[i]?).getD none = some (.p (.int a)) ∧ wpE Γ X e δ fun y δ1 => ∃ b, y = .own (.p (.int b)) ∧ (op = .add ∨ op = .sub) ∧ i ∉ lk ∧
      D.nx (δ1.set i (some (.p (.int (if op = .add then a + b else a - b)))))
  | .augIx i op b e, δ, D => (∃ m0, (δ[i]?).getD none = some m0) ∧ wpE Γ X b δ fun y δ1 => ∃ k m a, y = .own (.p k) ∧ (δ1[i]?).getD none = some m ∧ ixM m k (fun z => z = .int a) ∧ m.isP = false ∧ wpE Γ X e δ1 fun z δ2 => ∃ c, z = .own (.p (.int c)) ∧ (op = .add ∨ op = .sub) ∧
      setAt i k (.int (if op = .add then a + c else a - c)) δ2 D.nx
  | .ex e, δ, D => wpE Γ X e δ fun _ δ1 => D.nx δ1
  | .ret e, δ, D => wpE Γ X e δ D.rt
  | .retN, δ, D => D.rt (.own (.p .none)) δ
  | .ife t a b, δ, D => wpT Γ X t δ fun r δ1 => if r = true then wpS Γ X lk a δ1 D else wpS Γ X lk b δ1 D
  | .forS tg src body, δ, D => wpI Γ X src δ fun s δ1 => forLoop s.gd (fun x δ2 D' => ∃ δ3, bindT (s.gd.map (·.1) ++ lk) tg x δ2 = some δ3 ∧ wpS Γ X (s.gd.map (·.1) ++ lk) body δ3 D') s.items δ1 D
  | .whl t body, δ, D => ∃ I : Nat → De → Prop, (∃ n, I n δ) ∧ ∀ n δ', I n δ' → wpT Γ X t δ' fun b δ1 => if b = true then
      wpS Γ X lk body δ1 ⟨fun δ2 => ∃ m, m < n ∧ I m δ2, D.rt, D.nx, fun δ2 => ∃ m, m < n ∧ I m δ2⟩ else D.nx δ1
  | .pass, δ, D => D.nx δ
  | .brk, δ, D => D.bk δ
  | .cont, δ, D => D.ct δ
  | .stop, _, _ => False
/-- the arguments that are the def's to change -/
def lockOf : Nat → List M → List Nat
  | _, [] => []
  | i, .p _ :: ms => lockOf (i + 1) ms
  | i, _ :: ms => i :: lockOf (i + 1) ms
/-- what the arguments are at the end -/
def outs : List M → De → Option (List M)
  | [], _ => some []
  | .p d :: ms, δ => (outs ms δ.tail).map (.p d :: ·)
  | _ :: ms, δ => match (δ.head?).getD none, outs ms δ.tail with
    | some m, some r => some (m :: r)
    | _, _ => none
def retV (np : Nat) : Val → De → (M → De → Prop) → Prop
  | .own m, δ, K => K m δ
  | .at i, δ, K => if i < np then frz (.at i) δ fun d δ' => K (.p d) δ' else ∃ m, (δ[i]?).getD none = some m ∧ K m δ
def startD (n : Nat) (ms : List M) : De := ms.map some ++ List.replicate (n - ms.length) none
/-- a def's body, from its arguments -/
def wpFn (Γ : List Spec) (n : Nat) (body : S) (ms : List M) (K : M → List M → Prop) (X : Exn → List M → Prop) : Prop :=
  wpS Γ (fun e δ => ∃ os, outs ms δ = some os ∧ X e os) (lockOf 0 ms) body (startD n ms)
    ⟨fun δ => ∃ os, outs ms δ = some os ∧ K (.p .none) os, fun v δ => retV ms.length v δ fun r δ' => ∃ os, outs ms δ' = some os ∧ K r os, fun _ => False, fun _ => False⟩
end Q
set_option Elab.async false
set_option linter.all false
set_option maxRecDepth 100000
/-! LB: how pure data and own values stand in the hand layer's heap. -/
namespace Q
open PySem PySem.Spec PyProof.Rows L2

def kd : Key → PyData
  | .inl i => .int i
  | .inr x => .str x
/-- a list that is never written -/
def SqZ (K : PySem.W.Frag) (H : Hp) (a : Addr) (xs : List V) : Prop :=
  (∃ o, H a = some (.frz o (.lst xs))) ∨
    ∃ (o : Obj) (its : Array Value) (n : Nat), K.lookup a = some o ∧ o.cls = .type "list" ∧ o.dict = none ∧ o.data = .seq its n ∧ its.size ≤ sizeLine ∧ Vals xs its.toList
theorem SqZ.sq {K : PySem.W.Frag} {H : Hp} {a : Addr} {xs : List V} (h : SqZ K H a xs) : SqL K H a xs := by
  rcases h with ⟨o, h⟩ | h
  · exact .inl (.inr ⟨o, h⟩)
  · exact .inr h

mutual
/-- pure data -/
inductive RP (K : PySem.W.Frag) (H : Hp) : V → PyData → Prop
  | non : RP K H .non .none
  | bl (b : Bool) : RP K H (.bl b) (.bool b)
  | int (i : Int) : RP K H (.int i) (.int i)
  | str (x : Str) : RP K H (.str x) (.str x)
  | lst {a : Addr} {xs : List V} {ds : List PyData} : SqZ K H a xs → RPs K H xs ds → RP K H (.ref a) (.list ds)
  | tup {a : Addr} {xs : List V} {ds : List PyData} : SqT K H a xs → RPs K H xs ds → RP K H (.ref a) (.tuple ds)
  | dct {a : Addr} {o : Obj} {kvs : List (Key × V)} {dd : List (PyData × PyData)} : H a = some (.frz o (.dK kvs)) → RPk K H kvs dd → RP K H (.ref a) (.dict dd)
inductive RPs (K : PySem.W.Frag) (H : Hp) : List V → List PyData → Prop
  | nil : RPs K H [] []
  | cons {v : V} {vs : List V} {d : PyData} {ds : List PyData} : RP K H v d → RPs K H vs ds → RPs K H (v :: vs) (d :: ds)
inductive RPk (K : PySem.W.Frag) (H : Hp) : List (Key × V) → List (PyData × PyData) → Prop
  | nil : RPk K H [] []
  | cons {k : Key} {v : V} {kvs : List (Key × V)} {d : PyData} {dd : List (PyData × PyData)} : RP K H v d → RPk K H kvs dd → RPk K H ((k, v) :: kvs) ((kd k, d) :: dd)
end
mutual
/-- what a name may hold: F are the addresses that are its own -/
inductive RM (K : PySem.W.Frag) (H : Hp) : V → M → List Addr → Prop
  | p {v : V} {d : PyData} : RP K H v d → RM K H v (.p d) []
  | l {a : Addr} {xs : List V} {ds : List PyData} : H a = some (.lst xs) → RPs K H xs ds → RM K H (.ref a) (.l ds) [a]
  | dc {a : Addr} {kvs : List (Key × V)} {ms : List (Key × M)} {F : List Addr} : H a = some (.dK kvs) → (kvs.map (·.1)).Nodup → RMk K H kvs ms F → RM K H (.ref a) (.dc ms) (a :: F)
inductive RMk (K : PySem.W.Frag) (H : Hp) : List (Key × V) → List (Key × M) → List Addr → Prop
  | nil : RMk K H [] [] []
  | cons {k : Key} {v : V} {m : M} {kvs : List (Key × V)} {ms : List (Key × M)} {F G : List Addr} : RM K H v m F → RMk K H kvs ms G → RMk K H ((k, v) :: kvs) ((k, m) :: ms) (F ++ G)
end
inductive RS (K : PySem.W.Frag) (H : Hp) : L2.St → De → List Addr → Prop
  | nil : RS K H [] [] []
  | no {x : Option V} {σ : L2.St} {δ : De} {F : List Addr} : RS K H σ δ F → RS K H (x :: σ) (none :: δ) F
  | so {v : V} {m : M} {σ : L2.St} {δ : De} {F G : List Addr} : RM K H v m F → RS K H σ δ G → RS K H (some v :: σ) (some m :: δ) (F ++ G)
inductive RMs (K : PySem.W.Frag) (H : Hp) : List V → List M → List Addr → Prop
  | nil : RMs K H [] [] []
  | cons {v : V} {m : M} {vs : List V} {ms : List M} {F G : List Addr} : RM K H v m F → RMs K H vs ms G → RMs K H (v :: vs) (m :: ms) (F ++ G)

def MutK : HO → Prop
  | .lst _ => True
  | .dK _ => True
  | _ => False
/-- all but what is at F stands as it stood -/
def Keep (H H' : Hp) (F : List Addr) : Prop := ∀ a o, H a = some o → a ∉ F → H' a = some o
/-- what can't be written stands as it stood -/
def Still (H H' : Hp) : Prop := ∀ a o, H a = some o → ¬ MutK o → H' a = some o
def Owns (H : Hp) (F : List Addr) : Prop := ∀ a ∈ F, ∃ o, H a = some o ∧ MutK o
theorem Keep.refl (H : Hp) (F : List Addr) : Keep H H F := fun _ _ h _ => h
theorem Keep.still {H H' : Hp} {F : List Addr} (k : Keep H H' F) (w : Owns H F) : Still H H' := fun a o h nm => k a o h fun z => by
  obtain ⟨u, e, m⟩ := w a z
  rw [h] at e; cases e; exact nm m
theorem Still.refl (H : Hp) : Still H H := fun _ _ h _ => h
theorem Keep.mono {H H' : Hp} {F G : List Addr} (k : Keep H H' F) (h : ∀ a ∈ F, a ∈ G) : Keep H H' G := fun a o e n => k a o e fun z => n (h a z)
theorem Keep.new {H : Hp} {p : Addr} {o : HO} (h : H p = none) (F : List Addr) : Keep H (upd H p o) F := fun a u e _ => by
  rw [upd_ne (ne_of_none e h)]; exact e

theorem Still.tup {K : PySem.W.Frag} {H H' : Hp} (s : Still H H') {a : Addr} {xs : List V} (h : SqT K H a xs) : SqT K H' a xs := by
  rcases h with (h | ⟨o, h⟩) | h
  · exact .inl (.inl (s _ _ h fun z => z))
  · exact .inl (.inr ⟨o, s _ _ h fun z => z⟩)
  · exact .inr h
theorem Still.sqz {K : PySem.W.Frag} {H H' : Hp} (s : Still H H') {a : Addr} {xs : List V} (h : SqZ K H a xs) : SqZ K H' a xs := by
  rcases h with ⟨o, h⟩ | h
  · exact .inl ⟨o, s _ _ h fun z => z⟩
  · exact .inr h
mutual
theorem RP.still {K : PySem.W.Frag} {H H' : Hp} (s : Still H H') : ∀ {v : V} {d : PyData}, RP K H v d → RP K H' v d
  | _, _, .non => .non
  | _, _, .bl b => .bl b
  | _, _, .int i => .int i
  | _, _, .str x => .str x
  | _, _, .lst h r => .lst (s.sqz h) (RPs.still s r)
  | _, _, .tup h r => .tup (s.tup h) (RPs.still s r)
  | _, _, .dct h r => .dct (s _ _ h fun z => z) (RPk.still s r)
theorem RPs.still {K : PySem.W.Frag} {H H' : Hp} (s : Still H H') : ∀ {vs : List V} {ds : List PyData}, RPs K H vs ds → RPs K H' vs ds
  | _, _, .nil => .nil
  | _, _, .cons a b => .cons (RP.still s a) (RPs.still s b)
theorem RPk.still {K : PySem.W.Frag} {H H' : Hp} (s : Still H H') : ∀ {vs : List (Key × V)} {ds : List (PyData × PyData)}, RPk K H vs ds → RPk K H' vs ds
  | _, _, .nil => .nil
  | _, _, .cons a b => .cons (RP.still s a) (RPk.still s b)
end
section
variable {K : PySem.W.Frag} {H H' : Hp} {F G : List Addr}
theorem RPs.length : ∀ {vs : List V} {ds : List PyData}, RPs K H vs ds → vs.length = ds.length
  | _, _, .nil => rfl
  | _, _, .cons _ b => congrArg (· + 1) b.length
theorem RPs.append : ∀ {vs ws : List V} {ds es : List PyData}, RPs K H vs ds → RPs K H ws es → RPs K H (vs ++ ws) (ds ++ es)
  | _, _, _, _, .nil, b => b
  | _, _, _, _, .cons a as, b => .cons a (as.append b)
theorem RPs.get : ∀ {vs : List V} {ds : List PyData} {i : Nat} {d : PyData}, RPs K H vs ds → ds[i]? = some d → ∃ v, vs[i]? = some v ∧ RP K H v d
  | _, _, _, _, .nil, e => by simp at e
  | _, _, 0, _, .cons a _, e => by simp at e; subst e; exact ⟨_, rfl, a⟩
  | _, _, i + 1, _, .cons _ b, e => by
    obtain ⟨v, h1, h2⟩ := RPs.get (i := i) b (by simpa using e)
    exact ⟨v, by simpa using h1, h2⟩
theorem RPs.getV : ∀ {vs : List V} {ds : List PyData} {i : Nat} {v : V}, RPs K H vs ds → vs[i]? = some v → ∃ d, ds[i]? = some d ∧ RP K H v d
  | _, _, _, _, .nil, e => by simp at e
  | _, _, 0, _, .cons a _, e => by simp at e; subst e; exact ⟨_, rfl, a⟩
  | _, _, i + 1, _, .cons _ b, e => by
    obtain ⟨v, h1, h2⟩ := RPs.getV (i := i) b (by simpa using e)
    exact ⟨v, by simpa using h1, h2⟩
theorem RPs.set {v : V} {d : PyData} (r : RP K H v d) : ∀ {vs : List V} {ds : List PyData} (i : Nat), RPs K H vs ds → RPs K H (vs.set i v) (ds.set i d)
  | _, _, _, .nil => .nil
  | _, _, 0, .cons _ b => .cons r b
  | _, _, i + 1, .cons a b => .cons a (RPs.set r i b)
theorem RPs.take : ∀ {vs : List V} {ds : List PyData} (n : Nat), RPs K H vs ds → RPs K H (vs.take n) (ds.take n)
  | _, _, 0, _ => .nil
  | _, _, _ + 1, .nil => .nil
  | _, _, n + 1, .cons a b => .cons a (RPs.take n b)
theorem RPs.drop : ∀ {vs : List V} {ds : List PyData} (n : Nat), RPs K H vs ds → RPs K H (vs.drop n) (ds.drop n)
  | _, _, 0, r => r
  | _, _, _ + 1, .nil => .nil
  | _, _, n + 1, .cons _ b => RPs.drop n b
theorem RPs.rep {vs : List V} {ds : List PyData} (r : RPs K H vs ds) : ∀ n : Nat, RPs K H (List.replicate n vs).flatten (rep n ds)
  | 0 => .nil
  | n + 1 => by
    unfold Q.rep
    rw [List.replicate_succ, List.flatten_cons, List.replicate_succ, List.flatten_cons]
    exact r.append (RPs.rep r n)
theorem RPs.reverse : ∀ {vs : List V} {ds : List PyData}, RPs K H vs ds → RPs K H vs.reverse ds.reverse
  | _, _, .nil => .nil
  | _, _, .cons a b => by rw [List.reverse_cons, List.reverse_cons]; exact (RPs.reverse b).append (.cons a .nil)

mutual
theorem RM.owns : ∀ {v : V} {m : M} {F : List Addr}, RM K H v m F → Owns H F
  | _, _, _, .p _ => fun _ h => by cases h
  | _, _, _, .l h _ => fun a ha => by
    rw [List.mem_singleton] at ha; subst ha; exact ⟨_, h, trivial⟩
  | _, _, _, .dc h _ r => fun a ha => by
    rcases List.mem_cons.mp ha with rfl | ha
    · exact ⟨_, h, trivial⟩
    · exact RMk.owns r a ha
theorem RMk.owns : ∀ {vs : List (Key × V)} {ms : List (Key × M)} {F : List Addr}, RMk K H vs ms F → Owns H F
  | _, _, _, .nil => fun _ h => by cases h
  | _, _, _, .cons a b => fun x hx => (List.mem_append.mp hx).elim (RM.owns a x) (RMk.owns b x)
end
mutual
theorem RM.keep (k : Keep H H' G) (s : Still H H') : ∀ {v : V} {m : M} {F : List Addr}, RM K H v m F → (∀ a ∈ F, a ∉ G) → RM K H' v m F
  | _, _, _, .p r, _ => .p (r.still s)
  | _, _, _, .l h r, d => .l (k _ _ h (d _ (List.mem_singleton.mpr rfl))) (r.still s)
  | _, _, _, .dc h u r, d => .dc (k _ _ h (d _ (List.mem_cons_self ..))) u (RMk.keep k s r fun a ha => d a (List.mem_cons_of_mem _ ha))
theorem RMk.keep (k : Keep H H' G) (s : Still H H') : ∀ {vs : List (Key × V)} {ms : List (Key × M)} {F : List Addr}, RMk K H vs ms F → (∀ a ∈ F, a ∉ G) → RMk K H' vs ms F
  | _, _, _, .nil, _ => .nil
  | _, _, _, .cons a b, d => .cons (RM.keep k s a fun x hx => d x (List.mem_append_left _ hx)) (RMk.keep k s b fun x hx => d x (List.mem_append_right _ hx))
end
theorem RMs.owns : ∀ {vs : List V} {ms : List M} {F : List Addr}, RMs K H vs ms F → Owns H F
  | _, _, _, .nil => fun _ h => by cases h
  | _, _, _, .cons a b => fun x hx => (List.mem_append.mp hx).elim (a.owns x) (RMs.owns b x)
theorem RMs.keep (k : Keep H H' G) (s : Still H H') : ∀ {vs : List V} {ms : List M} {F : List Addr}, RMs K H vs ms F → (∀ a ∈ F, a ∉ G) → RMs K H' vs ms F
  | _, _, _, .nil, _ => .nil
  | _, _, _, .cons a b, d => .cons (RM.keep k s a fun x hx => d x (List.mem_append_left _ hx)) (RMs.keep k s b fun x hx => d x (List.mem_append_right _ hx))
theorem RMs.length : ∀ {vs : List V} {ms : List M} {F : List Addr}, RMs K H vs ms F → vs.length = ms.length
  | _, _, _, .nil => rfl
  | _, _, _, .cons _ b => congrArg (· + 1) b.length
theorem RS.owns : ∀ {σ : L2.St} {δ : De} {F : List Addr}, RS K H σ δ F → Owns H F
  | _, _, _, .nil => fun _ h => by cases h
  | _, _, _, .no b => RS.owns b
  | _, _, _, .so a b => fun x hx => (List.mem_append.mp hx).elim (a.owns x) (RS.owns b x)
theorem RS.keep (k : Keep H H' G) (s : Still H H') : ∀ {σ : L2.St} {δ : De} {F : List Addr}, RS K H σ δ F → (∀ a ∈ F, a ∉ G) → RS K H' σ δ F
  | _, _, _, .nil, _ => .nil
  | _, _, _, .no b, d => .no (RS.keep k s b d)
  | _, _, _, .so a b, d => .so (RM.keep k s a fun x hx => d x (List.mem_append_left _ hx)) (RS.keep k s b fun x hx => d x (List.mem_append_right _ hx))
theorem RS.length : ∀ {σ : L2.St} {δ : De} {F : List Addr}, RS K H σ δ F → σ.length = δ.length
  | _, _, _, .nil => rfl
  | _, _, _, .no b => congrArg (· + 1) b.length
  | _, _, _, .so _ b => congrArg (· + 1) b.length
/-- what stands at a place -/
theorem RS.get : ∀ {σ : L2.St} {δ : De} {F : List Addr} {i : Nat} {m : M}, RS K H σ δ F → (δ[i]?).getD none = some m → ∃ v Fm, σ[i]? = some (some v) ∧ RM K H v m Fm ∧ ∀ a ∈ Fm, a ∈ F
  | _, _, _, _, _, .nil, e => by simp at e
  | _, _, _, 0, _, .no b, e => by simp at e
  | _, _, _, 0, _, .so a b, e => by simp at e; subst e; exact ⟨_, _, rfl, a, fun x hx => List.mem_append_left _ hx⟩
  | _, _, _, i + 1, _, .no b, e => by
    obtain ⟨v, Fm, h1, h2, h3⟩ := RS.get (i := i) b (by simpa using e)
    exact ⟨v, Fm, by simpa using h1, h2, h3⟩
  | _, _, _, i + 1, _, .so a b, e => by
    obtain ⟨v, Fm, h1, h2, h3⟩ := RS.get (i := i) b (by simpa using e)
    exact ⟨v, Fm, by simpa using h1, h2, fun x hx => List.mem_append_right _ (h3 x hx)⟩
/-- a place is rewritten: R is what is left -/
theorem RS.upd : ∀ {σ : L2.St} {δ : De} {F : List Addr} (i : Nat), RS K H σ δ F → i < δ.length →
    ∃ Fm R : List Addr, F.Perm (Fm ++ R) ∧ (∀ m, (δ[i]?).getD none = some m → ∃ v, σ[i]? = some (some v) ∧ RM K H v m Fm) ∧ RS K H σ (δ.set i none) R ∧
      (∀ (H' : Hp) (G : List Addr) (v : V) (m : M) (Fn : List Addr), Keep H H' G → Still H H' → (∀ a ∈ R, a ∉ G) → RM K H' v m Fn → ∃ F', RS K H' (σ.set i (some v)) (δ.set i (some m)) F' ∧ F'.Perm (Fn ++ R))
  | _, _, _, _, .nil, h => by simp at h
  | x :: σ, _, _, 0, .no (F := F) b, _ => ⟨[], F, .refl _, fun m e => by simp at e, .no b, fun H' G v m Fn k s d r => ⟨_, .so r (b.keep k s d), .refl _⟩⟩
  | _, _, _, 0, .so (v := v) (m := m) (F := F) (G := G) a b, _ => ⟨F, G, .refl _, fun m' e => by
      simp at e; subst e; exact ⟨v, rfl, a⟩, .no b, fun H' G v m Fn k s d r => ⟨_, .so r (b.keep k s d), .refl _⟩⟩
  | _, _, _, i + 1, .no b, h => by
    obtain ⟨Fm, R, p, g, z, u⟩ := RS.upd i b (by simpa using h)
    refine ⟨Fm, R, p, fun m e => ?_, .no z, fun H' G v m Fn k s d r => ?_⟩
    · obtain ⟨v, e1, e2⟩ := g m (by simpa using e)
      exact ⟨v, by simpa using e1, e2⟩
    · obtain ⟨F', w, q⟩ := u H' G v m Fn k s d r
      exact ⟨F', .no w, q⟩
  | _, _, _, i + 1, .so (F := A) (G := B) a b, h => by
    obtain ⟨Fm, R, p, g, z, u⟩ := RS.upd i b (by simpa using h)
    refine ⟨Fm, A ++ R, ?_, fun m e => ?_, .so a z, fun H' G v m Fn k s d r => ?_⟩
    · exact (List.Perm.append_left A p).trans (by
        rw [← List.append_assoc, ← List.append_assoc]; exact List.perm_append_comm.append_right _)
    · obtain ⟨v, e1, e2⟩ := g m (by simpa using e)
      exact ⟨v, by simpa using e1, e2⟩
    · obtain ⟨F', w, q⟩ := u H' G v m Fn k s (fun x hx => d x (List.mem_append_right _ hx)) r
      refine ⟨A ++ F', .so (a.keep k s fun x hx => d x (List.mem_append_left _ hx)) w, ?_⟩
      exact (List.Perm.append_left A q).trans (by
        rw [← List.append_assoc, ← List.append_assoc]; exact List.perm_append_comm.append_right _)
end
end Q
set_option Elab.async false
set_option linter.all false
set_option maxRecDepth 100000
/-! LC: from a state to the next one; the readings of codes. -/
namespace Q
open PySem PySem.Spec PyProof.Rows L2

def RV (K : PySem.W.Frag) (H : Hp) (σ : L2.St) : V → Val → List Addr → Prop
  | v, .own m, F => RM K H v m F
  | v, .at i, F => σ[i]? = some (some v) ∧ F = []
inductive RVs (K : PySem.W.Frag) (H : Hp) (σ : L2.St) : List V → List Val → List Addr → Prop
  | nil : RVs K H σ [] [] []
  | cons {v : V} {x : Val} {vs : List V} {xs : List Val} {F G : List Addr} : RV K H σ v x F → RVs K H σ vs xs G → RVs K H σ (v :: vs) (x :: xs) (F ++ G)
def Fresh (H : Hp) (F G : List Addr) : Prop := ∀ a ∈ G, a ∈ F ∨ H a = none
/-- from the heap H, whose names own F, to H', with the values vs -/
structure Rx (K : PySem.W.Frag) (σ : L2.St) (H : Hp) (F : List Addr) (H' : Hp) (δ' : De) (vs : List V) (xs : List Val) (F' Fv : List Addr) : Prop where
  st : RS K H' σ δ' F'
  vl : RVs K H' σ vs xs Fv
  nd : (Fv ++ F').Nodup
  kp : Keep H H' F
  fr : Fresh H F (Fv ++ F')

section
variable {K : PySem.W.Frag} {H H' H1 H2 : Hp} {σ : L2.St} {F G F' F1 F2 Fv Fw : List Addr} {δ δ1 δ2 δ' : De} {vs ws : List V} {xs ys : List Val}
theorem RV.owns {v : V} {x : Val} (h : RV K H σ v x F) : Owns H F := by
  cases x with
  | own m => exact RM.owns h
  | «at» i => obtain ⟨_, rfl⟩ := h; intro a ha; cases ha
theorem RV.keep {v : V} {x : Val} (k : Keep H H' G) (s : Still H H') (h : RV K H σ v x F) (d : ∀ a ∈ F, a ∉ G) : RV K H' σ v x F := by
  cases x with
  | own m => exact RM.keep k s h d
  | «at» i => exact h
theorem RVs.owns : ∀ {vs : List V} {xs : List Val} {F : List Addr}, RVs K H σ vs xs F → Owns H F
  | _, _, _, .nil => fun _ h => by cases h
  | _, _, _, .cons a b => fun x hx => (List.mem_append.mp hx).elim (RV.owns a x) (RVs.owns b x)
theorem RVs.keep (k : Keep H H' G) (s : Still H H') : ∀ {vs : List V} {xs : List Val} {F : List Addr}, RVs K H σ vs xs F → (∀ a ∈ F, a ∉ G) → RVs K H' σ vs xs F
  | _, _, _, .nil, _ => .nil
  | _, _, _, .cons a b, d => .cons (RV.keep k s a fun x hx => d x (List.mem_append_left _ hx)) (RVs.keep k s b fun x hx => d x (List.mem_append_right _ hx))
theorem RVs.append : ∀ {vs ws : List V} {xs ys : List Val} {F G : List Addr}, RVs K H σ vs xs F → RVs K H σ ws ys G → RVs K H σ (vs ++ ws) (xs ++ ys) (F ++ G)
  | _, _, _, _, _, _, .nil, b => b
  | _, _, _, _, _, _, .cons a as, b => by rw [List.append_assoc]; exact .cons a (as.append b)
theorem RVs.one {v : V} {x : Val} (h : RV K H σ v x F) : RVs K H σ [v] [x] F := by
  have := RVs.cons h (.nil (K := K) (H := H) (σ := σ)); rwa [List.append_nil] at this
theorem RVs.one' {v : V} {x : Val} (h : RVs K H σ [v] [x] F) : RV K H σ v x F := by
  cases h with
  | cons a b => cases b; rw [List.append_nil]; exact a
theorem RVs.length : ∀ {vs : List V} {xs : List Val} {F : List Addr}, RVs K H σ vs xs F → vs.length = xs.length
  | _, _, _, .nil => rfl
  | _, _, _, .cons _ b => congrArg (· + 1) b.length

theorem nd_apart {A B : List Addr} (h : (A ++ B).Nodup) {a : Addr} (ha : a ∈ A) : a ∉ B := fun hb => (List.nodup_append.mp h).2.2 a ha a hb rfl
theorem nd_left {A B : List Addr} (h : (A ++ B).Nodup) : A.Nodup := (List.nodup_append.mp h).1
theorem nd_right {A B : List Addr} (h : (A ++ B).Nodup) : B.Nodup := (List.nodup_append.mp h).2.1
theorem nd_mk {A B : List Addr} (h1 : A.Nodup) (h2 : B.Nodup) (h : ∀ a ∈ A, a ∉ B) : (A ++ B).Nodup := List.nodup_append.mpr ⟨h1, h2, fun a ha b hb e => h a ha (e ▸ hb)⟩

theorem Rx.start (h : RS K H σ δ F) (n : F.Nodup) : Rx K σ H F H δ [] [] F [] := ⟨h, .nil, by simpa using n, Keep.refl _ _, fun a ha => .inl (by simpa using ha)⟩
/-- the step -/
theorem Rx.step (a : Rx K σ H F H1 δ1 vs xs F1 Fv) (b : Rx K σ H1 F1 H2 δ2 ws ys F2 Fw) : Rx K σ H F H2 δ2 (vs ++ ws) (xs ++ ys) F2 (Fv ++ Fw) := by
  have o1 := a.st.owns
  have s := b.kp.still o1
  refine ⟨b.st, (a.vl.keep b.kp s fun x hx => nd_apart a.nd hx).append b.vl, ?_, ?_, ?_⟩
  · rw [List.append_assoc]
    refine nd_mk (nd_left a.nd) b.nd fun x hx hy => ?_
    rcases b.fr x hy with z | z
    · exact nd_apart a.nd hx z
    · obtain ⟨o, e, _⟩ := a.vl.owns x hx
      rw [z] at e; cases e
  · intro x o e n
    refine b.kp x o (a.kp x o e n) fun z => ?_
    rcases a.fr x (List.mem_append_right _ z) with y | y
    · exact n y
    · rw [e] at y; cases y
  · intro x hx
    rw [List.append_assoc] at hx
    rcases List.mem_append.mp hx with hx | hx
    · exact a.fr x (List.mem_append_left _ hx)
    · rcases b.fr x hx with z | z
      · exact a.fr x (List.mem_append_right _ z)
      · by_cases hF : x ∈ F
        · exact .inl hF
        · refine .inr ?_
          cases e : H x with
          | none => rfl
          | some o => rw [a.kp x o e hF] at z; cases z
/-- the values forgotten, pure ones in their place -/
theorem Rx.drop (a : Rx K σ H F H1 δ1 vs xs F1 Fv) : Rx K σ H F H1 δ1 [] [] F1 [] :=
  ⟨a.st, .nil, nd_right a.nd, a.kp, fun x hx => a.fr x (List.mem_append_right _ hx)⟩
theorem Rx.pure (a : Rx K σ H F H1 δ1 vs xs F1 Fv) {v : V} {d : PyData} (r : RP K H1 v d) : Rx K σ H F H1 δ1 [v] [.own (.p d)] F1 [] :=
  ⟨a.st, .one (F := []) (.p r), nd_right a.nd, a.kp, fun x hx => a.fr x (List.mem_append_right _ hx)⟩
/-- a new object that is the value's own -/
theorem Rx.new (a : Rx K σ H F H1 δ1 vs xs F1 Fv) {p : Addr} {o : HO} (hp : H1 p = none) {m : M} {Fm : List Addr} (r : RM K (upd H1 p o) (.ref p) m Fm) (n : Fm.Nodup) (hm : ∀ x ∈ Fm, x = p ∨ x ∈ Fv) :
    Rx K σ H F (upd H1 p o) δ1 [.ref p] [.own m] F1 Fm := by
  have k : Keep H1 (upd H1 p o) [] := Keep.new hp []
  have s : Still H1 (upd H1 p o) := k.still fun x hx => by cases hx
  have np : ∀ x, (∃ u, H1 x = some u) → x ≠ p := fun x ⟨u, e⟩ z => by rw [z, hp] at e; cases e
  refine ⟨a.st.keep k s (fun x _ hx => by cases hx), .one r, nd_mk n (nd_right a.nd) fun x hx hy => ?_, fun x u e z => ?_, fun x hx => ?_⟩
  · rcases hm x hx with rfl | hv
    · obtain ⟨u, e, _⟩ := a.st.owns _ hy
      rw [hp] at e; cases e
    · exact nd_apart a.nd hv hy
  · have e1 := a.kp x u e z
    rw [upd_ne (np x ⟨u, e1⟩)]; exact e1
  · rcases List.mem_append.mp hx with hx | hx
    · rcases hm x hx with rfl | hv
      · by_cases hF : x ∈ F
        · exact .inl hF
        · refine .inr ?_
          cases e : H x with
          | none => rfl
          | some u => rw [a.kp x u e hF] at hp; cases hp
      · exact a.fr x (List.mem_append_left _ hv)
    · exact a.fr x (List.mem_append_right _ hx)
theorem Rx.newL (a : Rx K σ H F H1 δ1 vs xs F1 Fv) {p : Addr} (hp : H1 p = none) {zs : List V} {ds : List PyData} (r : RPs K H1 zs ds) : Rx K σ H F (upd H1 p (.lst zs)) δ1 [.ref p] [.own (.l ds)] F1 [p] :=
  a.new hp (.l upd_same (r.still ((Keep.new hp []).still fun x hx => by cases hx))) (by simp) fun x hx => .inl (by simpa using hx)
theorem Rx.newT (a : Rx K σ H F H1 δ1 vs xs F1 Fv) {p : Addr} (hp : H1 p = none) {zs : List V} {ds : List PyData} (r : RPs K H1 zs ds) : Rx K σ H F (upd H1 p (.tup zs)) δ1 [.ref p] [.own (.p (.tuple ds))] F1 [] :=
  a.new hp (.p (.tup (.of upd_same) (r.still ((Keep.new hp []).still fun x hx => by cases hx)))) (by simp) fun x hx => by cases hx
/-- what is looked at -/
theorem RV.peek {v : V} {x : Val} {m : M} (h : RV K H σ v x Fv) (st : RS K H σ δ F) (e : peek δ x = some m) : ∃ Fm, RM K H v m Fm ∧ ∀ a ∈ Fm, a ∈ Fv ++ F := by
  cases x with
  | own m' =>
    cases e
    exact ⟨Fv, h, fun a ha => List.mem_append_left _ ha⟩
  | «at» i =>
    obtain ⟨e1, rfl⟩ := h
    obtain ⟨v', Fm, e2, r, hs⟩ := st.get e
    rw [e1] at e2; cases e2
    exact ⟨Fm, r, fun a ha => List.mem_append_right _ (hs a ha)⟩
end

/-! ### the readings -/
abbrev XF : Exn → De → Prop := fun _ _ => False
section
variable (K : PySem.W.Frag) (Γ : List Spec)
/-- a reading from a code's worth: W is what is to hold behind it -/
def tE (W : De → (Val → De → Prop) → Prop) : TE := fun σ H Q => ∃ δ F Kc, RS K H σ δ F ∧ F.Nodup ∧ W δ Kc ∧
  ∀ x δ' v H' F' Fv, Kc x δ' → Rx K σ H F H' δ' [v] [x] F' Fv → Q v H'
def tV (n : Nat) (W : De → (List Val → De → Prop) → Prop) : TA := fun σ H Q => ∃ δ F Kc, RS K H σ δ F ∧ F.Nodup ∧ W δ Kc ∧
  ∀ xs δ' vs H' F' Fv, Kc xs δ' → vs.length = n → Rx K σ H F H' δ' vs xs F' Fv → Q vs H'
def tT (W : De → (Bool → De → Prop) → Prop) : TT := fun σ H Q => ∃ δ F Kc, RS K H σ δ F ∧ F.Nodup ∧ W δ Kc ∧
  ∀ b δ' H' F', Kc b δ' → Rx K σ H F H' δ' [] [] F' [] → Q b H'
end
/-- a kept value may be locked -/
def tG (t : TE) : TE := fun σ H Q => t σ H fun v H1 => Q v H1 ∨ ∃ a u, v = .ref a ∧ H1 a = some u ∧ Mut (some u) ∧ ∀ od, Q v (upd H1 a (.frz od u))
theorem pe_ghost {X : Cx} {e : Expr} {t : TE} (h : PE X e t) : PE X e (tG t) := by
  refine ⟨fun pins s σ H Q I hw => ?_⟩
  refine thn (h.run pins s σ H _ I hw) fun u s1 ⟨v, H1, I1, r1, q⟩ => ?_
  rcases q with q | ⟨a, w, rfl, e1, mu, q⟩
  · exact ⟨v, H1, I1, r1, q⟩
  · obtain ⟨od, I2⟩ := I1.lock e1 mu
    exact ⟨_, _, I2, r1, q od⟩
theorem PE.wk {X : Cx} {e : Expr} {t t' : TE} (h : PE X e t) (w : ∀ σ H Q, t' σ H Q → t σ H Q) : PE X e t' := ⟨fun pins s σ H Q I hw => h.run pins s σ H Q I (w σ H Q hw)⟩
theorem PT.wk {X : Cx} {e : Expr} {t t' : TT} (h : PT X e t) (w : ∀ σ H Q, t' σ H Q → t σ H Q) : PT X e t' := ⟨fun pins s σ H Q I hw => h.run pins s σ H Q I (w σ H Q hw)⟩
theorem PW.wk {X : Cx} {e : Expr} {t t' : TT} (h : PW X e t) (w : ∀ σ H Q, t' σ H Q → t σ H Q) : PW X e t' := ⟨fun wh pins s σ H Q I hw => h.run wh pins s σ H Q I (w σ H Q hw)⟩
theorem PA.wk {X : Cx} {e : List Expr} {t t' : TA} (h : PA X e t) (w : ∀ σ H Q, t' σ H Q → t σ H Q) : PA X e t' := ⟨fun ps pins s σ H Q I hw => h.run ps pins s σ H Q I (w σ H Q hw)⟩
theorem PS.wk {X : Cx} {e : Stmt} {t t' : TS} (h : PS X e t) (w : ∀ D σ H, t' D σ H → t D σ H) : PS X e t' := ⟨fun pins s σ H D I hw => h.run pins s σ H D I (w D σ H hw)⟩
theorem PSs.wk {X : Cx} {e : List Stmt} {t t' : TS} (h : PSs X e t) (w : ∀ D σ H, t' D σ H → t D σ H) : PSs X e t' := ⟨fun pins s σ H D I hw => h.run pins s σ H D I (w D σ H hw)⟩

/-! ### a value kept -/
section
variable {K : PySem.W.Frag} {H H1 : Hp} {σ : L2.St} {F F1 Fv : List Addr} {δ1 : De}
theorem mutOf {u : HO} (h : MutK u) : Mut (some u) := by cases u <;> first | exact trivial | exact False.elim h
theorem Keep.lock {a : Addr} {u : HO} {od : Obj} (h : H1 a = some u) : Keep H1 (upd H1 a (.frz od u)) [a] := fun b o e n => by
  rw [upd_ne (by simpa using n)]; exact e
theorem Still.lock {a : Addr} {u : HO} {od : Obj} (h : H1 a = some u) (m : MutK u) : Still H1 (upd H1 a (.frz od u)) := (Keep.lock h).still fun b hb => by
  rw [List.mem_singleton] at hb; subst hb; exact ⟨_, h, m⟩
/-- pure entries -/
theorem pureKvs_rel : ∀ {kvs : List (Key × V)} {ms : List (Key × M)} {G : List Addr} {dd : List (PyData × PyData)}, RMk K H kvs ms G → pureKvs ms = some dd → G = [] ∧ RPk K H kvs dd
  | _, _, _, _, .nil, e => by
    simp only [pureKvs, Option.some.injEq] at e; subst e; exact ⟨rfl, .nil⟩
  | _, _, _, _, .cons (k := k) (m := m) a b, e => by
    cases a with
    | p r =>
      simp only [pureKvs, Option.map_eq_some_iff] at e
      obtain ⟨q, e1, rfl⟩ := e
      obtain ⟨rfl, z⟩ := pureKvs_rel b e1
      refine ⟨rfl, ?_⟩
      cases k with
      | inl i => exact .cons (k := .inl i) r z
      | inr x => exact .cons (k := .inr x) r z
    | l _ _ => simp [pureKvs] at e
    | dc _ _ _ => simp [pureKvs] at e
/-- a thing of its own, as pure data: as it stands, or locked -/
theorem data_rel {v : V} {m : M} {Fm : List Addr} {d : PyData} (h : RM K H1 v m Fm) (e : m.data = some d) :
    (Fm = [] ∧ RP K H1 v d) ∨ ∃ a u, v = .ref a ∧ Fm = [a] ∧ H1 a = some u ∧ MutK u ∧ ∀ od, RP K (upd H1 a (.frz od u)) v d := by
  cases h with
  | p r => cases e; exact .inl ⟨rfl, r⟩
  | l ha r =>
    cases e
    exact .inr ⟨_, _, rfl, rfl, ha, trivial, fun od => .lst (.inl ⟨od, upd_same⟩) (r.still (Still.lock ha trivial))⟩
  | dc ha _ r =>
    simp only [M.data, Option.map_eq_some_iff] at e
    obtain ⟨dd, e1, rfl⟩ := e
    obtain ⟨rfl, z⟩ := pureKvs_rel r e1
    exact .inr ⟨_, _, rfl, rfl, ha, trivial, fun od => .dct upd_same (z.still (Still.lock ha trivial))⟩
/-- THE RULE of a kept value -/
theorem frz_ok {v : V} {x : Val} {P : PyData → De → Prop} {Q : V → Hp → Prop} (r : Rx K σ H F H1 δ1 [v] [x] F1 Fv) (hf : frz x δ1 P)
    (hq : ∀ d δ' H' F', P d δ' → RP K H' v d → Rx K σ H F H' δ' [v] [.own (.p d)] F' [] → Q v H') :
    Q v H1 ∨ ∃ a u, v = .ref a ∧ H1 a = some u ∧ Mut (some u) ∧ ∀ od, Q v (upd H1 a (.frz od u)) := by
  have rv := r.vl.one'
  cases x with
  | own m =>
    simp only [frz] at hf
    cases e : m.data with
    | none => rw [e] at hf; exact hf.elim
    | some d =>
      rw [e] at hf
      rcases data_rel (show RM K H1 v m Fv from rv) e with ⟨rfl, rp⟩ | ⟨a, u, rfl, rfl, ha, mu, rp⟩
      · exact .inl (hq d δ1 H1 F1 hf rp (r.pure rp))
      · refine .inr ⟨a, u, rfl, ha, mutOf mu, fun od => hq d δ1 _ F1 hf (rp od) ?_⟩
        have dj : ∀ y ∈ F1, y ∉ [a] := fun y hy z => by
          rw [List.mem_singleton] at z; subst z; exact nd_apart r.nd (List.mem_singleton.mpr rfl) hy
        refine ⟨r.st.keep (Keep.lock ha) (Still.lock ha mu) dj, .one (F := []) (.p (rp od)), nd_right r.nd, fun b o eb nb => ?_, fun b hb => r.fr b (List.mem_append_right _ hb)⟩
        have e1 := r.kp b o eb nb
        rw [upd_ne]
        · exact e1
        · rintro rfl
          rcases r.fr b (List.mem_append_left _ (List.mem_singleton.mpr rfl)) with z | z
          · exact nb z
          · rw [eb] at z; cases z
  | «at» i =>
    simp only [frz] at hf
    cases e0 : (δ1[i]?).getD none with
    | none => rw [e0] at hf; exact hf.elim
    | some m =>
      rw [e0] at hf
      simp only at hf
      cases e : m.data with
      | none => rw [e] at hf; exact hf.elim
      | some d =>
        rw [e] at hf
        simp only at hf
        obtain ⟨ev, rfl⟩ := rv
        have hi : i < δ1.length := by
          by_cases hi : i < δ1.length
          · exact hi
          · rw [List.getElem?_eq_none (by omega)] at e0; cases e0
        obtain ⟨Fm, R, pm, g, z, up⟩ := r.st.upd i hi
        obtain ⟨v', ev', rm⟩ := g m e0
        rw [ev] at ev'; cases ev'
        have sset : ∀ v0, σ[i]? = some (some v0) → σ.set i (some v0) = σ := fun v0 h0 => by
          obtain ⟨hl, h1⟩ := List.getElem?_eq_some_iff.mp h0
          rw [← h1]; exact List.set_getElem_self hl
        have nd1 : (Fm ++ R).Nodup := pm.nodup_iff.mp (by simpa using r.nd)
        have frF : ∀ y ∈ Fm ++ R, y ∈ F ∨ H y = none := fun y hy => r.fr y (by simpa using pm.mem_iff.mpr hy)
        rcases data_rel rm e with ⟨rfl, rp⟩ | ⟨a, u, rfl, rfl, ha, mu, rp⟩
        · obtain ⟨F', w, q⟩ := up H1 [] v (.p d) [] (Keep.refl _ _) (Still.refl _) (fun _ _ h => by cases h) (.p rp)
          rw [sset v ev] at w
          refine .inl (hq d _ H1 F' hf rp ⟨w, .one (F := []) (.p rp), ?_, r.kp, fun b hb => frF b ?_⟩)
          · exact q.nodup_iff.mpr (by simpa using nd1)
          · exact q.mem_iff.mp (by simpa using hb)
        · refine .inr ⟨a, u, rfl, ha, mutOf mu, fun od => ?_⟩
          obtain ⟨F', w, q⟩ := up _ [a] _ (.p d) [] (Keep.lock (od := od) ha) (Still.lock ha mu) (fun y hy h => by
            rw [List.mem_singleton] at h; subst h; exact nd_apart nd1 (List.mem_singleton.mpr rfl) hy) (.p (rp od))
          rw [sset _ ev] at w
          refine hq d _ _ F' hf (rp od) ⟨w, .one (F := []) (.p (rp od)), ?_, fun b o eb nb => ?_, fun b hb => frF b ?_⟩
          · exact q.nodup_iff.mpr (by simpa using nd_right nd1)
          · have e1 := r.kp b o eb nb
            rw [upd_ne]
            · exact e1
            · rintro rfl
              rcases frF b (List.mem_append_left _ (List.mem_singleton.mpr rfl)) with z | z
              · exact nb z
              · rw [eb] at z; cases z
          · exact List.mem_append_right _ (by simpa using q.mem_iff.mp (by simpa using hb))
end
end Q
set_option Elab.async false
set_option linter.all false
set_option maxRecDepth 100000
set_option maxHeartbeats 1000000
/-! LD: operators and built-ins over values that stand for data. -/
namespace Q
open PySem PySem.Spec PyProof.Rows L2

/-- what an operation leaves: a value as it stands, a new list, a new tuple -/
inductive Mk (K : PySem.W.Frag) (H : Hp) : V → M → Hp → Prop
  | pure {v : V} {d : PyData} : RP K H v d → Mk K H v (.p d) H
  | list {p : Addr} {xs : List V} {ds : List PyData} : H p = none → RPs K H xs ds → Mk K H (.ref p) (.l ds) (upd H p (.lst xs))
  | tup {p : Addr} {xs : List V} {ds : List PyData} : H p = none → RPs K H xs ds → Mk K H (.ref p) (.p (.tuple ds)) (upd H p (.tup xs))
theorem Rx.made {K : PySem.W.Frag} {H H1 H2 : Hp} {σ : L2.St} {F F1 Fv : List Addr} {δ1 : De} {vs : List V} {xs : List Val} {v : V} {m : M} (a : Rx K σ H F H1 δ1 vs xs F1 Fv) (h : Mk K H1 v m H2) :
    ∃ Fm, Rx K σ H F H2 δ1 [v] [.own m] F1 Fm := by
  cases h with
  | pure r => exact ⟨_, a.pure r⟩
  | list hp r => exact ⟨_, a.newL hp r⟩
  | tup hp r => exact ⟨_, a.newT hp r⟩
def rOp2 (K : PySem.W.Frag) (f : M → M → (M → Prop) → Prop) : R2 := fun x y H Q => ∃ m n Fm Fn Kr, RM K H x m Fm ∧ RM K H y n Fn ∧ f m n Kr ∧ ∀ r v H', Kr r → Mk K H v r H' → Q v H'
def rOps (K : PySem.W.Frag) (f : List M → (M → Prop) → Prop) : List V → Hp → VK → Prop := fun vs H Q => ∃ ms F Kr, RMs K H vs ms F ∧ f ms Kr ∧ ∀ r v H', Kr r → Mk K H v r H' → Q v H'

section
variable {K : PySem.W.Frag} {H : Hp} {v : V} {F : List Addr}
theorem RM.pI {i : Int} (h : RM K H v (.p (.int i)) F) : v = .int i := by cases h with | p r => cases r; rfl
theorem RM.pS {x : Str} (h : RM K H v (.p (.str x)) F) : v = .str x := by cases h with | p r => cases r; rfl
theorem RM.pB {b : Bool} (h : RM K H v (.p (.bool b)) F) : v = .bl b := by cases h with | p r => cases r; rfl
theorem RM.pN (h : RM K H v (.p .none) F) : v = .non := by cases h with | p r => cases r; rfl
theorem RM.pT {ds : List PyData} (h : RM K H v (.p (.tuple ds)) F) : ∃ a xs, v = .ref a ∧ SqT K H a xs ∧ RPs K H xs ds := by
  cases h with | p r => cases r with | tup h r => exact ⟨_, _, rfl, h, r⟩
theorem RM.lst {m : M} {ds : List PyData} (h : RM K H v m F) (e : m.lst = some ds) : ∃ a xs, v = .ref a ∧ SqL K H a xs ∧ RPs K H xs ds := by
  cases h with
  | p r =>
    cases r with
    | lst h r => cases e; exact ⟨_, _, rfl, h.sq, r⟩
    | _ => cases e
  | l h r => cases e; exact ⟨_, _, rfl, .of h, r⟩
  | dc _ _ _ => cases e
theorem RM.seq {m : M} {ds : List PyData} (h : RM K H v m F) (e : m.seq = some ds) : ∃ a xs, v = .ref a ∧ (SqL K H a xs ∨ SqT K H a xs) ∧ RPs K H xs ds := by
  cases h with
  | p r =>
    cases r with
    | lst h r => cases e; exact ⟨_, _, rfl, .inl h.sq, r⟩
    | tup h r => cases e; exact ⟨_, _, rfl, .inr h, r⟩
    | _ => cases e
  | l h r => cases e; exact ⟨_, _, rfl, .inl (.of h), r⟩
  | dc _ _ _ => cases e
theorem RPs.ints : ∀ {xs : List V} {ds : List PyData} {ns : List Int}, RPs K H xs ds → intL ds = some ns → xs = ns.map V.int
  | _, _, _, .nil, e => by simp only [intL, Option.some.injEq] at e; subst e; rfl
  | _, _, _, .cons a b, e => by
    cases a with
    | int i =>
      simp only [intL, Option.map_eq_some_iff] at e
      obtain ⟨r, e1, rfl⟩ := e
      rw [RPs.ints b e1]; rfl
    | _ => simp [intL] at e
theorem RPs.bools : ∀ {xs : List V} {ds : List PyData} {ns : List Bool}, RPs K H xs ds → boolL ds = some ns → xs = ns.map V.bl
  | _, _, _, .nil, e => by simp only [boolL, Option.some.injEq] at e; subst e; rfl
  | _, _, _, .cons a b, e => by
    cases a with
    | bl i =>
      simp only [boolL, Option.map_eq_some_iff] at e
      obtain ⟨r, e1, rfl⟩ := e
      rw [RPs.bools b e1]; rfl
    | _ => simp [boolL] at e
theorem RPs.texts : ∀ {xs : List V} {ds : List PyData} {ns : List Str}, RPs K H xs ds → strL ds = some ns → xs = ns.map V.str
  | _, _, _, .nil, e => by simp only [strL, Option.some.injEq] at e; subst e; rfl
  | _, _, _, .cons a b, e => by
    cases a with
    | str i =>
      simp only [strL, Option.map_eq_some_iff] at e
      obtain ⟨r, e1, rfl⟩ := e
      rw [RPs.texts b e1]; rfl
    | _ => simp [strL] at e
end

section
variable {X : Cx}
/-- list + list, read only ones too -/
theorem op_catL : OpR X (binaryOp .Add) (fun x y H Q => ∃ l b xs zs, x = .ref l ∧ y = .ref b ∧ SqL X.K H l xs ∧ SqL X.K H b zs ∧ xs.length + zs.length ≤ sizeLine ∧ ∀ p, H p = none → Q (.ref p) (upd H p (.lst (xs ++ zs)))) := by
  intro pins s σ H x y v u Q I rx ry h
  obtain ⟨l, b, xs, zs, rfl, rfl, hH, hB, hz, q⟩ := h
  cases rx
  cases ry
  obtain ⟨its, r, ⟨o, n, e, c, dd, da⟩, _⟩ := I.list hH
  obtain ⟨its2, r2, ⟨o2, n2, e2, c2, dd2, da2⟩, _⟩ := I.list hB
  obtain ⟨cl, dc, dt, sl⟩ := o
  obtain ⟨cl2, dc2, dt2, sl2⟩ := o2
  simp only at c dd da c2 dd2 da2
  subst c dd da c2 dd2 da2
  have ea : its.toArray ++ its2.toArray = (its ++ its2).toArray := by simp
  have hz' : its.toArray.size + its2.toArray.size ≤ sizeLine := by
    rw [List.size_toArray, List.size_toArray, ← r.length, ← r2.length]; exact hz
  refine concat_meets ⟨_, e, rfl⟩ ⟨_, e2, rfl⟩ noFill_list_add seq_list_add PySem.F.slot_list_add PySem.F.entry_list_add (PySem.F.args_list_add_2 _ _) (PyProof.Rows.list_addW l b its.toArray its2.toArray n n2 none none sl sl2 hz') ⟨e, e2, ?_⟩
  rw [ea]
  exact ⟨.ref _, _, I.lnew (t' := s.toks) (r.append r2) (by rw [List.length_append]; omega), rfl, q _ I.fresh⟩
def bopOf : BOp → Operator
  | .add => .Add | .sub => .Sub | .mul => .Mult | .fdiv => .FloorDiv | .mod => .Mod | .pow => .Pow | .shl => .LShift | .shr => .RShift | .band => .BitAnd

theorem OpR.pick {f : Value → Value → Sem Value} {r : R2} (h : ∀ x y H Q, r x y H Q → ∃ r', OpR X f r' ∧ r' x y H Q) : OpR X f r := by
  intro pins s σ H x y v u Q I rx ry q
  obtain ⟨r', h1, h2⟩ := h x y H Q q
  exact h1 pins s σ H x y v u Q I rx ry h2
theorem op_mulS : OpR X (binaryOp .Mult) (fun x y H Q => ∃ a n, x = .str a ∧ y = .int n ∧ MulOk a n ∧ Q (.str (Txt.mul a n)) H) := by
  intro pins s σ H x y v u Q I rx ry h
  obtain ⟨a, n, rfl, rfl, ok, q⟩ := h
  obtain ⟨t, rfl⟩ := rx
  obtain ⟨t', rfl⟩ := ry
  exact SB.mul ok fun t2 k => ⟨.str (Txt.mul a n), H, I.kept (t' := k) fun _ _ z => z, ⟨_, rfl⟩, q⟩
theorem op_bin (op : BOp) : OpR X (binaryOp (bopOf op)) (rOp2 X.K (binM op)) := by
  refine OpR.pick fun x y H Q ⟨m, n, Fm, Fn, Kr, rm, rn, hw, hq⟩ => ?_
  have ii : ∀ {i j : Int}, m = .p (.int i) → n = .p (.int j) → x = .int i ∧ y = .int j := fun e1 e2 => by subst e1 e2; exact ⟨rm.pI, rn.pI⟩
  have fin : ∀ {k : Int}, Kr (.p (.int k)) → Q (.int k) H := fun h => hq _ _ _ h (.pure (.int _))
  unfold binM at hw
  split at hw
  · obtain ⟨rfl, rfl⟩ := ii rfl rfl
    exact ⟨_, op_add, _, _, rfl, rfl, fin hw⟩
  · have e1 := rm.pS; have e2 := rn.pS; subst e1 e2
    exact ⟨_, op_add_str, _, _, rfl, rfl, hw.1, hq _ _ _ hw.2 (.pure (.str _))⟩
  · obtain ⟨a, xs, rfl, ha, ra⟩ := rm.pT
    obtain ⟨b, ys, rfl, hb, rb⟩ := rn.pT
    refine ⟨_, op_catA, a, b, xs, ys, rfl, rfl, ha, hb, by rw [ra.length, rb.length]; exact hw.1, fun e => ?_, fun _ e => ?_, fun _ _ p hp => ?_⟩
    · subst e; cases ra
      exact hq _ _ _ hw.2 (.pure (.tup hb rb))
    · subst e; cases rb
      rw [List.append_nil] at hw
      exact hq _ _ _ hw.2 (.pure (.tup ha ra))
    · exact hq _ _ _ hw.2 (.tup hp (ra.append rb))
  · obtain ⟨a, b, e1, e2, hz, hk⟩ := hw
    obtain ⟨l, xs, rfl, hl, ra⟩ := rm.lst e1
    obtain ⟨l2, ys, rfl, hl2, rb⟩ := rn.lst e2
    exact ⟨_, op_catL, l, l2, xs, ys, rfl, rfl, hl, hl2, by rw [ra.length, rb.length]; exact hz, fun p hp => hq _ _ _ hk (.list hp (ra.append rb))⟩
  · obtain ⟨rfl, rfl⟩ := ii rfl rfl
    exact ⟨_, op_sub, _, _, rfl, rfl, fin hw⟩
  · obtain ⟨rfl, rfl⟩ := ii rfl rfl
    obtain ⟨h1 | h1 | h1, hk⟩ := hw
    · exact ⟨_, op_mul, _, _, rfl, rfl, .inl h1, fin hk⟩
    · exact ⟨_, op_mul, _, _, rfl, rfl, .inr h1, fin hk⟩
    · exact ⟨_, op_mulW, _, _, rfl, rfl, h1, fin hk⟩
  · have e2 := rn.pI; subst e2
    obtain ⟨a, xs, rfl, ha, ra⟩ := rm.pT
    obtain ⟨h1, h2, h3, h4, hk⟩ := hw
    refine ⟨_, op_repT, a, _, xs, rfl, rfl, ha, fun e => ?_, h2, h3, by rw [ra.length]; exact h4, fun p hp => hq _ _ _ hk (.tup hp (ra.rep _))⟩
    subst e; cases ra; exact h1 rfl
  · have e1 := rm.pS; have e2 := rn.pI; subst e1 e2
    exact ⟨_, op_mulS, _, _, rfl, rfl, hw.1, hq _ _ _ hw.2 (.pure (.str _))⟩
  · have e2 := rn.pI; subst e2
    obtain ⟨h1, h2, h3, hk⟩ := hw
    cases rm with
    | l ha ra => exact ⟨_, op_rep, _, _, _, rfl, rfl, ha, h1, h2, by rw [ra.length]; exact h3, fun p hp => hq _ _ _ hk (.list hp (ra.rep _))⟩
  · obtain ⟨rfl, rfl⟩ := ii rfl rfl
    exact ⟨_, op_fdivW, _, _, rfl, rfl, hw.1, fin hw.2⟩
  · obtain ⟨rfl, rfl⟩ := ii rfl rfl
    exact ⟨_, op_mod, _, _, rfl, rfl, hw.1, fin hw.2⟩
  · obtain ⟨rfl, rfl⟩ := ii rfl rfl
    exact ⟨_, op_pow, _, _, rfl, rfl, hw.1, fin hw.2⟩
  · obtain ⟨rfl, rfl⟩ := ii rfl rfl
    exact ⟨_, op_shl, _, _, rfl, rfl, hw.1, fin hw.2⟩
  · obtain ⟨rfl, rfl⟩ := ii rfl rfl
    exact ⟨_, op_shr, _, _, rfl, rfl, hw.1, fin hw.2⟩
  · obtain ⟨rfl, rfl⟩ := ii rfl rfl
    exact ⟨_, op_and, _, _, rfl, rfl, fin hw⟩
  · exact hw.elim
end
end Q
set_option Elab.async false
set_option linter.all false
set_option maxRecDepth 100000
set_option maxHeartbeats 1000000
/-! LE: comparisons, truth, items, slices, built-ins over values that stand for data. -/
namespace Q
open PySem PySem.Spec PyProof.Rows L2

/-! ### data as the hand layer reads it -/
section
variable {K : PySem.W.Frag} {H : Hp}
mutual
theorem RP.dp : ∀ {v : V} {d : PyData}, RP K H v d → d.canLay0 = true → Dp K H v d
  | _, _, .non, _ => .non
  | _, _, .bl b, _ => .bl b
  | _, _, .int i, _ => .int i
  | _, _, .str x, _ => .str x
  | _, _, .lst h r, e => .lst h.sq (RPs.dp r (by simpa [PyData.canLay0] using e))
  | _, _, .tup h r, e => .tup h (RPs.dp r (by simpa [PyData.canLay0] using e))
  | _, _, .dct h r, e => by simp [PyData.canLay0] at e
theorem RPs.dp : ∀ {vs : List V} {ds : List PyData}, RPs K H vs ds → PyData.canLayAll0 ds = true → DpAll K H vs ds
  | _, _, .nil, _ => .nil
  | _, _, .cons a b, e => by
    simp only [PyData.canLayAll0, Bool.and_eq_true] at e
    exact .cons (RP.dp a e.1) (RPs.dp b e.2)
end
theorem RM.dp {v : V} {m : M} {F : List Addr} {d : PyData} (h : RM K H v m F) (e : m.data = some d) (s : SeqAt.shaped d = true) : Dp K H v d := by
  have c := SeqAt.canLay_of_shaped s
  cases h with
  | p r => cases e; exact r.dp c
  | l ha r => cases e; exact .lst (.of ha) (r.dp (by simpa [PyData.canLay0] using c))
  | dc ha _ r =>
    simp only [M.data, Option.map_eq_some_iff] at e
    obtain ⟨dd, _, rfl⟩ := e
    simp [PyData.canLay0] at c
theorem RP.kV {v : V} {d : PyData} {k : Key} (h : RP K H v d) (e : keyOf d = some k) : v = kV k := by
  cases h with
  | int i => cases e; rfl
  | str x => cases e; rfl
  | _ => cases e
theorem RMk.get : ∀ {kvs : List (Key × V)} {ms : List (Key × M)} {F : List Addr} {k : Key}, RMk K H kvs ms F →
    (∀ m, kget ms k = some m → ∃ v Fm, valV kvs k = some v ∧ RM K H v m Fm ∧ ∀ a ∈ Fm, a ∈ F) ∧ (kget ms k = none → valV kvs k = none)
  | _, _, _, k, .nil => ⟨fun m e => (by cases e), fun _ => rfl⟩
  | _, _, _, k, .cons (k := k') a b => by
    by_cases hk : k' = k
    · subst hk
      refine ⟨fun m e => ?_, fun e => ?_⟩
      · simp only [kget, if_pos] at e; cases e
        exact ⟨_, _, valV_pos rfl, a, fun x hx => List.mem_append_left _ hx⟩
      · simp [kget] at e
    · obtain ⟨i1, i2⟩ := RMk.get (k := k) b
      refine ⟨fun m e => ?_, fun e => ?_⟩
      · simp only [kget, if_neg hk] at e
        obtain ⟨v, Fm, e1, e2, e3⟩ := i1 m e
        exact ⟨v, Fm, by rw [valV_neg hk]; exact e1, e2, fun x hx => List.mem_append_right _ (e3 x hx)⟩
      · simp only [kget, if_neg hk] at e
        rw [valV_neg hk]; exact i2 e
theorem RMk.isSome {kvs : List (Key × V)} {ms : List (Key × M)} {F : List Addr} (r : RMk K H kvs ms F) (k : Key) : (kget ms k).isSome = (valV kvs k).isSome := by
  obtain ⟨i1, i2⟩ := r.get (k := k)
  cases e : kget ms k with
  | none => rw [i2 e]; rfl
  | some m => obtain ⟨v, _, e1, _⟩ := i1 m e; rw [e1]; rfl
theorem RMk.length : ∀ {kvs : List (Key × V)} {ms : List (Key × M)} {F : List Addr}, RMk K H kvs ms F → kvs.length = ms.length
  | _, _, _, .nil => rfl
  | _, _, _, .cons _ b => congrArg (· + 1) b.length
theorem RPs.all_flat : ∀ {vs : List V} {ds : List PyData}, RPs K H vs ds → ds.all flatD = true → vs.all flatV = true
  | _, _, .nil, _ => rfl
  | _, _, .cons a b, e => by
    rw [List.all_cons, Bool.and_eq_true] at e
    rw [List.all_cons, Bool.and_eq_true]
    refine ⟨?_, b.all_flat e.2⟩
    cases a <;> first | rfl | exact absurd e.1 (by simp [flatD])
theorem RP.flat {v : V} {d : PyData} (h : RP K H v d) (e : flatD d = true) : flatV v = true := by
  cases h <;> first | rfl | exact absurd e (by simp [flatD])
theorem RP.eqV {v w : V} {d e : PyData} (h : RP K H v d) (h' : RP K H w e) (fd : flatD d = true) (fe : flatD e = true) : L2.eqV v w = PyData.eqv d e := by
  cases h <;> cases h' <;> first | rfl | exact absurd fd (by simp [flatD]) | exact absurd fe (by simp [flatD]) | simp [L2.eqV, PyData.eqv]
theorem RPs.any_eqv {x : V} {d : PyData} (h : RP K H x d) (fd : flatD d = true) : ∀ {vs : List V} {ds : List PyData}, RPs K H vs ds → ds.all flatD = true → inV x vs = ds.any fun z => PyData.eqv z d
  | _, _, .nil, _ => rfl
  | _, _, .cons a b, e => by
    rw [List.all_cons, Bool.and_eq_true] at e
    have ih := RPs.any_eqv h fd b e.2
    unfold inV at ih ⊢
    rw [List.any_cons, List.any_cons, ih, RP.eqV a h e.1 fd]
end

/-! ### comparisons -/
def rOpB (K : PySem.W.Frag) (f : M → M → (Bool → Prop) → Prop) : R2 := fun x y H Q => ∃ m n Fm Fn Kr, RM K H x m Fm ∧ RM K H y n Fn ∧ f m n Kr ∧ ∀ b, Kr b → Q (.bl b) H
def copOf : COp → CmpOp
  | .eq => .Eq | .ne => .NotEq | .lt => .Lt | .le => .LtE | .gt => .Gt | .ge => .GtE | .isin => .In | .notin => .NotIn | .is => .Is | .isnot => .IsNot
section
variable {X : Cx}
theorem op_inDk (hu : X.A.units + 1 < cLine) : OpR X (compareOp .In) (fun x y H Q => ∃ a o, y = .ref a ∧ DGet H a x o ∧ Q (.bl o.isSome) H) := by
  intro pins s σ H x y v u Q I rx ry h
  obtain ⟨a, o, rfl, g, q⟩ := h
  cases ry
  exact d_in hu I g rx fun s' I' => ⟨.bl _, H, I', rfl, q⟩
theorem op_notInDk (hu : X.A.units + 1 < cLine) : OpR X (compareOp .NotIn) (fun x y H Q => ∃ a o, y = .ref a ∧ DGet H a x o ∧ Q (.bl (!o.isSome)) H) := by
  intro pins s σ H x y v u Q I rx ry h
  obtain ⟨a, o, rfl, g, q⟩ := h
  cases ry
  exact d_notIn hu I g rx fun s' I' => ⟨.bl _, H, I', rfl, q⟩
theorem eq_pick (hu : X.A.units + 64 < cLine) {x y : V} {H : Hp} {m n : M} {Fm Fn : List Addr} {Kr : Bool → Prop} (rm : RM X.K H x m Fm) (rn : RM X.K H y n Fn) (hw : eqM m n Kr) {Q : VK} (neg : Bool)
    (hq : ∀ b, Kr b → Q (.bl (if neg then !b else b)) H) : ∃ r', OpR X (compareOp (if neg then .NotEq else .Eq)) r' ∧ r' x y H Q := by
  unfold eqM at hw
  split at hw
  · have e1 := rm.pI; have e2 := rn.pI; subst e1 e2
    cases neg
    · exact ⟨_, op_eq, rfl, by have := hq _ hw; rw [dec_int, ← Bool.beq_eq_decide_eq] at *; simpa using this⟩
    · exact ⟨_, op_ne, rfl, by have := hq _ hw; rw [dec_int, ← Bool.beq_eq_decide_eq] at *; simpa using this⟩
  · have e1 := rm.pS; have e2 := rn.pS; subst e1 e2
    cases neg
    · exact ⟨_, op_eq, rfl, by simpa using hq _ hw⟩
    · exact ⟨_, op_ne, rfl, by simpa using hq _ hw⟩
  · have e1 := rm.pB; have e2 := rn.pB; subst e1 e2
    cases neg
    · exact ⟨_, op_eq, rfl, by simpa using hq _ hw⟩
    · exact ⟨_, op_ne, rfl, by simpa using hq _ hw⟩
  · obtain ⟨d, e, e1, e2, s1, s2, hk⟩ := hw
    cases neg
    · exact ⟨_, op_eqD hu, d, e, rm.dp e1 s1, rn.dp e2 s2, s1, s2, hq _ hk⟩
    · exact ⟨_, op_neD hu, d, e, rm.dp e1 s1, rn.dp e2 s2, s1, s2, hq _ hk⟩
theorem is_pick {x y : V} {H : Hp} {m n : M} {Fm Fn : List Addr} {Kr : Bool → Prop} (rm : RM X.K H x m Fm) (rn : RM X.K H y n Fn) (hw : isM m n Kr) {Q : VK} (neg : Bool)
    (hq : ∀ b, Kr b → Q (.bl (if neg then !b else b)) H) : ∃ r', OpR X (compareOp (if neg then .IsNot else .Is)) r' ∧ r' x y H Q := by
  have non : ∀ (b : Bool), y = .non → decide (x = .non) = b → Kr b → ∃ r', OpR X (compareOp (if neg then .IsNot else .Is)) r' ∧ r' x y H Q := fun b e1 e2 hk => by
    subst e1
    cases neg
    · exact ⟨_, op_isN, rfl, by rw [e2]; exact hq b hk⟩
    · exact ⟨_, op_notN, rfl, by rw [e2]; exact hq b hk⟩
  unfold isM at hw
  split at hw
  · exact non true rn.pN (by rw [rm.pN]; rfl) hw
  · rename_i d hd
    refine non false rn.pN (decide_eq_false fun e => hd ?_) hw
    subst e
    cases rm with | p r => cases r; rfl
  · have e1 := rm.pB; have e2 := rn.pB; subst e1 e2
    cases neg
    · exact ⟨_, op_isBl, _, _, rfl, rfl, by have := hq _ hw; rw [Bool.beq_eq_decide_eq] at this; exact this⟩
    · exact ⟨_, op_notBl, _, _, rfl, rfl, by have := hq _ hw; rw [Bool.beq_eq_decide_eq] at this; exact this⟩
  · refine non false rn.pN ?_ hw
    cases rm; rfl
  · refine non false rn.pN ?_ hw
    cases rm; rfl
  · exact hw.elim
theorem in_pick (hu : X.A.units + 65 < cLine) {x y : V} {H : Hp} {m n : M} {Fm Fn : List Addr} {Kr : Bool → Prop} (rm : RM X.K H x m Fm) (rn : RM X.K H y n Fn) (hw : inM m n Kr) {Q : VK} (neg : Bool)
    (hq : ∀ b, Kr b → Q (.bl (if neg then !b else b)) H) : ∃ r', OpR X (compareOp (if neg then .NotIn else .In)) r' ∧ r' x y H Q := by
  unfold inM at hw
  split at hw
  · have e1 := rm.pS; have e2 := rn.pS; subst e1 e2
    cases neg
    · exact ⟨_, op_in_str, _, _, rfl, rfl, hq _ hw⟩
    · exact ⟨_, L2.op_notin_str, _, _, rfl, rfl, hq _ hw⟩
  · obtain ⟨k, e, hk⟩ := hw
    cases rm with
    | p rp =>
      have ex := rp.kV e
      subst ex
      cases rn with
      | dc ha _ rk =>
        have e2 := rk.isSome k
        rw [e2] at hk
        cases neg
        · exact ⟨_, op_inDk (by omega), _, _, rfl, .k ha, hq _ hk⟩
        · exact ⟨_, op_notInDk (by omega), _, _, rfl, .k ha, hq _ hk⟩
  · obtain ⟨d, ds, e1, e2, hc, hk⟩ := hw
    obtain ⟨a, xs, rfl, hs, rs⟩ := rn.seq e2
    rcases hc with ⟨f1, f2⟩ | ⟨e3, s1, s2⟩
    · have rx : RP X.K H x d := by
        cases rm with
        | p r => cases e1; exact r
        | l _ _ => cases e1; simp [flatD] at f1
        | dc _ _ _ =>
          simp only [M.data, Option.map_eq_some_iff] at e1
          obtain ⟨dd, _, rfl⟩ := e1
          simp [flatD] at f1
      have z := RPs.any_eqv rx f1 rs f2
      cases neg
      · exact ⟨_, op_in_seq, a, xs, rfl, hs, rx.flat f1, rs.all_flat f2, by simp only [Bool.false_eq_true, if_false]; rw [z]; exact hq _ hk⟩
      · exact ⟨_, op_notIn_seq, a, xs, rfl, hs, rx.flat f1, rs.all_flat f2, by simp only [if_true]; rw [z]; exact hq _ hk⟩
    · have y2 : Dp X.K H (.ref a) (.list ds) := by
        obtain ⟨a', xs', e4, hs', rs'⟩ := rn.lst e3
        cases e4
        exact .lst hs' (rs'.dp (by have := SeqAt.canLay_of_shaped s2; simpa [PyData.canLay0] using this))
      cases neg
      · exact ⟨_, op_inD hu, d, ds, rm.dp e1 s1, y2, s1, s2, hq _ hk⟩
      · exact ⟨_, op_notInD hu, d, ds, rm.dp e1 s1, y2, s1, s2, hq _ hk⟩
theorem op_cmp (hu : X.A.units + 65 < cLine) (op : COp) : OpR X (compareOp (copOf op)) (rOpB X.K (cmpM op)) := by
  refine OpR.pick fun x y H Q ⟨m, n, Fm, Fn, Kr, rm, rn, hw, hq⟩ => ?_
  unfold cmpM at hw
  split at hw
  · exact eq_pick (by omega) rm rn hw false fun b hb => hq b hb
  · exact eq_pick (by omega) rm rn hw true fun b hb => hq _ hb
  · have e1 := rm.pI; have e2 := rn.pI; subst e1 e2; exact ⟨_, op_lt, _, _, rfl, rfl, hq _ hw⟩
  · have e1 := rm.pI; have e2 := rn.pI; subst e1 e2; exact ⟨_, op_le, _, _, rfl, rfl, hq _ hw⟩
  · have e1 := rm.pI; have e2 := rn.pI; subst e1 e2; exact ⟨_, op_gt, _, _, rfl, rfl, hq _ hw⟩
  · have e1 := rm.pI; have e2 := rn.pI; subst e1 e2; exact ⟨_, op_ge, _, _, rfl, rfl, hq _ hw⟩
  · have e1 := rm.pS; have e2 := rn.pS; subst e1 e2; exact ⟨_, op_lt_str, _, _, rfl, rfl, hq _ hw⟩
  · exact is_pick rm rn hw false fun b hb => hq b hb
  · exact is_pick rm rn hw true fun b hb => hq _ hb
  · exact in_pick hu rm rn hw false fun b hb => hq b hb
  · exact in_pick hu rm rn hw true fun b hb => hq _ hb
  · exact hw.elim
/-- truth -/
theorem tru_M {K : PySem.W.Frag} {H : Hp} {x : V} {m : M} {F : List Addr} {Kr : Bool → Prop} (rm : RM K H x m F) (hw : truM m Kr) : ∃ k, TruV K x H k ∧ Kr k := by
  unfold truM at hw
  split at hw
  · have e := rm.pB; subst e; exact ⟨_, rfl, hw⟩
  · have e := rm.pI; subst e; exact ⟨_, rfl, hw⟩
  · have e := rm.pN; subst e; exact ⟨_, rfl, hw⟩
  · cases rm with
    | l ha r =>
      refine ⟨_, .inl ⟨_, .of ha, rfl⟩, ?_⟩
      cases r <;> exact hw
  · exact hw.elim
end
end Q
set_option Elab.async false
set_option linter.all false
set_option maxRecDepth 100000
set_option maxHeartbeats 4000000
/-! LE2: int of a long text; a text times a number. -/
namespace Q
open PySem PySem.Calls PySem.NumText PyProof.Rows L2

theorem wp_digits {M : Model} {A : Around} {E : Value → Shared → Prop} {s : Shared} {Q : Nat → Shared → Prop} (hn : s.heap.NoDigits) (h : Q 4300 s) : wpAny M A Builtin.intMaxStrDigits Q E s := by
  obtain ⟨mc, hns, hnone⟩ := hn
  unfold Builtin.intMaxStrDigits
  refine wpAny_bind (wpAny_nsGet hns ?_)
  rw [hnone]
  exact wpAny_pure h
theorem wp_textL {M : Model} {A : Around} {E : Value → Shared → Prop} {s : Shared} {Q : Value → Shared → Prop} {v : Value} {text : List Nat} {n : Int} (hd : s.heap.NoDigits)
    (hs : ¬ (text.takeWhile (· != 0)).length ≤ 640) (hr : (int_private% "readNumeral") 4300 10 (text.takeWhile (· != 0)) = (int_private% "Numeral.value") n)
    (ha : ((text.takeWhile (· != 0)).length == text.length) = true) (h : Q (.int n s.toks) { s with toks := s.toks + 1 }) :
    wpAny M A ((int_private% "intFromText") v text 10) Q E s := by
  obtain ⟨hp, g, d, tk, os⟩ := s
  have hd' : (⟨hp, g, d, tk, os⟩ : Shared).heap.NoDigits := hd
  repeat (any_goals (first
    | assumption
    | (with_reducible refine wpAny_ite_false (decide_eq_false hs) ?_)
    | (with_reducible refine wpAny_ite_true (decide_eq_true ha) ?_)
    | (with_reducible refine wp_digits hd' ?_)
    | wp_step))
  all_goals (try rw [hr])
  all_goals (try dsimp only)
  repeat (any_goals (first
    | assumption
    | (with_reducible refine wpAny_ite_true (decide_eq_true ha) ?_)
    | wp_step))
theorem meets_textL {x : PySem.Str} {u : Tok} {n : Int} (hl : x.length ≤ sizeLine) (hs : ¬ (numSeenOf x).length ≤ 640) (hn : PySem.intText? x = some n) :
    Meets (Builtin.«int.__new__» ⟨[.type "int", .str x u], []⟩) (fun A R s => s.heap.NoDigits ∧ R (.ok (.ret (.int n s.toks))) { s with toks := s.toks + 1 }) := by
  intro prog w A R s ⟨hd, h⟩
  obtain ⟨hp, g, d, tk, os⟩ := s
  have hd' : (⟨hp, g, d, tk, os⟩ : Shared).heap.NoDigits := hd
  have f1 := F.conv_sub_int
  have f2 := F.madeHere_int
  have f3 := PySem.W.KIN.str_int
  have f4 := PySem.W.KIN.str_idx
  have f5 := PySem.W.KIN.str_trunc
  have f6 : typeOf (.str x u) = pure (.type "str") := rfl
  have hr : (int_private% "readNumeral") 4300 10 (numSeenOf x) = (int_private% "Numeral.value") n ∧ ((numSeenOf x).length == (numTextOf x).length) = true := by
    rcases read4300 x hl with ⟨m, h1, h2, h3⟩ | ⟨h1, _⟩
    · rw [hn] at h1
      injection h1 with h1
      subst h1
      exact ⟨h3, h2⟩
    · rw [hn] at h1
      cases h1
  have hk := PySem.W.KIN.Hid.mk (And.intro hs hr)
  clear hs hr hl hn
  repeat (any_goals (first
    | assumption
    | ((with_reducible show wpAny _ _ ((int_private% "intFromText") _ _ _) _ _ _); refine wp_textL hd' hk.out.1 hk.out.2.1 hk.out.2.2 ?_)
    | wp_step))
section
variable {X : Cx}
theorem call_int_any (hb : X.base.NoDigits) : CallR X (.type "int") (fun xs H Q => ∃ a n, xs = [.str a] ∧ PySem.intText? a = some n ∧ (a.length ≤ 640 ∨ (a.length ≤ sizeLine ∧ ¬ (numSeenOf a).length ≤ 640)) ∧ Q (.int n) H) := by
  intro pins s σ H xs us Q I rs h
  obtain ⟨a, n, rfl, hn, hl, h⟩ := h
  cases rs with
  | cons r1 rs =>
    cases rs
    obtain ⟨t, rfl⟩ := r1
    rcases hl with h6 | ⟨hl, h7⟩
    · exact PySem.W.KIN.call_text hn h6 ⟨.int n, H, I.tok _, ⟨_, rfl⟩, h⟩
    · refine call_int_1 (meets_textL hl h7 hn) ⟨hb.keeps fun b o e => (I.bs b o e).1, ?_⟩
      exact ⟨typeIs_int _ _ _, .int n, H, I.tok _, ⟨_, rfl⟩, h⟩
end
end Q
set_option Elab.async false
set_option linter.all false
set_option maxRecDepth 100000
set_option maxHeartbeats 1000000
/-! LSO: data in the heap as the library reads it; sorted, max and min with a default. -/
namespace Q
open PySem PySem.Spec PyProof.Rows L2
section
variable {X : Cx} {pins : List (Addr × Obj)} {σ : L2.St} {H : Hp} {s : Shared}
mutual
theorem RP.reads (I : Inv X pins σ H s) : ∀ (d : PyData) (v : V) (u : Value), RP X.K H v d → d.hasDict = false → RelV v u → ∃ as, Reads s.heap u d as
  | .none, _, _, h, _, r => by cases h; cases r; exact ⟨_, .none⟩
  | .bool b, _, _, h, _, r => by cases h; cases r; exact ⟨_, .bool b⟩
  | .int i, _, _, h, _, r => by cases h; obtain ⟨t, rfl⟩ := r; exact ⟨_, .int i t⟩
  | .str x, _, _, h, _, r => by cases h; obtain ⟨t, rfl⟩ := r; exact ⟨_, .str x t⟩
  | .list ds, _, _, h, e, r => by
    cases h with
    | lst hs ha =>
      cases r
      obtain ⟨its, rv, ⟨o, n, ho, hc, _, hd⟩, _⟩ := I.list hs.sq
      obtain ⟨as, hr⟩ := RPs.reads I ds _ its ha (by simpa [PyData.hasDict] using e) rv
      exact ⟨_, Reads.list ho hc hd hr⟩
  | .tuple ds, _, _, h, e, r => by
    cases h with
    | tup hs ha =>
      cases r
      obtain ⟨its, rv, ⟨o, ho, hc, n, hd⟩, _⟩ := I.tuple hs
      obtain ⟨as, hr⟩ := RPs.reads I ds _ its ha (by simpa [PyData.hasDict] using e) rv
      exact ⟨_, Reads.tuple ho hc hd hr⟩
  | .dict _, _, _, _, e, _ => by simp [PyData.hasDict] at e
theorem RPs.reads (I : Inv X pins σ H s) : ∀ (ds : List PyData) (vs : List V) (us : List Value), RPs X.K H vs ds → PyData.hasDictAll ds = false → Vals vs us → ∃ as, ReadsAll s.heap us ds as
  | [], _, _, h, _, r => by cases h; cases r; exact ⟨_, .nil⟩
  | d :: ds, _, _, h, e, r => by
    cases h with
    | cons h1 h2 =>
      cases r with
      | cons r1 r2 =>
        simp only [PyData.hasDictAll, Bool.or_eq_false_iff] at e
        obtain ⟨as, q1⟩ := RP.reads I d _ _ h1 e.1 r1
        obtain ⟨bs, q2⟩ := RPs.reads I ds _ _ h2 e.2 r2
        exact ⟨_, .cons q1 q2⟩
end
theorem RPs.each {K : PySem.W.Frag} : ∀ {vs : List V} {us : List Value} {ds : List PyData}, RPs K H vs ds → Vals vs us → PySem.W.EachIs (fun u d => ∃ v, RelV v u ∧ RP K H v d) us ds
  | _, _, _, .nil, r => by cases r; exact .nil
  | _, _, _, .cons a b, r => by
    cases r with
    | cons r1 r2 => exact .cons ⟨_, r1, a⟩ (RPs.each b r2)
theorem RPs.ofEach {K : PySem.W.Frag} : ∀ {us : List Value} {ds : List PyData}, PySem.W.EachIs (fun u d => ∃ v, RelV v u ∧ RP K H v d) us ds → ∃ vs, Vals vs us ∧ RPs K H vs ds
  | _, _, .nil => ⟨[], .nil, .nil⟩
  | _, _, .cons ⟨v, h1, h2⟩ t => by
    obtain ⟨vs, r, p⟩ := RPs.ofEach t
    exact ⟨v :: vs, .cons h1 r, .cons h2 p⟩
/-- sum(t) of a tuple of ints -/
theorem cr_sumT (hc : X.calm = true) : CallR X (.builtin "sum") (fun vs H Q => ∃ (a : Addr) (ns : List Int), vs = [V.ref a] ∧ SqT X.K H a (ns.map V.int) ∧ Q (.int ns.sum) H) := by
  intro pins s σ H vs us Q I r h
  obtain ⟨a, ns, rfl, hs, q⟩ := h
  obtain ⟨its, rv, hl, _⟩ := I.tuple hs
  rw [Vals.ref1 r]
  have hi := rv.ints
  obtain ⟨xs, e⟩ := hi.allInts.items
  have hn : numsOf (intItems xs).toList = ns := by rw [← e]; exact hi.numsOf
  rw [nums_intItems] at hn
  rw [e] at hl
  refine PySem.W.ktm_sumG (I.ok.hd hc) hl fun h' tk t' hk => ?_
  rw [preSum_eq, List.take_of_length_le (by simp), hn]
  exact ⟨.int _, H, I.kept hk, ⟨_, rfl⟩, q⟩
/-- sorted(xs) of data -/
theorem cr_sortedD (hu : X.A.units + 110 < cLine) : CallR X (.builtin "sorted") (fun vs H Q => ∃ a xs ds, vs = [.ref a] ∧ SqL X.K H a xs ∧ RPs X.K H xs ds ∧ PySem.W.AllAlike ds ∧ PySem.W.Sortable ds ∧ PyData.hasDictAll ds = false ∧ (∀ d ∈ ds, d.depth ≤ 90) ∧
    ∀ ys p, RPs X.K H ys (ds.mergeSort (PySem.W.dataLe false id)) → H p = none → Q (.ref p) (upd H p (.lst ys))) := by
  intro pins s σ H vs us Q I r h
  obtain ⟨a, xs, ds, rfl, hs, rp, hal, hk, hd, hdp, q⟩ := h
  obtain ⟨its, rv, hl, hz⟩ := I.list hs
  rw [Vals.ref1 r]
  obtain ⟨as, rr⟩ := RPs.reads I ds _ its rp hd rv
  have e : (ds.map id) = ds := List.map_id ds
  have lz : its.length = ds.length := by rw [← rv.length, rp.length]
  refine PySem.W.sorted_data (enc := id) (bs := ds) hl.isList (rp.each rv) (PySem.W.readsAll_each id (by rw [e]; exact rr)) (by rw [e]; exact hal) (by rw [e]; exact hk) (by rw [← lz, ← rv.length]; exact hz) (fun b hb => by have := hdp b hb; show X.A.units + 2 + b.depth < cLine; omega) fun out hlen he => ?_
  obtain ⟨ys, r2, p2⟩ := RPs.ofEach he
  obtain ⟨ep, he'⟩ := PyProof.Rows.sortedAll_at s.heap its out.toArray
  have hz2 : ys.length ≤ sizeLine := by rw [r2.length, hlen, ← lz, ← rv.length]; exact hz
  exact ⟨.ref _, upd H (s.heap.objs.size + 1) (.lst ys), I.laid (t' := s.toks) (fun _ _ => PyProof.Rows.sortedAll_old) (Nat.le_succ _) ⟨hz2, out, ep, r2, he'⟩, rfl, q _ _ p2 (I.hok.fresh (Nat.le_succ _))⟩
end
end Q
set_option Elab.async false
set_option linter.all false
set_option maxRecDepth 100000
set_option maxHeartbeats 1000000
/-! LF: items, slices, built-ins, methods over values that stand for data. -/
namespace Q
open PySem PySem.Spec PyProof.Rows L2

/-! ### data in the heap, for repr -/
section
variable {X : Cx} {pins : List (Addr × Obj)} {σ : L2.St} {H : Hp} {s : Shared}
theorem RM.reads (I : Inv X pins σ H s) {v : V} {m : M} {F : List Addr} {d : PyData} {u : Value} (h : RM X.K H v m F) (e : m.data = some d) (hd : d.hasDict = false) (r : RelV v u) : ∃ as, Reads s.heap u d as := by
  cases h with
  | p rp => cases e; exact rp.reads I d _ _ hd r
  | l ha rs =>
    cases e
    cases r
    obtain ⟨its, rv, ⟨o, n, ho, hc, _, hd'⟩, _⟩ := I.list (.of ha)
    obtain ⟨as, hr⟩ := RPs.reads I _ _ its rs (by simpa [PyData.hasDict] using hd) rv
    exact ⟨_, Reads.list ho hc hd' hr⟩
  | dc _ _ _ =>
    simp only [M.data, Option.map_eq_some_iff] at e
    obtain ⟨dd, _, rfl⟩ := e
    simp [PyData.hasDict] at hd
/-- repr(x) -/
theorem call_reprD (hg : X.A.guards = some []) (hu : X.A.units + 110 < cLine) : CallR X (.builtin "repr") (fun vs H Q => ∃ v m F d, vs = [v] ∧ RM X.K H v m F ∧ m.data = some d ∧ d.showable = true ∧ d.hasDict = false ∧
    d.shown.length ≤ sizeLine ∧ d.depth ≤ 100 ∧ Q (.str d.shown) H) := by
  intro pins s σ H xs us Q I r h
  obtain ⟨v, m, F, d, rfl, rm, e, hs, hd, hz, hdp, q⟩ := h
  obtain ⟨u, rfl, rv⟩ := vals1 r
  obtain ⟨as, rr⟩ := rm.reads I e hd rv
  cases rr with
  | none => exact PySem.P.repr_of_none ⟨.str _, H, I.tok _, ⟨_, rfl⟩, by simpa only [PyData.shown] using q⟩
  | bool b => exact PySem.P.repr_of_bool ⟨.str _, H, I.tok _, ⟨_, rfl⟩, by simpa only [PyData.shown] using q⟩
  | int i t => exact PySem.P.repr_of_int (by simpa [PyData.showable] using hs) ⟨.str _, H, I.tok _, ⟨_, rfl⟩, by simpa only [PyData.shown] using q⟩
  | str x t => exact PySem.P.repr_of_str ⟨.str _, H, I.tok _, ⟨_, rfl⟩, by simpa only [PyData.shown] using q⟩ (by simpa only [PyData.shown] using hz)
  | list h1 h2 h3 h4 => exact repr_of_reads' (.list h1 h2 h3 h4) hs (PyData.noDict_hsm hd) hg (by omega) (fun _ _ e => e) (fun h' u tk hk => ⟨.str _, H, I.kept hk, ⟨_, rfl⟩, q⟩) hz
  | tuple h1 h2 h3 h4 => exact repr_of_reads' (.tuple h1 h2 h3 h4) hs (PyData.noDict_hsm hd) hg (by omega) (fun _ _ e => e) (fun h' u tk hk => ⟨.str _, H, I.kept hk, ⟨_, rfl⟩, q⟩) hz
  | dict h1 h2 h3 h4 h5 => simp [PyData.hasDict] at hd
end

/-! ### items -/
def rIxM (K : PySem.W.Frag) : R2 := fun x y H Q => ∃ m d Fm Kr, RM K H x m Fm ∧ RP K H y d ∧ ixM m d Kr ∧ ∀ r v, Kr r → RP K H v r → Q v H
theorem atI_rel {K : PySem.W.Frag} {H : Hp} {vs : List V} {ds : List PyData} {i : Int} {d : PyData} (r : RPs K H vs ds) (e : atI ds i = some d) : ∃ v, atI vs i = some v ∧ RP K H v d := by
  unfold atI at e ⊢
  rw [r.length]
  cases h : ixN ds.length i with
  | none => rw [h] at e; cases e
  | some j =>
    rw [h] at e
    exact r.get e
theorem IxR.pick {X : Cx} {r : R2} (h : ∀ x y H Q, r x y H Q → ∃ r', IxR X r' ∧ r' x y H Q) : IxR X r := by
  intro value slice pins s σ H x y v u Q I rx ry q hs
  obtain ⟨r', h1, h2⟩ := h x y H Q q
  exact h1 value slice pins s σ H x y v u Q I rx ry h2 hs
theorem ix_dK {X : Cx} (hu : X.A.units + 1 < cLine) : IxR X (fun x y H Q => ∃ a v, x = .ref a ∧ DGet H a y (some v) ∧ Q v H) := by
  intro value slice pins s σ H x y v u Q I rx ry h hs
  obtain ⟨a, z, rfl, g, q⟩ := h
  cases rx
  exact tail_any (dict_typeIs I g) PySem.F.slot_dict_getitem.lookup (d_getItem hu I g ry fun w' s' I' rw' => ⟨z, H, I', rw', q⟩) hs
theorem ix_M {X : Cx} (hu : X.A.units + 1 < cLine) : IxR X (rIxM X.K) := by
  refine IxR.pick fun x y H Q ⟨m, d, Fm, Kr, rm, rd, hw, hq⟩ => ?_
  unfold ixM at hw
  split at hw
  · obtain ⟨hz, c, e, hk⟩ := hw
    have e1 := rm.pS; subst e1
    cases rd
    exact ⟨_, ix_str, _, _, c, rfl, rfl, hz, e, hq _ _ hk (.str _)⟩
  · obtain ⟨key, e, e1, e2, hk⟩ := hw
    have ek := rd.kV e1
    subst ek
    cases rm with
    | dc ha _ rk =>
      obtain ⟨v, Fv, g1, g2, _⟩ := (rk.get (k := key)).1 _ e2
      cases g2 with
      | p rp => exact ⟨_, ix_dK hu, _, v, rfl, by rw [← g1]; exact .k ha, hq _ _ hk rp⟩
  · obtain ⟨ds, d', e1, e2, hk⟩ := hw
    cases rd
    obtain ⟨a, xs, rfl, hs, rs⟩ := rm.seq e1
    obtain ⟨v, g1, g2⟩ := atI_rel rs e2
    rcases hs with hs | hs
    · exact ⟨_, ix_list, a, xs, _, v, rfl, rfl, hs, g1, hq _ _ hk g2⟩
    · exact ⟨_, ix_tup, a, xs, _, v, rfl, rfl, hs, g1, hq _ _ hk g2⟩
  · exact hw.elim

/-! ### slices -/
def rSlM (K : PySem.W.Frag) : V → Option Int → Option Int → Hp → VK → Prop := fun x lo hi H Q => ∃ m Fm Kr, RM K H x m Fm ∧ slM m lo hi Kr ∧ ∀ r v H', Kr r → Mk K H v r H' → Q v H'
theorem SlR.pick {X : Cx} {r : V → Option Int → Option Int → Hp → VK → Prop} (h : ∀ x lo hi H Q, r x lo hi H Q → ∃ r', L2.SlR X r' ∧ r' x lo hi H Q) : L2.SlR X r := by
  intro pins s σ H x v vl vu lo hi sl Q I rx hs pl pu q
  obtain ⟨r', h1, h2⟩ := h x lo hi H Q q
  exact h1 pins s σ H x v vl vu lo hi sl Q I rx hs pl pu h2
theorem cut_rel {K : PySem.W.Frag} {H : Hp} {vs : List V} {ds : List PyData} {lo hi : Option Int} (r : RPs K H vs ds) : RPs K H (cutV vs lo hi) (cut ds lo hi) := by
  unfold cutV Q.cut
  rw [r.length]
  exact (r.drop _).take _
theorem sl_M {X : Cx} : L2.SlR X (rSlM X.K) := by
  refine SlR.pick fun x lo hi H Q ⟨m, Fm, Kr, rm, hw, hq⟩ => ?_
  unfold slM at hw
  split at hw
  · have e1 := rm.pS; subst e1
    exact ⟨_, sl_str, _, rfl, hw.1, hq _ _ _ hw.2 (.pure (.str _))⟩
  · obtain ⟨a, xs, rfl, ha, ra⟩ := rm.pT
    refine ⟨_, sl_tupA, a, xs, rfl, ha, fun ⟨e1, e2⟩ => ?_, fun _ p hp => hq _ _ _ hw (.tup hp (cut_rel ra))⟩
    have z := cut_rel (lo := lo) (hi := hi) ra
    have e : cutV xs lo hi = xs := by
      unfold cutV
      rw [e1, e2, List.drop_zero, Nat.sub_zero, List.take_length]
    rw [e] at z
    exact hq _ _ _ hw (.pure (.tup ha z))
  · obtain ⟨ds, e, hk⟩ := hw
    obtain ⟨a, xs, rfl, ha, ra⟩ := rm.lst e
    exact ⟨_, sl_list, a, xs, rfl, ha, fun p hp => hq _ _ _ hk (.list hp (cut_rel ra))⟩

/-! ### built-ins -/
theorem CallR.pick {X : Cx} {f : Value} {r : List V → Hp → VK → Prop} (h : ∀ vs H Q, r vs H Q → ∃ r', CallR X f r' ∧ r' vs H Q) : CallR X f r := by
  intro pins s σ H xs us Q I rv q
  obtain ⟨r', h1, h2⟩ := h xs H Q q
  exact h1 pins s σ H xs us Q I rv h2
def biVal : BI → Value
  | .len => .builtin "len" | .sum => .builtin "sum" | .max => .builtin "max" | .min => .builtin "min" | .all => .builtin "all" | .any => .builtin "any"
  | .tuple => .type "tuple" | .list => .type "list" | .repr => .builtin "repr" | .abs => .builtin "abs" | .int => .type "int" | .str => .type "str" | .bool => .type "bool" | .sorted => .builtin "sorted"
theorem RMs.one {K : PySem.W.Frag} {H : Hp} {vs : List V} {m : M} {F : List Addr} (h : RMs K H vs [m] F) : ∃ v G, vs = [v] ∧ RM K H v m G := by
  cases h with | cons a b => cases b; exact ⟨_, _, rfl, a⟩
theorem RMs.two {K : PySem.W.Frag} {H : Hp} {vs : List V} {m n : M} {F : List Addr} (h : RMs K H vs [m, n] F) : ∃ v w G G', vs = [v, w] ∧ RM K H v m G ∧ RM K H w n G' := by
  cases h with | cons a b => cases b with | cons b c => cases c; exact ⟨_, _, _, _, rfl, a, b⟩
theorem call_bi {X : Cx} (hdg : X.base.NoDigits) (hc : X.calm = true) (hg : X.A.guards = some []) (hu : X.A.units + 110 < cLine) (f : BI) : CallR X (biVal f) (rOps X.K (biM f)) := by
  refine CallR.pick fun vs H Q ⟨ms, F, Kr, rm, hw, hq⟩ => ?_
  have pi : ∀ {k : Int}, Kr (.p (.int k)) → Q (.int k) H := fun h => hq _ _ _ h (.pure (.int _))
  have pb : ∀ {k : Bool}, Kr (.p (.bool k)) → Q (.bl k) H := fun h => hq _ _ _ h (.pure (.bl _))
  unfold biM at hw
  split at hw
  · obtain ⟨v, G, rfl, r⟩ := rm.one
    have e := r.pS; subst e
    exact ⟨_, call_len_str, _, rfl, hw.1, pi hw.2⟩
  · obtain ⟨v, G, rfl, r⟩ := rm.one
    cases r with
    | dc ha _ rk => exact ⟨_, call_lenD, _, _, rfl, ha, by rw [rk.length]; exact pi hw⟩
  · obtain ⟨v, G, rfl, r⟩ := rm.one
    obtain ⟨ds, e, hk⟩ := hw
    obtain ⟨a, xs, rfl, hs, rs⟩ := r.seq e
    exact ⟨_, call_len_seq, a, xs, rfl, hs, by rw [rs.length]; exact pi hk⟩
  · obtain ⟨v, G, rfl, r⟩ := rm.one
    obtain ⟨ds, ns, e, e2, hk⟩ := hw
    obtain ⟨a, xs, rfl, hs, rs⟩ := r.seq e
    rcases hs with hs | hs
    · exact ⟨_, cr_sum hc, a, ns, rfl, by rw [← rs.ints e2]; exact hs, pi hk⟩
    · exact ⟨_, cr_sumT hc, a, ns, rfl, by rw [← rs.ints e2]; exact hs, pi hk⟩
  · obtain ⟨v, w, G, G', rfl, r1, r2⟩ := rm.two
    have e1 := r1.pI; have e2 := r2.pI; subst e1 e2
    exact ⟨_, call_max2 hc, _, _, rfl, pi hw⟩
  · obtain ⟨v, w, G, G', rfl, r1, r2⟩ := rm.two
    have e1 := r1.pI; have e2 := r2.pI; subst e1 e2
    exact ⟨_, call_min2 hc, _, _, rfl, pi hw⟩
  · obtain ⟨v, G, rfl, r⟩ := rm.one
    obtain ⟨ds, ns, e, e2, h0, hk⟩ := hw
    obtain ⟨a, xs, rfl, hs, rs⟩ := r.lst e
    exact ⟨_, cr_max hc, a, ns, rfl, by rw [← rs.ints e2]; exact hs, h0, fun m h1 h2 => pi (hk m h1 h2)⟩
  · obtain ⟨v, G, rfl, r⟩ := rm.one
    obtain ⟨ds, ns, e, e2, h0, hk⟩ := hw
    obtain ⟨a, xs, rfl, hs, rs⟩ := r.lst e
    exact ⟨_, cr_min hc, a, ns, rfl, by rw [← rs.ints e2]; exact hs, h0, fun m h1 h2 => pi (hk m h1 h2)⟩
  · obtain ⟨v, G, rfl, r⟩ := rm.one
    obtain ⟨ds, ns, e, e2, hk⟩ := hw
    obtain ⟨a, xs, rfl, hs, rs⟩ := r.lst e
    exact ⟨_, cr_all hc, a, ns, rfl, by rw [← rs.bools e2]; exact hs, pb hk⟩
  · obtain ⟨v, G, rfl, r⟩ := rm.one
    obtain ⟨ds, ns, e, e2, hk⟩ := hw
    obtain ⟨a, xs, rfl, hs, rs⟩ := r.lst e
    exact ⟨_, cr_any hc, a, ns, rfl, by rw [← rs.bools e2]; exact hs, pb hk⟩
  · obtain ⟨v, G, rfl, r⟩ := rm.one
    obtain ⟨ds, e, hk⟩ := hw
    obtain ⟨a, xs, rfl, hs, rs⟩ := r.seq e
    refine ⟨_, call_tuple_of, a, xs, rfl, ?_⟩
    rcases hs with hs | hs
    · exact .inl ⟨hs, fun p hp => hq _ _ _ hk (.tup hp rs)⟩
    · exact .inr ⟨hs, hq _ _ _ hk (.pure (.tup hs rs))⟩
  · obtain ⟨v, G, rfl, r⟩ := rm.one
    obtain ⟨ds, e, hk⟩ := hw
    obtain ⟨a, xs, rfl, hs, rs⟩ := r.seq e
    exact ⟨_, call_list_of, a, xs, rfl, hs, fun p hp => hq _ _ _ hk (.list hp rs)⟩
  · obtain ⟨v, G, rfl, r⟩ := rm.one
    obtain ⟨d, e, h1, h2, h3, h4, hk⟩ := hw
    exact ⟨_, call_reprD hg hu, v, _, _, d, rfl, r, e, h1, h2, h3, h4, hq _ _ _ hk (.pure (.str _))⟩
  · obtain ⟨v, G, rfl, r⟩ := rm.one
    obtain ⟨ds, e, h1, h2, h3, h4, hk⟩ := hw
    obtain ⟨a, xs, rfl, hs, rs⟩ := r.lst e
    exact ⟨_, cr_sortedD hu, a, xs, ds, rfl, hs, rs, h1, h2, h3, h4, fun ys p rp hp => hq _ _ _ hk (.list hp rp)⟩
  · obtain ⟨v, G, rfl, r⟩ := rm.one
    have e := r.pI; subst e
    exact ⟨_, call_abs, _, rfl, pi hw⟩
  · obtain ⟨v, G, rfl, r⟩ := rm.one
    have e := r.pI; subst e
    exact ⟨_, call_int1, .inl ⟨_, rfl, pi hw⟩⟩
  · obtain ⟨v, G, rfl, r⟩ := rm.one
    have e := r.pB; subst e
    exact ⟨_, call_int1, .inr ⟨_, rfl, pi hw⟩⟩
  · obtain ⟨v, G, rfl, r⟩ := rm.one
    have e := r.pS; subst e
    obtain ⟨n, h1, h2, hk⟩ := hw
    exact ⟨_, call_int_any hdg, _, n, rfl, h1, h2, pi hk⟩
  · obtain ⟨v, G, rfl, r⟩ := rm.one
    have e := r.pI; subst e
    exact ⟨_, call_str_int, _, rfl, hw.1, hq _ _ _ hw.2 (.pure (.str _))⟩
  · obtain ⟨v, G, rfl, r⟩ := rm.one
    have e := r.pS; subst e
    exact ⟨_, SkE.call_str_str, _, rfl, hq _ _ _ hw (.pure (.str _))⟩
  · exact hw.elim
theorem kitAll : ∀ t ∈ ["NoneType", "int", "bool", "str", "list", "tuple", "dict"], ∀ u ∈ ["int", "bool", "str", "list", "tuple", "dict"], kitB t u = some (isiS t u) := by decide +kernel
/-- isinstance(x, T) -/
theorem isi_ty {K : PySem.W.Frag} {H : Hp} {v : V} {m : M} {F : List Addr} (r : RM K H v m F) : ∃ t, TyX K H v (.type t) ∧ ∀ u ∈ ["int", "bool", "str", "list", "tuple", "dict"], kitB t u = some (isiS m.kn u) := by
  cases r with
  | p rp =>
    cases rp with
    | non => exact ⟨_, .base .non, kitAll _ (by decide)⟩
    | bl b => exact ⟨_, .base (.bl b), kitAll _ (by decide)⟩
    | int i => exact ⟨_, .base (.int i), kitAll _ (by decide)⟩
    | str x => exact ⟨_, .base (.str x), kitAll _ (by decide)⟩
    | lst h _ =>
      rcases h with ⟨o, h⟩ | ⟨o, its, n, h, hc, _⟩
      · exact ⟨_, .base (.frz h), kitAll _ (by decide)⟩
      · exact ⟨_, .kList h hc, kitAll _ (by decide)⟩
    | tup h _ =>
      rcases h with (h | ⟨o, h⟩) | ⟨o, its, n, h, hc, _⟩
      · exact ⟨_, .base (.tup h), kitAll _ (by decide)⟩
      · exact ⟨_, .fTuple h, kitAll _ (by decide)⟩
      · exact ⟨_, .kTuple h hc, kitAll _ (by decide)⟩
    | dct h _ => exact ⟨_, .fDict h, kitAll _ (by decide)⟩
  | l h _ => exact ⟨_, .base (.lst h), kitAll _ (by decide)⟩
  | dc h _ _ => exact ⟨_, .base (.dK h), kitAll _ (by decide)⟩

/-! ### methods -/
def meId : ME → String × String × Str
  | .join => ("str", "str.join", "join") | .split => ("str", "str.split", "split") | .index => ("list", "list.index", "index") | .upper => ("str", "str.upper", "upper") | .count => ("list", "list.count", "count")
theorem mt_M {X : Cx} (f : ME) : MtR X (meId f).2.1 (fun x xs H Q => ∃ m ms Fm Fs Kr, RM X.K H x m Fm ∧ RMs X.K H xs ms Fs ∧ meM f m ms Kr ∧ ∀ r v H', Kr r → Mk X.K H v r H' → Q v H') := by
  intro pins s σ H x xs v us Q I rx rs ⟨m, ms, Fm, Fs, Kr, rm, rms, hw, hq⟩
  unfold meM at hw
  split at hw
  · have e := rm.pS; subst e
    obtain ⟨w, G, rfl, r⟩ := rms.one
    obtain ⟨ds, zs, e1, e2, hz, hk⟩ := hw
    obtain ⟨a, ys, rfl, hs, rr⟩ := r.seq e1
    have ey := rr.texts e2
    subst ey
    exact mt_join pins s σ H _ _ v us Q I rx rs ⟨_, a, zs, rfl, rfl, hs, hz, hq _ _ _ hk (.pure (.str _))⟩
  · exact hw.elim
def muId : MU → String × Str
  | .append => ("list.append", "append") | .insert => ("list.insert", "insert") | .pop => ("list.pop", "pop") | .extend => ("list.extend", "extend") | .remove => ("list.remove", "remove")
theorem mt_U {X : Cx} (f : MU) : MtR X (muId f).1 (fun x xs H Q => ∃ a zs m ds Kr, x = .ref a ∧ H a = some (.lst zs) ∧ RM X.K H x m [a] ∧ RPs X.K H xs ds ∧ muM f m ds Kr ∧
    ∀ r m' v zs' ds', Kr r m' → m' = .l ds' → RP X.K H v r → RPs X.K H zs' ds' → Q v (upd H a (.lst zs'))) := by
  intro pins s σ H x xs v us Q I rx rs ⟨a, zs, m, ds, Kr, ex, ha, rm, rp, hw, hq⟩
  subst ex
  unfold muM at hw
  split at hw
  · cases rm with
    | l ha' ra =>
      rw [ha] at ha'; cases ha'
      cases rp with
      | cons r1 r2 =>
        cases r2
        exact mt_append pins s σ H _ _ v us Q I rx rs ⟨a, zs, _, rfl, rfl, ha, by rw [ra.length]; exact hw.1, hq _ _ _ _ _ hw.2 rfl .non (ra.append (.cons r1 .nil))⟩
  · cases rm with
    | l ha' ra =>
      rw [ha] at ha'; cases ha'
      cases rp with
      | cons r1 r2 =>
        cases r2 with
        | cons r2 r3 =>
          cases r3
          cases r1
          obtain ⟨h1, h2, h3, hk⟩ := hw
          exact mt_insert pins s σ H _ _ v us Q I rx rs ⟨a, zs, _, _, rfl, rfl, ha, by rw [ra.length]; exact h1, h2, h3, hq _ _ _ _ _ hk rfl .non (((ra.take _).append (.cons r2 .nil)).append (ra.drop _))⟩
  · cases rm with
    | l ha' ra =>
      rw [ha] at ha'; cases ha'
      cases rp with
      | cons r1 r2 =>
        cases r2
        cases r1
        obtain ⟨h1, h2, j, d, e1, e2, hk⟩ := hw
        obtain ⟨w, g1, g2⟩ := ra.get e2
        refine mt_popAt pins s σ H _ _ v us Q I rx rs ⟨a, zs, _, j, w, rfl, rfl, ha, h1, h2, by rw [ra.length]; exact e1, g1, hq _ _ _ _ _ hk rfl g2 ?_⟩
        rw [List.eraseIdx_eq_take_drop_succ, List.eraseIdx_eq_take_drop_succ]
        exact (ra.take _).append (ra.drop _)
  · exact hw.elim
end Q
set_option Elab.async false
set_option linter.all false
set_option maxRecDepth 100000
set_option maxHeartbeats 1000000
/-! LG: which code stands for which expression. -/
namespace Q
open PySem PySem.Spec PyProof.Rows L2

/-- what is told of a def's text: its names by slot, the calls by number (the def's name, how many by place, the names of the others), the module's constants -/
structure SE where
  N : List Str
  G : List (Str × Nat × List Str)
  C : List (Str × PyData)
def visB (sc : Scope) (x : Str) : Bool := match sc.names.lookup x with
  | some .local => true | some .cell => true | some .free => true | _ => false
def locB (sc : Scope) (x : Str) : Bool := match sc.names.lookup x with
  | some .local => true | some .cell => true | _ => false
/-- a name that the text may store to: fs is the scope whose own cells may be written -/
def tgtB (sc fs : Scope) (x : Str) : Bool := match sc.names.lookup x with
  | some .local => true | some .cell => (match fs.names.lookup x with | some .cell => true | _ => false) | _ => false
def globB (sc : Scope) (x : Str) : Bool := match sc.names.lookup x with
  | some .globalImplicit => true | _ => false
def okX (x : Str) : Bool := !(x == ("__debug__" : Str)) && !(x == ("__classdict__" : Str)) && decide (x ≠ "__name__")
def constB : Const → PyData → Bool
  | .none, .none => true
  | .bool a, .bool b => a == b
  | .int a, .int b => a == b
  | .str a, .str b => a == b
  | _, _ => false
def scB : PyData → PyData → Bool
  | .none, .none => true
  | .bool a, .bool b => a == b
  | .int a, .int b => a == b
  | .str a, .str b => a == b
  | _, _ => false
def biName : BI → Str
  | .len => "len" | .sum => "sum" | .max => "max" | .min => "min" | .all => "all" | .any => "any" | .tuple => "tuple" | .list => "list"
  | .repr => "repr" | .abs => "abs" | .int => "int" | .str => "str" | .bool => "bool" | .sorted => "sorted"
def plainB : Expr → Bool
  | .Set .. => false | .Slice .. => false | .Starred .. => false | _ => true
/-- its test is its value's truth -/
def valB : Expr → Bool
  | .UnaryOp .. => false | .BoolOp .. => false | .IfExp .. => false | .Compare .. => false | _ => true
def baseB : Expr → Bool
  | .Call (.Name _ _) [] [] _ => false | _ => true
def tgS : Tg → List Nat
  | .n i => [i]
  | .t0 => []
  | .tc a as => tgS a ++ tgS as
def tupB : Expr → Bool
  | .Tuple .. => true
  | _ => false
def kwNames : List Keyword → Option (List Str)
  | [] => some []
  | ⟨some x, _, _⟩ :: r => (kwNames r).map (x :: ·)
  | _ => none
def keysB : List Str → List (Option Expr) → Bool
  | [], [] => true
  | x :: xs, some (.Constant (.str y) _ _) :: r => x == y && keysB xs r
  | _, _ => false
def ownB (N : List Str) (own : List Nat) : List (Str × Nat) := own.filterMap fun i => (N[i]?).map fun x => (x, i)
mutual
def chkG (E : SE) (sc fs : Scope) : Tg → Expr → Bool
  | .n i, .Name x _ => decide (E.N[i]? = some x) && tgtB sc fs x
  | .t0, .Tuple [] _ _ => true
  | .tc a as, .Tuple (e :: es) _ _ => plainB e && chkG E sc fs a e && chkGs E sc fs as es
  | _, _ => false
def chkGs (E : SE) (sc fs : Scope) : Tg → List Expr → Bool
  | .t0, [] => true
  | .tc a as, e :: es => plainB e && chkG E sc fs a e && chkGs E sc fs as es
  | _, _ => false
end
/-- for numbers told without changing anything -/
def chkQ (E : SE) : C → Scope → Expr → Bool
  | .v i, sc, .Name x _ => decide (E.N[i]? = some x) && visB sc x && okX x
  | .k d, _, .Constant c _ _ => constB c d
  | .bin op a b, sc, .BinOp ea eop eb _ => decide (eop = bopOf op) && chkQ E a sc ea && chkQ E b sc eb
  | _, _, _ => false
mutual
def chkE (E : SE) : C → Scope → Expr → Bool
  | .v i, sc, .Name x _ => decide (E.N[i]? = some x) && visB sc x && okX x
  | .k d, _, .Constant c _ _ => constB c d
  | .gk y d, sc, .Name x _ => x == y && globB sc x && okX x && E.C.any fun p => p.1 == x && scB p.2 d
  | .tup l, sc, .Tuple es _ _ => chkL E l sc es
  | .lst l, sc, .List es _ => chkL E l sc es
  | .dct ks l, sc, .Dict keys vals _ => keysB ks keys && decide (keys.length = vals.length) && decide (ks.length ≤ 15) && decide (ks.Nodup) && chkL E l sc vals
  | .bin op a b, sc, .BinOp ea eop eb _ => decide (eop = bopOf op) && chkE E a sc ea && chkE E b sc eb
  | .neg a, sc, .UnaryOp .USub ea _ => chkE E a sc ea
  | .cmp op a b, sc, .Compare ea [eop] [eb] _ => decide (eop = copOf op) && plainB eb && chkE E a sc ea && chkE E b sc eb
  | .ch o1 o2 a b c, sc, .Compare ea [e1, e2] [eb, ec] _ => decide (e1 = copOf o1) && decide (e2 = copOf o2) && plainB ec && chkE E a sc ea && chkE E b sc eb && chkE E c sc ec
  | .and l, sc, .BoolOp .And vs _ => chkL E l sc vs
  | .or l, sc, .BoolOp .Or vs _ => chkL E l sc vs
  | .not t, sc, .UnaryOp .Not e _ => chkE E t sc e
  | .ite t a b, sc, .IfExp et ea eb _ => chkT E t sc et && chkE E a sc ea && chkE E b sc eb
  | .ix a b, sc, .Subscript ea eb _ => plainB eb && chkE E a sc ea && chkE E b sc eb
  | .sl a lo hi, sc, .Subscript ea (.Slice l h none _) _ => chkE E a sc ea && chkO E lo sc l && chkO E hi sc h
  | .rev a, sc, .Subscript ea (.Slice none none (some (.UnaryOp .USub (.Constant (.int 1) _ _) _)) _) _ => chkE E a sc ea
  | .ixs i key b, sc, .Subscript (.Subscript (.Name x _) (.Constant (.str y) _ _) _) eb _ => decide (E.N[i]? = some x) && visB sc x && okX x && y == key && plainB eb && chkQ E b sc eb
  | .nes i key, sc, .Compare (.Subscript (.Name x _) (.Constant (.str y) _ _) _) [.NotEq] [.List [] _] _ => decide (E.N[i]? = some x) && visB sc x && okX x && y == key
  | .lens i key, sc, .Call (.Name f _) [.Subscript (.Name x _) (.Constant (.str y) _ _) _] [] _ => f == ("len" : Str) && globB sc "len" && decide (E.N[i]? = some x) && visB sc x && okX x && y == key
  | .bi f l, sc, .Call (.Name x _) (e :: es) [] _ => x == biName f && globB sc x && chkL E l sc (e :: es)
  | .mxd b a d, sc, .Call (.Name x _) [e] [⟨some y, ed, _⟩] _ => x == (if b then ("max" : Str) else ("min" : Str)) && globB sc x && y == Str.ofString "default" && plainB e && chkE E a sc e && chkE E d sc ed
  | .dcm own tg src ifs key val, sc, .DictComp ek ev [⟨et, ei, eifs, 0⟩] scope _ => blkC E.N sc scope (ownB E.N own) && decide ((ownB E.N own).map (·.2) = own) && chkI E src sc et ei && (tgS tg).all (fun i => decide (i ∈ own)) && plainB ei && chkG E (relS scope sc) scope tg et && chkA1 E ifs (relS scope sc) eifs && chkE E key (relS scope sc) ek && chkE E val (relS scope sc) ev
  | .isi a t, sc, .Call (.Name x _) [e, .Name y _] [] _ => x == ("isinstance" : Str) && globB sc x && y == Str.ofString t && globB sc y && decide (t ∈ ["int", "bool", "str", "list", "tuple", "dict"]) && plainB e && chkE E a sc e
  | .me f o l, sc, .Call (.Attribute eo x apos) (e :: es) [] cpos => x == (meId f).2.2 && baseB eo && (apos.endLine == cpos.line) && decide ((e :: es).length < 30) && chkE E o sc eo && chkL E l sc (e :: es)
  | .mu f i l, sc, .Call (.Attribute (.Name y _) x apos) (e :: es) [] cpos => x == (muId f).2 && (apos.endLine == cpos.line) && decide ((e :: es).length < 30) && decide (E.N[i]? = some y) && visB sc y && okX y && chkL E l sc (e :: es)
  | .call f l kl, sc, .Call (.Name x _) es kws _ => decide (E.G[f]? = (kwNames kws).map fun ks => (x, es.length, ks)) && (kwNames kws).isSome && globB sc x && okX x && chkL E l sc es && chkK E kl sc kws
  | .comp own tg src ifs elt, sc, .ListComp ee [⟨et, ei, eifs, 0⟩] scope _ => blkC E.N sc scope (ownB E.N own) && decide ((ownB E.N own).map (·.2) = own) && chkI E src sc et ei && (tgS tg).all (fun i => decide (i ∈ own)) && plainB ei && chkG E (relS scope sc) scope tg et && chkA1 E ifs (relS scope sc) eifs && chkE E elt (relS scope sc) ee
  | .tupI (.rng l), sc, .Call (.Name x _) [.Call (.Name y _) es [] _] [] _ => x == ("tuple" : Str) && globB sc x && y == ("range" : Str) && globB sc y && decide (es.length = 1 ∨ es.length = 2) && chkL E l sc es
  | .lstI (.rng l), sc, .Call (.Name x _) [.Call (.Name y _) es [] _] [] _ => x == ("list" : Str) && globB sc x && y == ("range" : Str) && globB sc y && decide (es.length = 1 ∨ es.length = 2) && chkL E l sc es
  | _, _, _ => false
def chkL (E : SE) : C → Scope → List Expr → Bool
  | .nil, _, [] => true
  | .cons a as, sc, e :: es => plainB e && chkE E a sc e && chkL E as sc es
  | _, _, _ => false
def chkK (E : SE) : C → Scope → List Keyword → Bool
  | .nil, _, [] => true
  | .cons a as, sc, ⟨some _, e, _⟩ :: es => chkE E a sc e && chkK E as sc es
  | _, _, _ => false
def chkO (E : SE) : C → Scope → Option Expr → Bool
  | .nil, _, none => true
  | .cons a .nil, sc, some e => chkE E a sc e
  | _, _, _ => false
def chkT (E : SE) : C → Scope → Expr → Bool
  | .not t, sc, .UnaryOp .Not e _ => chkT E t sc e
  | .and l, sc, .BoolOp .And vs _ => chkTs E l sc vs && !vs.isEmpty
  | .or l, sc, .BoolOp .Or vs _ => chkTs E l sc vs && !vs.isEmpty
  | .tv (.cmp op a b), sc, .Compare ea [eop] [eb] _ => decide (eop = copOf op) && plainB eb && chkE E a sc ea && chkE E b sc eb
  | .tv (.ch o1 o2 a b c), sc, .Compare ea [e1, e2] [eb, ec] _ => decide (e1 = copOf o1) && decide (e2 = copOf o2) && plainB ec && chkE E a sc ea && chkE E b sc eb && chkE E c sc ec
  | .tv (.nes i key), sc, .Compare (.Subscript (.Name x _) (.Constant (.str y) _ _) _) [.NotEq] [.List [] _] _ => decide (E.N[i]? = some x) && visB sc x && okX x && y == key
  | .tv c, sc, e => valB e && chkE E c sc e
  | _, _, _ => false
def chkTs (E : SE) : C → Scope → List Expr → Bool
  | .nil, _, [] => true
  | .cons a as, sc, e :: es => chkT E a sc e && chkTs E as sc es
  | _, _, _ => false
def chkA1 (E : SE) : C → Scope → List Expr → Bool
  | .nil, _, [] => true
  | .cons a .nil, sc, [e] => chkT E a sc e
  | _, _, _ => false
def chkI (E : SE) : C → Scope → Expr → Expr → Bool
  | .rng l, sc, _, .Call (.Name y _) es [] _ => y == ("range" : Str) && globB sc y && decide (es.length = 1 ∨ es.length = 2) && chkL E l sc es
  | .enum a, sc, et, .Call (.Name y _) [e] [] _ => tupB et && y == ("enumerate" : Str) && globB sc y && plainB e && chkE E a sc e
  | .zip a b false, sc, et, .Call (.Name y _) [e, f] [] _ => tupB et && y == ("zip" : Str) && globB sc y && plainB e && plainB f && chkE E a sc e && chkE E b sc f
  | .zip a b true, sc, et, .Call (.Name y _) [e, f] [⟨some z, .Constant (.bool true) _ _, _⟩] _ => tupB et && y == ("zip" : Str) && globB sc y && z == Str.ofString "strict" && plainB e && plainB f && chkE E a sc e && chkE E b sc f
  | .zip3 a b c, sc, et, .Call (.Name y _) [e, f, g] [] _ => tupB et && y == ("zip" : Str) && globB sc y && plainB e && plainB f && plainB g && chkE E a sc e && chkE E b sc f && chkE E c sc g
  | .sv a, sc, _, e => chkE E a sc e
  | _, _, _, _ => false
end
end Q
set_option Elab.async false
set_option linter.all false
set_option maxRecDepth 100000
set_option maxHeartbeats 1000000
/-! LH: the hypotheses of a def's body; calls of defs by their promises. -/
namespace Q
open PySem PySem.Spec PyProof.Rows L2

abbrev SpV := List V → Hp → VK → Prop
/-- a def at f keeps the promise sp, called at a depth k of calls, no repr under way -/
structure FnOkG (P : Program) (w : World) (K : PySem.W.Frag) (mg : Str → Option Value) (base : Heap) (k : Nat) (f : Addr) (fd : FuncData) (ps : List Str) (sp : SpV) : Prop where
  len : ∀ vs H Q, sp vs H Q → vs.length = ps.length
  run : ∀ (A : Around) (outer : List Env) (s : Shared) (H : Hp) (args : Args) (us : List Value) (vs : List V) (Q : VK), Room k A → A.guards = some [] → Env0 P w K mg base A outer s H → BindsTo s fd args (ps.zip us) → Vals vs us → sp vs H Q →
    codeAny (model P w) A (.call (.ref f) args) (CR CX0 outer P w H s Q (fun _ _ _ => False)) s
/-- a promise over data, as one over the heap -/
def liftSp (K : PySem.W.Frag) (n : Nat) (sp : Spec) : SpV := fun vs H Q => ∃ ms F Kc, ms.length = n ∧ RMs K H vs ms F ∧ F.Nodup ∧ sp ms Kc (fun _ _ => False) ∧
  ∀ r os v H' F' Fr, Kc r os → RM K H' v r Fr → RMs K H' vs os F' → (Fr ++ F').Nodup → Keep H H' F → Fresh H F (Fr ++ F') → Q v H'
/-- x, called with n values by place and the names ks, keeps sp -/
structure CallOk (P : Program) (w : World) (K : PySem.W.Frag) (mg : Str → Option Value) (base : Heap) (k : Nat) (x : Str) (n : Nat) (ks : List Str) (sp : Spec) : Prop where
  ex : ∃ (f : Addr) (fd : FuncData) (ps : List Str) (g : List Value → List Value → List Value) (gV : List V → List V → List V) (spV : SpV), mg x = some (.ref f) ∧ PySem.W.keepIn K (.ref f) = true ∧
    FnOkG P w K mg base k f fd ps spV ∧ KBn K fd ps n ks g gV ∧ ∀ vs zs H Q, vs.length = n → zs.length = ks.length → liftSp K (n + ks.length) sp (vs ++ zs) H Q → spV (gV vs zs) H Q

def bltNames : List Str := ["len", "sum", "max", "min", "all", "any", "tuple", "list", "repr", "abs", "int", "str", "bool", "isinstance", "range", "enumerate", "zip", "dict", "set", "sorted", "reversed", "divmod"]
/-- what is known where a code of the text runs -/
structure OkX (E : SE) (Γ : List Spec) (k : Nat) (X : Cx) (sc : Scope) : Prop where
  hN : X.N = E.N
  nd : E.N.Nodup
  calm : X.calm = true
  hsc : X.env.scope = sc
  room : Room k X.A
  gd : X.A.guards = some []
  dig : X.base.NoDigits
  blt : ∀ x ∈ bltNames, X.mg x = none
  con : ∀ p ∈ E.C, ∃ u v, X.mg p.1 = some u ∧ RelV v u ∧ RP X.K (fun _ => none) v p.2
  calls : ∀ (f : Nat) (x : Str) (n : Nat) (ks : List Str), E.G[f]? = some (x, n, ks) → ∃ sp, Γ[f]? = some sp ∧ CallOk X.prog X.w X.K X.mg X.base k x n ks sp

section
variable {E : SE} {Γ : List Spec} {k : Nat} {X : Cx} {sc : Scope}
theorem OkX.gl (o : OkX E Γ k X sc) {x : Str} (h : globB sc x = true) : Gl X x := by
  unfold globB at h
  show X.env.scope.names.lookup x = _
  rw [o.hsc]
  split at h
  · assumption
  · cases h
theorem OkX.vis (o : OkX E Γ k X sc) {x : Str} (h : visB sc x = true) : Vis X.env.scope x := by
  unfold visB at h
  rw [o.hsc]
  split at h
  · exact .inl (by assumption)
  · exact .inr (.inl (by assumption))
  · exact .inr (.inr (by assumption))
  · cases h
theorem OkX.loc (o : OkX E Γ k X sc) {x : Str} (h : locB sc x = true) : Loc X.env.scope x := by
  unfold locB at h
  rw [o.hsc]
  split at h
  · exact .inl (by assumption)
  · exact .inr (by assumption)
  · cases h
theorem OkX.tgt (o : OkX E Γ k X sc) {fs : Scope} (hf : ∀ x, fs.names.lookup x = some .cell → X.fn x = true) {x : Str} (h : tgtB sc fs x = true) : Loc X.env.scope x ∧ (X.fn x = true ∨ X.env.scope.names.lookup x = some .local) := by
  unfold tgtB at h
  split at h
  · rename_i e
    rw [← o.hsc] at e
    exact ⟨.inl e, .inr e⟩
  · rename_i e
    split at h
    · rename_i e2
      rw [← o.hsc] at e
      exact ⟨.inr e, .inl (hf x e2)⟩
    · cases h
  · cases h
theorem OkX.at (o : OkX E Γ k X sc) {i : Nat} {x : Str} (h : decide (E.N[i]? = some x) = true) : X.N[i]? = some x := by rw [o.hN]; exact of_decide_eq_true h
theorem OkX.un (o : OkX E Γ k X sc) : X.A.units + 199 < cLine := by have := o.room.un; omega
theorem okX_1 {x : Str} (h : okX x = true) : (x == ("__debug__" : Str)) = false := by
  unfold okX at h; simp only [Bool.and_eq_true, Bool.not_eq_true'] at h; exact h.1.1
theorem okX_2 {x : Str} (h : okX x = true) : (x == ("__classdict__" : Str)) = false := by
  unfold okX at h; simp only [Bool.and_eq_true, Bool.not_eq_true'] at h; exact h.1.2
theorem okX_3 {x : Str} (h : okX x = true) : x ≠ "__name__" := by
  unfold okX at h; simp only [Bool.and_eq_true, decide_eq_true_eq] at h; exact h.2

/-! ### syntax -/
theorem plain_star {e : Expr} (h : plainB e = true) (es : List Expr) (env : Env) : starEach (e :: es) env = (false, eval e env) :: starEach es env := by
  cases e <;> first | rfl | cases h
theorem plain_ix {e : Expr} (h : plainB e = true) : PlainIx e := by
  intro o i
  cases e <;> first | rfl | cases h
theorem plain_fold {e : Expr} (h : plainB e = true) (env : Env) : ∀ x, foldedSetIterable e env x = pure x := by
  intro x
  cases e <;> first | rfl | cases h
theorem plain_in {e : Expr} (h : plainB e = true) (op : CmpOp) : behindInMarks op e = false := by
  cases e <;> first | rfl | cases h
theorem plain_assign {e : Expr} (h : plainB e = true) (es : List Expr) (env : Env) : assignEach (e :: es) env = (false, assign e env) :: assignEach es env := by
  cases e <;> first | rfl | cases h
def plains (es : List Expr) : Bool := es.all plainB
theorem plains_any {es : List Expr} (h : plains es = true) (env : Env) (pos : Pos) : (backTo pos (starEach es env)).any (·.1) = false := by
  induction es with
  | nil => rfl
  | cons e es ih =>
    unfold plains at h ih
    rw [List.all_cons, Bool.and_eq_true] at h
    rw [plain_star h.1]
    show (false || (backTo pos (starEach es env)).any (·.1)) = false
    rw [ih h.2]; rfl
theorem plains_all {es : List Expr} (h : plains es = true) (env : Env) (pos : Pos) : (backTo pos (starEach es env)).all (fun x => !x.1) = true := by
  induction es with
  | nil => rfl
  | cons e es ih =>
    unfold plains at h ih
    rw [List.all_cons, Bool.and_eq_true] at h
    rw [plain_star h.1]
    show (!false && (backTo pos (starEach es env)).all (fun x => !x.1)) = true
    rw [ih h.2]; rfl
theorem kw_all : ∀ {kws : List Keyword} {ks : List Str}, kwNames kws = some ks → ∀ (env : Env) (pos : Pos), (backToKw pos (keywordEach kws env)).all (·.1.isSome) = true ∧
    (backToKw pos (keywordEach kws env)).filterMap (·.1) = ks ∧ (backToKw pos (keywordEach kws env)).any (·.1.isNone) = false
  | [], _, h, env, pos => by
    simp only [kwNames, Option.some.injEq] at h; subst h; exact ⟨rfl, rfl, rfl⟩
  | ⟨some x, e, p⟩ :: r, _, h, env, pos => by
    simp only [kwNames, Option.map_eq_some_iff] at h
    obtain ⟨ks, h1, rfl⟩ := h
    obtain ⟨a, b, c⟩ := kw_all h1 env pos
    refine ⟨?_, ?_, ?_⟩
    · show (true && _) = true
      rw [Bool.true_and]; exact a
    · show x :: _ = x :: ks
      rw [← b]; rfl
    · show (false || _) = false
      rw [Bool.false_or]; exact c
  | ⟨none, e, p⟩ :: r, _, h, env, pos => by simp [kwNames] at h
theorem kw_len : ∀ {kws : List Keyword} {ks : List Str}, kwNames kws = some ks → kws.length = ks.length
  | [], _, h => by simp only [kwNames, Option.some.injEq] at h; subst h; rfl
  | ⟨some x, e, p⟩ :: r, _, h => by
    simp only [kwNames, Option.map_eq_some_iff] at h
    obtain ⟨ks, h1, rfl⟩ := h
    exact congrArg (· + 1) (kw_len h1)
  | ⟨none, e, p⟩ :: r, _, h => by simp [kwNames] at h

/-! ### a call -/
theorem runG {P : Program} {n : Nat} {f : Addr} {fd : FuncData} {ps ks : List Str} {sp : SpV} {g : List Value → List Value → List Value} {gV : List V → List V → List V} {pins : List (Addr × Obj)} {σ : L2.St} {H : Hp} {s : Shared} {Q : VK} {us ws : List Value} {vs zs : List V}
    (F : FnOkG X.prog X.w X.K X.mg X.base k f fd ps sp) (hr : Room k X.A) (hg : X.A.guards = some []) (hb : KBn X.K fd ps n ks g gV)
    (I : Inv X pins σ H s) (r : Vals vs us) (rz : Vals zs ws) (l1 : vs.length = n) (l2 : zs.length = ks.length) (h : sp (gV vs zs) H Q) : wpAny (model X.prog X.w) X.A (call (.ref f) us (ks.zip ws)) (EP X pins σ Q) X.xe s := by
  have r2 := hb.rel r rz
  refine wpAny_call (codeAny_mono (F.run X.A X.stack s H ⟨us, ks.zip ws⟩ (g us ws) (gV vs zs) Q hr hg I.env0 (hb.to s us ws I.kIn (r.length.symm.trans l1) (rz.length.symm.trans l2)) r2 h) fun r s' hq => ?_)
  cases r with
  | error e => exact False.elim hq
  | ok fl =>
    cases fl with
    | ret u => exact I.after hq
    | next => exact False.elim hq
    | brk => exact False.elim hq
    | cont => exact False.elim hq
def tCl (n m : Nat) (sp : SpV) (gV : List V → List V → List V) (t tk : TA) : TE := fun σ H Q => t σ H fun vs H1 => tk σ H1 fun zs H2 => vs.length = n ∧ zs.length = m ∧ sp (gV vs zs) H2 Q
theorem pe_cl {n : Nat} {f : Addr} {fd : FuncData} {ps ks : List Str} {sp : SpV} {g : List Value → List Value → List Value} {gV : List V → List V → List V} {x : Str} {p pos : Pos} {e : Expr} {es : List Expr} {kws : List Keyword} {t tk : TA}
    (F : FnOkG X.prog X.w X.K X.mg X.base k f fd ps sp) (hr : Room k X.A) (hgd : X.A.guards = some []) (hg : Gl X x) (hm : X.mg x = some (.ref f)) (hk : PySem.W.keepIn X.K (.ref f) = true) (hb : KBn X.K fd ps n ks g gV)
    (ha : PA X (e :: es) t) (hkw : PK X kws tk) (hks : kwNames kws = some ks) (hpl : plains (e :: es) = true) (hdb : (x == ("__debug__" : Str)) = false) :
    PE X (.Call (.Name x p) (e :: es) kws pos) (tCl n ks.length sp gV t tk) := by
  obtain ⟨k1, k2, k3⟩ := kw_all hks X.env pos
  refine ⟨fun pins s σ H Q I h => ?_⟩
  refine wpAny_Call_Name_kw (ld_glob I hg hm ?_ hdb)
  unfold plains at hpl
  rw [List.all_cons, Bool.and_eq_true] at hpl
  refine PySem.W.callWith_KW (h₀ := X.base) I.ok.mod.kin hk k1 (thn (ha.run pos pins s σ H _ I h) fun us s1 ⟨vs, H1, I1, r, q⟩ => ?_) (by
    rw [k3, plain_star hpl.1]
    show ((false || (backTo pos (starEach es X.env)).any (·.1)) || false) = false
    rw [plains_any hpl.2]; rfl) (plain_star hpl.1 _ _)
  refine thn (hkw.run pos pins s1 σ H1 _ I1 q) fun ws s2 ⟨zs, H2, I2, rz, l1, l2, q2⟩ => ⟨I2.kIn, ?_⟩
  rw [k2]
  exact runG (P := X.prog) F hr hgd hb I2 r rz l1 l2 q2
theorem pe_cl0 {n : Nat} {f : Addr} {fd : FuncData} {ps ks : List Str} {sp : SpV} {g : List Value → List Value → List Value} {gV : List V → List V → List V} {x : Str} {p pos : Pos} {kws : List Keyword} {tk : TA}
    (F : FnOkG X.prog X.w X.K X.mg X.base k f fd ps sp) (hr : Room k X.A) (hgd : X.A.guards = some []) (hg : Gl X x) (hm : X.mg x = some (.ref f)) (hk : PySem.W.keepIn X.K (.ref f) = true) (hb : KBn X.K fd ps n ks g gV)
    (hkw : PK X kws tk) (hks : kwNames kws = some ks) (hdb : (x == ("__debug__" : Str)) = false) :
    PE X (.Call (.Name x p) [] kws pos) (tCl n ks.length sp gV tNil tk) := by
  obtain ⟨k1, k2, k3⟩ := kw_all hks X.env pos
  refine ⟨fun pins s σ H Q I h => ?_⟩
  refine wpAny_Call_Name_kw (ld_glob I hg hm ?_ hdb)
  refine PySem.W.callWith_KW0 (h₀ := X.base) I.ok.mod.kin hk k1 ?_ (by rw [k3]; rfl)
  refine thn (hkw.run pos pins s σ H _ I h) fun ws s2 ⟨zs, H2, I2, rz, l1, l2, q2⟩ => ⟨I2.kIn, ?_⟩
  rw [k2]
  exact runG (P := X.prog) F hr hgd hb I2 .nil rz l1 l2 q2
end
end Q
set_option Elab.async false
set_option linter.all false
set_option maxRecDepth 100000
set_option maxHeartbeats 1000000
/-! LI: each kind of expression does what its code is worth. -/
namespace Q
open PySem PySem.Spec PyProof.Rows L2

abbrev pv (d : PyData) : Val := .own (.p d)
section
variable (K : PySem.W.Frag)
def tF (W : De → (List PyData → De → Prop) → Prop) : TA := fun σ H Q => ∃ δ F Kc, RS K H σ δ F ∧ F.Nodup ∧ W δ Kc ∧
  ∀ ds δ' vs H' F', Kc ds δ' → Rx K σ H F H' δ' vs (ds.map pv) F' [] → Q vs H'
def tD (W : De → (List M → De → Prop) → Prop) : TA := fun σ H Q => ∃ δ F Kc, RS K H σ δ F ∧ F.Nodup ∧ W δ Kc ∧
  ∀ ms δ' vs H' F' Fv, Kc ms δ' → Rx K σ H F H' δ' vs (ms.map Val.own) F' Fv → Q vs H'
end
section
variable {K : PySem.W.Frag} {H H1 H' : Hp} {σ : L2.St} {F F1 Fv : List Addr} {δ δ1 : De} {vs : List V}
theorem RVs.pures : ∀ {vs : List V} {ds : List PyData} {Fv : List Addr}, RVs K H σ vs (ds.map pv) Fv → RPs K H vs ds
  | _, [], _, h => by cases h; exact .nil
  | _, d :: ds, _, h => by
    cases h with
    | cons a b =>
      cases (show RM K H _ (.p d) _ from a) with
      | p r => exact .cons r (RVs.pures b)
theorem RVs.mine : ∀ {vs : List V} {ms : List M} {Fv : List Addr}, RVs K H σ vs (ms.map Val.own) Fv → RMs K H vs ms Fv
  | _, [], _, h => by cases h; exact .nil
  | _, m :: ms, _, h => by
    cases h with
    | cons a b => exact .cons a (RVs.mine b)
/-- values looked at -/
theorem RVs.peeks : ∀ {vs : List V} {xs : List Val} {Fv : List Addr} {ms : List M}, RVs K H σ vs xs Fv → RS K H σ δ F → peeks δ xs = some ms → ∃ G, RMs K H vs ms G
  | _, _, _, _, .nil, _, e => by simp only [Q.peeks, Option.some.injEq] at e; subst e; exact ⟨_, .nil⟩
  | _, _, _, _, .cons (x := x) a b, st, e => by
    simp only [Q.peeks] at e
    split at e
    · rename_i m ms' e1 e2
      cases e
      obtain ⟨Fm, rm, _⟩ := a.peek st e1
      obtain ⟨G, rms⟩ := b.peeks st e2
      exact ⟨_, .cons rm rms⟩
    · cases e
theorem peeks_two {x y : Val} {m n : M} (h1 : peek δ x = some m) (h2 : peek δ y = some n) : Q.peeks δ [x, y] = some [m, n] := by simp [Q.peeks, h1, h2]
theorem peeks_cons {x : Val} {xs : List Val} {m : M} {ms : List M} (h1 : peek δ x = some m) (h2 : Q.peeks δ xs = some ms) : Q.peeks δ (x :: xs) = some (m :: ms) := by simp [Q.peeks, h1, h2]
theorem peeks_one {x : Val} {m : M} (h1 : peek δ x = some m) : Q.peeks δ [x] = some [m] := by simp [Q.peeks, h1]
theorem mov_ok {v : V} {x : Val} {P : M → De → Prop} {Q : V → Hp → Prop} (r : Rx K σ H F H1 δ1 [v] [x] F1 Fv) (hf : mov x δ1 P)
    (hq : ∀ m δ' H' F' Fm, P m δ' → Rx K σ H F H' δ' [v] [.own m] F' Fm → Q v H') :
    Q v H1 ∨ ∃ a u, v = .ref a ∧ H1 a = some u ∧ Mut (some u) ∧ ∀ od, Q v (upd H1 a (.frz od u)) := by
  cases x with
  | own m => exact .inl (hq m δ1 H1 F1 Fv hf r)
  | «at» i =>
    have hf' : frz (.at i) δ1 fun d δ' => P (.p d) δ' := hf
    exact frz_ok r hf' fun d δ' H' F' p rp rx => hq (.p d) δ' H' F' [] p rx
end

section
variable {E : SE} {Γ : List Spec} {k : Nat} {X : Cx} {sc : Scope} {pos p2 p3 : Pos}
theorem s_v (o : OkX E Γ k X sc) {i : Nat} {x : Str} (h1 : decide (E.N[i]? = some x) = true) (h2 : visB sc x = true) (h3 : okX x = true) : PE X (.Name x pos) (tE X.K (wpE Γ XF (.v i))) := by
  refine PE.wk (pe_var (i := i) (o.at h1) (o.vis h2) (okX_1 h3) (okX_2 h3)) fun σ H Q ⟨δ, F, Kc, st, nd, hw, hq⟩ => ?_
  rw [wpE] at hw
  cases e : (δ[i]?).getD none with
  | none => rw [e] at hw; exact hw.elim
  | some m =>
    rw [e] at hw
    obtain ⟨v, Fm, e1, rm, _⟩ := st.get e
    refine ⟨v, e1, ?_⟩
    cases m with
    | p d => cases rm with | p rp => exact hq _ _ _ _ _ _ hw ((Rx.start st nd).pure rp)
    | l ds => exact hq _ _ _ _ _ _ hw ⟨st, .one ⟨e1, rfl⟩, by simpa using nd, Keep.refl _ _, fun a ha => .inl (by simpa using ha)⟩
    | dc ms => exact hq _ _ _ _ _ _ hw ⟨st, .one ⟨e1, rfl⟩, by simpa using nd, Keep.refl _ _, fun a ha => .inl (by simpa using ha)⟩
theorem s_k {c : Const} {d : PyData} {j : Nat} (h : constB c d = true) : PE X (.Constant c j pos) (tE X.K (wpE Γ XF (.k d))) := by
  have fin : ∀ {v : V}, PE X (.Constant c j pos) (tC v) → (∀ H, RP X.K H v d) → PE X (.Constant c j pos) (tE X.K (wpE Γ XF (.k d))) := fun {v} p r =>
    PE.wk p fun σ H Q ⟨δ, F, Kc, st, nd, hw, hq⟩ => by
      rw [wpE] at hw
      exact hq _ _ _ _ _ _ hw ((Rx.start st nd).pure (r H))
  unfold constB at h
  split at h
  · exact fin pe_non fun _ => .non
  · rw [beq_iff_eq] at h; subst h; exact fin pe_bl fun _ => .bl _
  · rw [beq_iff_eq] at h; subst h; exact fin pe_int fun _ => .int _
  · rw [beq_iff_eq] at h; subst h; exact fin pe_str fun _ => .str _
  · cases h
theorem RP.scalar {K : PySem.W.Frag} {H H' : Hp} {v : V} {d e : PyData} (h : RP K H v d) (s : scB d e = true) : RP K H' v e := by
  unfold scB at s
  split at s
  · cases h; exact .non
  · rw [beq_iff_eq] at s; subst s; cases h; exact .bl _
  · rw [beq_iff_eq] at s; subst s; cases h; exact .int _
  · rw [beq_iff_eq] at s; subst s; cases h; exact .str _
  · cases s
theorem s_gk (o : OkX E Γ k X sc) {x y : Str} {d : PyData} (h : (x == y && globB sc x && okX x && E.C.any fun p => p.1 == x && scB p.2 d) = true) : PE X (.Name x pos) (tE X.K (wpE Γ XF (.gk y d))) := by
  simp only [Bool.and_eq_true, List.any_eq_true, beq_iff_eq] at h
  obtain ⟨⟨⟨h0, h1⟩, h2⟩, p, hp, e, hs⟩ := h
  obtain ⟨u, v, m, r, rp⟩ := o.con p hp
  rw [e] at m
  refine PE.wk (pe_glob (o.gl h1) m r (okX_1 h2)) fun σ H Q ⟨δ, F, Kc, st, nd, hw, hq⟩ => ?_
  rw [wpE] at hw
  exact hq _ _ _ _ _ _ hw ((Rx.start st nd).pure (rp.scalar hs))

/-! ### lists of codes -/
theorem s_Vnil : PA X [] (tV X.K 0 (wpV Γ XF .nil)) := PA.wk pa_nil fun σ H Q ⟨δ, F, Kc, st, nd, hw, hq⟩ => by
  rw [wpV] at hw
  exact hq _ _ _ _ _ _ hw rfl (Rx.start st nd)
theorem s_Vcons {e : Expr} {es : List Expr} {a as : C} (pl : plainB e = true) (ha : PE X e (tE X.K (wpE Γ XF a))) {n : Nat} (hs : PA X es (tV X.K n (wpV Γ XF as))) : PA X (e :: es) (tV X.K (n + 1) (wpV Γ XF (.cons a as))) :=
  PA.wk (pa_cons ha hs (plain_star pl _ _)) fun σ H Q ⟨δ, F, Kc, st, nd, hw, hq⟩ => by
    rw [wpV] at hw
    exact ⟨δ, F, _, st, nd, hw, fun x δ1 v H1 F1 Fv k1 r1 => ⟨δ1, F1, _, r1.st, nd_right r1.nd, k1, fun xs δ2 vs H2 F2 Fw k2 l2 r2 => hq _ _ _ _ _ _ k2 (congrArg (· + 1) l2) (r1.step r2)⟩⟩
theorem s_Knil : PK X [] (tV X.K 0 (wpV Γ XF .nil)) := ⟨fun ps pins s σ H Q I ⟨δ, F, Kc, st, nd, hw, hq⟩ => by
  rw [wpV] at hw
  exact pk_nil.run ps pins s σ H Q I (hq _ _ _ _ _ _ hw rfl (Rx.start st nd))⟩
theorem s_Kcons {nm : Option Str} {e : Expr} {es : List Keyword} {a as : C} (ha : PE X e (tE X.K (wpE Γ XF a))) {n : Nat} (hs : PK X es (tV X.K n (wpV Γ XF as))) : PK X (⟨nm, e, pos⟩ :: es) (tV X.K (n + 1) (wpV Γ XF (.cons a as))) :=
  ⟨fun ps pins s σ H Q I ⟨δ, F, Kc, st, nd, hw, hq⟩ => by
    rw [wpV] at hw
    exact (pk_cons ha hs).run ps pins s σ H Q I ⟨δ, F, _, st, nd, hw, fun x δ1 v H1 F1 Fv k1 r1 => ⟨δ1, F1, _, r1.st, nd_right r1.nd, k1, fun xs δ2 vs H2 F2 Fw k2 l2 r2 => hq _ _ _ _ _ _ k2 (congrArg (· + 1) l2) (r1.step r2)⟩⟩⟩
theorem s_Fnil : PA X [] (tF X.K (wpF Γ XF .nil)) := PA.wk pa_nil fun σ H Q ⟨δ, F, Kc, st, nd, hw, hq⟩ => by
  rw [wpF] at hw
  exact hq _ _ _ _ _ hw (Rx.start st nd)
theorem s_Fcons {e : Expr} {es : List Expr} {a as : C} (pl : plainB e = true) (ha : PE X e (tE X.K (wpE Γ XF a))) (hs : PA X es (tF X.K (wpF Γ XF as))) : PA X (e :: es) (tF X.K (wpF Γ XF (.cons a as))) :=
  PA.wk (pa_cons (pe_ghost ha) hs (plain_star pl _ _)) fun σ H Q ⟨δ, F, Kc, st, nd, hw, hq⟩ => by
    rw [wpF] at hw
    exact ⟨δ, F, _, st, nd, hw, fun x δ1 v H1 F1 Fv k1 r1 => frz_ok (Q := fun x H1 => tF X.K (wpF Γ XF as) σ H1 fun xs H2 => Q (x :: xs) H2) r1 k1 fun d δ' H' F' p rp rx => ⟨δ', F', _, rx.st, nd_right rx.nd, p, fun ds δ2 vs H2 F2 k2 r2 => hq _ _ _ _ _ k2 (rx.step r2)⟩⟩
/-- one code of a list, kept -/
theorem s_F1 {e : Expr} {a : C} (ha : PE X e (tE X.K (wpE Γ XF a))) : PE X e (fun σ H Q => ∃ δ F Kc, RS X.K H σ δ F ∧ F.Nodup ∧ wpF Γ XF (.cons a .nil) δ Kc ∧
    ∀ d δ' v H' F', Kc [d] δ' → RP X.K H' v d → Rx X.K σ H F H' δ' [v] [pv d] F' [] → Q v H') :=
  PE.wk (pe_ghost ha) fun σ H Q ⟨δ, F, Kc, st, nd, hw, hq⟩ => by
    rw [wpF] at hw
    refine ⟨δ, F, _, st, nd, hw, fun x δ1 v H1 F1 Fv k1 r1 => frz_ok r1 k1 fun d δ' H' F' p rp rx => ?_⟩
    rw [wpF] at p
    exact hq _ _ _ _ _ p rp rx
theorem s_tup {es : List Expr} {l : C} {j : Nat} (h : PA X es (tF X.K (wpF Γ XF l))) : PE X (.Tuple es j pos) (tE X.K (wpE Γ XF (.tup l))) :=
  PE.wk (pe_tup h) fun σ H Q ⟨δ, F, Kc, st, nd, hw, hq⟩ => by
    rw [wpE] at hw
    refine ⟨δ, F, _, st, nd, hw, fun ds δ' vs H' F' kc rx => ?_⟩
    have rp := rx.vl.pures
    exact ⟨by rw [rp.length]; exact kc.1, fun p hp => hq _ _ _ _ _ _ kc.2 (rx.newT hp rp)⟩
theorem s_lst {es : List Expr} {l : C} (h : PA X es (tF X.K (wpF Γ XF l))) : PE X (.List es pos) (tE X.K (wpE Γ XF (.lst l))) :=
  PE.wk (pe_lst h) fun σ H Q ⟨δ, F, Kc, st, nd, hw, hq⟩ => by
    rw [wpE] at hw
    refine ⟨δ, F, _, st, nd, hw, fun ds δ' vs H' F' kc rx => ?_⟩
    have rp := rx.vl.pures
    exact ⟨by rw [rp.length]; exact kc.1, fun p hp => hq _ _ _ _ _ _ kc.2 (rx.newL hp rp)⟩

/-! ### operators -/
theorem s_bin {ea eb : Expr} {a b : C} (op : BOp) (ha : PE X ea (tE X.K (wpE Γ XF a))) (hb : PE X eb (tE X.K (wpE Γ XF b))) : PE X (.BinOp ea (bopOf op) eb pos) (tE X.K (wpE Γ XF (.bin op a b))) :=
  PE.wk (pe_op (op_bin op) ha hb) fun σ H Q ⟨δ, F, Kc, st, nd, hw, hq⟩ => by
    rw [wpE] at hw
    refine ⟨δ, F, _, st, nd, hw, fun x δ1 v H1 F1 Fv k1 r1 => ⟨δ1, F1, _, r1.st, nd_right r1.nd, k1, fun y δ2 u H2 F2 Fu k2 r2 => ?_⟩⟩
    obtain ⟨m, n, e1, e2, hb⟩ := k2
    have r := r1.step r2
    obtain ⟨G, rs⟩ := r.vl.peeks (ms := [m, n]) r.st (peeks_two e1 e2)
    obtain ⟨v', w', G1, G2, e3, rm, rn⟩ := rs.two
    cases e3
    refine ⟨m, n, G1, G2, _, rm, rn, hb, fun z v' H' kz mk => ?_⟩
    obtain ⟨Fm, rx⟩ := r.made mk
    exact hq _ _ _ _ _ _ kz rx
theorem s_neg {ea : Expr} {a : C} (ha : PE X ea (tE X.K (wpE Γ XF a))) : PE X (.UnaryOp .USub ea pos) (tE X.K (wpE Γ XF (.neg a))) :=
  PE.wk (pe_un un_neg ha) fun σ H Q ⟨δ, F, Kc, st, nd, hw, hq⟩ => by
    rw [wpE] at hw
    refine ⟨δ, F, _, st, nd, hw, fun x δ1 v H1 F1 Fv k1 r1 => ?_⟩
    obtain ⟨i, e, kc⟩ := k1
    obtain ⟨G, rm, _⟩ := r1.vl.one'.peek r1.st e
    have ev := rm.pI
    exact ⟨i, ev, hq _ _ _ _ _ _ kc (r1.pure (.int _))⟩
theorem cmp_go {op : COp} {H : Hp} {σ : L2.St} {F : List Addr} {H2 : Hp} {δ2 : De} {F2 Fw : List Addr} {v u : V} {x y : Val} {Kb : Bool → Prop} {Q : VK} (r : Rx X.K σ H F H2 δ2 [v, u] [x, y] F2 Fw)
    (h : ∃ m n, peek δ2 x = some m ∧ peek δ2 y = some n ∧ cmpM op m n Kb) (hq : ∀ b, Kb b → Q (.bl b) H2) : rOpB X.K (cmpM op) v u H2 Q := by
  obtain ⟨m, n, e1, e2, hb⟩ := h
  obtain ⟨G, rs⟩ := r.vl.peeks (ms := [m, n]) r.st (peeks_two e1 e2)
  obtain ⟨v', w', G1, G2, e3, rm, rn⟩ := rs.two
  cases e3
  exact ⟨m, n, G1, G2, _, rm, rn, hb, hq⟩
theorem OkX.u65 (o : OkX E Γ k X sc) : X.A.units + 65 < cLine := by have := o.un; omega
theorem s_cmp (o : OkX E Γ k X sc) {ea eb : Expr} {a b : C} (op : COp) (pl : plainB eb = true) (ha : PE X ea (tE X.K (wpE Γ XF a))) (hb : PE X eb (tE X.K (wpE Γ XF b))) : PE X (.Compare ea [copOf op] [eb] pos) (tE X.K (wpE Γ XF (.cmp op a b))) :=
  PE.wk (pe_cmpR (op_cmp o.u65 op) ha hb (plain_in pl _)) fun σ H Q ⟨δ, F, Kc, st, nd, hw, hq⟩ => by
    rw [wpE] at hw
    refine ⟨δ, F, _, st, nd, hw, fun x δ1 v H1 F1 Fv k1 r1 => ⟨δ1, F1, _, r1.st, nd_right r1.nd, k1, fun y δ2 u H2 F2 Fu k2 r2 => ?_⟩⟩
    exact cmp_go (r1.step r2) k2 fun b kb => hq _ _ _ _ _ _ kb ((r1.step r2).pure (.bl _))
theorem s_cmpT (o : OkX E Γ k X sc) {ea eb : Expr} {a b : C} (op : COp) (pl : plainB eb = true) (ha : PE X ea (tE X.K (wpE Γ XF a))) (hb : PE X eb (tE X.K (wpE Γ XF b))) : PT X (.Compare ea [copOf op] [eb] pos) (tT X.K (wpT Γ XF (.tv (.cmp op a b)))) :=
  PT.wk (pt_cmpR (op_cmp o.u65 op) ha hb (plain_in pl _)) fun σ H Q ⟨δ, F, Kc, st, nd, hw, hq⟩ => by
    rw [wpT, wpE] at hw
    refine ⟨δ, F, _, st, nd, hw, fun x δ1 v H1 F1 Fv k1 r1 => ⟨δ1, F1, _, r1.st, nd_right r1.nd, k1, fun y δ2 u H2 F2 Fu k2 r2 => ?_⟩⟩
    refine cmp_go (r1.step r2) k2 fun b kb => ?_
    obtain ⟨m, e, kb⟩ := kb
    cases e
    exact ⟨b, rfl, hq _ _ _ _ kb (r1.step r2).drop⟩

theorem s_ch (o : OkX E Γ k X sc) {ea eb ec : Expr} {a b c : C} (o1 o2 : COp) (pl : plainB ec = true) (ha : PE X ea (tE X.K (wpE Γ XF a))) (hb : PE X eb (tE X.K (wpE Γ XF b))) (hc : PE X ec (tE X.K (wpE Γ XF c))) :
    PE X (.Compare ea [copOf o1, copOf o2] [eb, ec] pos) (tE X.K (wpE Γ XF (.ch o1 o2 a b c))) :=
  PE.wk (pe_chain (op_cmp o.u65 o1) (op_cmp o.u65 o2) ha hb hc (plain_in pl _)) fun σ H Q ⟨δ, F, Kc, st, nd, hw, hq⟩ => by
    rw [wpE] at hw
    refine ⟨δ, F, _, st, nd, hw, fun x δ1 v H1 F1 Fv k1 r1 => ⟨δ1, F1, _, r1.st, nd_right r1.nd, k1, fun y δ2 u H2 F2 Fu k2 r2 => ?_⟩⟩
    refine cmp_go (r1.step r2) k2 fun r kb => ⟨r, rfl, ?_⟩
    cases r with
    | false => exact hq _ _ _ _ _ _ kb ((r1.step r2).pure (.bl _))
    | true =>
      have kb' : wpE Γ XF c δ2 fun z δ3 => ∃ n' q, peek δ3 y = some n' ∧ peek δ3 z = some q ∧ cmpM o2 n' q fun r => Kc (.own (.p (.bool r))) δ3 := kb
      refine ⟨δ2, F2, _, r2.st, nd_right r2.nd, kb', fun z δ3 w H3 F3 Fz k3 r3 => ?_⟩
      have rr := r2.step r3
      exact cmp_go rr k3 fun b kb => hq _ _ _ _ _ _ kb (((r1.step r2).step r3).pure (.bl _))
theorem s_chT (o : OkX E Γ k X sc) {ea eb ec : Expr} {a b c : C} (o1 o2 : COp) (pl : plainB ec = true) (ha : PE X ea (tE X.K (wpE Γ XF a))) (hb : PE X eb (tE X.K (wpE Γ XF b))) (hc : PE X ec (tE X.K (wpE Γ XF c))) :
    PT X (.Compare ea [copOf o1, copOf o2] [eb, ec] pos) (tT X.K (wpT Γ XF (.tv (.ch o1 o2 a b c)))) :=
  PT.wk (pt_chain (op_cmp o.u65 o1) (op_cmp o.u65 o2) ha hb hc (plain_in pl _)) fun σ H Q ⟨δ, F, Kc, st, nd, hw, hq⟩ => by
    rw [wpT, wpE] at hw
    refine ⟨δ, F, _, st, nd, hw, fun x δ1 v H1 F1 Fv k1 r1 => ⟨δ1, F1, _, r1.st, nd_right r1.nd, k1, fun y δ2 u H2 F2 Fu k2 r2 => ?_⟩⟩
    refine cmp_go (r1.step r2) k2 fun r kb => ⟨r, rfl, ?_⟩
    cases r with
    | false =>
      have kb' : ∃ m, peek δ2 (.own (.p (.bool false))) = some m ∧ truM m fun b => Kc b δ2 := kb
      obtain ⟨m, e, kb'⟩ := kb'
      cases e
      exact ⟨false, rfl, hq _ _ _ _ kb' (r1.step r2).drop⟩
    | true =>
      have kb' : wpE Γ XF c δ2 fun z δ3 => ∃ n' q, peek δ3 y = some n' ∧ peek δ3 z = some q ∧ cmpM o2 n' q fun r => ∃ m, peek δ3 (.own (.p (.bool r))) = some m ∧ truM m fun b => Kc b δ3 := kb
      refine ⟨δ2, F2, _, r2.st, nd_right r2.nd, kb', fun z δ3 w H3 F3 Fz k3 r3 => ?_⟩
      refine cmp_go (r2.step r3) k3 fun b kb => ?_
      obtain ⟨m, e, kb⟩ := kb
      cases e
      exact ⟨b, rfl, hq _ _ _ _ kb ((r1.step r2).step r3).drop⟩
theorem s_ite {et ea eb : Expr} {t a b : C} (ht : PT X et (tT X.K (wpT Γ XF t))) (ha : PE X ea (tE X.K (wpE Γ XF a))) (hb : PE X eb (tE X.K (wpE Γ XF b))) : PE X (.IfExp et ea eb pos) (tE X.K (wpE Γ XF (.ite t a b))) :=
  PE.wk (pe_ifExp ht ha hb) fun σ H Q ⟨δ, F, Kc, st, nd, hw, hq⟩ => by
    rw [wpE] at hw
    refine ⟨δ, F, _, st, nd, hw, fun r δ1 H1 F1 k1 r1 => ?_⟩
    cases r with
    | true => exact ⟨δ1, F1, Kc, r1.st, nd_right r1.nd, k1, fun x δ2 v H2 F2 Fv k2 r2 => hq _ _ _ _ _ _ k2 (r1.step r2)⟩
    | false => exact ⟨δ1, F1, Kc, r1.st, nd_right r1.nd, k1, fun x δ2 v H2 F2 Fv k2 r2 => hq _ _ _ _ _ _ k2 (r1.step r2)⟩
theorem s_not {e : Expr} {t : C} (ht : PE X e (tE X.K (wpE Γ XF t))) : PE X (.UnaryOp .Not e pos) (tE X.K (wpE Γ XF (.not t))) := by
  refine ⟨fun pins s σ H Q I ⟨δ, F, Kc, st, nd, hw, hq⟩ => ?_⟩
  rw [wpE] at hw
  refine UnaryOp_ (thn (ht.run pins s σ H (fun v H1 => ∃ b, TruV X.K v H1 b ∧ Q (.bl (!b)) H1) I ⟨δ, F, _, st, nd, hw, fun x δ1 v H1 F1 Fv k1 r1 => ?_⟩) fun u s1 ⟨v, H1, I1, rv, b, tb, q⟩ => ?_)
  · obtain ⟨m, e, hm⟩ := k1
    obtain ⟨G, rm, _⟩ := r1.vl.one'.peek r1.st e
    obtain ⟨b, tb, kb⟩ := tru_M rm hm
    exact ⟨b, tb, hq _ _ _ _ _ _ kb (r1.pure (.bl _))⟩
  · exact PyProof.Rows.not_of (thn (tru_ok pins s1 σ H1 v u (fun c H2 => c = b ∧ H2 = H1) I1 rv ⟨b, tb, rfl, rfl⟩) fun c s2 ⟨H2, I2, e1, e2⟩ => by
      subst e1 e2
      exact ⟨.bl (!c), H2, I2, rfl, q⟩)

/-! ### items, slices -/
theorem s_ix (o : OkX E Γ k X sc) {ea eb : Expr} {a b : C} (pl : plainB eb = true) (ha : PE X ea (tE X.K (wpE Γ XF a))) (hb : PE X eb (tE X.K (wpE Γ XF b))) : PE X (.Subscript ea eb pos) (tE X.K (wpE Γ XF (.ix a b))) :=
  PE.wk (pe_ix (ix_M (by have := o.un; omega)) ha hb (plain_ix pl)) fun σ H Q ⟨δ, F, Kc, st, nd, hw, hq⟩ => by
    rw [wpE] at hw
    refine ⟨δ, F, _, st, nd, hw, fun x δ1 v H1 F1 Fv k1 r1 => ⟨δ1, F1, _, r1.st, nd_right r1.nd, k1, fun y δ2 u H2 F2 Fu k2 r2 => ?_⟩⟩
    obtain ⟨m, d, e1, rfl, hi⟩ := k2
    have r := r1.step r2
    obtain ⟨G, rs⟩ := r.vl.peeks (ms := [m, .p d]) r.st (peeks_two e1 rfl)
    obtain ⟨v', w', G1, G2, e3, rm, rn⟩ := rs.two
    cases e3
    cases rn with
    | p rp => exact ⟨m, d, _, _, rm, rp, hi, fun z v' kz rz => hq _ _ _ _ _ _ kz (r.pure rz)⟩
theorem s_O {eo : Option Expr} {a : C} (h : (a = .nil ∧ eo = none) ∨ ∃ e c, a = .cons c .nil ∧ eo = some e ∧ PE X e (tE X.K (wpE Γ XF c))) :
    PO X eo (fun σ H Q => ∃ δ F Kc, RS X.K H σ δ F ∧ F.Nodup ∧ wpF Γ XF a δ Kc ∧ ∀ ds δ' H' F', Kc ds δ' → Rx X.K σ H F H' δ' [] [] F' [] → ∃ l, optI ds = some l ∧ Q l H') := by
  rcases h with ⟨rfl, rfl⟩ | ⟨e, c, rfl, rfl, p⟩
  · refine ⟨fun pins s σ H Q I ⟨δ, F, Kc, st, nd, hw, hq⟩ => po_none.run pins s σ H Q I ?_⟩
    rw [wpF] at hw
    obtain ⟨l, e1, q⟩ := hq _ _ _ _ hw (Rx.start st nd)
    simp only [optI, Option.some.injEq] at e1
    subst e1
    exact q
  · refine ⟨fun pins s σ H Q I ⟨δ, F, Kc, st, nd, hw, hq⟩ => (po_some (s_F1 p)).run pins s σ H Q I ?_⟩
    refine ⟨δ, F, Kc, st, nd, hw, fun d δ' v H' F' kc rp rx => ?_⟩
    obtain ⟨l, e1, q⟩ := hq _ _ _ _ kc rx.drop
    cases rp with
    | int i =>
      simp only [optI, Option.some.injEq] at e1
      subst e1
      exact ⟨i, rfl, q⟩
    | _ => simp [optI] at e1
theorem s_sl {ea : Expr} {el eh : Option Expr} {a lo hi : C} (ha : PE X ea (tE X.K (wpE Γ XF a)))
    (hl : (lo = .nil ∧ el = none) ∨ ∃ e c, lo = .cons c .nil ∧ el = some e ∧ PE X e (tE X.K (wpE Γ XF c))) (hh : (hi = .nil ∧ eh = none) ∨ ∃ e c, hi = .cons c .nil ∧ eh = some e ∧ PE X e (tE X.K (wpE Γ XF c))) :
    PE X (.Subscript ea (.Slice el eh none p2) pos) (tE X.K (wpE Γ XF (.sl a lo hi))) :=
  PE.wk (pe_slice sl_M ha (s_O hl) (s_O hh)) fun σ H Q ⟨δ, F, Kc, st, nd, hw, hq⟩ => by
    rw [wpE] at hw
    refine ⟨δ, F, _, st, nd, hw, fun x δ1 v H1 F1 Fv k1 r1 => ⟨δ1, F1, _, r1.st, nd_right r1.nd, k1, fun ls δ2 H2 F2 k2 r2 => ?_⟩⟩
    obtain ⟨l, el, k2⟩ := k2
    refine ⟨l, el, δ2, F2, _, r2.st, nd_right r2.nd, k2, fun hs δ3 H3 F3 k3 r3 => ?_⟩
    obtain ⟨h, eh, m, e, kk⟩ := k3
    have r := (r1.step r2).step r3
    obtain ⟨G, rm, _⟩ := (r.vl.one').peek r.st e
    refine ⟨h, eh, m, G, _, rm, kk, fun z v' H' kz mk => ?_⟩
    obtain ⟨Fm, rx⟩ := r.made mk
    exact hq _ _ _ _ _ _ kz rx
theorem s_rev {ea : Expr} {a : C} {j : Nat} {q1 q2 q3 : Pos} (ha : PE X ea (tE X.K (wpE Γ XF a))) : PE X (.Subscript ea (.Slice none none (some (.UnaryOp .USub (.Constant (.int 1) j q1) q2)) q3) pos) (tE X.K (wpE Γ XF (.rev a))) :=
  PE.wk (pe_revL ha) fun σ H Q ⟨δ, F, Kc, st, nd, hw, hq⟩ => by
    rw [wpE] at hw
    refine ⟨δ, F, _, st, nd, hw, fun x δ1 v H1 F1 Fv k1 r1 => ?_⟩
    obtain ⟨m, ds, e, e2, kc⟩ := k1
    obtain ⟨G, rm, _⟩ := r1.vl.one'.peek r1.st e
    obtain ⟨l, xs, rfl, hl, rs⟩ := rm.lst e2
    exact ⟨l, xs, rfl, hl, fun p hp => hq _ _ _ _ _ _ kc (r1.newL hp rs.reverse)⟩

/-! ### built-ins, methods, calls -/
theorem bi_blt : ∀ f : BI, biName f ∈ bltNames ∧ bootBuiltins (biName f) = some (biVal f) ∧ (biName f ≠ "__name__") ∧ (biName f == ("__debug__" : Str)) = false := by
  intro f
  cases f <;> exact ⟨by decide +kernel, by decide +kernel, by decide +kernel, by decide +kernel⟩
theorem pe_bi (o : OkX E Γ k X sc) (f : BI) {r : List V → Hp → VK → Prop} (hc : CallR X (biVal f) r) (hg : Gl X (biName f)) {e : Expr} {es : List Expr} {t : TA} (ha : PA X (e :: es) t) (pl : plains (e :: es) = true) :
    PE X (.Call (.Name (biName f) p2) (e :: es) [] pos) (tCB r t) := by
  obtain ⟨h1, h2, h3, h4⟩ := bi_blt f
  unfold plains at pl
  rw [List.all_cons, Bool.and_eq_true] at pl
  have he := plain_star pl.1 es X.env
  have hpl := plains_any pl.2 X.env pos
  cases f <;> first
    | exact pe_callB hc hg (o.blt _ h1) h2 ha h3 h4 he hpl
    | exact pe_callTy hc hg (o.blt _ h1) h2 ha h3 h4 he hpl
theorem s_bi (o : OkX E Γ k X sc) (f : BI) (hg : globB sc (biName f) = true) {e : Expr} {es : List Expr} {l : C} (pl : plains (e :: es) = true) {n : Nat} (ha : PA X (e :: es) (tV X.K n (wpV Γ XF l))) :
    PE X (.Call (.Name (biName f) p2) (e :: es) [] pos) (tE X.K (wpE Γ XF (.bi f l))) :=
  PE.wk (pe_bi o f (call_bi o.dig o.calm o.gd (by have := o.un; omega) f) (o.gl hg) ha pl) fun σ H Q ⟨δ, F, Kc, st, nd, hw, hq⟩ => by
    rw [wpE] at hw
    refine ⟨δ, F, _, st, nd, hw, fun xs δ1 vs H1 F1 Fv k1 _ r1 => ?_⟩
    obtain ⟨ms, e, hb⟩ := k1
    obtain ⟨G, rs⟩ := r1.vl.peeks r1.st e
    refine ⟨ms, G, _, rs, hb, fun r v H' kr mk => ?_⟩
    obtain ⟨Fm, rx⟩ := r1.made mk
    exact hq _ _ _ _ _ _ kr rx
theorem ty_blt : ∀ t ∈ ["int", "bool", "str", "list", "tuple", "dict"], Str.ofString t ∈ bltNames ∧ bootBuiltins (Str.ofString t) = some (.type t) ∧ (Str.ofString t ≠ "__name__") ∧ (Str.ofString t == ("__debug__" : Str)) = false := by
  decide +kernel
theorem s_isi (o : OkX E Γ k X sc) {t : String} {x : Str} {ea : Expr} {a : C} (ex : (x == ("isinstance" : Str)) = true) (hg : globB sc x = true) (hg2 : globB sc (Str.ofString t) = true) (ht : t ∈ ["int", "bool", "str", "list", "tuple", "dict"]) (pl : plainB ea = true)
    (ha : PE X ea (tE X.K (wpE Γ XF a))) : PE X (.Call (.Name x p2) [ea, .Name (Str.ofString t) p3] [] pos) (tE X.K (wpE Γ XF (.isi a t))) := by
  rw [beq_iff_eq] at ex
  subst ex
  obtain ⟨h1, h2, h3, h4⟩ := ty_blt t ht
  have hty : PE X (.Name (Str.ofString t) p3) (tC (.ty t)) := pe_bltn (o.gl hg2) (o.blt _ h1) h2 rfl h3 h4
  have hs := plain_star pl [.Name (Str.ofString t) p3] X.env
  refine PE.wk (pe_callB call_isi (o.gl hg) (o.blt _ (by decide +kernel)) (by decide +kernel) (pa_cons ha (pa_cons hty pa_nil) hs) (by decide +kernel) (by decide +kernel) hs rfl) fun σ H Q ⟨δ, F, Kc, st, nd, hw, hq⟩ => ?_
  rw [wpE] at hw
  refine ⟨δ, F, _, st, nd, hw, fun x δ1 v H1 F1 Fv k1 r1 => ?_⟩
  obtain ⟨m, e, hm⟩ := k1
  obtain ⟨G, rm, _⟩ := r1.vl.one'.peek r1.st e
  obtain ⟨kn, ty, hk⟩ := isi_ty rm
  exact ⟨v, .ty t, .type kn, .type t, _, rfl, .ty t, ty, kit_ty (hk t ht), hq _ _ _ _ _ _ hm.2 (r1.pure (.bl _))⟩
theorem base_ok {o : Expr} {x : Str} {env : Env} (h : baseB o = true) : attributeBase o x env (eval o env) = eval o env := by
  unfold attributeBase
  cases o <;> first
    | rfl
    | (rename_i f as ks p; cases f <;> first | rfl | (cases as <;> first | rfl | (cases ks <;> first | rfl | cases h)))
theorem me_slot (f : ME) : PlainAttrs (meId f).1 ∧ Slot (meId f).1 (meId f).2.2 (meId f).2.1 ∧ typeOf (.builtin (meId f).2.1) = pure (.type "method_descriptor") := by
  cases f
  · exact ⟨F.plainAttrs_str, F.slot_str_join, F.type_str_join⟩
  · exact ⟨F.plainAttrs_str, F.slot_str_split, F.type_str_split⟩
  · exact ⟨F.plainAttrs_list, F.slot_list_index, F.type_list_index⟩
  · exact ⟨F.plainAttrs_str, F.slot_str_upper, F.type_str_upper⟩
  · exact ⟨F.plainAttrs_list, F.slot_list_count, F.type_list_count⟩
theorem mu_slot (f : MU) : Slot "list" (muId f).2 (muId f).1 ∧ typeOf (.builtin (muId f).1) = pure (.type "method_descriptor") := by
  cases f
  · exact ⟨F.slot_list_append, F.type_list_append⟩
  · exact ⟨F.slot_list_insert, F.type_list_insert⟩
  · exact ⟨F.slot_list_pop, F.type_list_pop⟩
  · exact ⟨F.slot_list_extend, F.type_list_extend⟩
  · exact ⟨F.slot_list_remove, F.type_list_remove⟩
theorem few_ok {es : List Expr} {env : Env} {pos : Pos} (pl : plains es = true) (h : es.length < 30) : ((backTo pos (starEach es env)).all (fun x => !x.1) && (backToKw pos (keywordEach [] env)).all (fun x => x.1.isSome)
      && decide (es.length + ([] : List Keyword).length + (if ([] : List Keyword).isEmpty then 0 else 1) < 30)) = true := by
  rw [plains_all pl]
  show (true && true && decide (es.length + 0 + 0 < 30)) = true
  simp [h]
theorem pe_me {T id : String} {name : Str} {r : V → List V → Hp → VK → Prop} {o e : Expr} {es : List Expr} {to : TE} {t : TA} {apos cpos : Pos} (pa : PlainAttrs T) (slot : Slot T name id) (hty : typeOf (.builtin id) = pure (.type "method_descriptor")) (hm : MtR X id r) (ho : PE X o to) (ha : PA X (e :: es) t)
    (hb : baseB o = true) (pl : plains (e :: es) = true) (h30 : (e :: es).length < 30) (hline : (apos.endLine == cpos.line) = true) : PE X (.Call (.Attribute o name apos) (e :: es) [] cpos) (tBM X.K T r to t) := by
  have pl' := pl
  unfold plains at pl'
  rw [List.all_cons, Bool.and_eq_true] at pl'
  exact pe_bm pa slot hty hm ho ha (base_ok hb) (few_ok pl h30) hline (plain_star pl'.1 es X.env) (plains_any pl'.2 X.env cpos)
theorem s_me (f : ME) {o e : Expr} {es : List Expr} {c l : C} {x : Str} {apos cpos : Pos} (ex : (x == (meId f).2.2) = true) (hb : baseB o = true) (pl : plains (e :: es) = true) (h30 : (e :: es).length < 30) (hline : (apos.endLine == cpos.line) = true)
    (ho : PE X o (tE X.K (wpE Γ XF c))) {n : Nat} (ha : PA X (e :: es) (tV X.K n (wpV Γ XF l))) : PE X (.Call (.Attribute o x apos) (e :: es) [] cpos) (tE X.K (wpE Γ XF (.me f c l))) := by
  rw [beq_iff_eq] at ex
  subst ex
  obtain ⟨h1, h2, h3⟩ := me_slot f
  refine PE.wk (pe_me h1 h2 h3 (mt_M f) ho ha hb pl h30 hline) fun σ H Q ⟨δ, F, Kc, st, nd, hw, hq⟩ => ?_
  rw [wpE] at hw
  refine ⟨δ, F, _, st, nd, hw, fun x δ1 v H1 F1 Fv k1 r1 => ?_⟩
  obtain ⟨⟨m0, e0, ty0⟩, k1⟩ := k1
  obtain ⟨G0, rm0, _⟩ := r1.vl.one'.peek r1.st e0
  refine ⟨?_, δ1, F1, _, r1.st, nd_right r1.nd, k1, fun xs δ2 vs H2 F2 Fw k2 _ r2 => ?_⟩
  · cases f with
    | join => obtain ⟨a, rfl⟩ := ty0; have := rm0.pS; subst this; rfl
    | _ => exact ty0.elim
  · obtain ⟨m, ms, e1, e2, hm⟩ := k2
    have r := r1.step r2
    have rv := r.vl
    have e3 := peeks_cons e1 e2
    obtain ⟨G, rs⟩ := rv.peeks r.st e3
    cases rs with
    | cons a b =>
      refine ⟨m, ms, _, _, _, a, b, hm, fun z v' H' kz mk => ?_⟩
      obtain ⟨Fm, rx⟩ := r.made mk
      exact hq _ _ _ _ _ _ kz rx
end
end Q
set_option Elab.async false
set_option linter.all false
set_option maxRecDepth 100000
set_option maxHeartbeats 1000000
/-! LJ: what changes what a name holds; calls; tests. -/
namespace Q
open PySem PySem.Spec PyProof.Rows L2

section
variable {K : PySem.W.Frag} {H H1 H2 H' : Hp} {σ : L2.St} {F F2 Fv : List Addr} {δ δ2 : De} {vs : List V} {xs : List Val}
theorem set_same {v : V} {i : Nat} (h : σ[i]? = some (some v)) : σ.set i (some v) = σ := by
  obtain ⟨hl, h1⟩ := List.getElem?_eq_some_iff.mp h
  rw [← h1]; exact List.set_getElem_self hl
/-- a place is given something else to hold -/
theorem Rx.slot (r : Rx K σ H F H2 δ2 vs xs F2 Fv) (i : Nat) (hi : i < δ2.length) :
    ∃ Fm, (∀ m, (δ2[i]?).getD none = some m → ∃ v, σ[i]? = some (some v) ∧ RM K H2 v m Fm) ∧ Fm.Nodup ∧ (∀ x ∈ Fm, x ∈ F2) ∧
      ∀ (H' : Hp) (G : List Addr) (v : V) (m : M) (Fn : List Addr), Keep H2 H' G → (∀ a ∈ G, a ∈ Fm ∨ a ∈ Fv) → Owns H2 G → RM K H' v m Fn → Fn.Nodup → (∀ x ∈ Fn, x ∈ Fm ∨ x ∈ Fv ∨ H2 x = none) →
        ∃ F', Rx K (σ.set i (some v)) H F H' (δ2.set i (some m)) [] [] F' [] := by
  obtain ⟨Fm, R, pm, g, z, up⟩ := r.st.upd i hi
  have nd1 : (Fm ++ R).Nodup := pm.nodup_iff.mp (nd_right r.nd)
  have frF : ∀ y ∈ Fm ++ R, y ∈ F ∨ H y = none := fun y hy => r.fr y (List.mem_append_right _ (pm.mem_iff.mpr hy))
  refine ⟨Fm, g, nd_left nd1, fun x hx => pm.mem_iff.mpr (List.mem_append_left _ hx), fun H' G v m Fn k hG oG rm ndn hn => ?_⟩
  have s := k.still oG
  have dj : ∀ y ∈ R, y ∉ G := fun y hy hz => by
    rcases hG y hz with w | w
    · exact nd_apart nd1 w hy
    · exact nd_apart r.nd w (pm.mem_iff.mpr (List.mem_append_right _ hy))
  obtain ⟨F', w, q⟩ := up H' G v m Fn k s dj rm
  have hz : ∀ x, H2 x = none → x ∈ F ∨ H x = none := fun x hx => by
    by_cases hF : x ∈ F
    · exact .inl hF
    · refine .inr ?_
      cases e : H x with
      | none => rfl
      | some o => rw [r.kp x o e hF] at hx; cases hx
  refine ⟨F', w, .nil, ?_, fun b o eb nb => ?_, fun x hx => ?_⟩
  · refine q.nodup_iff.mpr (nd_mk ndn (nd_right nd1) fun x hx hy => ?_)
    rcases hn x hx with a | a | a
    · exact nd_apart nd1 a hy
    · exact nd_apart r.nd a (pm.mem_iff.mpr (List.mem_append_right _ hy))
    · obtain ⟨o, e, _⟩ := z.owns x hy
      rw [a] at e; cases e
  · refine k b o (r.kp b o eb nb) fun hb => ?_
    have : b ∈ F ∨ H b = none := by
      rcases hG b hb with w | w
      · exact frF b (List.mem_append_left _ w)
      · exact r.fr b (List.mem_append_left _ w)
    rcases this with y | y
    · exact nb y
    · rw [eb] at y; cases y
  · rcases List.mem_append.mp (q.mem_iff.mp (by simpa using hx)) with hx | hx
    · rcases hn x hx with a | a | a
      · exact frF x (List.mem_append_left _ a)
      · exact r.fr x (List.mem_append_left _ a)
      · exact hz x a
    · exact frF x (List.mem_append_right _ hx)
theorem getD_lt {i : Nat} {m : M} (h : (δ[i]?).getD none = some m) : i < δ.length := by
  by_cases hi : i < δ.length
  · exact hi
  · rw [List.getElem?_eq_none (by omega)] at h; cases h
/-- a list that a name holds is written -/
theorem Rx.put (r : Rx K σ H F H2 δ2 vs xs F2 Fv) {i : Nat} {a : Addr} {zs ws : List V} {ds es : List PyData} (e : (δ2[i]?).getD none = some (.l ds)) (ev : σ[i]? = some (some (.ref a))) (ea : H2 a = some (.lst zs)) (rp : RPs K H2 ws es) :
    ∃ F', Rx K σ H F (upd H2 a (.lst ws)) (δ2.set i (some (.l es))) [] [] F' [] := by
  obtain ⟨Fm, g, nd, _, up⟩ := r.slot i (getD_lt e)
  obtain ⟨v, e1, rm⟩ := g _ e
  rw [ev] at e1; cases e1
  cases rm with
  | l h1 h2 =>
    have k : Keep H2 (upd H2 a (.lst ws)) [a] := fun b o eb n => by rw [upd_ne (by simpa using n)]; exact eb
    have o : Owns H2 [a] := fun b hb => by rw [List.mem_singleton] at hb; subst hb; exact ⟨_, ea, trivial⟩
    obtain ⟨F', rx⟩ := up _ [a] (.ref a) (.l es) [a] k (fun b hb => .inl hb) o (.l upd_same (rp.still (k.still o))) nd fun x hx => .inl hx
    rw [set_same ev] at rx
    exact ⟨F', rx⟩
end

section
variable {E : SE} {Γ : List Spec} {k : Nat} {X : Cx} {sc : Scope} {pos p2 p3 : Pos}
theorem s_mu (o : OkX E Γ k X sc) (f : MU) {i : Nat} {y x : Str} {e : Expr} {es : List Expr} {l : C} {apos cpos : Pos} (ex : (x == (muId f).2) = true) (h1 : decide (E.N[i]? = some y) = true) (h2 : visB sc y = true) (h3 : okX y = true)
    (pl : plains (e :: es) = true) (h30 : (e :: es).length < 30) (hline : (apos.endLine == cpos.line) = true) (ha : PA X (e :: es) (tF X.K (wpF Γ XF l))) : PE X (.Call (.Attribute (.Name y p2) x apos) (e :: es) [] cpos) (tE X.K (wpE Γ XF (.mu f i l))) := by
  rw [beq_iff_eq] at ex
  subst ex
  obtain ⟨m1, m2⟩ := mu_slot f
  refine PE.wk (pe_me F.plainAttrs_list m1 m2 (mt_U f) (pe_var (i := i) (o.at h1) (o.vis h2) (okX_1 h3) (okX_2 h3)) ha rfl pl h30 hline) fun σ H Q ⟨δ, F, Kc, st, nd, hw, hq⟩ => ?_
  rw [wpE] at hw
  obtain ⟨⟨ds0, e0⟩, hw⟩ := hw
  obtain ⟨v0, Fm0, ev, rm0, _⟩ := st.get e0
  cases rm0 with
  | @l a0 zs0 _ ha0 rs0 =>
    refine ⟨_, ev, .inl ⟨rfl, _, .of ha0⟩, δ, F, _, st, nd, hw, fun ds δ1 vs H1 F1 k1 r1 => ?_⟩
    obtain ⟨m, e1, hm⟩ := k1
    obtain ⟨v1, Fm1, ev1, rm1, hs1⟩ := r1.st.get e1
    rw [ev] at ev1; cases ev1
    -- what is written is a list of its own
    have hl : ∃ d1, m = .l d1 := by
      unfold muM at hm
      split at hm <;> first | exact ⟨_, rfl⟩ | exact hm.elim
    obtain ⟨d1, rfl⟩ := hl
    cases rm1 with
    | @l _ zs1 _ ha1 rs1 =>
      refine ⟨a0, zs1, .l d1, ds, _, rfl, ha1, .l ha1 rs1, r1.vl.pures, hm, fun r m' v zs' ds' kr em rp rps => ?_⟩
      subst em
      obtain ⟨F', rx⟩ := r1.put e1 ev ha1 rps
      exact hq _ _ _ _ _ _ kr (rx.pure (rp.still (Keep.still (F := [a0]) (fun b o eb n => by rw [upd_ne (by simpa using n)]; exact eb) fun b hb => by
        rw [List.mem_singleton] at hb; subst hb; exact ⟨_, ha1, trivial⟩)))

/-! ### what is handed to a def and comes back -/
theorem peek_set {δ : De} {i : Nat} {m : Option M} {x : Val} (h : ∀ j, x = .at j → j ≠ i) : peek (δ.set i m) x = peek δ x := by
  cases x with
  | own _ => rfl
  | «at» j =>
    have hj := h j rfl
    simp only [peek]
    rw [List.getElem?_set_ne (fun e => hj e.symm)]
theorem peeks_set {δ : De} {i : Nat} {m : Option M} : ∀ {xs : List Val}, i ∉ ats xs → peeks (δ.set i m) xs = peeks δ xs
  | [], _ => rfl
  | .own _ :: xs, h => by
    simp only [Q.peeks]
    rw [peek_set (fun j e => by cases e), peeks_set (xs := xs) (by simpa [ats] using h)]
  | .at j :: xs, h => by
    simp only [ats, List.mem_cons, not_or] at h
    simp only [Q.peeks]
    rw [peek_set (fun j' e => by cases e; exact fun z => h.1 z.symm), peeks_set (xs := xs) h.2]
theorem writeB_set {i : Nat} {m : Option M} : ∀ {xs : List Val} {os : List M} {δ : De}, i ∉ ats xs → writeB xs os (δ.set i m) = (writeB xs os δ).set i m
  | [], _, _, _ => by simp [writeB]
  | .own _ :: xs, [], _, _ => by simp [writeB]
  | .at j :: xs, [], _, _ => by simp [writeB]
  | .own _ :: xs, o :: os, δ, h => by
    simp only [writeB]
    exact writeB_set (xs := xs) (by simpa [ats] using h)
  | .at j :: xs, o :: os, δ, h => by
    simp only [ats, List.mem_cons, not_or] at h
    simp only [writeB]
    rw [List.set_comm _ _ h.1, writeB_set (xs := xs) h.2]
theorem writeB_length : ∀ {xs : List Val} {os : List M} {δ : De}, (writeB xs os δ).length = δ.length
  | [], _, _ => by simp [writeB]
  | .own _ :: xs, [], _ => by simp [writeB]
  | .at j :: xs, [], _ => by simp [writeB]
  | .own _ :: xs, o :: os, δ => by simp only [writeB]; exact writeB_length
  | .at j :: xs, o :: os, δ => by simp only [writeB]; rw [writeB_length, List.length_set]
theorem hand_over {K : PySem.W.Frag} {H : Hp} {σ : L2.St} : ∀ {vs : List V} {xs : List Val} {Fv F : List Addr} {δ : De} {ms : List M}, RVs K H σ vs xs Fv → RS K H σ δ F → (ats xs).Nodup → peeks δ xs = some ms →
    ∃ (G Rb : List Addr) (δb : De), RMs K H vs ms G ∧ RS K H σ δb Rb ∧ (G ++ Rb).Perm (Fv ++ F) ∧
      ∀ (H' : Hp) (os : List M) (Fo Rb' : List Addr), RS K H' σ δb Rb' → RMs K H' vs os Fo → (Fo ++ Rb').Nodup → ∃ F', RS K H' σ (writeB xs os δ) F' ∧ (∀ a ∈ F', a ∈ Fo ++ Rb') ∧ F'.Nodup
  | _, _, _, F, δ, _, .nil, st, _, e => by
    simp only [Q.peeks, Option.some.injEq] at e; subst e
    exact ⟨[], F, δ, .nil, st, by simp, fun H' os Fo Rb' st' rm nd => ⟨Rb', by simpa [writeB] using st', fun a ha => List.mem_append_right _ ha, nd_right nd⟩⟩
  | v :: vs, .own m :: xs, _, F, δ, _, .cons (F := Fi) (G := Fv') a b, st, na, e => by
    simp only [Q.peeks] at e
    split at e
    · rename_i m' ms' e1 e2
      cases e
      cases e1
      obtain ⟨G', Rb, δb, r1, r2, r3, r4⟩ := hand_over b st (by simpa [ats] using na) e2
      refine ⟨Fi ++ G', Rb, δb, .cons a r1, r2, ?_, fun H' os Fo Rb' st' rm nd => ?_⟩
      · rw [List.append_assoc, List.append_assoc]; exact List.Perm.append_left _ r3
      · cases rm with
        | cons p q =>
          rename_i Fo1 Fo2
          have nd2 : (Fo2 ++ Rb').Nodup := by rw [List.append_assoc] at nd; exact nd_right nd
          obtain ⟨F', w1, w2, w3⟩ := r4 H' _ _ Rb' st' q nd2
          exact ⟨F', by simpa only [writeB] using w1, fun a ha => by rw [List.append_assoc]; exact List.mem_append_right _ (w2 a ha), w3⟩
    · cases e
  | v :: vs, .at i :: xs, _, F, δ, _, .cons (F := Fi) (G := Fv') a b, st, na, e => by
    simp only [Q.peeks] at e
    simp only [ats, List.nodup_cons] at na
    obtain ⟨ev, rfl⟩ := a
    split at e
    · rename_i m ms' e1 e2
      cases e
      have hi := getD_lt (show (δ[i]?).getD none = some m from e1)
      obtain ⟨Fm, R, pm, g, z, up⟩ := st.upd i hi
      obtain ⟨v', ev', rm0⟩ := g m e1
      rw [ev] at ev'; cases ev'
      obtain ⟨G', Rb, δb, r1, r2, r3, r4⟩ := hand_over b z na.2 (by rw [peeks_set na.1]; exact e2)
      refine ⟨Fm ++ G', Rb, δb, .cons rm0 r1, r2, ?_, fun H' os Fo Rb' st' rm nd => ?_⟩
      · rw [List.append_assoc, List.nil_append]
        refine (List.Perm.append_left _ r3).trans ?_
        refine List.Perm.trans ?_ (List.Perm.append_left Fv' pm.symm)
        rw [← List.append_assoc, ← List.append_assoc]
        exact List.perm_append_comm.append_right _
      · cases rm with
        | cons p q =>
          rename_i o os' Fo1 Fo2
          have nd2 : (Fo2 ++ Rb').Nodup := by rw [List.append_assoc] at nd; exact nd_right nd
          obtain ⟨F'', w1, w2, w3⟩ := r4 H' _ _ Rb' st' q nd2
          have hi2 : i < (writeB xs os' (δ.set i none)).length := by rw [writeB_length, List.length_set]; exact hi
          obtain ⟨Fm', R', pm', g', z', up'⟩ := w1.upd i hi2
          obtain ⟨F', u1, u2⟩ := up' H' [] v o Fo1 (Keep.refl _ _) (Still.refl _) (fun _ _ h => by cases h) p
          rw [set_same ev] at u1
          have nd3 : (Fm' ++ R').Nodup := pm'.nodup_iff.mp w3
          have sub : ∀ x ∈ R', x ∈ Fo2 ++ Rb' := fun x hx => w2 x (pm'.mem_iff.mpr (List.mem_append_right _ hx))
          refine ⟨F', ?_, fun x hx => ?_, ?_⟩
          · simp only [writeB]
            have e3 : (writeB xs os' (δ.set i none)).set i (some o) = writeB xs os' (δ.set i (some o)) := by
              rw [writeB_set na.1, List.set_set, writeB_set na.1]
            rw [e3] at u1
            exact u1
          · rw [List.append_assoc]
            rcases List.mem_append.mp (u2.mem_iff.mp hx) with hx | hx
            · exact List.mem_append_left _ hx
            · exact List.mem_append_right _ (sub x hx)
          · refine u2.nodup_iff.mpr (nd_mk ?_ (nd_right nd3) fun x hx hy => ?_)
            · rw [List.append_assoc] at nd; exact nd_left nd
            · rw [List.append_assoc] at nd
              exact nd_apart nd hx (sub x hy)
    · cases e
theorem s_call (o : OkX E Γ k X sc) {f : Nat} {x : Str} {ks : List Str} {es : List Expr} {kws : List Keyword} {l kl : C} (hG : E.G[f]? = some (x, es.length, ks)) (hks : kwNames kws = some ks) (hg : globB sc x = true) (h3 : okX x = true) (pl : plains es = true)
    (ha : PA X es (tV X.K es.length (wpV Γ XF l))) (hk : PK X kws (tV X.K ks.length (wpV Γ XF kl))) (hnil : es = [] → l = .nil) : PE X (.Call (.Name x p2) es kws pos) (tE X.K (wpE Γ XF (.call f l kl))) := by
  obtain ⟨sp, hsp, ⟨fa, fd, ps, g, gV, spV, hm, hkp, F, hb, hl⟩⟩ := o.calls f x es.length ks hG
  have main : ∀ {σ : L2.St} {H : Hp} {Q : VK} {δ : De} {F0 : List Addr} {Kc : Val → De → Prop} {δ2 : De} {H2 : Hp} {vs zs : List V} {xs ys : List Val} {F2 Fv : List Addr},
      (∀ x δ' v H' F' Fv, Kc x δ' → Rx X.K σ H F0 H' δ' [v] [x] F' Fv → Q v H') → Rx X.K σ H F0 H2 δ2 (vs ++ zs) (xs ++ ys) F2 Fv → vs.length = es.length → zs.length = ks.length →
      (∃ sp ms, Γ[f]? = some sp ∧ (ats (xs ++ ys)).Nodup ∧ peeks δ2 (xs ++ ys) = some ms ∧ sp ms (fun r outs => Kc (.own r) (writeB (xs ++ ys) outs δ2)) fun e outs => XF e (writeB (xs ++ ys) outs δ2)) →
      spV (gV vs zs) H2 Q := fun {σ H Q δ F0 Kc δ2 H2 vs zs xs ys F2 Fv} hq r l1 l2 k2 => by
    obtain ⟨sp', ms, e1, na, e2, hs⟩ := k2
    rw [hsp] at e1; cases e1
    refine hl vs zs H2 Q l1 l2 ?_
    obtain ⟨G, Rb, δb, r1, r2, r3, r4⟩ := hand_over r.vl r.st na e2
    have ndG : (G ++ Rb).Nodup := r3.nodup_iff.mpr r.nd
    refine ⟨ms, G, _, ?_, r1, nd_left ndG, hs, fun rr os v H' F' Fr kc rv ro nd kp fr => ?_⟩
    · rw [← r1.length, List.length_append, l1, l2]
    have oG := r1.owns
    have s := kp.still oG
    have stb : RS X.K H' σ δb Rb := r2.keep kp s fun a ha hb => nd_apart ndG hb ha
    have apart : ∀ x, x ∈ Fr ++ F' → x ∉ Rb := fun x hx hy => by
      rcases fr x hx with z | z
      · exact nd_apart ndG z hy
      · obtain ⟨u, e, _⟩ := r2.owns x hy
        rw [z] at e; cases e
    obtain ⟨F3, w1, w2, w3⟩ := r4 H' os F' Rb stb ro (nd_mk (nd_right nd) (nd_right ndG) fun x hx hy => apart x (List.mem_append_right _ hx) hy)
    have frG : ∀ x ∈ G ++ Rb, x ∈ F0 ∨ H x = none := fun x hx => r.fr x (r3.mem_iff.mp hx)
    have hz : ∀ x, H2 x = none → x ∈ F0 ∨ H x = none := fun x hx => by
      by_cases hF : x ∈ F0
      · exact .inl hF
      · refine .inr ?_
        cases e : H x with
        | none => rfl
        | some o => rw [r.kp x o e hF] at hx; cases hx
    refine hq _ _ _ _ F3 Fr kc ⟨w1, .one rv, nd_mk (nd_left nd) w3 fun x hx hy => ?_, fun b u eb nb => ?_, fun x hx => ?_⟩
    · rcases List.mem_append.mp (w2 x hy) with z | z
      · exact nd_apart nd hx z
      · exact apart x (List.mem_append_left _ hx) z
    · refine kp b u (r.kp b u eb nb) fun hb => ?_
      rcases frG b (List.mem_append_left _ hb) with y | y
      · exact nb y
      · rw [eb] at y; cases y
    · have hx' : x ∈ Fr ++ F' ∨ x ∈ Rb := by
        rcases List.mem_append.mp hx with hx | hx
        · exact .inl (List.mem_append_left _ hx)
        · rcases List.mem_append.mp (w2 x hx) with z | z
          · exact .inl (List.mem_append_right _ z)
          · exact .inr z
      rcases hx' with hx' | hx'
      · rcases fr x hx' with z | z
        · exact frG x (List.mem_append_left _ z)
        · exact hz x z
      · exact frG x (List.mem_append_right _ hx')
  cases es with
  | nil =>
    cases hnil rfl
    refine PE.wk (pe_cl0 F o.room o.gd (o.gl hg) hm hkp hb hk hks (okX_1 h3)) fun σ H Q ⟨δ, F0, Kc, st, nd, hw, hq⟩ => ?_
    rw [wpE, wpV] at hw
    exact ⟨δ, F0, _, st, nd, hw, fun ys δ2 zs H2 F2 Fw k2 l2 r2 => ⟨rfl, l2, main (δ := δ) (vs := []) (xs := []) hq r2 rfl l2 k2⟩⟩
  | cons e es =>
    refine PE.wk (pe_cl F o.room o.gd (o.gl hg) hm hkp hb ha hk hks pl (okX_1 h3)) fun σ H Q ⟨δ, F0, Kc, st, nd, hw, hq⟩ => ?_
    rw [wpE] at hw
    exact ⟨δ, F0, _, st, nd, hw, fun xs δ1 vs H1 F1 Fv k1 l1 r1 => ⟨δ1, F1, _, r1.st, nd_right r1.nd, k1, fun ys δ2 zs H2 F2 Fw k2 l2 r2 => ⟨l1, l2, main (δ := δ) hq (r1.step r2) l1 l2 k2⟩⟩⟩
end
end Q
set_option Elab.async false
set_option linter.all false
set_option maxRecDepth 100000
set_option maxHeartbeats 1000000
/-! LK: and, or; tests; displays of dicts; what stands in an own dict. -/
namespace Q
open PySem PySem.Spec PyProof.Rows L2

section
variable {E : SE} {Γ : List Spec} {k : Nat} {X : Cx} {sc : Scope} {pos p2 p3 : Pos}
theorem s_AV1 {e : Expr} {a : C} (ha : PE X e (tE X.K (wpE Γ XF a))) : PE X (.BoolOp .And [e] pos) (tE X.K (wpE Γ XF (.and (.cons a .nil)))) :=
  PE.wk (pe_one ha) fun σ H Q ⟨δ, F, Kc, st, nd, hw, hq⟩ => by
    rw [wpE, wpAV] at hw
    exact ⟨δ, F, Kc, st, nd, hw, hq⟩
theorem s_OV1 {e : Expr} {a : C} (ha : PE X e (tE X.K (wpE Γ XF a))) : PE X (.BoolOp .Or [e] pos) (tE X.K (wpE Γ XF (.or (.cons a .nil)))) :=
  PE.wk (pe_one ha) fun σ H Q ⟨δ, F, Kc, st, nd, hw, hq⟩ => by
    rw [wpE, wpOV] at hw
    exact ⟨δ, F, Kc, st, nd, hw, hq⟩
theorem s_AVc {e e2 : Expr} {es : List Expr} {a b : C} {as : C} (ha : PE X e (tE X.K (wpE Γ XF a))) (hb : PE X (.BoolOp .And (e2 :: es) pos) (tE X.K (wpE Γ XF (.and (.cons b as))))) : PE X (.BoolOp .And (e :: e2 :: es) pos) (tE X.K (wpE Γ XF (.and (.cons a (.cons b as))))) :=
  PE.wk (pe_and ha hb) fun σ H Q ⟨δ, F, Kc, st, nd, hw, hq⟩ => by
    rw [wpE, wpAV] at hw
    · refine ⟨δ, F, _, st, nd, hw, fun x δ1 v H1 F1 Fv k1 r1 => ?_⟩
      obtain ⟨c, rfl, k1⟩ := k1
      have ev := RM.pB (show RM X.K H1 v (.p (.bool c)) Fv from r1.vl.one')
      refine ⟨c, ev, ?_⟩
      cases c with
      | true =>
        refine ⟨δ1, F1, Kc, r1.st, nd_right r1.nd, ?_, fun x δ2 w H2 F2 Fw k2 r2 => hq _ _ _ _ _ _ k2 (r1.drop.step r2)⟩
        rw [wpE]; exact k1
      | false => exact hq _ _ _ _ _ _ k1 (r1.pure (.bl _))
    · intro h; cases h
theorem s_OVc {e e2 : Expr} {es : List Expr} {a b : C} {as : C} (ha : PE X e (tE X.K (wpE Γ XF a))) (hb : PE X (.BoolOp .Or (e2 :: es) pos) (tE X.K (wpE Γ XF (.or (.cons b as))))) : PE X (.BoolOp .Or (e :: e2 :: es) pos) (tE X.K (wpE Γ XF (.or (.cons a (.cons b as))))) :=
  PE.wk (pe_or ha hb) fun σ H Q ⟨δ, F, Kc, st, nd, hw, hq⟩ => by
    rw [wpE, wpOV] at hw
    · refine ⟨δ, F, _, st, nd, hw, fun x δ1 v H1 F1 Fv k1 r1 => ?_⟩
      obtain ⟨c, rfl, k1⟩ := k1
      have ev := RM.pB (show RM X.K H1 v (.p (.bool c)) Fv from r1.vl.one')
      refine ⟨c, ev, ?_⟩
      cases c with
      | false =>
        refine ⟨δ1, F1, Kc, r1.st, nd_right r1.nd, ?_, fun x δ2 w H2 F2 Fw k2 r2 => hq _ _ _ _ _ _ k2 (r1.drop.step r2)⟩
        rw [wpE]; exact k1
      | true => exact hq _ _ _ _ _ _ k1 (r1.pure (.bl _))
    · intro h; cases h
/-! ### tests -/
theorem s_tv {e : Expr} {c : C} (pl : valB e = true) (h : PE X e (tE X.K (wpE Γ XF c))) : PT X e (tT X.K (wpT Γ XF (.tv c))) := by
  refine PT.wk (pt_truth h fun whole => ?_) fun σ H Q ⟨δ, F, Kc, st, nd, hw, hq⟩ => ?_
  · cases e <;> first | rfl | cases pl
  · rw [wpT] at hw
    refine ⟨δ, F, _, st, nd, hw, fun x δ1 v H1 F1 Fv k1 r1 => ?_⟩
    obtain ⟨m, e, hm⟩ := k1
    obtain ⟨G, rm, _⟩ := r1.vl.one'.peek r1.st e
    obtain ⟨b, tb, kb⟩ := tru_M rm hm
    exact ⟨b, tb, hq _ _ _ _ kb r1.drop⟩
theorem s_notT {e : Expr} {t : C} (h : PT X e (tT X.K (wpT Γ XF t))) : PT X (.UnaryOp .Not e pos) (tT X.K (wpT Γ XF (.not t))) :=
  PT.wk (pt_not h) fun σ H Q ⟨δ, F, Kc, st, nd, hw, hq⟩ => by
    rw [wpT] at hw
    exact ⟨δ, F, _, st, nd, hw, fun b δ1 H1 F1 k1 r1 => hq _ _ _ _ k1 r1⟩
theorem s_A1 {e : Expr} {a : C} (h : PT X e (tT X.K (wpT Γ XF a))) : PW X (.BoolOp .And [e] pos) (tT X.K (wpA Γ XF (.cons a .nil))) :=
  PW.wk (pw_and1 h) fun σ H Q ⟨δ, F, Kc, st, nd, hw, hq⟩ => by
    rw [wpA] at hw
    refine ⟨δ, F, _, st, nd, hw, fun b δ1 H1 F1 k1 r1 => ?_⟩
    cases b with
    | true => rw [if_pos rfl, wpA] at k1; exact hq _ _ _ _ k1 r1
    | false => exact hq _ _ _ _ k1 r1
theorem s_O1 {e : Expr} {a : C} (h : PT X e (tT X.K (wpT Γ XF a))) : PW X (.BoolOp .Or [e] pos) (tT X.K (wpO Γ XF (.cons a .nil))) :=
  PW.wk (pw_or1 h) fun σ H Q ⟨δ, F, Kc, st, nd, hw, hq⟩ => by
    rw [wpO] at hw
    refine ⟨δ, F, _, st, nd, hw, fun b δ1 H1 F1 k1 r1 => ?_⟩
    cases b with
    | false => rw [if_neg Bool.false_ne_true, wpO] at k1; exact hq _ _ _ _ k1 r1
    | true => exact hq _ _ _ _ k1 r1
theorem s_Ac {e e2 : Expr} {es : List Expr} {a as : C} (h : PT X e (tT X.K (wpT Γ XF a))) (hs : PW X (.BoolOp .And (e2 :: es) pos) (tT X.K (wpA Γ XF as))) : PW X (.BoolOp .And (e :: e2 :: es) pos) (tT X.K (wpA Γ XF (.cons a as))) :=
  PW.wk (pw_and h hs) fun σ H Q ⟨δ, F, Kc, st, nd, hw, hq⟩ => by
    rw [wpA] at hw
    refine ⟨δ, F, _, st, nd, hw, fun b δ1 H1 F1 k1 r1 => ?_⟩
    cases b with
    | true => exact ⟨δ1, F1, Kc, r1.st, nd_right r1.nd, k1, fun b δ2 H2 F2 k2 r2 => hq _ _ _ _ k2 (r1.step r2)⟩
    | false => exact hq _ _ _ _ k1 r1
theorem s_Oc {e e2 : Expr} {es : List Expr} {a as : C} (h : PT X e (tT X.K (wpT Γ XF a))) (hs : PW X (.BoolOp .Or (e2 :: es) pos) (tT X.K (wpO Γ XF as))) : PW X (.BoolOp .Or (e :: e2 :: es) pos) (tT X.K (wpO Γ XF (.cons a as))) :=
  PW.wk (pw_or h hs) fun σ H Q ⟨δ, F, Kc, st, nd, hw, hq⟩ => by
    rw [wpO] at hw
    refine ⟨δ, F, _, st, nd, hw, fun b δ1 H1 F1 k1 r1 => ?_⟩
    cases b with
    | true => exact hq _ _ _ _ k1 r1
    | false => exact ⟨δ1, F1, Kc, r1.st, nd_right r1.nd, k1, fun b δ2 H2 F2 k2 r2 => hq _ _ _ _ k2 (r1.step r2)⟩
theorem s_andT {vs : List Expr} {l : C} (h : PW X (.BoolOp .And vs pos) (tT X.K (wpA Γ XF l))) : PT X (.BoolOp .And vs pos) (tT X.K (wpT Γ XF (.and l))) :=
  PT.wk h.pt fun σ H Q ⟨δ, F, Kc, st, nd, hw, hq⟩ => by
    rw [wpT] at hw
    exact ⟨δ, F, _, st, nd, hw, hq⟩
theorem s_orT {vs : List Expr} {l : C} (h : PW X (.BoolOp .Or vs pos) (tT X.K (wpO Γ XF l))) : PT X (.BoolOp .Or vs pos) (tT X.K (wpT Γ XF (.or l))) :=
  PT.wk h.pt fun σ H Q ⟨δ, F, Kc, st, nd, hw, hq⟩ => by
    rw [wpT] at hw
    exact ⟨δ, F, _, st, nd, hw, hq⟩

/-! ### a display of a dict -/
structure DOk (X : Cx) (Γ : List Spec) (pos : Pos) (keys : List (Option Expr)) (vals : List Expr) (ks : List Str) (l : C) : Prop where
  ex : ∃ trs, PPs X pos keys vals trs ∧ ∀ (σ : L2.St) (H : Hp) (Qp : List (V × V) → Hp → Prop) (δ : De) (F : List Addr) (Kc : List M → De → Prop), RS X.K H σ δ F → F.Nodup → wpD Γ XF l δ Kc →
    (∀ ms δ' vs H' F' Fv, Kc ms δ' → vs.length = ks.length → Rx X.K σ H F H' δ' vs (ms.map Val.own) F' Fv → Qp ((ks.map V.str).zip vs) H') → tPairs trs σ H Qp
theorem d_nil : DOk X Γ pos [] [] [] .nil := ⟨[], pps_nil, fun σ H Qp δ F Kc st nd hw hq => by
  rw [wpD] at hw
  exact hq _ _ [] _ _ _ hw rfl (Rx.start st nd)⟩
theorem d_cons {x : Str} {e : Expr} {keys : List (Option Expr)} {vals : List Expr} {ks : List Str} {a as : C} {j : Nat} (ha : PE X e (tE X.K (wpE Γ XF a))) (hs : DOk X Γ pos keys vals ks as) : DOk X Γ pos (some (.Constant (.str x) j p2) :: keys) (e :: vals) (x :: ks) (.cons a as) := by
  obtain ⟨trs, h1, h2⟩ := hs
  refine ⟨(tC (.str x), tG (tE X.K (wpE Γ XF a))) :: trs, pps_cons pe_str (pe_ghost ha) h1, fun σ H Qp δ F Kc st nd hw hq => ?_⟩
  rw [wpD] at hw
  refine ⟨δ, F, _, st, nd, hw, fun y δ1 v H1 F1 Fv k1 r1 => mov_ok (Q := fun v H1 => tPairs trs σ H1 fun ps H2 => Qp ((V.str x, v) :: ps) H2) r1 k1 fun m δ' H' F' Fm p rx => ?_⟩
  refine h2 σ H' _ δ' F' _ rx.st (nd_right rx.nd) p fun ms δ2 vs H2 F2 Fw k2 l2 r2 => ?_
  exact hq _ _ _ _ _ _ k2 (congrArg (· + 1) l2) (rx.step r2)
theorem mergeK_new : ∀ (more acc : List (L2.Key × V)), (∀ p ∈ more, ∀ q ∈ acc, q.1 ≠ p.1) → (more.map (·.1)).Nodup → mergeK acc more = acc ++ more
  | [], acc, _, _ => by simp [mergeK]
  | p :: r, acc, h, n => by
    rw [List.map_cons, List.nodup_cons] at n
    have e : putK acc p.1 p.2 = acc ++ [p] := by
      unfold putK
      rw [if_neg]
      intro hc
      obtain ⟨q, hq, e⟩ := List.any_eq_true.mp hc
      exact h p (List.mem_cons_self ..) q hq (of_decide_eq_true e)
    show mergeK (putK acc p.1 p.2) r = _
    rw [e, mergeK_new r (acc ++ [p]) (fun q hq z hz => ?_) n.2, List.append_assoc]
    · rfl
    · rcases List.mem_append.mp hz with hz | hz
      · exact h q (List.mem_cons_of_mem _ hq) z hz
      · rw [List.mem_singleton] at hz
        subst hz
        intro e
        exact n.1 (List.mem_map.mpr ⟨q, hq, e.symm⟩)
theorem RMk.ofs {K : PySem.W.Frag} {H : Hp} : ∀ {ks : List Str} {vs : List V} {ms : List M} {F : List Addr}, vs.length = ks.length → RMs K H vs ms F → RMk K H ((ks.map (Sum.inr (α := Int))).zip vs) ((ks.map Sum.inr).zip ms) F
  | [], [], _, _, _, .nil => .nil
  | k :: ks, v :: vs, _, _, l, .cons a b => .cons a (RMk.ofs (by simpa using l) b)
  | [], _ :: _, _, _, l, _ => by simp at l
  | _ :: _, [], _, _, l, _ => by simp at l
theorem zipV : ∀ {ks : List Str} {vs : List V}, (ks.map V.str).zip vs = ((ks.map (Sum.inr (α := Int))).zip vs).map fun kv => (L2.kV kv.1, kv.2)
  | [], _ => rfl
  | _ :: _, [] => rfl
  | k :: ks, v :: vs => by
    simp only [List.map_cons, List.zip_cons_cons]
    rw [zipV]; rfl
theorem s_dct {keys : List (Option Expr)} {vals : List Expr} {ks : List Str} {l : C} (h : DOk X Γ pos keys vals ks l) (hk : keys.all (·.isSome) = true) (hl : keys.length = vals.length) (hl2 : keys.length = ks.length) (h15 : ks.length ≤ 15) (nk : ks.Nodup) (h0 : keys = [] → l = .nil) : PE X (.Dict keys vals pos) (tE X.K (wpE Γ XF (.dct ks l))) := by
  obtain ⟨trs, h1, h2⟩ := h
  by_cases hn : keys = []
  · cases h0 hn
    subst hn
    cases vals with
    | cons _ _ => cases hl
    | nil =>
      cases ks with
      | cons _ _ => cases hl2
      | nil =>
        refine PE.wk pe_dnewK fun σ H Q ⟨δ, F, Kc, st, nd, hw, hq⟩ => ?_
        rw [wpE, wpD] at hw
        exact fun p hp => hq _ _ _ _ _ _ hw ((Rx.start st nd).new hp (.dc (F := []) upd_same .nil .nil) (by simp) fun x hx => .inl (by simpa using hx))
  · refine PE.wk (pe_disp h1 hk hl hn (by omega)) fun σ H Q ⟨δ, F, Kc, st, nd, hw, hq⟩ => ?_
    rw [wpE] at hw
    intro p hp
    have k0 : Keep H (upd H p (.dK [])) [] := Keep.new hp []
    have s0 : Still H (upd H p (.dK [])) := k0.still fun x hx => by cases hx
    have npF : p ∉ F := fun h => by
      obtain ⟨o, e, _⟩ := st.owns p h
      rw [hp] at e; cases e
    refine h2 σ _ _ δ F _ (st.keep k0 s0 fun a _ hx => by cases hx) nd hw fun ms δ' vs H' F' Fv kc lv rx => ?_
    have eH : H' p = some (.dK []) := rx.kp p _ upd_same npF
    refine ⟨eH, (ks.map Sum.inr).zip vs, zipV, ?_, ?_⟩
    · rw [List.length_zip, List.length_map]; omega
    have npR : ∀ a ∈ Fv ++ F', a ≠ p := fun a ha e => by
      subst e
      rcases rx.fr a ha with z | z
      · exact npF z
      · rw [upd_same] at z; cases z
    have kk : Keep H' (upd H' p (.dK (mergeK [] ((ks.map Sum.inr).zip vs)))) [p] := fun b o e n => by rw [upd_ne (by simpa using n)]; exact e
    have ss := kk.still fun b hb => by rw [List.mem_singleton] at hb; subst hb; exact ⟨_, eH, trivial⟩
    have kn : (((ks.map (Sum.inr (α := Int))).zip vs).map (·.1)).Nodup := by
      rw [List.map_fst_zip (by rw [List.length_map, lv]; exact Nat.le_refl _)]
      exact List.pairwise_map.mpr (nk.imp fun h e => h (by cases e; rfl))
    have em : mergeK [] ((ks.map (Sum.inr (α := Int))).zip vs) = (ks.map Sum.inr).zip vs := by
      rw [mergeK_new _ _ (fun _ _ _ hq => by cases hq)]
      · rfl
      · exact kn
    have rms := (RMs.keep kk ss rx.vl.mine fun a ha hz => npR a (List.mem_append_left _ ha) (by simpa using hz))
    refine hq _ _ _ _ _ (p :: Fv) kc ⟨rx.st.keep kk ss fun a ha hz => npR a (List.mem_append_right _ ha) (by simpa using hz), .one (.dc upd_same (by rw [em]; exact kn) ?_), ?_, ?_, ?_⟩
    · rw [em] at rms ⊢; exact RMk.ofs lv rms
    · rw [List.cons_append, List.nodup_cons]
      exact ⟨fun h => npR p h rfl, rx.nd⟩
    · intro a o e n
      have ne : a ≠ p := fun z => by rw [z, hp] at e; cases e
      rw [upd_ne ne]
      exact rx.kp a o (by rw [upd_ne ne]; exact e) n
    · intro a ha
      rcases List.mem_cons.mp ha with rfl | ha
      · exact .inr hp
      · rcases rx.fr a ha with z | z
        · exact .inl z
        · rw [upd_ne (npR a ha)] at z; exact .inr z

/-! ### what stands in an own dict -/
theorem pe_sub1 (o : OkX E Γ k X sc) {i : Nat} {x y : Str} {j : Nat} (h1 : decide (E.N[i]? = some x) = true) (h2 : visB sc x = true) (h3 : okX x = true) : PE X (.Subscript (.Name x p2) (.Constant (.str y) j p3) pos) (fun σ H Q => ∃ δ F kvs m, RS X.K H σ δ F ∧ (δ[i]?).getD none = some (.dc kvs) ∧ kget kvs (.inr y) = some m ∧
    ∀ v Fm, RM X.K H v m Fm → (∀ a ∈ Fm, a ∈ F) → Q v H) := by
  refine PE.wk (pe_dget (by have := o.un; omega) (pe_var (i := i) (o.at h1) (o.vis h2) (okX_1 h3) (okX_2 h3)) pe_str (fun _ _ => rfl)) fun σ H Q ⟨δ, F, kvs, m, st, e1, e2, hq⟩ => ?_
  obtain ⟨v, Fm, ev, rm, hs⟩ := st.get e1
  cases rm with
  | @dc a kv _ G ha _ rk =>
    obtain ⟨w, Fw, e3, rw', hw⟩ := (RMk.get (k := .inr y) rk).1 m e2
    exact ⟨_, ev, a, w, rfl, by rw [← e3]; exact DGet.k (k := .inr y) ha, hq _ _ rw' fun z hz => hs z (List.mem_cons_of_mem _ (hw z hz))⟩
/-- numbers, nothing changed -/
theorem q_I (o : OkX E Γ k X sc) : ∀ (c : C) (e : Expr), chkQ E c sc e = true → PE X e (fun σ H Q => ∃ δ F z, RS X.K H σ δ F ∧ qI c δ = some z ∧ Q (.int z) H) := by
  intro c
  induction c with
  | v i =>
    intro e h
    cases e <;> first | (simp [chkQ] at h; done) | skip
    simp only [chkQ, Bool.and_eq_true] at h
    obtain ⟨⟨h1, h2⟩, h3⟩ := h
    refine PE.wk (pe_var (i := i) (o.at h1) (o.vis h2) (okX_1 h3) (okX_2 h3)) fun σ H Q ⟨δ, F, z, st, e1, hq⟩ => ?_
    unfold qI at e1
    split at e1
    · rename_i e2
      cases e1
      obtain ⟨v, Fm, ev, rm, _⟩ := st.get e2
      have := rm.pI
      subst this
      exact ⟨_, ev, hq⟩
    · cases e1
  | k d =>
    intro e h
    cases e <;> first | (simp [chkQ] at h; done) | skip
    rename_i c j p
    cases d with
    | int z =>
      cases c <;> first | (simp [chkQ, constB] at h; done) | skip
      simp only [chkQ, constB, beq_iff_eq] at h
      subst h
      refine PE.wk pe_int fun σ H Q ⟨δ, F, z, st, e1, hq⟩ => ?_
      simp only [qI, Option.some.injEq] at e1
      subst e1
      exact hq
    | _ => exact ⟨fun pins s σ H Q I ⟨δ, F, z, st, e1, hq⟩ => by simp [qI] at e1⟩
  | bin op a b iha ihb =>
    intro e h
    cases e <;> first | (simp [chkQ] at h; done) | skip
    simp only [chkQ, Bool.and_eq_true, decide_eq_true_eq] at h
    obtain ⟨⟨rfl, h1⟩, h2⟩ := h
    refine PE.wk (pe_op (op_bin op) (iha _ h1) (ihb _ h2)) fun σ H Q ⟨δ, F, z, st, e1, hq⟩ => ?_
    have key : ∃ i j, qI a δ = some i ∧ qI b δ = some j ∧ binM op (.p (.int i)) (.p (.int j)) fun r => r = .p (.int z) := by
      unfold qI at e1
      split at e1 <;> first
        | (cases e1; done)
        | (cases e1; exact ⟨_, _, ‹qI a δ = some _›, ‹qI b δ = some _›, rfl⟩)
        | (split at e1 <;> first | (cases e1; done) | (cases e1; exact ⟨_, _, ‹qI a δ = some _›, ‹qI b δ = some _›, by assumption, rfl⟩))
    obtain ⟨i, j, q1, q2, hb⟩ := key
    refine ⟨δ, F, i, st, q1, δ, F, j, st, q2, .p (.int i), .p (.int j), [], [], _, .p (.int i), .p (.int j), hb, fun r v H' hr mk => ?_⟩
    subst hr
    cases mk with
    | pure r => cases r; exact hq
  | _ => intro e h; simp [chkQ] at h
theorem s_ixs (o : OkX E Γ k X sc) {i : Nat} {x y : Str} {j : Nat} {eb : Expr} {b : C} {q : Pos} (h1 : decide (E.N[i]? = some x) = true) (h2 : visB sc x = true) (h3 : okX x = true) (pl : plainB eb = true) (hb : chkQ E b sc eb = true) :
    PE X (.Subscript (.Subscript (.Name x p2) (.Constant (.str y) j p3) pos) eb q) (tE X.K (wpE Γ XF (.ixs i y b))) :=
  PE.wk (pe_ix (ix_M (by have := o.un; omega)) (pe_sub1 o h1 h2 h3) (q_I o b eb hb) (plain_ix pl)) fun σ H Q ⟨δ, F, Kc, st, nd, hw, hq⟩ => by
    rw [wpE] at hw
    obtain ⟨kvs, ds, z, d, e1, e2, e3, e4, kc⟩ := hw
    refine ⟨δ, F, kvs, _, st, e1, e2, fun v Fm rm hs => ⟨δ, F, z, st, e3, .l ds, .int z, Fm, fun r => r = d, rm, .int z, ⟨ds, d, rfl, e4, rfl⟩, fun r w hr rp => ?_⟩⟩
    subst hr
    exact hq _ _ _ _ _ _ kc ((Rx.start st nd).pure rp)
theorem eqv_nil (ds : List PyData) : PyData.eqv (.list ds) (.list []) = ds.isEmpty := by
  cases ds <;> simp [PyData.eqv, PyData.eqvAll]
theorem nes_go (o : OkX E Γ k X sc) {i : Nat} {y : Str} {σ : L2.St} {H : Hp} {Q : VK} {δ : De} {F : List Addr} {Kb : Bool → Prop} (st : RS X.K H σ δ F) (nd : F.Nodup) (hw : ∃ kvs ds, (δ[i]?).getD none = some (.dc kvs) ∧ kget kvs (.inr y) = some (.l ds) ∧ SeqAt.shaped (.list ds) = true ∧ Kb (!ds.isEmpty))
    (hq : ∀ b H', Kb b → Rx X.K σ H F H' δ [] [] F [] → Q (.bl b) H') :
    ∃ δ F kvs m, RS X.K H σ δ F ∧ (δ[i]?).getD none = some (.dc kvs) ∧ kget kvs (.inr y) = some m ∧ ∀ v Fm, RM X.K H v m Fm → (∀ a ∈ Fm, a ∈ F) →
      (tLst tNil) σ H fun w H1 => rOpB X.K (cmpM .ne) v w H1 Q := by
  obtain ⟨kvs, ds, e1, e2, e3, kc⟩ := hw
  refine ⟨δ, F, kvs, _, st, e1, e2, fun v Fm rm hs => ⟨Nat.zero_le _, fun p hp => ?_⟩⟩
  have k0 : Keep H (upd H p (.lst [])) [] := Keep.new hp []
  have s0 := k0.still fun x hx => by cases hx
  refine ⟨.l ds, .l [], Fm, [p], Kb, rm.keep k0 s0 (fun _ _ h => by cases h), .l upd_same .nil, ?_, fun b kb => ?_⟩
  · refine ⟨.list ds, .list [], rfl, rfl, e3, rfl, ?_⟩
    rw [eqv_nil]; exact kc
  · exact hq b _ kb ⟨st.keep k0 s0 (fun _ _ h => by cases h), .nil, by simpa using nd, k0.mono (fun _ h => by cases h), fun a ha => .inl (by simpa using ha)⟩
theorem s_nes (o : OkX E Γ k X sc) {i : Nat} {x y : Str} {j : Nat} {q r : Pos} (h1 : decide (E.N[i]? = some x) = true) (h2 : visB sc x = true) (h3 : okX x = true) :
    PE X (.Compare (.Subscript (.Name x p2) (.Constant (.str y) j p3) pos) [.NotEq] [.List [] q] r) (tE X.K (wpE Γ XF (.nes i y))) :=
  PE.wk (pe_cmpR (op_cmp o.u65 .ne) (pe_sub1 o h1 h2 h3) (pe_lst pa_nil) rfl) fun σ H Q ⟨δ, F, Kc, st, nd, hw, hq⟩ => by
    rw [wpE] at hw
    exact nes_go o st nd hw fun b H' kb rx => hq _ _ _ _ _ _ kb (rx.pure (.bl b))
theorem s_nesT (o : OkX E Γ k X sc) {i : Nat} {x y : Str} {j : Nat} {q r : Pos} (h1 : decide (E.N[i]? = some x) = true) (h2 : visB sc x = true) (h3 : okX x = true) :
    PT X (.Compare (.Subscript (.Name x p2) (.Constant (.str y) j p3) pos) [.NotEq] [.List [] q] r) (tT X.K (wpT Γ XF (.tv (.nes i y)))) :=
  PT.wk (pt_cmpR (op_cmp o.u65 .ne) (pe_sub1 o h1 h2 h3) (pe_lst pa_nil) rfl) fun σ H Q ⟨δ, F, Kc, st, nd, hw, hq⟩ => by
    rw [wpT, wpE] at hw
    refine nes_go (Kb := fun r => ∃ m, peek δ (Val.own (M.p (PyData.bool r))) = some m ∧ truM m fun b => Kc b δ) o st nd hw fun b H' kb rx => ?_
    obtain ⟨m, e, kb⟩ := kb
    cases e
    exact ⟨b, rfl, hq _ _ _ _ kb rx⟩
theorem s_lens (o : OkX E Γ k X sc) {i : Nat} {x y f : Str} {j : Nat} {q r : Pos} (hf : (f == ("len" : Str)) = true) (hg : globB sc "len" = true) (h1 : decide (E.N[i]? = some x) = true) (h2 : visB sc x = true) (h3 : okX x = true) :
    PE X (.Call (.Name f q) [.Subscript (.Name x p2) (.Constant (.str y) j p3) pos] [] r) (tE X.K (wpE Γ XF (.lens i y))) := by
  rw [beq_iff_eq] at hf
  subst hf
  refine PE.wk (pe_bi o .len (call_bi o.dig o.calm o.gd (by have := o.un; omega) .len) (o.gl hg) (pa_cons (pe_sub1 o h1 h2 h3) pa_nil rfl) rfl) fun σ H Q ⟨δ, F, Kc, st, nd, hw, hq⟩ => ?_
  rw [wpE] at hw
  obtain ⟨kvs, ds, e1, e2, kc⟩ := hw
  refine ⟨δ, F, kvs, _, st, e1, e2, fun v Fm rm hs => ⟨[.l ds], Fm ++ [], fun r => r = .p (.int ds.length), .cons rm .nil, ⟨ds, rfl, rfl⟩, fun r w H' hr mk => ?_⟩⟩
  subst hr
  cases mk with
  | pure rp => exact hq _ _ _ _ _ _ kc ((Rx.start st nd).pure rp)

/-! ### ranges, as lists and tuples -/
theorem rgI {K : PySem.W.Frag} {H : Hp} (lo hi : Int) : RPs K H (rgV lo hi) (rngItems lo hi) := by
  unfold rgV rngItems
  generalize (hi - lo).toNat = n
  induction n with
  | zero => exact .nil
  | succ n ih =>
    rw [List.range_succ, List.map_append, List.map_append]
    exact ih.append (.cons (.int _) .nil)
def rgExprs (es : List Expr) (l : C) (X : Cx) (Γ : List Spec) : Prop := (∃ e a, es = [e] ∧ l = .cons a .nil ∧ plainB e = true ∧ PE X e (tE X.K (wpE Γ XF a))) ∨
  ∃ e1 e2 a b, es = [e1, e2] ∧ l = .cons a (.cons b .nil) ∧ plainB e1 = true ∧ plainB e2 = true ∧ PE X e1 (tE X.K (wpE Γ XF a)) ∧ PE X e2 (tE X.K (wpE Γ XF b))
theorem s_F2 {e1 e2 : Expr} {a b : C} (ha : PE X e1 (tE X.K (wpE Γ XF a))) (hb : PE X e2 (tE X.K (wpE Γ XF b))) : True := trivial
/-- a range, as an argument -/
theorem s_prg (o : OkX E Γ k X sc) {y : Str} {es : List Expr} {l : C} (hy : (y == ("range" : Str)) = true) (hg : globB sc y = true) (h : rgExprs es l X Γ) :
    PRg X (.Call (.Name y p2) es [] pos) (fun σ H Q => ∃ δ F Kc, RS X.K H σ δ F ∧ F.Nodup ∧ wpF Γ XF l δ Kc ∧ ∀ ds δ' H' F', Kc ds δ' → Rx X.K σ H F H' δ' [] [] F' [] → ∃ lo hi, rngOf ds = some (lo, hi) ∧ Q lo hi H') := by
  rw [beq_iff_eq] at hy
  subst hy
  have hm := o.blt "range" (by decide +kernel)
  rcases h with ⟨e, a, rfl, rfl, pl, pe⟩ | ⟨e1, e2, a, b, rfl, rfl, pl1, pl2, pe1, pe2⟩
  · intro pins s σ H Q I ⟨δ, F, Kc, st, nd, hw, hq⟩
    refine prg_1 (o.gl hg) hm (s_F1 pe) (plain_star pl _ _) pins s σ H Q I ⟨δ, F, Kc, st, nd, hw, fun d δ' v H' F' kc rp rx => ?_⟩
    obtain ⟨lo, hi, e1, q⟩ := hq _ _ _ _ kc rx.drop
    cases rp <;> first | (simp [rngOf] at e1; done) | skip
    simp only [rngOf, Option.some.injEq, Prod.mk.injEq] at e1
    obtain ⟨rfl, rfl⟩ := e1
    exact ⟨_, rfl, q⟩
  · intro pins s σ H Q I ⟨δ, F, Kc, st, nd, hw, hq⟩
    rw [wpF] at hw
    refine prg_2 (o.gl hg) hm (pe_ghost pe1) (s_F1 pe2) (plain_star pl1 _ _) (plain_star pl2 _ _) (plains_any (es := [e2]) (by unfold plains; rw [List.all_cons, pl2]; rfl) _ _) pins s σ H Q I ?_
    refine ⟨δ, F, _, st, nd, hw, fun x δ1 v H1 F1 Fv k1 r1 => ?_⟩
    refine frz_ok (Q := fun x H1 => (fun σ H Q => ∃ δ F Kc, RS X.K H σ δ F ∧ F.Nodup ∧ wpF Γ XF (.cons b .nil) δ Kc ∧
      ∀ d δ' v H' F', Kc [d] δ' → RP X.K H' v d → Rx X.K σ H F H' δ' [v] [pv d] F' [] → Q v H') σ H1 fun y H2 => ∃ i j, x = .int i ∧ y = .int j ∧ Q i j H2) r1 k1 fun d δ' H' F' p rp rx => ?_
    refine ⟨δ', F', _, rx.st, nd_right rx.nd, p, fun d2 δ2 v2 H2 F2 k2 rp2 r2 => ?_⟩
    obtain ⟨lo, hi, e1, q⟩ := hq _ _ _ _ k2 (rx.step r2).drop
    cases rp <;> first | (simp [rngOf] at e1; done) | skip
    cases rp2 <;> first | (simp [rngOf] at e1; done) | skip
    simp only [rngOf, Option.some.injEq, Prod.mk.injEq] at e1
    obtain ⟨rfl, rfl⟩ := e1
    exact ⟨_, _, rfl, rfl, q⟩
theorem rng_len (lo hi : Int) : (rngItems lo hi).length = (hi - lo).toNat := by unfold rngItems; rw [List.length_map, List.length_range]
theorem s_tupI (o : OkX E Γ k X sc) {x y : Str} {es : List Expr} {l : C} {q : Pos} (hx : (x == ("tuple" : Str)) = true) (hgx : globB sc x = true) (hy : (y == ("range" : Str)) = true) (hg : globB sc y = true) (h : rgExprs es l X Γ) :
    PE X (.Call (.Name x p3) [.Call (.Name y p2) es [] pos] [] q) (tE X.K (wpE Γ XF (.tupI (.rng l)))) := by
  rw [beq_iff_eq] at hx
  subst hx
  refine PE.wk (pe_tupRg o.calm (o.gl hgx) (o.blt _ (by decide +kernel)) (s_prg o hy hg h) rfl) fun σ H Q ⟨δ, F, Kc, st, nd, hw, hq⟩ => ?_
  rw [wpE, wpI] at hw
  refine ⟨δ, F, _, st, nd, hw, fun ds δ' H' F' kc rx => ?_⟩
  obtain ⟨lo, hi, e1, ⟨b1, b2, b3, b4⟩, hl, kc⟩ := kc
  refine ⟨lo, hi, e1, ⟨b1, b2, b3, b4, ?_⟩, fun p hp => hq _ _ _ _ _ _ kc (rx.newT hp (rgI lo hi))⟩
  rw [show (2 : Nat) ^ 24 = sizeLine from rfl, ← rng_len]; exact hl
theorem s_lstI (o : OkX E Γ k X sc) {x y : Str} {es : List Expr} {l : C} {q : Pos} (hx : (x == ("list" : Str)) = true) (hgx : globB sc x = true) (hy : (y == ("range" : Str)) = true) (hg : globB sc y = true) (h : rgExprs es l X Γ) :
    PE X (.Call (.Name x p3) [.Call (.Name y p2) es [] pos] [] q) (tE X.K (wpE Γ XF (.lstI (.rng l)))) := by
  rw [beq_iff_eq] at hx
  subst hx
  refine PE.wk (pe_listRg o.calm (o.gl hgx) (o.blt _ (by decide +kernel)) (s_prg o hy hg h) rfl) fun σ H Q ⟨δ, F, Kc, st, nd, hw, hq⟩ => ?_
  rw [wpE, wpI] at hw
  refine ⟨δ, F, _, st, nd, hw, fun ds δ' H' F' kc rx => ?_⟩
  obtain ⟨lo, hi, e1, ⟨b1, b2, b3, b4⟩, hl, kc⟩ := kc
  refine ⟨lo, hi, e1, ⟨b1, b2, b3, b4, ?_⟩, fun p hp => hq _ _ _ _ _ _ kc (rx.newL hp (rgI lo hi))⟩
  rw [show (2 : Nat) ^ 24 = sizeLine from rfl, ← rng_len]; exact hl
end
end Q
set_option Elab.async false
set_option linter.all false
set_option maxRecDepth 100000
set_option maxHeartbeats 1000000
/-! LL: what is walked; targets; list comprehensions. -/
namespace Q
open PySem PySem.Spec PyProof.Rows L2

/-! ### sources -/
structure SrcW (K : PySem.W.Frag) (s : Src) (J : It) (σ0 : L2.St) (H0 : Hp) : Prop where
  go : ∀ (i : Nat) (H : Hp) (σ : L2.St) (δ : De) (F : List Addr), i < s.items.length → Still H0 H → RS K H σ δ F → gdOk s.gd δ → (∀ g ∈ s.gd, σ[g.1]? = σ0[g.1]?) → J.go i H
  stop : ∀ (H : Hp) (σ : L2.St) (δ : De) (F : List Addr), Still H0 H → RS K H σ δ F → gdOk s.gd δ → (∀ g ∈ s.gd, σ[g.1]? = σ0[g.1]?) → J.stop s.items.length H
  yld : ∀ (i : Nat) (H : Hp) (σ : L2.St) (δ : De) (F : List Addr) (x : V) (H' : Hp), i < s.items.length → Still H0 H → RS K H σ δ F → gdOk s.gd δ → (∀ g ∈ s.gd, σ[g.1]? = σ0[g.1]?) → J.yld i H x H' → ∃ d, s.items[i]? = some d ∧ Mk K H x (.p d) H'
def tI (K : PySem.W.Frag) (W : De → (Src → De → Prop) → Prop) : TI := fun σ H R => ∃ δ F Kc, RS K H σ δ F ∧ F.Nodup ∧ W δ Kc ∧
  ∀ s δ' H' F' J, Kc s δ' → Rx K σ H F H' δ' [] [] F' [] → SrcW K s J σ H' → R J H'
section
variable {K : PySem.W.Frag} {H H1 : Hp} {σ : L2.St} {F F1 Fv : List Addr} {δ δ1 : De}
/-- what a value that is walked stands for -/
inductive VWalk (K : PySem.W.Frag) (H : Hp) (σ : L2.St) : V → Src → Prop
  | lst {a : Addr} {xs : List V} {ds : List PyData} : SqZ K H a xs → RPs K H xs ds → VWalk K H σ (.ref a) ⟨ds, []⟩
  | tup {a : Addr} {xs : List V} {ds : List PyData} : SqT K H a xs → RPs K H xs ds → VWalk K H σ (.ref a) ⟨ds, []⟩
  | str (z : Str) : VWalk K H σ (.str z) ⟨z.cps.toList.map fun c => .str ⟨#[c]⟩, []⟩
  | own {a : Addr} {xs : List V} {ds : List PyData} {i : Nat} : σ[i]? = some (some (.ref a)) → H a = some (.lst xs) → VWalk K H σ (.ref a) ⟨ds, [(i, ds)]⟩
theorem RS.own (st : RS K H σ δ F) {i : Nat} {a : Addr} {m : M} {ds : List PyData} (e : (δ[i]?).getD none = some m) (em : m.lst = some ds) (ev : σ[i]? = some (some (.ref a))) : ∃ xs, SqL K H a xs ∧ RPs K H xs ds := by
  obtain ⟨v, Fm, ev2, rm, _⟩ := st.get e
  rw [ev] at ev2; cases ev2
  obtain ⟨l, xs, e3, hl, rs⟩ := rm.lst em
  cases e3
  exact ⟨xs, hl, rs⟩
theorem RPs.lt {xs : List V} {ds : List PyData} (r : RPs K H xs ds) {i : Nat} (h : i < ds.length) : ∃ v d, xs[i]? = some v ∧ ds[i]? = some d ∧ RP K H v d := by
  obtain ⟨v, e, rp⟩ := r.get (List.getElem?_eq_getElem h)
  exact ⟨v, _, e, List.getElem?_eq_getElem h, rp⟩
/-- a list that stays as it is while it is walked -/
theorem src_list {a : Addr} {s : Src} {ds : List PyData} {σ0 : L2.St} {H0 : Hp} (e : s.items = ds)
    (h : ∀ (H : Hp) (σ : L2.St) (δ : De) (F : List Addr), Still H0 H → RS K H σ δ F → gdOk s.gd δ → (∀ g ∈ s.gd, σ[g.1]? = σ0[g.1]?) → ∃ xs, SqL K H a xs ∧ RPs K H xs ds) : SrcW K s (Itl K a) σ0 H0 := by
  subst e
  refine ⟨fun i H σ δ F hi st rs g e => ?_, fun H σ δ F st rs g e => ?_, fun i H σ δ F x H' hi st rs g e y => ?_⟩
  · obtain ⟨xs, h1, h2⟩ := h H σ δ F st rs g e
    obtain ⟨v, d, e1, _, _⟩ := h2.lt hi
    exact ⟨xs, v, h1, e1⟩
  · obtain ⟨xs, h1, h2⟩ := h H σ δ F st rs g e
    exact ⟨xs, h1, Nat.le_of_eq h2.length⟩
  · obtain ⟨xs, h1, h2⟩ := h H σ δ F st rs g e
    obtain ⟨v, d, e1, e2, rp⟩ := h2.lt hi
    obtain ⟨rfl, y2⟩ := y
    have := y2 xs h1
    rw [e1] at this; cases this
    exact ⟨d, e2, .pure rp⟩
theorem src_tup {a : Addr} {s : Src} {ds : List PyData} {σ0 : L2.St} {H0 : Hp} (e : s.items = ds) (h : ∀ (H : Hp), Still H0 H → ∃ xs, SqT K H a xs ∧ RPs K H xs ds) : SrcW K s (Itt K a) σ0 H0 := by
  subst e
  refine ⟨fun i H σ δ F hi st rs g e => ?_, fun H σ δ F st rs g e => ?_, fun i H σ δ F x H' hi st rs g e y => ?_⟩
  · obtain ⟨xs, h1, h2⟩ := h H st
    obtain ⟨v, d, e1, _, _⟩ := h2.lt hi
    exact ⟨xs, v, h1, e1⟩
  · obtain ⟨xs, h1, h2⟩ := h H st
    exact ⟨xs, h1, Nat.le_of_eq h2.length⟩
  · obtain ⟨xs, h1, h2⟩ := h H st
    obtain ⟨v, d, e1, e2, rp⟩ := h2.lt hi
    obtain ⟨rfl, y2⟩ := y
    have := y2 xs h1
    rw [e1] at this; cases this
    exact ⟨d, e2, .pure rp⟩
theorem src_str {z : Str} {σ0 : L2.St} {H0 : Hp} : SrcW K ⟨z.cps.toList.map fun c => .str ⟨#[c]⟩, []⟩ (Its z) σ0 H0 := by
  refine ⟨fun i H σ δ F hi st rs g e => ?_, fun H σ δ F st rs g e => ?_, fun i H σ δ F x H' hi st rs g e y => ?_⟩
  · show i < z.cps.size
    simpa using hi
  · show z.cps.size ≤ _; simp
  · obtain ⟨rfl, c, e1, rfl⟩ := y
    exact ⟨.str ⟨#[c]⟩, by simp [e1], .pure (.str _)⟩
theorem rngI_get {lo hi : Int} {i : Nat} (h : i < (rngItems lo hi).length) : (rngItems lo hi)[i]? = some (.int (lo + i)) := by
  rw [rng_len] at h
  unfold rngItems
  rw [List.getElem?_map, List.getElem?_range h]
  rfl
theorem src_rng {lo hi : Int} {n : Nat} {σ0 : L2.St} {H0 : Hp} (e : n = (hi - lo).toNat) : SrcW K ⟨rngItems lo hi, []⟩ (Itr lo n) σ0 H0 := by
  subst e
  refine ⟨fun i H σ δ F hi st rs g e => ?_, fun H σ δ F st rs g e => ?_, fun i H σ δ F x H' hi st rs g e y => ?_⟩
  · rw [rng_len] at hi; exact hi
  · show _ ≤ _; rw [rng_len]; exact Nat.le_refl _
  · obtain ⟨rfl, rfl⟩ := y
    exact ⟨_, rngI_get hi, .pure (.int _)⟩
theorem enum_get {ds : List PyData} {i : Nat} {d : PyData} (h : ds[i]? = some d) : (enumItems ds)[i]? = some (.tuple [.int (i : Nat), d]) := by
  unfold enumItems
  have hl : i < ds.length := by
    by_cases hi : i < ds.length
    · exact hi
    · rw [List.getElem?_eq_none (by omega)] at h; cases h
  simp [List.getElem?_zipWith, List.getElem?_range hl, h]
theorem enum_len (ds : List PyData) : (enumItems ds).length = ds.length := by unfold enumItems; simp
theorem src_enum {a : Addr} {ds : List PyData} {gd : List (Nat × List PyData)} {σ0 : L2.St} {H0 : Hp}
    (h : ∀ (H : Hp) (σ : L2.St) (δ : De) (F : List Addr), Still H0 H → RS K H σ δ F → gdOk gd δ → (∀ g ∈ gd, σ[g.1]? = σ0[g.1]?) → ∃ xs, SqL K H a xs ∧ RPs K H xs ds) : SrcW K ⟨enumItems ds, gd⟩ (Ite K a) σ0 H0 := by
  refine ⟨fun i H σ δ F hi st rs g e => ?_, fun H σ δ F st rs g e => ?_, fun i H σ δ F x H' hi st rs g e y => ?_⟩
  · obtain ⟨xs, h1, h2⟩ := h H σ δ F st rs g e
    simp only [enum_len] at hi
    obtain ⟨v, d, e1, _, _⟩ := h2.lt hi
    exact ⟨xs, v, h1, e1⟩
  · obtain ⟨xs, h1, h2⟩ := h H σ δ F st rs g e
    exact ⟨xs, h1, by simp only [enum_len]; exact Nat.le_of_eq h2.length⟩
  · obtain ⟨xs, h1, h2⟩ := h H σ δ F st rs g e
    simp only [enum_len] at hi
    obtain ⟨v, d, e1, e2, rp⟩ := h2.lt hi
    obtain ⟨T, w, rfl, hT, rfl, y2⟩ := y
    have := y2 xs h1
    rw [e1] at this; cases this
    exact ⟨_, enum_get e2, .tup hT (.cons (.int _) (.cons rp .nil))⟩
theorem VWalk.listy {v : V} {s : Src} (w : VWalk K H1 σ v s) : (∃ a, v = .ref a ∧ (∃ xs, SqL K H1 a xs) ∧ ∀ (H : Hp) (σ' : L2.St) (δ : De) (F : List Addr), Still H1 H → RS K H σ' δ F → gdOk s.gd δ → (∀ g ∈ s.gd, σ'[g.1]? = σ[g.1]?) → ∃ xs, SqL K H a xs ∧ RPs K H xs s.items) ∨
    (∃ a, v = .ref a ∧ (∃ xs, SqT K H1 a xs) ∧ ∀ (H : Hp), Still H1 H → ∃ xs, SqT K H a xs ∧ RPs K H xs s.items) ∨ ∃ z, v = .str z ∧ s = ⟨z.cps.toList.map fun c => .str ⟨#[c]⟩, []⟩ := by
  cases w with
  | lst h r => exact .inl ⟨_, rfl, ⟨_, h.sq⟩, fun H σ' δ F st _ _ _ => ⟨_, (st.sqz h).sq, r.still st⟩⟩
  | tup h r => exact .inr (.inl ⟨_, rfl, ⟨_, h⟩, fun H st => ⟨_, st.tup h, r.still st⟩⟩)
  | str z => exact .inr (.inr ⟨z, rfl, rfl⟩)
  | @own a xs ds i e h =>
    refine .inl ⟨_, rfl, ⟨_, .of h⟩, fun H σ' δ F st rs g es => ?_⟩
    obtain ⟨m, e1, e2⟩ := g (i, ds) (List.mem_singleton.mpr rfl)
    exact rs.own e1 e2 (by rw [es (i, ds) (List.mem_singleton.mpr rfl)]; exact e)
/-- a value is to be walked -/
theorem src_ok {v : V} {x : Val} {s : Src} {Q : V → Hp → Prop} (r : Rx K σ H F H1 δ1 [v] [x] F1 Fv) (hs : srcOf δ1 x = some s)
    (hq : ∀ H' F', VWalk K H' σ v s → Rx K σ H F H' δ1 [] [] F' [] → Q v H') : Q v H1 ∨ ∃ a u, v = .ref a ∧ H1 a = some u ∧ Mut (some u) ∧ ∀ od, Q v (upd H1 a (.frz od u)) := by
  cases x with
  | «at» i =>
    simp only [srcOf] at hs
    split at hs
    · rename_i ds e
      cases hs
      obtain ⟨ev, rfl⟩ := r.vl.one'
      obtain ⟨v', Fm, ev', rm, _⟩ := r.st.get e
      rw [ev] at ev'; cases ev'
      cases rm with
      | l h1 h2 => exact .inl (hq _ _ (.own ev h1) r.drop)
    · cases hs
  | own m =>
    cases m with
    | p d =>
      have rm : RM K H1 v (.p d) Fv := r.vl.one'
      cases rm with
      | p rp =>
        refine .inl ?_
        cases rp <;> simp only [srcOf, M.seq, Option.map_none, Option.map_some, reduceCtorEq, Option.some.injEq] at hs
        · subst hs; exact hq _ _ (.str _) r.drop
        · rename_i h1 h2; subst hs; exact hq _ _ (.lst h1 h2) r.drop
        · rename_i h1 h2; subst hs; exact hq _ _ (.tup h1 h2) r.drop
    | l ds =>
      simp only [srcOf, M.seq, Option.map_some, Option.some.injEq] at hs
      subst hs
      refine frz_ok (P := fun d δ' => d = .list ds ∧ δ' = δ1) (Q := Q) r ⟨rfl, rfl⟩ fun d δ' H' F' ⟨e1, e2⟩ rp rx => ?_
      subst e1 e2
      cases rp with
      | lst h1 h2 => exact hq _ _ (.lst h1 h2) rx.drop
    | dc kvs => simp [srcOf, M.seq] at hs
theorem lsrc_ok {v : V} {x : Val} {s : Src} {Q : V → Hp → Prop} (r : Rx K σ H F H1 δ1 [v] [x] F1 Fv) (hs : lsrcOf δ1 x = some s)
    (hq : ∀ H' F' a, v = .ref a → (∃ xs, SqL K H' a xs) → (∀ (H : Hp) (σ' : L2.St) (δ : De) (F : List Addr), Still H' H → RS K H σ' δ F → gdOk s.gd δ → (∀ g ∈ s.gd, σ'[g.1]? = σ[g.1]?) → ∃ xs, SqL K H a xs ∧ RPs K H xs s.items) →
      Rx K σ H F H' δ1 [] [] F' [] → Q v H') : Q v H1 ∨ ∃ a u, v = .ref a ∧ H1 a = some u ∧ Mut (some u) ∧ ∀ od, Q v (upd H1 a (.frz od u)) := by
  cases x with
  | «at» i =>
    simp only [lsrcOf] at hs
    split at hs
    · rename_i ds e
      cases hs
      obtain ⟨ev, rfl⟩ := r.vl.one'
      obtain ⟨v', Fm, ev', rm, _⟩ := r.st.get e
      rw [ev] at ev'; cases ev'
      cases rm with
      | l h1 h2 => 
        refine .inl (hq _ _ _ rfl ⟨_, .of h1⟩ (fun H σ' δ F st rs g es => ?_) r.drop)
        obtain ⟨m, e1, e2⟩ := g (i, ds) (List.mem_singleton.mpr rfl)
        exact rs.own e1 e2 (by rw [es (i, ds) (List.mem_singleton.mpr rfl)]; exact ev)
    · cases hs
  | own m =>
    cases m with
    | p d =>
      have rm : RM K H1 v (.p d) Fv := r.vl.one'
      cases rm with
      | p rp =>
        refine .inl ?_
        cases rp <;> simp only [lsrcOf, M.lst, Option.map_none, Option.map_some, reduceCtorEq, Option.some.injEq] at hs
        · rename_i h1 h2; subst hs
          exact hq _ _ _ rfl ⟨_, h1.sq⟩ (fun H σ' δ F st _ _ _ => ⟨_, (st.sqz h1).sq, h2.still st⟩) r.drop
    | l ds =>
      simp only [lsrcOf, M.lst, Option.map_some, Option.some.injEq] at hs
      subst hs
      refine frz_ok (P := fun d δ' => d = .list ds ∧ δ' = δ1) (Q := Q) r ⟨rfl, rfl⟩ fun d δ' H' F' ⟨e1, e2⟩ rp rx => ?_
      subst e1 e2
      cases rp with
      | lst h1 h2 => exact hq _ _ _ rfl ⟨_, h1.sq⟩ (fun H σ' δ F st _ _ _ => ⟨_, (st.sqz h1).sq, h2.still st⟩) rx.drop
    | dc kvs => simp [lsrcOf, M.lst] at hs
end
section
variable {E : SE} {Γ : List Spec} {k : Nat} {X : Cx} {sc : Scope} {pos p2 p3 : Pos} {tg : Expr}
theorem it_list {pins : List (Addr × Obj)} {s : Shared} {σ : L2.St} {H : Hp} {R : It → Hp → Prop} {a : Addr} {xs : List V} (I : Inv X pins σ H s) (hq : SqL X.K H a xs) (q : R (Itl X.K a) H) :
    wpAny (model X.prog X.w) X.A (pyIter (.ref a)) (PIE X pins σ tg R) X.xe s := by
  obtain ⟨its, rv, p, hz⟩ := I.list hq
  exact wpAny_pyIter_list p.isList (pi_one (tk := s.toks) I _ (turn_list a _) ⟨_, Heap.get?_push_size _ rfl, rfl, rfl⟩ q)
theorem it_tup {pins : List (Addr × Obj)} {s : Shared} {σ : L2.St} {H : Hp} {R : It → Hp → Prop} {a : Addr} {xs : List V} (I : Inv X pins σ H s) (hq : SqT X.K H a xs) (q : R (Itt X.K a) H) :
    wpAny (model X.prog X.w) X.A (pyIter (.ref a)) (PIE X pins σ tg R) X.xe s := by
  obtain ⟨its, rv, p, hz⟩ := I.tuple hq
  exact wpAny_pyIter_tuple (show s.heap.IsTuple a its.toArray from p) (pi_one (tk := s.toks) I _ (turn_tuple a _) ⟨_, Heap.get?_push_size _ rfl, rfl, rfl⟩ q)
theorem it_str {pins : List (Addr × Obj)} {s : Shared} {σ : L2.St} {H : Hp} {R : It → Hp → Prop} {z : Str} {t : Tok} (I : Inv X pins σ H s) (q : R (Its z) H) :
    wpAny (model X.prog X.w) X.A (pyIter (.str z t)) (PIE X pins σ tg R) X.xe s := by
  cases ha : z.cps.all (· < 128)
  · exact wpAny_pyIter_wide ha (pi_one (tk := s.toks) I _ (turn_str _ z t "str_iterator" (.inr rfl)) ⟨_, Heap.get?_push_size _ rfl, rfl, rfl⟩ q)
  · exact wpAny_pyIter_ascii ha (pi_one (tk := s.toks) I _ (turn_str _ z t "str_ascii_iterator" (.inl rfl)) ⟨_, Heap.get?_push_size _ rfl, rfl, rfl⟩ q)
def iVal (K : PySem.W.Frag) (te : TE) : TI := fun σ H R => te σ H fun v H1 => (∃ a xs, v = .ref a ∧ SqL K H1 a xs ∧ R (Itl K a) H1) ∨ (∃ a xs, v = .ref a ∧ SqT K H1 a xs ∧ R (Itt K a) H1) ∨ ∃ z, v = .str z ∧ R (Its z) H1
theorem pi_val {e : Expr} {te : TE} (he : PE X e te) : PI X tg e (iVal X.K te) := by
  refine ⟨fun pins s σ H R I h => thn (he.run pins s σ H _ I h) fun v s1 ⟨x, H1, I1, r1, q1⟩ => ?_⟩
  rcases q1 with ⟨a, xs, rfl, hq, q⟩ | ⟨a, xs, rfl, hq, q⟩ | ⟨z, rfl, q⟩
  · cases r1; exact it_list I1 hq q
  · cases r1; exact it_tup I1 hq q
  · obtain ⟨t, rfl⟩ := r1; exact it_str I1 q
theorem PI.wk {e : Expr} {t t' : TI} (h : PI X tg e t) (w : ∀ σ H R, t' σ H R → t σ H R) : PI X tg e t' := ⟨fun pins s σ H R I hw => h.run pins s σ H R I (w σ H R hw)⟩
theorem i_sv {e : Expr} {a : C} (ha : PE X e (tE X.K (wpE Γ XF a))) : PI X tg e (tI X.K (wpI Γ XF (.sv a))) :=
  PI.wk (pi_val (pe_ghost ha)) fun σ H R ⟨δ, F, Kc, st, nd, hw, hq⟩ => by
    rw [wpI] at hw
    refine ⟨δ, F, _, st, nd, hw, fun x δ1 v H1 F1 Fv ⟨s, hs, kc⟩ r1 => src_ok (Q := fun v H1 => (∃ a xs, v = .ref a ∧ SqL X.K H1 a xs ∧ R (Itl X.K a) H1) ∨ (∃ a xs, v = .ref a ∧ SqT X.K H1 a xs ∧ R (Itt X.K a) H1) ∨ ∃ z, v = .str z ∧ R (Its z) H1) r1 hs fun H' F' vw rx => ?_⟩
    rcases vw.listy with ⟨b, rfl, ⟨xs, h1⟩, h2⟩ | ⟨b, rfl, ⟨xs, h1⟩, h2⟩ | ⟨z, rfl, rfl⟩
    · exact .inl ⟨b, xs, rfl, h1, hq _ _ _ _ _ kc rx (src_list rfl h2)⟩
    · exact .inr (.inl ⟨b, xs, rfl, h1, hq _ _ _ _ _ kc rx (src_tup rfl h2)⟩)
    · exact .inr (.inr ⟨z, rfl, hq _ _ _ _ _ kc rx src_str⟩)
theorem i_rng (o : OkX E Γ k X sc) {y : Str} {es : List Expr} {l : C} (hy : (y == ("range" : Str)) = true) (hg : globB sc y = true) (h : rgExprs es l X Γ) : PI X tg (.Call (.Name y p2) es [] pos) (tI X.K (wpI Γ XF (.rng l))) := by
  rw [beq_iff_eq] at hy
  subst hy
  have hm := o.blt "range" (by decide +kernel)
  rcases h with ⟨e, a, rfl, rfl, pl, pe⟩ | ⟨e1, e2, a, b, rfl, rfl, pl1, pl2, pe1, pe2⟩
  · refine PI.wk (pi_range1 (o.gl hg) hm (pa_cons (s_F1 pe) pa_nil (plain_star pl _ _)) (plain_star pl _ _)) fun σ H R ⟨δ, F, Kc, st, nd, hw, hq⟩ => ?_
    rw [wpI] at hw
    refine ⟨δ, F, _, st, nd, hw, fun d δ' v H' F' kc rp rx => ?_⟩
    obtain ⟨lo, hi, e1, ⟨b1, b2, b3, b4⟩, kc⟩ := kc
    cases rp <;> first | (simp [rngOf] at e1; done) | skip
    simp only [rngOf, Option.some.injEq, Prod.mk.injEq] at e1
    obtain ⟨rfl, rfl⟩ := e1
    exact ⟨_, rfl, b3, b4, hq _ _ _ _ _ kc rx.drop (src_rng (by omega))⟩
  · refine PI.wk (pi_range2 (o.gl hg) hm (pa_cons (pe_ghost pe1) (pa_cons (s_F1 pe2) pa_nil (plain_star pl2 _ _)) (plain_star pl1 _ _)) (by rw [plain_star pl1, plain_star pl2]; rfl) (plain_star pl2 _ _)) fun σ H R ⟨δ, F, Kc, st, nd, hw, hq⟩ => ?_
    rw [wpI, wpF] at hw
    refine ⟨δ, F, _, st, nd, hw, fun x δ1 v H1 F1 Fv k1 r1 => ?_⟩
    refine frz_ok (Q := fun x H1 => tCons (fun σ H Q => ∃ δ F Kc, RS X.K H σ δ F ∧ F.Nodup ∧ wpF Γ XF (.cons b .nil) δ Kc ∧
      ∀ d δ' v H' F', Kc [d] δ' → RP X.K H' v d → Rx X.K σ H F H' δ' [v] [pv d] F' [] → Q v H') tNil σ H1 fun vs H2 => ∃ i j : Int, x :: vs = [.int i, .int j] ∧ (-(2 ^ 62) ≤ i ∧ i < 2 ^ 62 ∧ -(2 ^ 62) ≤ j ∧ j < 2 ^ 62) ∧ R (Itr i (j - i).toNat) H2) r1 k1 fun d δ' H' F' p rp rx => ?_
    refine ⟨δ', F', _, rx.st, nd_right rx.nd, p, fun d2 δ2 v2 H2 F2 k2 rp2 r2 => ?_⟩
    obtain ⟨lo, hi, e1, bb, kc⟩ := k2
    cases rp <;> first | (simp [rngOf] at e1; done) | skip
    cases rp2 <;> first | (simp [rngOf] at e1; done) | skip
    simp only [rngOf, Option.some.injEq, Prod.mk.injEq] at e1
    obtain ⟨rfl, rfl⟩ := e1
    exact ⟨_, _, rfl, bb, hq _ _ _ _ _ kc (rx.step r2).drop (src_rng rfl)⟩
/-! ### targets -/
def gT (K : PySem.W.Frag) (lk : List Nat) (tg : Tg) : TG := fun v σ H Q => ∃ δ F d δ', RS K H σ δ F ∧ F.Nodup ∧ RP K H v d ∧ bindT lk tg d δ = some δ' ∧
  ∀ σ' F', RS K H σ' δ' F' → F'.Nodup → (∀ a ∈ F', a ∈ F) → (∀ j, j ∉ tgS tg → σ'[j]? = σ[j]?) → (∀ j ∈ lk, σ'[j]? = σ[j]?) → Q σ' H
def gTs (K : PySem.W.Frag) (lk : List Nat) (tg : Tg) : TGs := fun vs σ H Q => ∃ δ F ds δ', RS K H σ δ F ∧ F.Nodup ∧ RPs K H vs ds ∧ bindTs lk tg ds δ = some δ' ∧
  ∀ σ' F', RS K H σ' δ' F' → F'.Nodup → (∀ a ∈ F', a ∈ F) → (∀ j, j ∉ tgS tg → σ'[j]? = σ[j]?) → (∀ j ∈ lk, σ'[j]? = σ[j]?) → Q σ' H
theorem bindT_tup (lk : List Nat) (a as : Tg) (ds : List PyData) (δ : De) : bindT lk (.tc a as) (.tuple ds) δ = bindTs lk (.tc a as) ds δ := by
  cases ds with
  | nil => simp [bindT, bindTs]
  | cons d ds => rw [bindT, bindTs]
def tgN : Tg → Nat
  | .tc _ as => tgN as + 1
  | _ => 0
theorem bindTs_len {lk : List Nat} : ∀ {tg : Tg} {ds : List PyData} {δ δ' : De}, bindTs lk tg ds δ = some δ' → ds.length = tgN tg
  | .t0, [], _, _, _ => rfl
  | .t0, _ :: _, _, _, h => by simp [bindTs] at h
  | .n _, ds, _, _, h => by simp [bindTs] at h
  | .tc _ _, [], _, _, h => by simp [bindTs] at h
  | .tc a as, d :: ds, δ, δ', h => by
    rw [bindTs] at h
    split at h
    · exact congrArg (· + 1) (bindTs_len h)
    · cases h
theorem chkGs_len {sc fs : Scope} : ∀ {tg : Tg} {es : List Expr}, chkGs E sc fs tg es = true → es.length = tgN tg ∧ plains es = true
  | .t0, [], _ => ⟨rfl, rfl⟩
  | .t0, _ :: _, h => by simp [chkGs] at h
  | .n _, _, h => by simp [chkGs] at h
  | .tc _ _, [], h => by simp [chkGs] at h
  | .tc a as, e :: es, h => by
    simp only [chkGs, Bool.and_eq_true] at h
    obtain ⟨l, p⟩ := chkGs_len h.2
    exact ⟨congrArg (· + 1) l, by unfold plains at p ⊢; rw [List.all_cons, h.1.1, p]; rfl⟩
theorem plains_assign {env : Env} : ∀ {es : List Expr}, plains es = true → assignEach es env = es.map fun e => (false, assign e env)
  | [], _ => rfl
  | e :: es, h => by
    unfold plains at h
    rw [List.all_cons, Bool.and_eq_true] at h
    rw [plain_assign h.1, plains_assign (es := es) h.2]; rfl
theorem none_find {env : Env} : ∀ es : List Expr, (es.map fun e => (false, assign e env)).findIdx? (·.1) = none
  | [] => rfl
  | e :: es => by
    rw [List.map_cons, List.findIdx?_cons, none_find es]; rfl
theorem g_name (o : OkX E Γ k X sc) {fs : Scope} (hf : ∀ x, fs.names.lookup x = some .cell → X.fn x = true) (lk : List Nat) {i : Nat} {x : Str} (h1 : decide (E.N[i]? = some x) = true) (h2 : tgtB sc fs x = true) : PG X (.Name x pos) (gT X.K lk (.n i)) := by
  obtain ⟨l1, l2⟩ := o.tgt hf h2
  obtain ⟨run⟩ := pg_name (X := X) (pos := pos) (by rw [o.hN]; exact o.nd) (o.at h1) l1 l2
  refine ⟨fun pins s σ H v u Q I r ⟨δ, F, d, δ', st, nd, rp, hb, hq⟩ => run pins s σ H v u Q I r ?_⟩
  rw [bindT] at hb
  split at hb
  · cases hb
  · rename_i hlk
    split at hb
    · rename_i hi
      cases hb
      obtain ⟨Fm, R, pm, g, z, up⟩ := st.upd i hi
      obtain ⟨F', w, q⟩ := up H [] v (.p d) [] (Keep.refl _ _) (Still.refl _) (fun _ _ h => by cases h) (.p rp)
      refine hq _ F' w ?_ (fun a ha => ?_) (fun j hj => ?_) fun j hj => ?_
      · exact q.nodup_iff.mpr (by simpa using nd_right (pm.nodup_iff.mp nd))
      · exact pm.mem_iff.mpr (List.mem_append_right _ (by simpa using q.mem_iff.mp ha))
      · rw [List.getElem?_set_ne]
        intro e; subst e; exact hj (List.mem_singleton.mpr rfl)
      · rw [List.getElem?_set_ne]
        intro e; subst e; exact hlk hj
    · cases hb
theorem gs_cons {lk : List Nat} {a as : Tg} {e : Expr} {es : List Expr} (pl : plainB e = true) (h1 : PG X e (gT X.K lk a)) (h2 : PGs X es (gTs X.K lk as)) : PGs X (e :: es) (gTs X.K lk (.tc a as)) := by
  obtain ⟨run⟩ := pgs_cons h1 h2 (by rw [plain_assign pl]; rfl)
  refine ⟨fun pins s σ H vs us Q I r ⟨δ, F, ds, δ', st, nd, rp, hb, hq⟩ => run pins s σ H vs us Q I r ?_⟩
  cases rp with
  | nil => simp [bindTs] at hb
  | @cons v vs d ds ra rs =>
    rw [bindTs] at hb
    split at hb
    · rename_i δ1 e1
      refine ⟨v, vs, rfl, δ, F, d, δ1, st, nd, ra, e1, fun σ1 F1 w1 n1 s1 t1 l1 => ⟨δ1, F1, ds, δ', w1, n1, rs, hb, fun σ2 F2 w2 n2 s2 t2 l2 => ?_⟩⟩
      refine hq _ _ w2 n2 (fun x hx => s1 x (s2 x hx)) (fun j hj => ?_) fun j hj => (l2 j hj).trans (l1 j hj)
      simp only [tgS, List.mem_append, not_or] at hj
      exact (t2 j hj.2).trans (t1 j hj.1)
    · cases hb
mutual
theorem g_ok (o : OkX E Γ k X sc) {fs : Scope} (hf : ∀ x, fs.names.lookup x = some .cell → X.fn x = true) (lk : List Nat) : ∀ (tg : Tg) (e : Expr), chkG E sc fs tg e = true → PG X e (gT X.K lk tg)
  | .n i, e, h => by
    cases e <;> first | (simp [chkG] at h; done) | skip
    simp only [chkG, Bool.and_eq_true] at h
    exact g_name o hf lk h.1 h.2
  | .t0, e, h => by
    cases e <;> first | (simp [chkG] at h; done) | skip
    rename_i es _ _
    cases es with
    | cons _ _ => simp [chkG] at h
    | nil =>
      obtain ⟨run⟩ := pg_tup (X := X) (es := []) o.calm pgs_nil
      refine ⟨fun pins s σ H v u Q I r ⟨δ, F, d, δ', st, nd, rp, hb, hq⟩ => run pins s σ H v u Q I r ?_⟩
      cases d <;> first | (simp [bindT] at hb; done) | skip
      rename_i ds
      cases ds <;> first | (simp [bindT] at hb; done) | skip
      rw [bindT] at hb
      cases hb
      obtain ⟨b, xs, rfl, h1, h2⟩ := RM.pT (.p rp)
      cases h2
      exact ⟨b, [], rfl, h1, rfl, rfl, hq σ F st nd (fun _ h => h) (fun _ _ => rfl) fun _ _ => rfl⟩
  | .tc a as, e, h => by
    cases e <;> first | (simp [chkG] at h; done) | skip
    rename_i es _ _
    cases es with
    | nil => simp [chkG] at h
    | cons e es =>
      simp only [chkG, Bool.and_eq_true] at h
      have hc : chkGs E sc fs (.tc a as) (e :: es) = true := by simp only [chkGs, Bool.and_eq_true]; exact h
      obtain ⟨hl, hp⟩ := chkGs_len hc
      obtain ⟨run⟩ := pg_tup (X := X) (es := e :: es) o.calm (gs_cons h.1.1 (g_ok o hf lk a e h.1.2) (gs_ok o hf lk as es h.2)) rfl (by rw [plains_assign hp]; exact none_find _)
      refine ⟨fun pins s σ H v u Q I r ⟨δ, F, d, δ', st, nd, rp, hb, hq⟩ => run pins s σ H v u Q I r ?_⟩
      cases d <;> first | (simp [bindT] at hb; done) | skip
      rename_i ds
      obtain ⟨b, xs, rfl, h1, h2⟩ := RM.pT (.p rp)
      rw [bindT_tup] at hb
      refine ⟨b, xs, rfl, h1, ?_, δ, F, ds, δ', st, nd, h2, hb, hq⟩
      rw [plains_assign hp, h2.length, bindTs_len hb, List.length_map, hl]
theorem gs_ok (o : OkX E Γ k X sc) {fs : Scope} (hf : ∀ x, fs.names.lookup x = some .cell → X.fn x = true) (lk : List Nat) : ∀ (tg : Tg) (es : List Expr), chkGs E sc fs tg es = true → PGs X es (gTs X.K lk tg)
  | .n i, es, h => by simp [chkGs] at h
  | .t0, es, h => by
    cases es with
    | cons _ _ => simp [chkGs] at h
    | nil =>
      obtain ⟨run⟩ := pgs_nil (X := X)
      refine ⟨fun pins s σ H vs us Q I r ⟨δ, F, ds, δ', st, nd, rp, hb, hq⟩ => run pins s σ H vs us Q I r ?_⟩
      cases ds <;> first | (simp [bindTs] at hb; done) | skip
      rw [bindTs] at hb
      cases hb
      cases rp
      exact ⟨rfl, hq σ F st nd (fun _ h => h) (fun _ _ => rfl) fun _ _ => rfl⟩
  | .tc a as, es, h => by
    cases es with
    | nil => simp [chkGs] at h
    | cons e es =>
      simp only [chkGs, Bool.and_eq_true] at h
      exact gs_cons h.1.1 (g_ok o hf lk a e h.1.2) (gs_ok o hf lk as es h.2)
end
end
end Q
set_option Elab.async false
set_option linter.all false
set_option maxRecDepth 100000
set_option maxHeartbeats 1000000
/-! LM: list comprehensions. -/
namespace Q
open PySem PySem.Spec PyProof.Rows L2

section
variable {K : PySem.W.Frag} {H H1 : Hp} {σ : L2.St} {F F1 Fv : List Addr} {δ δ1 : De}
/-- nothing is told of a place: anything may stand there -/
theorem RS.blank : ∀ {σ : L2.St} {δ : De} {F : List Addr} (i : Nat) (x : Option V), RS K H σ δ F → δ[i]? = some none → RS K H (σ.set i x) δ F
  | _, _, _, _, _, .nil, h => by simp at h
  | _, _, _, 0, x, .no b, h => .no b
  | _, _, _, 0, x, .so a b, h => by simp at h
  | _, _, _, i + 1, x, .no b, h => .no (RS.blank i x b (by simpa using h))
  | _, _, _, i + 1, x, .so a b, h => .so a (RS.blank i x b (by simpa using h))
/-- what a place held is let go of -/
theorem RS.forget (st : RS K H σ δ F) (nd : F.Nodup) (i : Nat) (x : Option V) : ∃ F', RS K H (σ.set i x) (δ.set i none) F' ∧ F'.Nodup ∧ ∀ a ∈ F', a ∈ F := by
  by_cases hi : i < δ.length
  · obtain ⟨Fm, R, pm, g, z, up⟩ := st.upd i hi
    refine ⟨R, ?_, nd_right (pm.nodup_iff.mp nd), fun a ha => pm.mem_iff.mpr (List.mem_append_right _ ha)⟩
    exact RS.blank i x z (by simp [hi])
  · have e1 : σ.set i x = σ := List.set_eq_of_length_le (by rw [st.length]; omega)
    have e2 : δ.set i none = δ := List.set_eq_of_length_le (by omega)
    rw [e1, e2]
    exact ⟨F, st, nd, fun _ h => h⟩
theorem RS.wipes (st : RS K H σ δ F) (nd : F.Nodup) : ∀ is : List Nat, ∃ F', RS K H (L2.wipe σ is) (wipe δ is) F' ∧ F'.Nodup ∧ ∀ a ∈ F', a ∈ F
  | [] => ⟨F, st, nd, fun _ h => h⟩
  | i :: is => by
    obtain ⟨F1, s1, n1, h1⟩ := RS.wipes st nd is
    obtain ⟨F2, s2, n2, h2⟩ := s1.forget n1 i none
    exact ⟨F2, s2, n2, fun a ha => h1 a (h2 a ha)⟩
theorem wipe_len (δ : De) : ∀ is : List Nat, (wipe δ is).length = δ.length
  | [] => rfl
  | i :: is => by unfold wipe; rw [List.length_set, wipe_len δ is]
theorem wipe_get {δ : De} {i : Nat} : ∀ {is : List Nat}, i ∉ is → (wipe δ is)[i]? = δ[i]?
  | [], _ => rfl
  | j :: is, h => by
    simp only [List.mem_cons, not_or] at h
    unfold wipe
    rw [List.getElem?_set_ne (fun e => h.1 e.symm), wipe_get h.2]
theorem wipeV_get {σ : L2.St} {i : Nat} : ∀ {is : List Nat}, i ∉ is → (L2.wipe σ is)[i]? = σ[i]?
  | [], _ => rfl
  | j :: is, h => by
    simp only [List.mem_cons, not_or] at h
    unfold L2.wipe
    rw [List.getElem?_set_ne (fun e => h.1 e.symm), wipeV_get h.2]
theorem wipeV_mem {σ : L2.St} {i : Nat} : ∀ {is : List Nat}, i ∈ is → i < σ.length → (L2.wipe σ is)[i]? = some none
  | j :: is, h, hl => by
    unfold L2.wipe
    by_cases e : j = i
    · subst e
      rw [List.getElem?_set_self (by rw [wipe_length]; exact hl)]
    · rw [List.getElem?_set_ne e]
      rcases List.mem_cons.mp h with z | z
      · exact absurd z.symm e
      · exact wipeV_mem z hl
theorem wipeV_eq {σ τ : L2.St} {is : List Nat} (hl : σ.length = τ.length) (h : ∀ j, j ∉ is → σ[j]? = τ[j]?) : L2.wipe σ is = L2.wipe τ is := by
  apply List.ext_getElem?
  intro j
  by_cases hj : j ∈ is
  · by_cases hlt : j < σ.length
    · rw [wipeV_mem hj hlt, wipeV_mem hj (by omega)]
    · rw [List.getElem?_eq_none (by rw [wipe_length]; omega), List.getElem?_eq_none (by rw [wipe_length]; omega)]
  · rw [wipeV_get hj, wipeV_get hj, h j hj]
def backV (σ σ' : L2.St) : List Nat → L2.St
  | [] => σ'
  | i :: is => (backV σ σ' is).set i ((σ[i]?).getD none)
theorem backV_len (σ σ' : L2.St) : ∀ is, (backV σ σ' is).length = σ'.length
  | [] => rfl
  | i :: is => by unfold backV; rw [List.length_set, backV_len σ σ' is]
theorem backV_eq {σ σ' : L2.St} (hl : σ'.length = σ.length) : ∀ (is : List Nat) (j : Nat), ((j ∈ is ∨ σ'[j]? = σ[j]?) → (backV σ σ' is)[j]? = σ[j]?)
  | [], j, h => by
    rcases h with h | h
    · cases h
    · exact h
  | i :: is, j, h => by
    unfold backV
    by_cases e : i = j
    · subst e
      by_cases hi : i < σ.length
      · rw [List.getElem?_set_self (by rw [backV_len]; omega), List.getElem?_eq_getElem hi]; rfl
      · rw [List.getElem?_eq_none (by rw [List.length_set, backV_len]; omega), List.getElem?_eq_none (by omega)]
    · rw [List.getElem?_set_ne e]
      refine backV_eq hl is j ?_
      rcases h with h | h
      · rcases List.mem_cons.mp h with z | z
        · exact absurd z.symm e
        · exact .inl z
      · exact .inr h
/-- the names of a block stand again as they stood -/
theorem RS.backs {δ₀ : De} {F0 : List Addr} (s0 : RS K H1 σ δ₀ F0) (sl : Still H1 H) {σ' : L2.St} (hl : σ'.length = σ.length) : ∀ (is : List Nat) {F : List Addr}, lightAll δ₀ is = true → RS K H σ' δ F → F.Nodup → ∃ F', RS K H (backV σ σ' is) (back δ₀ δ is) F' ∧ F'.Nodup ∧ ∀ a ∈ F', a ∈ F
  | [], F, _, st, nd => ⟨F, st, nd, fun _ h => h⟩
  | i :: is, F, hli, st, nd => by
    unfold lightAll at hli
    rw [List.all_cons, Bool.and_eq_true, Bool.and_eq_true, decide_eq_true_eq] at hli
    obtain ⟨⟨h1, h2⟩, h3⟩ := hli
    obtain ⟨F1, s1, n1, u1⟩ := RS.backs s0 sl hl is h3 st nd
    unfold back backV
    cases e : (δ₀[i]?).getD none with
    | none =>
      obtain ⟨F2, s2, n2, u2⟩ := s1.forget n1 i ((σ[i]?).getD none)
      exact ⟨F2, s2, n2, fun a ha => u1 a (u2 a ha)⟩
    | some m =>
      rw [e] at h2
      cases m with
      | l _ => cases h2
      | dc _ => cases h2
      | p d =>
        obtain ⟨v, Fm, ev, rm, _⟩ := s0.get e
        cases rm with
        | p rp =>
          have hi : i < (back δ₀ δ is).length := by
            rw [← s1.length, backV_len, hl, s0.length]; exact h1
          obtain ⟨Fm, R, pm, g, z, up⟩ := s1.upd i hi
          obtain ⟨F', w, q⟩ := up H [] v (.p d) [] (Keep.refl _ _) (Still.refl _) (fun _ _ h => by cases h) (.p (rp.still sl))
          rw [ev]
          exact ⟨F', w, q.nodup_iff.mpr (by simpa using nd_right (pm.nodup_iff.mp n1)), fun a ha => u1 a (pm.mem_iff.mpr (List.mem_append_right _ (by simpa using q.mem_iff.mp ha)))⟩
end

theorem upd_id {H : Hp} {a : Addr} {o : HO} (h : H a = some o) : upd H a o = H := by
  funext b
  by_cases e : b = a
  · subst e; rw [upd_same, h]
  · rw [upd_ne e]
section
variable {E : SE} {Γ : List Spec} {k : Nat} {X : Cx} {sc : Scope} {pos p2 p3 : Pos}
theorem Still.trans {H1 H2 H3 : Hp} (a : Still H1 H2) (b : Still H2 H3) : Still H1 H3 := fun x o e n => b x o (a x o e n) n
/-- what is written is owned, or new -/
structure Tr (A : Hp) (F : List Addr) (B : Hp) (F' : List Addr) : Prop where
  kp : Keep A B F
  fr : Fresh A F F'
theorem Tr.none {A B : Hp} {F F' : List Addr} (t : Tr A F B F') {x : Addr} (h : B x = none) : x ∈ F ∨ A x = none := by
  by_cases hF : x ∈ F
  · exact .inl hF
  · refine .inr ?_
    cases e : A x with
    | none => rfl
    | some o => rw [t.kp x o e hF] at h; cases h
theorem Tr.trans {A B C : Hp} {F F' F'' : List Addr} (a : Tr A F B F') (b : Tr B F' C F'') : Tr A F C F'' := by
  refine ⟨fun x o e n => b.kp x o (a.kp x o e n) fun z => ?_, fun x hx => ?_⟩
  · rcases a.fr x z with y | y
    · exact n y
    · rw [e] at y; cases y
  · rcases b.fr x hx with z | z
    · exact a.fr x z
    · exact a.none z
theorem Tr.sub {A B : Hp} {F F' F'' : List Addr} (a : Tr A F B F') (h : ∀ x ∈ F'', x ∈ F') : Tr A F B F'' := ⟨a.kp, fun x hx => a.fr x (h x hx)⟩
theorem Tr.refl (A : Hp) (F : List Addr) : Tr A F A F := ⟨Keep.refl _ _, fun _ h => .inl h⟩
theorem Rx.tr {K : PySem.W.Frag} {σ : L2.St} {H H1 : Hp} {F F1 Fv : List Addr} {δ1 : De} {vs : List V} {xs : List Val} (r : Rx K σ H F H1 δ1 vs xs F1 Fv) : Tr H F H1 F1 := ⟨r.kp, fun x hx => r.fr x (List.mem_append_right _ hx)⟩
/-- an address that stands and is not owned stays so -/
theorem Tr.off {A B : Hp} {F F' : List Addr} (t : Tr A F B F') {x : Addr} {o : HO} (e : A x = some o) (n : x ∉ F) : x ∉ F' ∧ B x = some o :=
  ⟨fun h => (t.fr x h).elim n (fun z => by rw [e] at z; cases z), t.kp x o e n⟩
mutual
theorem bindT_len {lk : List Nat} : ∀ {tg : Tg} {d : PyData} {δ δ' : De}, bindT lk tg d δ = some δ' → δ'.length = δ.length
  | .n i, d, δ, δ', h => by
    rw [bindT] at h
    split at h
    · cases h
    · split at h
      · cases h; exact List.length_set ..
      · cases h
  | .t0, d, δ, δ', h => by
    cases d <;> first | (simp [bindT] at h; done) | skip
    rename_i ds
    cases ds <;> first | (simp [bindT] at h; done) | skip
    rw [bindT] at h; cases h; rfl
  | .tc a as, d, δ, δ', h => by
    cases d <;> first | (simp [bindT] at h; done) | skip
    rename_i ds
    cases ds <;> first | (simp [bindT] at h; done) | skip
    rw [bindT] at h
    split at h
    · rename_i e; exact (bindTs_lenD h).trans (bindT_len e)
    · cases h
theorem bindTs_lenD {lk : List Nat} : ∀ {tg : Tg} {d : List PyData} {δ δ' : De}, bindTs lk tg d δ = some δ' → δ'.length = δ.length
  | .n i, d, δ, δ', h => by simp [bindTs] at h
  | .t0, ds, δ, δ', h => by
    cases ds <;> first | (simp [bindTs] at h; done) | skip
    rw [bindTs] at h; cases h; rfl
  | .tc a as, ds, δ, δ', h => by
    cases ds <;> first | (simp [bindTs] at h; done) | skip
    rw [bindTs] at h
    split at h
    · rename_i e; exact (bindTs_lenD h).trans (bindT_len e)
    · cases h
end
theorem Mk.rx {K : PySem.W.Frag} {H H' : Hp} {σ : L2.St} {F : List Addr} {δ : De} {v : V} {d : PyData} (h : Mk K H v (.p d) H') (st : RS K H σ δ F) : RS K H' σ δ F ∧ RP K H' v d ∧ Keep H H' [] := by
  cases h with
  | pure r => exact ⟨st, r, Keep.refl _ _⟩
  | tup hp r =>
    rename_i p zs ds
    have k0 : Keep H (upd H p (.tup zs)) [] := Keep.new hp []
    have s0 := k0.still fun x hx => by cases hx
    exact ⟨st.keep k0 s0 (fun _ _ h => by cases h), .tup (.inl (.inl upd_same)) (r.still s0), k0⟩
theorem lc_go {own : List Nat} {tg : Tg} {src ifs elt : C} (htg : ∀ i ∈ tgS tg, i ∈ own) {σ : L2.St} {H : Hp} {Q : VK} (h : ∃ δ F Kc, RS X.K H σ δ F ∧ F.Nodup ∧ wpE Γ XF (.comp own tg src ifs elt) δ Kc ∧ ∀ ds δ' v H' F' Fv, Kc (.own (.l ds)) δ' → Rx X.K σ H F H' δ' [v] [.own (.l ds)] F' Fv → Q v H') :
    tLc (tI X.K (wpI Γ XF src)) (gT X.K [] tg) (tT X.K (wpA Γ XF ifs)) (tG (tE X.K (wpE Γ XF elt))) own σ H Q := by
  obtain ⟨δ, F, Kc, st, nd, hw, hq⟩ := h
  rw [wpE] at hw
  refine ⟨δ, F, _, st, nd, hw, fun s δ1 H1 F1 J kc rx sw D hD => ?_⟩
  obtain ⟨hli, hz, loop⟩ := kc
  generalize htn : (fun (x : PyData) (δ2 : De) (k : Option PyData → De → Prop) => ∃ δ3, bindT [] tg x δ2 = some δ3 ∧ wpA Γ XF ifs δ3 fun b δ4 => if b = true then wpE Γ XF elt δ4 fun y δ5 => frz y δ5 fun d δ6 => k (some d) δ6 else k none δ4) = turn at loop
  have k0 : Keep H1 (upd H1 D (.lst [])) [] := Keep.new hD []
  have sl0 := k0.still fun x hx => by cases hx
  have hgd : ∀ g ∈ s.gd, g.1 ∉ own := fun g hg hin => by
    have : gdOk s.gd (wipe δ1 own) := by
      cases hi : s.items with
      | nil => rw [hi, compLoop] at loop; exact loop.1
      | cons x xs => rw [hi, compLoop] at loop; exact loop.1
    obtain ⟨m, e, _⟩ := this g hg
    have : ∀ is : List Nat, g.1 ∈ is → ((wipe δ1 is)[g.1]?).getD none = none := by
      intro is
      induction is with
      | nil => intro h; cases h
      | cons j is ih =>
        intro h
        unfold wipe
        by_cases ej : j = g.1
        · subst ej
          by_cases hl : g.1 < (wipe δ1 is).length
          · rw [List.getElem?_set_self hl]; rfl
          · rw [List.getElem?_eq_none (by rw [List.length_set]; omega)]; rfl
        · rw [List.getElem?_set_ne ej]
          exact ih ((List.mem_cons.mp h).resolve_left fun z => ej z.symm)
    rw [this own hin] at e; cases e
  have same : ∀ g ∈ s.gd, (L2.wipe σ own)[g.1]? = σ[g.1]? := fun g hg => wipeV_get (hgd g hg)
  have nF1 : D ∉ F1 := fun h => by
    obtain ⟨o, e, _⟩ := rx.st.owns D h
    rw [hD] at e; cases e
  -- what holds at each turn
  let Pv : Nat → Hp → Prop := fun i H' => ∃ δ' F' acc ds, RS X.K H' (L2.wipe σ own) δ' F' ∧ F'.Nodup ∧ H' D = some (.lst acc) ∧ RPs X.K H' acc ds ∧ acc.length ≤ i ∧ D ∉ F' ∧ Tr H1 F1 H' F' ∧
    compLoop own s.gd turn (s.items.drop i) δ' (fun ds' δ'' => Kc (.own (.l (ds ++ ds'))) (back δ1 δ'' own))
  have still1 : ∀ {H' : Hp} {F' : List Addr}, Tr H1 F1 H' F' → Still H1 H' := fun t => t.kp.still rx.st.owns
  refine ⟨fun i m H' => m = s.items.length - i ∧ i ≤ s.items.length ∧ Pv i H', ⟨s.items.length, by simp, Nat.zero_le _, ?_⟩, ?_⟩
  · obtain ⟨F', w, n, u⟩ := (rx.st.keep k0 sl0 (fun _ _ h => by cases h)).wipes (nd_right rx.nd) own
    refine ⟨_, F', [], [], w, n, upd_same, .nil, Nat.le_refl _, fun h => nF1 (u D h), ⟨k0.mono (fun _ h => by cases h), fun a ha => .inl (u a ha)⟩, ?_⟩
    rw [List.drop_zero]
    exact loop
  · rintro i m H' ⟨rfl, hi, δ', F', acc, ds, w, n, eD, rs, hl, nD, tr, lp⟩
    by_cases hlt : i < s.items.length
    · rw [List.drop_eq_getElem_cons hlt, compLoop] at lp
      obtain ⟨g, lp⟩ := lp
      refine .inr ⟨sw.go i H' _ δ' F' hlt (still1 tr) w g same, Pv (i + 1), fun H2 p => ⟨_, ?_, rfl, hlt, p⟩, fun x H2 y => ?_⟩
      · omega
      obtain ⟨d, ed, mk⟩ := sw.yld i H' _ δ' F' x H2 hlt (still1 tr) w g same y
      rw [List.getElem?_eq_getElem hlt] at ed
      cases ed
      rw [← htn] at lp
      obtain ⟨δ3, hb, hA⟩ := lp
      obtain ⟨w2, rp, k2⟩ := mk.rx w
      refine ⟨δ', F', _, δ3, w2, n, rp, hb, fun σ' F3 w3 n3 s3 t3 _ => ⟨?_, δ3, F3, _, w3, n3, hA, fun b δ4 H3 F4 kb rx4 => ?_⟩⟩
      · refine wipeV_eq ?_ fun j hj => ?_
        · rw [w3.length, bindT_len hb, ← w.length, wipe_length]
        · rw [t3 j (fun h => hj (htg j h)), wipeV_get hj]
      have ew : L2.wipe σ' own = L2.wipe σ own := by
        refine wipeV_eq ?_ fun j hj => ?_
        · rw [w3.length, bindT_len hb, ← w.length, wipe_length]
        · rw [t3 j (fun h => hj (htg j h)), wipeV_get hj]
      have tr2 : Tr H' F' H2 F3 := ⟨k2.mono (fun _ h => by cases h), fun a ha => .inl (s3 a ha)⟩
      have tr3 := tr2.trans rx4.tr
      obtain ⟨nD3, eD3⟩ := tr3.off eD nD
      have own' : Owns H' F' := w.owns
      have next : ∀ {H6 : Hp} {δ6 : De} {F6 : List Addr} {add : List V} {dd : List PyData}, RS X.K H6 σ' δ6 F6 → F6.Nodup → Tr H' F' H6 F6 → RPs X.K H6 add dd → add.length ≤ 1 →
          compLoop own s.gd turn (s.items.drop (i + 1)) (wipe δ6 own) (fun ds' δ'' => Kc (.own (.l (ds ++ (dd ++ ds')))) (back δ1 δ'' own)) → Pv (i + 1) (upd H6 D (.lst (acc ++ add))) := fun {H6 δ6 F6 add dd} w6 n6 t6 ra hadd lp6 => by
        obtain ⟨nD6, eD6⟩ := t6.off eD nD
        have k6 : Keep H6 (upd H6 D (.lst (acc ++ add))) [D] := fun b o e nn => by rw [upd_ne (by simpa using nn)]; exact e
        have s6 := k6.still fun b hb => by rw [List.mem_singleton] at hb; subst hb; exact ⟨_, eD6, trivial⟩
        have w7 := w6.keep k6 s6 fun a ha hz => nD6 (by rw [List.mem_singleton] at hz; subst hz; exact ha)
        obtain ⟨F7, w8, n8, u8⟩ := w7.wipes n6 own
        rw [ew] at w8
        have tt := tr.trans t6
        refine ⟨_, F7, acc ++ add, ds ++ dd, w8, n8, upd_same, ?_, ?_, fun h => nD6 (u8 D h), ⟨fun a o e nn => ?_, fun a ha => tt.fr a (u8 a ha)⟩, ?_⟩
        · exact ((rs.still (t6.kp.still own')).append ra).still s6
        · rw [List.length_append]; omega
        · have ne : a ≠ D := fun z => by rw [z, hD] at e; cases e
          rw [upd_ne ne]
          exact tt.kp a o e nn
        · simpa only [List.append_assoc] using lp6
      cases b with
      | true =>
        rw [if_pos rfl] at kb
        show (if true = true then _ else _)
        rw [if_pos rfl]
        refine ⟨δ4, F4, _, rx4.st, nd_right rx4.nd, kb, fun y δ5 v H4 F5 Fv k5 r5 => frz_ok (Q := fun y H4 => ∃ acc, H4 D = some (.lst acc) ∧ acc.length < sizeLine ∧ Pv (i + 1) (upd H4 D (.lst (acc ++ [y])))) r5 k5 fun d' δ6 H6 F6 p rp6 rx6 => ?_⟩
        have t6 := tr3.trans rx6.tr
        exact ⟨acc, (t6.off eD nD).2, by omega, next (dd := [d']) rx6.st (nd_right rx6.nd) t6 (.cons rp6 .nil) (Nat.le_refl _) (by rw [← htn]; exact p)⟩
      | false =>
        rw [if_neg Bool.false_ne_true] at kb
        show (if false = true then _ else _)
        rw [if_neg Bool.false_ne_true]
        have := next (add := []) (dd := []) rx4.st (nd_right rx4.nd) tr3 .nil (Nat.zero_le _) (by rw [← htn]; exact kb)
        rw [List.append_nil, upd_id eD3] at this
        exact this
    · have e : i = s.items.length := by omega
      subst e
      rw [List.drop_length, compLoop] at lp
      obtain ⟨g, lp⟩ := lp
      refine .inl ⟨sw.stop H' _ δ' F' (still1 tr) w g same, ?_⟩
      obtain ⟨F8, w8, n8, u8⟩ := rx.st.backs (still1 tr) (wipe_length σ own) own hli w n
      have eb : backV σ (L2.wipe σ own) own = σ := by
        apply List.ext_getElem?
        intro j
        refine backV_eq (wipe_length σ own) own j ?_
        by_cases hj : j ∈ own
        · exact .inl hj
        · exact .inr (wipeV_get hj)
      rw [eb] at w8
      rw [List.append_nil] at lp
      have nD8 : D ∉ F8 := fun h => nD (u8 D h)
      have tt := rx.tr.trans (tr.sub u8)
      refine hq _ _ _ _ F8 [D] lp ⟨w8, .one (.l eD rs), ?_, tt.kp, fun a ha => ?_⟩
      · exact nd_mk (by simp) n8 fun a ha hz => by rw [List.mem_singleton] at ha; subst ha; exact nD8 hz
      · rcases List.mem_append.mp ha with ha | ha
        · rw [List.mem_singleton] at ha; subst ha
          exact rx.tr.none hD
        · exact tt.fr a ha
theorem OkX.blk (o : OkX E Γ k X sc) (s : Shared) (H : Hp) (scope : Scope) (C : Addr) (cl : List (Str × Addr)) (fp : List Addr) : OkX E Γ k (X.blk s H scope (compEnvC scope cl C X.env) fp) (relS scope sc) :=
  ⟨o.hN, o.nd, o.calm, by rw [← o.hsc]; rfl, o.room, o.gd, o.dig, o.blt, o.con, o.calls⟩
theorem blk_fn (s : Shared) (H : Hp) (scope : Scope) (C : Addr) (cl : List (Str × Addr)) (fp : List Addr) : ∀ x, scope.names.lookup x = some .cell → (X.blk s H scope (compEnvC scope cl C X.env) fp).fn x = true := fun x h => by
  show (scope.names.lookup x == some NameKind.cell) = true
  rw [h]; rfl
structure CompOk (E : SE) (Γ : List Spec) (X : Cx) (sc scope : Scope) (own : List Nat) (tg : Tg) (src ifs elt : C) (et ei : Expr) (eifs : List Expr) (ee : Expr) : Prop where
  b : blkC E.N sc scope (ownB E.N own) = true
  how : (ownB E.N own).map (·.2) = own
  htg : ∀ i ∈ tgS tg, i ∈ own
  pl : plainB ei = true
  i : PI X et ei (tI X.K (wpI Γ XF src))
  g : ∀ (s : Shared) (H : Hp) (C : Addr) (cl : List (Str × Addr)) (fp : List Addr), PG (X.blk s H scope (compEnvC scope cl C X.env) fp) et (gT X.K [] tg)
  t : ∀ (s : Shared) (H : Hp) (C : Addr) (cl : List (Str × Addr)) (fp : List Addr), PTs (X.blk s H scope (compEnvC scope cl C X.env) fp) eifs (tT X.K (wpA Γ XF ifs))
  e : ∀ (s : Shared) (H : Hp) (C : Addr) (cl : List (Str × Addr)) (fp : List Addr), PE (X.blk s H scope (compEnvC scope cl C X.env) fp) ee (tE X.K (wpE Γ XF elt))
theorem s_comp (o : OkX E Γ k X sc) {own : List Nat} {tg : Tg} {src ifs elt : C} {et ei ee : Expr} {eifs : List Expr} {scope : Scope} (c : CompOk E Γ X sc scope own tg src ifs elt et ei eifs ee) :
    PE X (.ListComp ee [⟨et, ei, eifs, 0⟩] scope pos) (tE X.K (wpE Γ XF (.comp own tg src ifs elt))) := by
  have h := pe_lc (pos := pos) o.calm (by rw [o.hN]; exact o.nd) c.i (by rw [o.hN, o.hsc]; exact blkOk_by c.b) c.g c.t (fun s H C cl fp => pe_ghost (c.e s H C cl fp)) (plain_fold c.pl _)
  rw [c.how] at h
  exact PE.wk h fun σ H Q ⟨δ, F, Kc, st, nd, hw, hq⟩ => lc_go c.htg ⟨δ, F, Kc, st, nd, hw, fun ds δ' v H' F' Fv kc rx => hq _ _ _ _ _ _ kc rx⟩
theorem s_setLc (o : OkX E Γ k X sc) {i : Nat} {y : Str} {py : Pos} {spos : Pos} {own : List Nat} {tg : Tg} {src ifs elt : C} {et ei ee : Expr} {eifs : List Expr} {scope : Scope} (c : CompOk E Γ X sc scope own tg src ifs elt et ei eifs ee) (h1 : X.N[i]? = some y) (h2 : X.env.scope.names.lookup y = some .local)
    (hsw : swapsWith (.ListComp ee [⟨et, ei, eifs, 0⟩] scope pos) (some (.Name y py)) spos.line X.env = pure true) :
    PS X (.Assign [.Name y py] (.ListComp ee [⟨et, ei, eifs, 0⟩] scope pos) spos) (tAsg (fun σ H Q => ∃ δ F Kc, RS X.K H σ δ F ∧ F.Nodup ∧ wpE Γ XF (.comp own tg src ifs elt) δ Kc ∧ ∀ ds δ' v H' F' Fv, Kc (.own (.l ds)) δ' → Rx X.K σ H F H' δ' [v] [.own (.l ds)] F' Fv → Q v H') (gName i)) := by
  have h := ps_setLc o.calm (by rw [o.hN]; exact o.nd) h1 h2 hsw c.i (by rw [o.hN, o.hsc]; exact blkOk_by c.b) c.g c.t (fun s H C cl fp => pe_ghost (c.e s H C cl fp)) (plain_fold c.pl _)
  rw [c.how] at h
  exact PS.wk h fun D σ H hw => lc_go c.htg hw
end
end Q
set_option Elab.async false
set_option linter.all false
set_option maxRecDepth 100000
set_option maxHeartbeats 1000000
/-! ZQ: zip of lists and tuples, two or three, strict or not. -/
namespace Q
open PySem PySem.Spec PyProof.Rows L2
abbrev IsZipS (h : Heap) (z TI TO : Addr) (f0 : Value) : Prop :=
  h.get? z = some { cls := .type "zip", dict := none, data := .fields #[f0, .bool false, .bool true, .ref TI, .ref TO], slots := #[] }
section
variable {prog : Program} {w : World} {A : Around} {E : Value → Shared → Prop} {s : Shared} {z TI TO i1 i2 : Addr} {fa fb : List Addr} {n1 n2 i : Nat} {Pa Pb : Nat → Value → Prop} {Sa Sb : Nat → Heap → Prop} {a1 a2 : Value}
theorem zipS_next_item {Q : Value → Shared → Prop} (S : ZipSep2 z TI TO i1 i2 fa fb) (U1 : Draws prog w A i1 fa n1 Pa Sa) (U2 : Draws prog w A i2 fb n2 Pb Sb)
    (hz : IsZipS s.heap z TI TO .none) (tI : IsTupOf2 s.heap TI (.ref i1) (.ref i2)) (tO : IsTupOf2 s.heap TO a1 a2) (st1 : Sa i s.heap) (st2 : Sb i s.heap) (lt1 : i < n1) (lt2 : i < n2)
    (hQ : ∀ x1 x2 h' tk, Pa i x1 → Pb i x2 → IsZipS h' z TI TO (rawInt s.heap.objs.size) → IsTupOf2 h' TO x1 x2 → Sa (i + 1) h' → Sb (i + 1) h' → IsTupOf2 h' s.heap.objs.size x1 x2 → h'.objs.size = s.heap.objs.size + 1 →
      (∀ c o, c ≠ z → c ≠ TO → c ≠ i1 → c ≠ i2 → s.heap.get? c = some o → h'.get? c = some o) → Q (.ref s.heap.objs.size) { s with heap := h', toks := tk }) :
    wpAny (model prog w) A (Builtin.«zip.__next__» ⟨[.ref z], []⟩) (fun fin s' => ∃ v, fin = .done (.ret v) ∧ Q v s') E s := by
  obtain ⟨hp, g, d, k0, os⟩ := s
  show wpAny _ _ (field (.ref z) 2 >>= _) _ _ _
  refine wpAny_bind (wpAny_field hz rfl (x := .bool true) rfl ?_)
  show wpAny _ _ (field (.ref z) 3 >>= _) _ _ _
  refine wpAny_bind (wpAny_field hz rfl (x := .ref TI) rfl ?_)
  refine wpAny_bind (wpAny_seqItems tI rfl ?_)
  show wpAny _ _ (Builtin.SmallTypes.ownedTupleIsFree (.ref z) >>= _) _ _ _
  refine wpAny_bind ?_
  unfold Builtin.SmallTypes.ownedTupleIsFree
  refine wpAny_bind (wpAny_field hz rfl (x := .none) rfl (wpAny_pure ?_))
  simp only [if_true]
  refine wpAny_bind (wpAny_rule ?_)
  refine wpAny_bind (wpAny_field hz rfl (x := .ref TO) rfl ?_)
  refine wpAny_bind (wpAny_setField_rec hz (by simp) fun g0 y0 r0 => ?_)
  replace y0 : IsZipS g0 z TI TO .ellipsis := y0
  replace r0 : Heap.SameBut z hp g0 := r0
  refine wpAny_bind ?_
  simp only [List.zipIdx_cons, List.zipIdx_nil, List.forIn_cons, List.forIn_nil]
  refine wpAny_bind (wpAny_bind (wpAny_onRaise ?_))
  show wpAny _ _ ((Builtin.SmallTypes.nextOf (.ref i1)).attempt >>= _) _ _ ⟨g0, g, d, k0, os⟩
  refine wpAny_bind (wpAny_attempt (U1.item i _ _ _ lt1 (U1.over st1 r0 S.zf1) fun x1 p1 k1 hx1 sn1 q1 => wpAny_pure ?_))
  replace q1 : Heap.SameBut i1 g0 p1 := q1
  have v1 : IsTupOf2 p1 TO a1 a2 := q1.extBut _ _ S.Ti1 (r0.extBut _ _ S.TOz tO)
  refine wpAny_bind (wpAny_seqItems (s := ⟨p1, g, d, k1, os⟩) v1 rfl ?_)
  refine wpAny_bind (updateSeq_IsTupOf2 (s := ⟨p1, g, d, k1, os⟩) v1 fun g1 w1 r1 => ?_)
  replace w1 : IsTupOf2 g1 TO x1 a2 := w1
  replace r1 : Heap.SameBut TO p1 g1 := r1
  refine wpAny_bind (wpAny_letGo (wpAny_pure ?_))
  refine wpAny_bind (wpAny_bind (wpAny_onRaise ?_))
  show wpAny _ _ ((Builtin.SmallTypes.nextOf (.ref i2)).attempt >>= _) _ _ ⟨g1, g, d, k1, os⟩
  refine wpAny_bind (wpAny_attempt (U2.item i _ _ _ lt2 (U2.over (U2.over (U2.over st2 r0 S.zf2) q1 S.sep1_2) r1 S.Tf2) fun x2 p2 k2 hx2 sn2 q2 => wpAny_pure ?_))
  replace q2 : Heap.SameBut i2 g1 p2 := q2
  have v2 : IsTupOf2 p2 TO x1 a2 := q2.extBut _ _ S.Ti2 w1
  refine wpAny_bind (wpAny_seqItems (s := ⟨p2, g, d, k2, os⟩) v2 rfl ?_)
  refine wpAny_bind (updateSeq_IsTupOf2 (s := ⟨p2, g, d, k2, os⟩) v2 fun g2 w2 r2 => ?_)
  replace w2 : IsTupOf2 g2 TO x1 x2 := w2
  replace r2 : Heap.SameBut TO p2 g2 := r2
  refine wpAny_bind (wpAny_letGo (wpAny_pure (wpAny_pure ?_)))
  refine wpAny_bind (wpAny_seqItems (s := ⟨g2, g, d, k2, os⟩) w2 rfl ?_)
  refine wpAny_bind (wpAny_newTuple ?_)
  have ez : g2.objs.size = hp.objs.size := by rw [r2.1, q2.1, r1.1, q1.1, r0.1]
  have zz : IsZipS g2 z TI TO .ellipsis := (r2.extBut _ _ S.TOz.symm (q2.extBut _ _ S.zi2 (r1.extBut _ _ S.TOz.symm (q1.extBut _ _ S.zi1 y0))))
  have kk : ∀ c o, c ≠ z → c ≠ TO → c ≠ i1 → c ≠ i2 → hp.get? c = some o → g2.get? c = some o := fun c o cz cT c1 c2 e =>
    (r2.extBut _ _ cT (q2.extBut _ _ c2 (r1.extBut _ _ cT (q1.extBut _ _ c1 (r0.extBut _ _ cz e)))))
  have j1 : Sa (i + 1) g2 := (U1.over (U1.over (U1.over sn1 r1 S.Tf1) q2 S.sep2_1) r2 S.Tf1)
  have j2 : Sb (i + 1) g2 := (U2.over sn2 r2 S.Tf2)
  have lz : z < g2.objs.size := Heap.lt_size zz
  show wpAny _ _ (Builtin.SmallTypes.ownedTupleHandOut (.ref z) (.ref g2.objs.size) >>= _) _ _ ⟨g2.push { cls := .type "tuple", data := .seq #[x1, x2] }, g, d, k2, os⟩
  refine wpAny_bind ?_
  unfold Builtin.SmallTypes.ownedTupleHandOut
  have y6 : IsZipS (g2.push { cls := .type "tuple", data := .seq #[x1, x2] }) z TI TO .ellipsis := Heap.get?_push_of_some _ zz
  refine wpAny_bind (wpAny_setField_rec y6 (by simp) fun g7 y7 r7 => ?_)
  replace y7 : IsZipS g7 z TI TO (rawInt g2.objs.size) := y7
  refine wpAny_setField_rec y7 (by simp) fun g8 y8 r8 => ?_
  replace y8 : IsZipS g8 z TI TO (rawInt g2.objs.size) := y8
  replace r7 : Heap.SameBut z (g2.push { cls := .type "tuple", data := .seq #[x1, x2] }) g7 := r7
  replace r8 : Heap.SameBut z g7 g8 := r8
  have up : ∀ c o, c ≠ z → g2.get? c = some o → g8.get? c = some o := fun c o c1 e => r8.extBut _ _ c1 (r7.extBut _ _ c1 (Heap.get?_push_of_some _ e))
  have w8 : IsTupOf2 g8 g2.objs.size x1 x2 := r8.extBut _ _ (Nat.ne_of_gt lz) (r7.extBut _ _ (Nat.ne_of_gt lz) (Heap.get?_push_size _ rfl))
  have e8 : g8.objs.size = g2.objs.size + 1 := by rw [r8.1, r7.1, Heap.size_push]
  rw [ez] at y8 w8 e8
  refine wpAny_pure ⟨_, rfl, ?_⟩
  show Q (.ref g2.objs.size) ⟨g8, g, d, k2, os⟩
  rw [ez]
  exact hQ x1 x2 g8 k2 hx1 hx2 y8 (up _ _ S.TOz w2) (U1.frame _ _ _ j1 fun b hb o e => up b o (fun q => S.zf1 (q ▸ hb)) e) (U2.frame _ _ _ j2 fun b hb o e => up b o (fun q => S.zf2 (q ▸ hb)) e) w8 e8 fun c o cz cT c1 c2 e => up c o cz (kk c o cz cT c1 c2 e)

theorem zipS_next_end {n : Nat} {Q : Fin → Shared → Prop} (hh : A.handled = none) (S : ZipSep2 z TI TO i1 i2 fa fb) (U1 : Draws prog w A i1 fa n Pa Sa) (U2 : Draws prog w A i2 fb n Pb Sb)
    (hz : IsZipS s.heap z TI TO .none) (tI : IsTupOf2 s.heap TI (.ref i1) (.ref i2)) (tO : IsTupOf2 s.heap TO a1 a2) (st1 : Sa n s.heap) (st2 : Sb n s.heap)
    (hE : ∀ h' k' e, (∀ c o, c ≠ z → c ≠ TO → c ≠ i1 → c ≠ i2 → s.heap.get? c = some o → h'.get? c = some o) → (∃ o, h'.get? e = some o ∧ o.cls = .type "StopIteration") → E (.ref e) { s with heap := h', toks := k' }) :
    wpAny (model prog w) A (Builtin.«zip.__next__» ⟨[.ref z], []⟩) Q E s := by
  obtain ⟨hp, g, d, k0, os⟩ := s
  show wpAny _ _ (field (.ref z) 2 >>= _) _ _ _
  refine wpAny_bind (wpAny_field hz rfl (x := .bool true) rfl ?_)
  show wpAny _ _ (field (.ref z) 3 >>= _) _ _ _
  refine wpAny_bind (wpAny_field hz rfl (x := .ref TI) rfl ?_)
  refine wpAny_bind (wpAny_seqItems tI rfl ?_)
  show wpAny _ _ (Builtin.SmallTypes.ownedTupleIsFree (.ref z) >>= _) _ _ _
  refine wpAny_bind ?_
  unfold Builtin.SmallTypes.ownedTupleIsFree
  refine wpAny_bind (wpAny_field hz rfl (x := .none) rfl (wpAny_pure ?_))
  simp only [if_true]
  refine wpAny_bind (wpAny_rule ?_)
  refine wpAny_bind (wpAny_field hz rfl (x := .ref TO) rfl ?_)
  refine wpAny_bind (wpAny_setField_rec hz (by simp) fun g0 y0 r0 => ?_)
  replace y0 : IsZipS g0 z TI TO .ellipsis := y0
  replace r0 : Heap.SameBut z hp g0 := r0
  refine wpAny_bind ?_
  simp only [List.zipIdx_cons, List.zipIdx_nil, List.forIn_cons, List.forIn_nil]
  refine wpAny_bind (wpAny_bind (wpAny_onRaise ?_))
  show wpAny _ _ ((Builtin.SmallTypes.nextOf (.ref i1)).attempt >>= _) _ _ ⟨g0, g, d, k0, os⟩
  refine wpAny_bind (wpAny_attempt (U1.done ⟨g0, g, d, k0, os⟩ _ _ (U1.over st1 r0 S.zf1) fun q e hq he => ?_))
  replace hq : Heap.ExtBut i1 g0 q := hq
  obtain ⟨oe, oe1, oe2⟩ := he
  replace oe1 : q.get? e = some oe := oe1
  refine wpAny_bind (wpAny_isInstance (T := "StopIteration") (b := true) ⟨oe, oe1, oe2⟩ isSubtype_stop ?_)
  refine wpAny_pure ?_
  have zq : IsZipS q z TI TO .ellipsis := hq _ _ S.zi1 y0
  refine wpAny_bind (wpAny_setField_rec (s := ⟨q, g, d, k0, os⟩) zq (by simp) fun q' _ p' => ?_)
  replace p' : Heap.SameBut z q q' := p'
  have st2' : Sb n q' := U2.over (U2.frame _ _ _ (U2.over st2 r0 S.zf2) fun b hb o x => hq b o (fun e => S.sep1_2 (e ▸ hb)) x) p' S.zf2
  refine wpAny_bind (wpAny_bind ?_)
  show wpAny _ _ (forIn [(Value.ref i2, 1)] PUnit.unit _) _ _ _
  rw [List.forIn_cons]
  refine wpAny_bind ?_
  show wpAny _ _ (Builtin.SmallTypes.nextOrEnd (.ref i2) >>= _) _ _ _
  refine wpAny_bind ?_
  unfold Builtin.SmallTypes.nextOrEnd
  refine wpAny_bind (wpAny_attempt (U2.done ⟨q', g, d, k0, os⟩ _ _ st2' fun p e3 hp3 he3 => ?_))
  replace hp3 : Heap.ExtBut i2 q' p := hp3
  obtain ⟨oe3, f1, f2⟩ := he3
  refine wpAny_bind (wpAny_isInstance (T := "StopIteration") (b := true) ⟨oe3, f1, f2⟩ isSubtype_stop ?_)
  refine wpAny_pure ?_
  refine wpAny_pure ?_
  show wpAny _ _ (forIn [] PUnit.unit _) _ _ _
  rw [List.forIn_nil]
  refine wpAny_pure ?_
  refine wpAny_bind (wpAny_rule ?_)
  unfold Builtin.SmallTypes.stopIteration
  refine wpAny_bind ?_
  simp only [newExc, newTuple]
  refine wpAny_bind (wpAny_newObj_type ?_ (by size_fits))
  refine wpAny_bind (m := firstArgMember _ _) (wpAny_of_eq (a := Value.none) (by first | rfl | (simp only [firstArgMember]; rfl)) ?_)
  refine wpAny_newObj_type ?_ (by size_fits)
  simp only [raiseNew]
  refine wpAny_bind (wpAny_handled ?_)
  first | rw [show A.in1.handled = none from hh] | rw [hh]
  refine wpAny_bind (wpAny_pure (wpAny_throw ?_))
  exact hE _ k0 _ (fun c o c1 c2 c3 c4 e => Heap.get?_push_of_some _ (Heap.get?_push_of_some _ (hp3 _ _ c4 (p'.extBut _ _ c1 (hq _ _ c3 (r0.extBut _ _ c1 e)))))) ⟨_, Heap.get?_push_size _ rfl, rfl⟩
theorem pyNext_zipS_item {Q : Option Value → Shared → Prop} (S : ZipSep2 z TI TO i1 i2 fa fb) (U1 : Draws prog w A.in1 i1 fa n1 Pa Sa) (U2 : Draws prog w A.in1 i2 fb n2 Pb Sb)
    (hz : IsZipS s.heap z TI TO .none) (tI : IsTupOf2 s.heap TI (.ref i1) (.ref i2)) (tO : IsTupOf2 s.heap TO a1 a2) (st1 : Sa i s.heap) (st2 : Sb i s.heap) (lt1 : i < n1) (lt2 : i < n2)
    (hQ : ∀ x1 x2 h' tk, Pa i x1 → Pb i x2 → IsZipS h' z TI TO (rawInt s.heap.objs.size) → IsTupOf2 h' TO x1 x2 → Sa (i + 1) h' → Sb (i + 1) h' → IsTupOf2 h' s.heap.objs.size x1 x2 → h'.objs.size = s.heap.objs.size + 1 →
      (∀ c o, c ≠ z → c ≠ TO → c ≠ i1 → c ≠ i2 → s.heap.get? c = some o → h'.get? c = some o) → Q (some (.ref s.heap.objs.size)) { s with heap := h', toks := tk }) :
    wpAny (model prog w) A (pyNext (.ref z)) Q E s := by
  have hT : s.TypeIs (.ref z) "zip" := ⟨_, hz, rfl⟩
  unfold pyNext
  exact wpAny_bind (wpAny_attempt (wpAny_callSpecial?_slot (name := Str.ofString "__next__") hT F.slot_zip_next
    (wpAny_call_entry F.slot_zip_next hT F.entry_zip_next
      (zipS_next_item S U1 U2 hz tI tO st1 st2 lt1 lt2 fun x1 x2 h' tk y1 y2 b1 b2 d1 d2 b5 b6 b7 => wpAny_pure (hQ x1 x2 h' tk y1 y2 b1 b2 d1 d2 b5 b6 b7)) (F.args_zip_next_1 _))))

theorem pyNext_zipS_end {n : Nat} {Q : Option Value → Shared → Prop} (hh : A.handled = none) (S : ZipSep2 z TI TO i1 i2 fa fb) (U1 : Draws prog w A.in1 i1 fa n Pa Sa) (U2 : Draws prog w A.in1 i2 fb n Pb Sb)
    (hz : IsZipS s.heap z TI TO .none) (tI : IsTupOf2 s.heap TI (.ref i1) (.ref i2)) (tO : IsTupOf2 s.heap TO a1 a2) (st1 : Sa n s.heap) (st2 : Sb n s.heap)
    (hQ : ∀ h' k', (∀ c o, c ≠ z → c ≠ TO → c ≠ i1 → c ≠ i2 → s.heap.get? c = some o → h'.get? c = some o) → Q none { s with heap := h', toks := k' }) : wpAny (model prog w) A (pyNext (.ref z)) Q E s := by
  have tz : s.TypeIs (.ref z) "zip" := ⟨_, hz, rfl⟩
  unfold pyNext
  refine wpAny_bind (wpAny_attempt (wpAny_callSpecial?_slot (name := Str.ofString "__next__") tz F.slot_zip_next
    (wpAny_call_entry F.slot_zip_next tz F.entry_zip_next (zipS_next_end hh S U1 U2 hz tI tO st1 st2 fun h' k' e hk he => ?_) (F.args_zip_next_1 _))))
  obtain ⟨o, ho, hc⟩ := he
  refine wpAny_bind (wpAny_isInstance (T := "StopIteration") (b := true) ⟨o, ho, hc⟩ isSubtype_stop ?_)
  exact wpAny_pure (hQ _ _ hk)
end
/-! ### kinds of sequences -/
def itK (b : Bool) (h : Heap) (i l : Addr) (k : Nat) : Prop := if b = true then h.IsListIter i l k else h.IsTupleIter i l k
def isK (b : Bool) (h : Heap) (l : Addr) (xs : Array Value) : Prop := if b = true then h.IsList l xs else h.IsTuple l xs
def sqK (K : PySem.W.Frag) (b : Bool) (H : Hp) (a : Addr) (xs : List V) : Prop := if b = true then SqL K H a xs else SqT K H a xs
theorem itK.at' {b : Bool} {h h' : Heap} {i l : Addr} {k : Nat} (t : itK b h i l k) (q : ∀ o, h.get? i = some o → h'.get? i = some o) : itK b h' i l k := by
  cases b with
  | true => exact Heap.IsListIter.at t q
  | false => exact Heap.IsTupleIter.at t q
theorem itK.obj {b : Bool} {h : Heap} {i l : Addr} {k : Nat} (t : itK b h i l k) : ∃ o, h.get? i = some o ∧ ∀ v, o.data ≠ .cell v := by
  cases b with
  | true => obtain ⟨o, e, _, d⟩ := (show h.IsListIter i l k from t); exact ⟨o, e, fun v q => by rw [d] at q; cases q⟩
  | false => obtain ⟨o, e, _, d⟩ := (show h.IsTupleIter i l k from t); exact ⟨o, e, fun v q => by rw [d] at q; cases q⟩
theorem drawK {prog : Program} {w : World} {A : Around} (hh : A.handled = none) (b : Bool) (it l : Addr) (hne : l ≠ it) (items : Array Value) :
    Draws prog w A it [it, l] items.size (fun i v => items[i]? = some v) (fun i h => itK b h it l i ∧ isK b h l items) := by
  cases b with
  | true => exact Draws.list hh it l hne items
  | false => exact Draws.tuple hh it l hne items
theorem sqK.is {X : Cx} {pins : List (Addr × Obj)} {σ : L2.St} {H : Hp} {s : Shared} (I : Inv X pins σ H s) {b : Bool} {a : Addr} {xs : List V} (h : sqK X.K b H a xs) : ∃ its, Vals xs its ∧ isK b s.heap a its.toArray := by
  cases b with
  | true => obtain ⟨its, rv, p, _⟩ := I.list h; exact ⟨its, rv, p.isList⟩
  | false => obtain ⟨its, rv, p, _⟩ := I.tuple h; exact ⟨its, rv, p⟩
theorem sqK.inj {X : Cx} {pins : List (Addr × Obj)} {σ : L2.St} {H : Hp} {s : Shared} (I : Inv X pins σ H s) {b : Bool} {a : Addr} {xs ys : List V} (h : sqK X.K b H a xs) (g : sqK X.K b H a ys) : xs = ys := by
  cases b with
  | true => exact I.list_inj h g
  | false => exact I.tuple_inj h g
/-! ### two -/
def IsZ (st : Bool) (h : Heap) (z TI TO : Addr) (f0 : Value) : Prop := h.get? z = some { cls := .type "zip", dict := none, data := .fields #[f0, .bool false, .bool st, .ref TI, .ref TO], slots := #[] }
def Itz2 (K : PySem.W.Frag) (st b1 b2 : Bool) (a b : Addr) : It :=
  ⟨fun i H => ∃ (xs ys : List V) (x y : V), sqK K b1 H a xs ∧ sqK K b2 H b ys ∧ xs[i]? = some x ∧ ys[i]? = some y,
    fun i H v H' => ∃ T x y, v = .ref T ∧ H T = none ∧ H' = upd H T (.tup [x, y]) ∧ (∀ xs, sqK K b1 H a xs → xs[i]? = some x) ∧ ∀ ys, sqK K b2 H b ys → ys[i]? = some y,
    fun i H => ∃ xs ys : List V, sqK K b1 H a xs ∧ sqK K b2 H b ys ∧ i ≤ xs.length ∧ i ≤ ys.length ∧ (i = xs.length ∨ i = ys.length) ∧ (st = true → xs.length = ys.length)⟩
theorem z_pyIter {prog : Program} {w : World} {A : Around} {E : Value → Shared → Prop} {s : Shared} {st : Bool} {z TI TO : Addr} {f0 : Value} {Q : Value → Shared → Prop} (hz : IsZ st s.heap z TI TO f0) (h : Q (.ref z) s) : wpAny (model prog w) A (pyIter (.ref z)) Q E s := by
  have tz : s.TypeIs (.ref z) "zip" := ⟨_, hz, rfl⟩
  refine wpAny_pyIter_slot tz F.slot_zip_iter (wpAny_call_entry F.slot_zip_iter tz F.entry_zip_iter ?_ (F.args_zip_iter_1 _))
  show wpAny _ _ (ret (.ref z)) _ _ s
  exact wpAny_pure ⟨_, rfl, "zip", _, tz, F.slot_zip_next.lookup, h⟩
theorem z_letGo {prog : Program} {w : World} {A : Around} {E : Value → Shared → Prop} {s : Shared} {elts : List Expr} {x1} {pos : Pos} {st : Bool} {z TI TO T : Addr} {Q : Unit → Shared → Prop} (hz : IsZ st s.heap z TI TO (rawInt T))
    (hQ : ∀ h', IsZ st h' z TI TO .none → Heap.SameBut z s.heap h' → Q () { s with heap := h' }) : wpAny (model prog w) A (letOwnedTupleGo (.Tuple elts x1 pos) (.ref z) (.ref T)) Q E s := by
  unfold letOwnedTupleGo
  refine wpAny_bind (wpAny_load hz ?_)
  show wpAny _ _ (if (["enumerate", "zip", "dict_itemiterator", "dict_reverseitemiterator", "odict_iterator", "itertools.zip_longest", "itertools.pairwise"].contains "zip" &&
      (#[rawInt T, .bool false, .bool st, .ref TI, .ref TO] : Array Value)[0]? == some (rawInt T)) = true then _ else _) Q E s
  rw [if_pos (by simp)]
  refine wpAny_bind (wpAny_rule ?_)
  show wpAny _ _ (setField (.ref z) 0 .none) Q E s
  exact wpAny_setField_rec hz (by simp) fun h' z' s' => hQ h' z' s'
theorem turn_z2 {P : Program} {w : World} {K : PySem.W.Frag} {elts : List Expr} {kk : Nat} {tpos : Pos} {st b1 b2 : Bool} {a b z TI TO i1 i2 : Addr} (S : ZipSep2 z TI TO i1 i2 [i1, a] [i2, b]) (na : a ≠ i1) (nb : b ≠ i2) :
    Turn P w K (.Tuple elts kk tpos) (Itz2 K st b1 b2 a b) [z, TI, TO, i1, i2] z (fun i h => IsZ st h z TI TO .none ∧ IsTupOf2 h TI (.ref i1) (.ref i2) ∧ (∃ x y, IsTupOf2 h TO x y) ∧ itK b1 h i1 a i ∧ itK b2 h i2 b i) where
  mem := by simp
  obj := fun i h st c hc => by
    obtain ⟨hz, tI, ⟨x, y, tO⟩, k1, k2⟩ := st
    have e' : c = z ∨ c = TI ∨ c = TO ∨ c = i1 ∨ c = i2 := by simpa using hc
    rcases e' with rfl | rfl | rfl | rfl | rfl
    · exact ⟨_, hz, fun v q => nomatch q⟩
    · exact ⟨_, tI, fun v q => nomatch q⟩
    · exact ⟨_, tO, fun v q => nomatch q⟩
    · exact k1.obj
    · exact k2.obj
  keep := fun i h h' st k => by
    obtain ⟨hz, tI, ⟨x, y, tO⟩, k1, k2⟩ := st
    exact ⟨k z (by simp) _ hz, k TI (by simp) _ tI, ⟨x, y, k TO (by simp) _ tO⟩, k1.at' fun o q => k i1 (by simp) o q, k2.at' fun o q => k i2 (by simp) o q⟩
  item := by
    intro X hP hw hK hc i pins s σ H E I hf stt hg
    subst hP hw hK
    obtain ⟨hz, tI, ⟨x0, y0, tO⟩, k1, k2⟩ := stt
    obtain ⟨xs, ys, x, y, hqx, hqy, hx, hy⟩ := hg
    obtain ⟨its, rv, p⟩ := hqx.is I
    obtain ⟨its2, rv2, p2⟩ := hqy.is I
    obtain ⟨u, hu, ru⟩ := rv.get hx
    obtain ⟨u2, hu2, ru2⟩ := rv2.get hy
    have hzl : z < s.heap.objs.size := Heap.lt_size hz
    have hd := I.ok.hd hc
    have U1 := drawK (prog := X.prog) (w := X.w) (A := X.A.in1) hd b1 i1 a na its.toArray
    have U2 := drawK (prog := X.prog) (w := X.w) (A := X.A.in1) hd b2 i2 b nb its2.toArray
    have l1 : i < its.toArray.size := by rw [List.size_toArray]; exact (List.getElem?_eq_some_iff.mp hu).1
    have l2 : i < its2.toArray.size := by rw [List.size_toArray]; exact (List.getElem?_eq_some_iff.mp hu2).1
    have fin : ∀ (x1 x2 : Value) (h' : Heap) (tk : Nat), its.toArray[i]? = some x1 → its2.toArray[i]? = some x2 → IsZ st h' z TI TO (rawInt s.heap.objs.size) → IsTupOf2 h' TO x1 x2 → (itK b1 h' i1 a (i + 1) ∧ isK b1 h' a its.toArray) → (itK b2 h' i2 b (i + 1) ∧ isK b2 h' b its2.toArray) →
        IsTupOf2 h' s.heap.objs.size x1 x2 → h'.objs.size = s.heap.objs.size + 1 → (∀ c o, c ≠ z → c ≠ TO → c ≠ i1 → c ≠ i2 → s.heap.get? c = some o → h'.get? c = some o) →
        ∃ u, some (Value.ref s.heap.objs.size) = some u ∧ wpAny (model X.prog X.w) X.A (letOwnedTupleGo (.Tuple elts kk tpos) (.ref z) u) (fun _ s2 => ∃ x H', Inv X pins σ H' s2 ∧ RelV x u ∧ (Itz2 X.K st b1 b2 a b).yld i H x H' ∧
          (IsZ st s2.heap z TI TO .none ∧ IsTupOf2 s2.heap TI (.ref i1) (.ref i2) ∧ (∃ x y, IsTupOf2 s2.heap TO x y) ∧ itK b1 s2.heap i1 a (i + 1) ∧ itK b2 s2.heap i2 b (i + 1)) ∧ ∀ c ∈ [z, TI, TO, i1, i2], H' c = none) E { s with heap := h', toks := tk } := by
      intro x1 x2 h' tk ex1 ex2 z' tO' d1 d2 tN hsz hk
      have ex1' : u = x1 := by rw [List.getElem?_toArray, hu] at ex1; exact Option.some.inj ex1
      have ex2' : u2 = x2 := by rw [List.getElem?_toArray, hu2] at ex2; exact Option.some.inj ex2
      subst ex1' ex2'
      refine ⟨_, rfl, z_letGo (s := { s with heap := h', toks := tk }) z' fun h'' z'' sb => ?_⟩
      replace sb : Heap.SameBut z h' h'' := sb
      have tN2 : h''.get? s.heap.objs.size = some { cls := .type "tuple", data := .seq #[u, u2] } := (sb.2 _ (Nat.ne_of_gt hzl)).trans tN
      have new : ObjOk X.prog X.w (upd H s.heap.objs.size (.tup [x, y])) h'' s.heap.objs.size (.tup [x, y]) :=
        ⟨by show 2 ≤ sizeLine; decide, [u, u2], .cons ru (.cons ru2 .nil), ⟨_, tN2, rfl, _, rfl⟩⟩
      have I1 : Inv X pins σ (upd H s.heap.objs.size (.tup [x, y])) { s with heap := h'', toks := tk } :=
        I.turnedNew (t' := tk) (ch := [z, TI, TO, i1, i2]) (fun c o hb q => (sb.2 c (fun q' => hb (by simp [q']))).trans (hk c o (fun q' => hb (by simp [q'])) (fun q' => hb (by simp [q'])) (fun q' => hb (by simp [q'])) (fun q' => hb (by simp [q'])) q)) hf (Nat.le_refl _) new
      refine ⟨.ref s.heap.objs.size, _, I1, rfl, ⟨_, x, y, rfl, I.hok.fresh (Nat.le_refl _), rfl, fun l hl => by rw [sqK.inj I hl hqx]; exact hx, fun l hl => by rw [sqK.inj I hl hqy]; exact hy⟩, ⟨z'', ?_, ⟨u, u2, ?_⟩, ?_, ?_⟩, fun c hcm => ?_⟩
      · exact (sb.2 _ S.TIz).trans (hk _ _ S.TIz S.TITO S.TIi1 S.TIi2 tI)
      · exact (sb.2 _ S.TOz).trans tO'
      · exact d1.1.at' fun o q => (sb.2 _ S.zi1.symm).trans q
      · exact d2.1.at' fun o q => (sb.2 _ S.zi2.symm).trans q
      · have hlt : c < s.heap.objs.size := by
          have e' : c = z ∨ c = TI ∨ c = TO ∨ c = i1 ∨ c = i2 := by simpa using hcm
          rcases e' with rfl | rfl | rfl | rfl | rfl
          · exact hzl
          · exact Heap.lt_size tI
          · exact Heap.lt_size tO
          · obtain ⟨_, e1, _⟩ := k1.obj; exact Heap.lt_size e1
          · obtain ⟨_, e2, _⟩ := k2.obj; exact Heap.lt_size e2
        rw [upd_ne (Nat.ne_of_lt hlt)]
        exact (hf c hcm).1
    cases st with
    | false => exact wpAny_pyNext_zipD2_item S U1 U2 hz tI tO ⟨k1, p⟩ ⟨k2, p2⟩ l1 l2 fin
    | true => exact pyNext_zipS_item S U1 U2 hz tI tO ⟨k1, p⟩ ⟨k2, p2⟩ l1 l2 fin
  done := by
    intro X hP hw hK hc i pins s σ H E I hf stt hg
    subst hP hw hK
    obtain ⟨hz, tI, ⟨x0, y0, tO⟩, k1, k2⟩ := stt
    obtain ⟨xs, ys, hqx, hqy, g1, g2, hend, hst⟩ := hg
    obtain ⟨its, rv, p⟩ := hqx.is I
    obtain ⟨its2, rv2, p2⟩ := hqy.is I
    have e1 := rv.length
    have e2 := rv2.length
    have hd := I.ok.hd hc
    have U1 := drawK (prog := X.prog) (w := X.w) (A := X.A.in1) hd b1 i1 a na its.toArray
    have U2 := drawK (prog := X.prog) (w := X.w) (A := X.A.in1) hd b2 i2 b nb its2.toArray
    rw [List.size_toArray] at U1 U2
    have fin : ∀ (h' : Heap) (tk : Nat), (∀ c o, c ≠ z → c ≠ TO → c ≠ i1 → c ≠ i2 → s.heap.get? c = some o → h'.get? c = some o) → (none : Option Value) = none ∧ Inv X pins σ H { s with heap := h', toks := tk } := fun h' tk hk =>
      ⟨rfl, I.turnedL (t' := tk) (ch := [z, TI, TO, i1, i2]) (fun c o hb q => hk c o (fun q' => hb (by simp [q'])) (fun q' => hb (by simp [q'])) (fun q' => hb (by simp [q'])) (fun q' => hb (by simp [q'])) q) hf⟩
    cases st with
    | false => exact wpAny_pyNext_zipD2_end S U1 U2 hz tI tO ⟨k1, p⟩ ⟨k2, p2⟩ (by omega) (by omega) (by omega) fin
    | true =>
      have hn := hst rfl
      have h1 : its2.length = its.length := by omega
      have h2 : i = its.length := by omega
      rw [h1] at U2
      subst h2
      exact pyNext_zipS_end hd S U1 U2 hz tI tO ⟨k1, p⟩ ⟨k2, p2⟩ fin
  self := fun A i s Q E st h => z_pyIter st.1 h
def itObj (b : Bool) (l : Addr) : Obj := { cls := .type (if b = true then "list_iterator" else "tuple_iterator"), data := .fields #[.ref l, .int 0 0] }
theorem begK (b : Bool) (l : Addr) (items : Array Value) : Begins (.ref l) (itObj b l) fun h => isK b h l items := by
  cases b with
  | true => exact begins_list l items
  | false => exact begins_tuple l items
theorem itK.new {b : Bool} {h : Heap} {i l : Addr} (e : h.get? i = some (itObj b l)) : itK b h i l 0 := by
  cases b with
  | true => exact ⟨_, e, rfl, rfl⟩
  | false => exact ⟨_, e, rfl, rfl⟩
theorem isK.lt {b : Bool} {h : Heap} {l : Addr} {xs : Array Value} (t : isK b h l xs) : l < h.objs.size := by
  cases b with
  | true => obtain ⟨_, e, _⟩ := (show h.IsList l xs from t); exact Heap.lt_size e
  | false => obtain ⟨_, e, _⟩ := (show h.IsTuple l xs from t); exact Heap.lt_size e
theorem nin2 {x a b : Nat} (h1 : x ≠ a) (h2 : x ≠ b) : x ∉ [a, b] := fun h => by
  rcases List.mem_cons.mp h with e | h
  · exact h1 e
  · exact h2 (List.mem_singleton.mp h)
theorem sep2 {n a b : Nat} (ha : a < n) (hb : b < n) : ZipSep2 (n + 4 : Nat) (n + 2 : Nat) (n + 3 : Nat) n (n + 1 : Nat) [n, a] [n + 1, b] :=
  ⟨(by omega : (n + 2 : Nat) ≠ n + 4), (by omega : (n + 3 : Nat) ≠ n + 4), (by omega : (n + 2 : Nat) ≠ n + 3), (by omega : (n + 2 : Nat) ≠ n), List.mem_cons_self .., nin2 (by omega) (by omega), nin2 (by omega) (by omega), (by omega : (n + 2 : Nat) ≠ n + 1), List.mem_cons_self .., nin2 (by omega) (by omega), nin2 (by omega) (by omega), nin2 (by omega) (by omega), nin2 (by omega) (by omega)⟩
/-! ### strict -/
abbrev zsT (h : Heap) (o1 o2 : Obj) : Heap := (gzO2 h o1 o2).push { cls := .type "zip", data := .fields #[.none, .bool false, .bool true, .ref ((h.push o1).push o2).objs.size, .ref (gzT2 h o1 o2).objs.size] }
theorem zs_tc (a b v : Value) : checkTypeCall "zip" ⟨[a, b], [(Str.ofString "strict", v)]⟩ = pure () := by kernel_rfl
theorem zs_nc (a b v : Value) : checkBuiltinCall "zip.__new__" ⟨[.type "zip", a, b], [(Str.ofString "strict", v)]⟩ = pure () := by kernel_rfl
theorem zs_ok (obj a b v : Value) : argsOk "object.__init__" ⟨[obj, a, b], [(Str.ofString "strict", v)]⟩ := by unfold argsOk; kernel_rfl
theorem meets_zs {v1 v2 : Value} {o1 o2 : Obj} {H1 H2 : Heap → Prop} (B1 : Begins v1 o1 H1) (B2 : Begins v2 o2 H2) :
    Meets (Builtin.«zip.__new__» ⟨[.type "zip", v1, v2], [(Str.ofString "strict", .bool true)]⟩) (fun _ R s => (H1 s.heap ∧ H2 s.heap) ∧
      R (.ok (.ret (.ref (gzO2 s.heap o1 o2).objs.size))) { s with heap := zsT s.heap o1 o2 }) :=
  .of_wp fun prog w A R s h => by
    obtain ⟨hp, g, d, tk, os⟩ := s; obtain ⟨⟨g1, g2⟩, h⟩ := h
    have hsub := sub_zip
    have e1 : (Str.ofString "strict" != ("strict" : Str)) = false := by decide +kernel
    have p1 : ∀ {A' : Around} {E : Value → Shared → Prop} {Q : Value → Shared → Prop}, Q (.ref hp.objs.size) ⟨hp.push o1, g, d, tk, os⟩ → wpAny (model prog w) A' (pyIter v1) Q E ⟨hp, g, d, tk, os⟩ :=
      fun q => B1.iter prog w _ _ ⟨hp, g, d, tk, os⟩ _ g1 q
    have p2 : ∀ {A' : Around} {E : Value → Shared → Prop} {Q : Value → Shared → Prop}, Q (.ref (hp.push o1).objs.size) ⟨(hp.push o1).push o2, g, d, tk, os⟩ → wpAny (model prog w) A' (pyIter v2) Q E ⟨hp.push o1, g, d, tk, os⟩ :=
      fun q => B2.iter prog w _ _ ⟨hp.push o1, g, d, tk, os⟩ _ (B2.keeps _ _ g2 fun b o' e => Heap.get?_push_of_some _ e) q
    wp_walk using p1, p2
    exact ⟨_, rfl, h⟩
section
variable {prog : Program} {w : World} {A : Around} {E : Value → Shared → Prop} {s : Shared}
theorem zs_begins {v1 v2 : Value} {o1 o2 : Obj} {H1 H2 : Heap → Prop} {Q : Value → Shared → Prop} (B1 : Begins v1 o1 H1) (B2 : Begins v2 o2 H2) (h1 : H1 s.heap) (h2 : H2 s.heap)
    (h : ∀ h', IsZ true h' (s.heap.objs.size + 4) (s.heap.objs.size + 2) (s.heap.objs.size + 3) .none → IsTupOf2 h' (s.heap.objs.size + 2) (.ref s.heap.objs.size) (.ref (s.heap.objs.size + 1)) →
      IsTupOf2 h' (s.heap.objs.size + 3) .none .none → h'.get? s.heap.objs.size = some o1 → h'.get? (s.heap.objs.size + 1) = some o2 → h'.objs.size = s.heap.objs.size + 5 →
      (∀ c o, s.heap.get? c = some o → h'.get? c = some o) → Q (.ref (s.heap.objs.size + 4)) { s with heap := h' }) :
    wpAny (model prog w) A (call (.type "zip") [v1, v2] [(Str.ofString "strict", .bool true)]) Q E s := by
  refine callType_newKw F.called_zip (by decide) (zs_tc _ _ _) (zs_nc _ _ _) (fun obj => zs_ok obj _ _ _) F.entry_zip_new (meets_zs B1 B2) ⟨⟨h1, h2⟩, ?_⟩
  have z1 : (s.heap.push o1).objs.size = s.heap.objs.size + 1 := by rw [Heap.size_push]
  have z2 : ((s.heap.push o1).push o2).objs.size = s.heap.objs.size + 2 := by rw [Heap.size_push, z1]
  have z3 : (gzT2 s.heap o1 o2).objs.size = s.heap.objs.size + 3 := by rw [Heap.size_push, z2]
  have z4 : (gzO2 s.heap o1 o2).objs.size = s.heap.objs.size + 4 := by rw [Heap.size_push, z3]
  have z5 : (zsT s.heap o1 o2).objs.size = s.heap.objs.size + 5 := by rw [Heap.size_push, z4]
  have q5 : (zsT s.heap o1 o2).get? (gzO2 s.heap o1 o2).objs.size = some { cls := .type "zip", data := .fields #[.none, .bool false, .bool true, .ref ((s.heap.push o1).push o2).objs.size, .ref (gzT2 s.heap o1 o2).objs.size] } := Heap.get?_push_size _ rfl
  have q4 : (zsT s.heap o1 o2).get? (gzT2 s.heap o1 o2).objs.size = some { cls := .type "tuple", data := .seq #[.none, .none] } := Heap.get?_push_of_some _ (Heap.get?_push_size _ rfl)
  have q3 : (zsT s.heap o1 o2).get? ((s.heap.push o1).push o2).objs.size = some { cls := .type "tuple", data := .seq #[.ref s.heap.objs.size, .ref (s.heap.push o1).objs.size] } := Heap.get?_push_of_some _ (Heap.get?_push_of_some _ (Heap.get?_push_size _ rfl))
  have q1 : (zsT s.heap o1 o2).get? s.heap.objs.size = some o1 := Heap.get?_push_of_some _ (Heap.get?_push_of_some _ (Heap.get?_push_of_some _ (Heap.get?_push_of_some _ (Heap.get?_push_size _ B1.free))))
  have q2 : (zsT s.heap o1 o2).get? (s.heap.push o1).objs.size = some o2 := Heap.get?_push_of_some _ (Heap.get?_push_of_some _ (Heap.get?_push_of_some _ (Heap.get?_push_size _ B2.free)))
  rw [z4, z3, z2] at q5
  rw [z3] at q4
  rw [z2, z1] at q3
  rw [z1] at q2
  show _ ∧ _
  rw [z4]
  exact ⟨⟨_, q5, rfl⟩, h _ q5 q3 q4 q1 q2 z5 fun c o e => Heap.get?_push_of_some _ (Heap.get?_push_of_some _ (Heap.get?_push_of_some _ (Heap.get?_push_of_some _ (Heap.get?_push_of_some _ e))))⟩
end
section
variable {M : Model} {A : Around} {E : Value → Shared → Prop} {s : Shared} {env : Env}
theorem callWith_kwT {pos : Pos} {T : String} {e : Expr} {rest : List Expr} {kws : List Keyword} {Q : Value → Shared → Prop}
    (h : wpAny M A (spliced (backTo pos (starEach (e :: rest) env))) (fun vs s1 => wpAny M A (evalAll ((backToKw pos (keywordEach kws env)).map (·.2)))
      (fun ws s2 => wpAny M A (call (.type T) vs (((backToKw pos (keywordEach kws env)).filterMap (·.1)).zip ws)) Q E s2) E s1) E s)
    (he : backTo pos (starEach (e :: rest) env) = (false, eval e env) :: backTo pos (starEach rest env))
    (hp : (backTo pos (starEach (e :: rest) env)).any (·.1) = false) (hall : (backToKw pos (keywordEach kws env)).all (·.1.isSome) = true) (hkw : (backToKw pos (keywordEach kws env)).any (·.1.isNone) = false) :
    wpAny M A (callWith pos (.type T) [] (backTo pos (starEach (e :: rest) env)) (backToKw pos (keywordEach kws env))) Q E s := by
  have hE : wpAny M A (evalArgs (.type T) true (backTo pos (starEach (e :: rest) env)) (backToKw pos (keywordEach kws env))) (fun a s1 => wpAny M A (call (.type T) ([] ++ a.pos) a.kw) Q E s1) E s := by
    rw [he] at h ⊢
    exact evalArgs_kwB hall h
  unfold callWith
  refine wpAny_bind (wpAny_holding (wpAny_mono hE (fun a s1 h1 => wpAny_bind (wpAny_standAt ?_)) fun _ _ x => x))
  simp only [hp, hkw, Bool.or_false]
  refine wpAny_bind (wpAny_pure ?_)
  exact wpAny_bind (wpAny_mono h1 (fun r s2 hr => wpAny_bind (wpAny_holding (wpAny_point (wpAny_pure hr)))) fun _ _ x => x)
end
/-! ### the rule -/
section
variable {X : Cx} {e e2 : Expr} {p pos tpos : Pos} {elts : List Expr} {kk : Nat}
def iZ2 (K : PySem.W.Frag) (st : Bool) (ta : TA) : TI := fun σ H R => ta σ H fun vs H1 => ∃ b1 b2 a b xs ys, vs = [.ref a, .ref b] ∧ sqK K b1 H1 a xs ∧ sqK K b2 H1 b ys ∧ R (Itz2 K st b1 b2 a b) H1
theorem z2_go {pins : List (Addr × Obj)} {σ : L2.St} {H1 : Hp} {s1 : Shared} {st b1 b2 : Bool} {a b : Addr} {xs ys : List V} {R : It → Hp → Prop} (I1 : Inv X pins σ H1 s1) (hx : sqK X.K b1 H1 a xs) (hy : sqK X.K b2 H1 b ys) (q : R (Itz2 X.K st b1 b2 a b) H1)
    {h' : Heap} (hz : IsZ st h' (s1.heap.objs.size + 4) (s1.heap.objs.size + 2) (s1.heap.objs.size + 3) .none) (tI : IsTupOf2 h' (s1.heap.objs.size + 2) (.ref s1.heap.objs.size) (.ref (s1.heap.objs.size + 1))) (tO : IsTupOf2 h' (s1.heap.objs.size + 3) .none .none)
    (g1 : h'.get? s1.heap.objs.size = some (itObj b1 a)) (g2 : h'.get? (s1.heap.objs.size + 1) = some (itObj b2 b)) (hk : ∀ c o, s1.heap.get? c = some o → h'.get? c = some o) :
    wpAny (model X.prog X.w) X.A (pyIter (.ref (s1.heap.objs.size + 4))) (PIE X pins σ (.Tuple elts kk tpos) R) X.xe { s1 with heap := h' } := by
  refine z_pyIter hz ?_
  obtain ⟨_, _, p1⟩ := hx.is I1
  obtain ⟨_, _, p2⟩ := hy.is I1
  have I2 : Inv X pins σ H1 { s1 with heap := h' } := I1.kept (t' := s1.toks) hk
  refine ⟨s1.heap.objs.size + 4, [s1.heap.objs.size + 4, s1.heap.objs.size + 2, s1.heap.objs.size + 3, s1.heap.objs.size, s1.heap.objs.size + 1], _, _, H1, rfl, I2, turn_z2 (sep2 p1.lt p2.lt) (Nat.ne_of_lt p1.lt) (Nat.ne_of_lt (Nat.lt_succ_of_lt p2.lt)), ⟨hz, tI, ⟨_, _, tO⟩, .new g1, .new g2⟩, fun c hcm => ?_, q⟩
  have e' : c = s1.heap.objs.size + 4 ∨ c = s1.heap.objs.size + 2 ∨ c = s1.heap.objs.size + 3 ∨ c = s1.heap.objs.size ∨ c = s1.heap.objs.size + 1 := by simpa using hcm
  have hle : s1.heap.objs.size ≤ c := by rcases e' with rfl | rfl | rfl | rfl | rfl <;> omega
  exact I1.fpOk hle (I1.hok.fresh hle)
theorem vals_r2 {vs : List V} {us : List Value} {a b : Addr} (r : Vals vs us) (e : vs = [.ref a, .ref b]) : us = [.ref a, .ref b] := by
  subst e
  cases r with
  | cons r rr => cases rr with
    | cons r' rr => cases rr; cases r; cases r'; rfl
theorem pi_z2 {ta : TA} (hg : Gl X "zip") (hm : X.mg "zip" = none) (ha : PA X [e, e2] ta) (hs : starEach [e, e2] X.env = (false, eval e X.env) :: starEach [e2] X.env) (hpl : (backTo pos (starEach [e2] X.env)).any (·.1) = false) :
    PI X (.Tuple elts kk tpos) (.Call (.Name "zip" p) [e, e2] [] pos) (iZ2 X.K false ta) := by
  refine ⟨fun pins s σ H R I h => ?_⟩
  refine Call_ (ld_blt I hg hm PyProof.Rows.boot_zip (PyProof.Rows.callWith_type1 (thn (ha.run pos pins s σ H _ I h) fun us s1 ⟨vs, H1, I1, r1, q1⟩ => ?_) hs hpl))
  obtain ⟨b1, b2, a, b, xs, ys, ex, hx, hy, q⟩ := q1
  rw [vals_r2 r1 ex]
  obtain ⟨its, _, p1⟩ := hx.is I1
  obtain ⟨its2, _, p2⟩ := hy.is I1
  exact zip_begins2 (begK b1 a its.toArray) (begK b2 b its2.toArray) p1 p2 fun h' hz tI tO g1 g2 _ hk => z2_go I1 hx hy q hz tI tO g1 g2 hk
theorem pi_z2S {ta : TA} {kp cp : Pos} {tr : Nat} (hg : Gl X "zip") (hm : X.mg "zip" = none) (ha : PA X [e, e2] ta) (hs : starEach [e, e2] X.env = (false, eval e X.env) :: starEach [e2] X.env) (hpl : (backTo pos (starEach [e, e2] X.env)).any (·.1) = false) {kt : Nat} :
    PI X (.Tuple elts kk tpos) (.Call (.Name "zip" p) [e, e2] [⟨some (Str.ofString "strict"), .Constant (.bool true) kt cp, kp⟩] pos) (iZ2 X.K true ta) := by
  refine ⟨fun pins s σ H R I h => ?_⟩
  refine wpAny_Call_Name_kw (ld_blt I hg hm PyProof.Rows.boot_zip ?_)
  refine callWith_kwT (thn (ha.run pos pins s σ H _ I h) fun us s1 ⟨vs, H1, I1, r1, q1⟩ => ?_) (by rw [hs]; rfl) hpl rfl rfl
  obtain ⟨b1, b2, a, b, xs, ys, ex, hx, hy, q⟩ := q1
  rw [vals_r2 r1 ex]
  obtain ⟨its, _, p1⟩ := hx.is I1
  obtain ⟨its2, _, p2⟩ := hy.is I1
  refine kws_cons (wpAny_pure (kws_nil ?_))
  exact zs_begins (begK b1 a its.toArray) (begK b2 b its2.toArray) p1 p2 fun h' hz tI tO g1 g2 _ hk => z2_go I1 hx hy q hz tI tO g1 g2 hk
end
end Q
set_option Elab.async false
set_option linter.all false
set_option maxRecDepth 100000
set_option maxHeartbeats 1000000
/-! ZE: enumerate of a list or a tuple. -/
namespace Q
open PySem PySem.Spec PyProof.Rows L2
open Sem (wp)
theorem meets_en1 {v : Value} {ob : Obj} {Hh : Heap → Prop} (B : Begins v ob Hh) :
    Meets (Builtin.«enumerate.__new__» ⟨[.type "enumerate", v], []⟩) (fun _ R s => Hh s.heap ∧
      R (.ok (.ret (.ref (s.heap.push ob).objs.size))) { s with heap := (s.heap.push ob).push { cls := .type "enumerate", data := .fields #[.none, .bool false, .ref s.heap.objs.size, rawInt 0, .none, .none] } }) :=
  .of_wp fun prog w A R s h => by
    obtain ⟨hp, ge, dr, tk, os⟩ := s
    obtain ⟨he1, he2⟩ := h
    have hsub := sub_enumerate
    have q1 : ∀ {A' : Around} {E' : Value → Shared → Prop} {Q' : Value → Shared → Prop}, Q' (.ref hp.objs.size) ⟨hp.push ob, ge, dr, tk, os⟩ → wpAny (model prog w) A' (pyIter v) Q' E' ⟨hp, ge, dr, tk, os⟩ :=
      fun q => B.iter prog w _ _ ⟨hp, ge, dr, tk, os⟩ _ he1 q
    wp_walk using q1
    refine wpAny_stack_any fun stk => wpAny_pure ?_
    split
    · rename_i cc _ _ _ _ _
      cases (cc == Value.type "enumerate") <;> (wp_walk using q1; exact ⟨_, rfl, he2⟩)
    · wp_walk using q1
      exact ⟨_, rfl, he2⟩
theorem call_enK {prog : Program} {w : World} {A : Around} {E : Value → Shared → Prop} {s : Shared} {v : Value} {ob : Obj} {Hh : Heap → Prop} {Q' : Value → Shared → Prop} (B : Begins v ob Hh) (h1 : Hh s.heap)
    (h : ∀ h', IsEnum h' (s.heap.objs.size + 1) s.heap.objs.size 0 .none → h'.get? s.heap.objs.size = some ob → (∀ b o, s.heap.get? b = some o → h'.get? b = some o) → Q' (.ref (s.heap.objs.size + 1)) { s with heap := h' }) :
    wpAny (model prog w) A (call (.type "enumerate") [v]) Q' E s := by
  refine callType_new F.called_enumerate (by decide) (F.typeCall_enumerate_1 _) (F.newCall_enumerate_1 _) (fun obj => F.args_object_init_2 obj _) F.entry_enumerate_new (meets_en1 B) ⟨h1, ?_⟩
  have hz : (s.heap.push ob).objs.size = s.heap.objs.size + 1 := Heap.size_push ..
  show _ ∧ _
  rw [hz]
  have he : IsEnum ((s.heap.push ob).push { cls := .type "enumerate", data := .fields #[.none, .bool false, .ref s.heap.objs.size, rawInt 0, .none, .none] }) (s.heap.objs.size + 1) s.heap.objs.size 0 .none := by
    have := Heap.get?_push_size (s.heap.push ob) (o := { cls := .type "enumerate", data := .fields #[.none, .bool false, .ref s.heap.objs.size, rawInt 0, .none, .none] }) rfl
    rw [hz] at this
    exact this
  exact ⟨⟨_, he, rfl⟩, h _ he (Heap.get?_push_of_some _ (Heap.get?_push_size _ B.free)) fun b o x => Heap.get?_push_of_some _ (Heap.get?_push_of_some _ x)⟩
/-- the list or tuple at a, each item with its number in a new pair -/
def IteK (K : PySem.W.Frag) (b : Bool) (a : Addr) : It :=
  ⟨fun i H => ∃ (xs : List V) (x : V), sqK K b H a xs ∧ xs[i]? = some x, fun i H v H' => ∃ T x, v = .ref T ∧ H T = none ∧ H' = upd H T (.tup [.int (i : Nat), x]) ∧ ∀ xs, sqK K b H a xs → xs[i]? = some x,
    fun i H => ∃ xs : List V, sqK K b H a xs ∧ xs.length = i⟩
theorem turn_enK {P : Program} {w : World} {K : PySem.W.Frag} {elts : List Expr} {kk : Nat} {tpos : Pos} {b : Bool} {a e it : Addr} (ne : e ≠ it) (na : a ≠ it) (nea : e ≠ a) :
    Turn P w K (.Tuple elts kk tpos) (IteK K b a) [e, it] e (fun i h => (∃ old, IsEnum h e it ((i : Nat) : Int) old) ∧ itK b h it a i) where
  mem := by simp
  obj := fun i h st c hc => by
    obtain ⟨⟨old, he⟩, k1⟩ := st
    have e' : c = e ∨ c = it := by simpa using hc
    rcases e' with rfl | rfl
    · exact ⟨_, he, fun v q => nomatch q⟩
    · exact k1.obj
  keep := fun i h h' st k => by
    obtain ⟨⟨old, he⟩, k1⟩ := st
    exact ⟨⟨old, k e (by simp) _ he⟩, k1.at' fun o q => k it (by simp) o q⟩
  item := by
    intro X hP hw hK hc i pins s σ H E I hf stt hg
    subst hP hw hK
    obtain ⟨⟨old, he⟩, k1⟩ := stt
    obtain ⟨xs, x, hq, hx⟩ := hg
    obtain ⟨its, rv, p⟩ := hq.is I
    obtain ⟨u, hu, ru⟩ := rv.get hx
    have hel : e < s.heap.objs.size := Heap.lt_size he
    have hil : it < s.heap.objs.size := by obtain ⟨_, e1, _⟩ := k1.obj; exact Heap.lt_size e1
    have U := drawK (prog := X.prog) (w := X.w) (A := X.A.in1) (I.ok.hd hc) b it a na its.toArray
    have l1 : i < its.toArray.size := by rw [List.size_toArray]; exact (List.getElem?_eq_some_iff.mp hu).1
    refine wpAny_pyNext_enum_itemD U he ⟨k1, p⟩ l1 ne (by simp [ne, nea]) fun x1 h' tk ex ho st' hT hsz hk => ?_
    have ex' : u = x1 := by rw [List.getElem?_toArray, hu] at ex; exact Option.some.inj ex
    subst ex'
    refine ⟨_, rfl, wpAny_letOwnedTupleGo_enum (s := { s with heap := h', toks := tk + 1 }) ho fun h'' he' sb => ?_⟩
    replace sb : Heap.SameBut e h' h'' := sb
    have tN : h''.get? s.heap.objs.size = some { cls := .type "tuple", data := .seq #[.int i tk, u] } := (sb.2 _ (Nat.ne_of_gt hel)).trans hT
    have new : ObjOk X.prog X.w (upd H s.heap.objs.size (.tup [.int (i : Nat), x])) h'' s.heap.objs.size (.tup [.int (i : Nat), x]) :=
      ⟨by show 2 ≤ sizeLine; decide, [.int i tk, u], .cons ⟨_, rfl⟩ (.cons ru .nil), ⟨_, tN, rfl, _, rfl⟩⟩
    have I1 : Inv X pins σ (upd H s.heap.objs.size (.tup [.int (i : Nat), x])) { s with heap := h'', toks := tk + 1 } :=
      I.turnedNew (t' := tk + 1) (ch := [e, it]) (fun c o hb q => (sb.2 c (fun z => hb (by simp [z]))).trans (hk c o (fun z => hb (by simp [z])) (fun z => hb (by simp [z])) q)) hf (Nat.le_refl _) new
    refine ⟨.ref s.heap.objs.size, _, I1, rfl, ⟨_, x, rfl, I.hok.fresh (Nat.le_refl _), rfl, fun ys hy => by rw [sqK.inj I hy hq]; exact hx⟩, ⟨⟨u, ?_⟩, st'.1.at' fun o q => (sb.2 it ne.symm).trans q⟩, fun c hcm => ?_⟩
    · have e1 : ((i + 1 : Nat) : Int) = (i : Int) + 1 := by omega
      rw [e1]; exact he'
    · have hlt : c < s.heap.objs.size := by
        have e' : c = e ∨ c = it := by simpa using hcm
        rcases e' with rfl | rfl
        · exact hel
        · exact hil
      rw [upd_ne (Nat.ne_of_lt hlt)]
      exact (hf c hcm).1
  done := by
    intro X hP hw hK hc i pins s σ H E I hf stt hg
    subst hP hw hK
    obtain ⟨⟨old, he⟩, k1⟩ := stt
    obtain ⟨xs, hq, hn⟩ := hg
    obtain ⟨its, rv, p⟩ := hq.is I
    have U := drawK (prog := X.prog) (w := X.w) (A := X.A.in1) (I.ok.hd hc) b it a na its.toArray
    have e1 := rv.length
    rw [List.size_toArray] at U
    have h2 : i = its.length := by omega
    subst h2
    obtain ⟨f0, f1, f2, f3, f4, f5⟩ := hf it (by simp)
    exact wpAny_pyNext_enum_endD U he ⟨k1, p⟩ fun h' eb => ⟨rfl, I.turned (t' := s.toks) (fun b o hb q => eb b o hb q) f0 f1 f3 f4 f5⟩
  self := fun A i s Q E st h => let ⟨⟨_, he⟩, _⟩ := st; wpAny_pyIter_enum he h
def iEnK (K : PySem.W.Frag) (ta : TA) : TI := fun σ H R => ta σ H fun vs H1 => ∃ b a xs, vs = [.ref a] ∧ sqK K b H1 a xs ∧ R (IteK K b a) H1
theorem pi_enK {X : Cx} {e : Expr} {ta : TA} {p pos tpos : Pos} {elts : List Expr} {kk : Nat} (hg : Gl X "enumerate") (hm : X.mg "enumerate" = none) (ha : PA X [e] ta) (hs : starEach [e] X.env = [(false, eval e X.env)] := by rfl) :
    PI X (.Tuple elts kk tpos) (.Call (.Name "enumerate" p) [e] [] pos) (iEnK X.K ta) := by
  refine ⟨fun pins s σ H R I h => ?_⟩
  refine Call_ (ld_blt I hg hm boot_enumerate (PyProof.Rows.callWith_type1 (thn (ha.run pos pins s σ H _ I h) fun us s1 ⟨vs, H1, I1, r1, q1⟩ => ?_) hs rfl))
  obtain ⟨b, a, xs, ex, hq, q⟩ := q1
  subst ex
  cases r1 with
  | cons r rr =>
    cases rr
    cases r
    obtain ⟨its, rv, pp⟩ := hq.is I1
    have al : a < s1.heap.objs.size := pp.lt
    refine call_enK (begK b a its.toArray) pp fun h' he hit hk => wpAny_pyIter_enum he ?_
    have I2 : Inv X pins σ H1 { s1 with heap := h' } := I1.kept (t' := s1.toks) hk
    refine ⟨s1.heap.objs.size + 1, [s1.heap.objs.size + 1, s1.heap.objs.size], _, _, H1, rfl, I2, turn_enK (Nat.succ_ne_self _) (Nat.ne_of_lt al) (Nat.ne_of_gt (Nat.lt_succ_of_lt al)), ⟨⟨.none, he⟩, itK.new hit⟩, fun c hc => ?_, q⟩
    have e' : c = s1.heap.objs.size + 1 ∨ c = s1.heap.objs.size := by simpa using hc
    have hle : s1.heap.objs.size ≤ c := by
      rcases e' with z | z
      · rw [z]; exact Nat.le_succ _
      · rw [z]; exact Nat.le_refl _
    exact I1.fpOk hle (I1.hok.fresh hle)
end Q
set_option Elab.async false
set_option linter.all false
set_option maxRecDepth 100000
set_option maxHeartbeats 1000000
/-! ZR: zip as a source of the layer. -/
namespace Q
open PySem PySem.Spec PyProof.Rows L2
section
variable {K : PySem.W.Frag} {H H1 H2 : Hp} {σ : L2.St} {F F1 F2 Fv : List Addr} {δ δ1 δ2 : De}
def Val.nl : Val → Bool
  | .own (.l _) => false
  | _ => true
/-- a value that is to be walked later: an own list is locked at once -/
theorem later_ok {v : V} {x : Val} {Q : V → Hp → Prop} (r : Rx K σ H F H1 δ1 [v] [x] F1 Fv)
    (hq : ∀ H' F' Fv' x', (∀ δ, zsrcOf δ x' = zsrcOf δ x) → x'.nl = true → Rx K σ H F H' δ1 [v] [x'] F' Fv' → Q v H') : Q v H1 ∨ ∃ a u, v = .ref a ∧ H1 a = some u ∧ Mut (some u) ∧ ∀ od, Q v (upd H1 a (.frz od u)) := by
  cases x with
  | «at» i => exact .inl (hq _ _ _ _ (fun _ => rfl) rfl r)
  | own m =>
    cases m with
    | p d => exact .inl (hq _ _ _ _ (fun _ => rfl) rfl r)
    | dc kvs => exact .inl (hq _ _ _ _ (fun _ => rfl) rfl r)
    | l ds =>
      refine frz_ok (P := fun d δ' => d = .list ds ∧ δ' = δ1) (Q := Q) r ⟨rfl, rfl⟩ fun d δ' H' F' ⟨e1, e2⟩ rp rx => ?_
      subst e1 e2
      exact hq _ _ _ (.own (.p (.list ds))) (fun _ => rfl) rfl rx
/-- a list or a tuple that stands while it is walked -/
structure WK (K : PySem.W.Frag) (H1 : Hp) (σ : L2.St) (b : Bool) (a : Addr) (s : Src) : Prop where
  now : ∃ xs, sqK K b H1 a xs
  on : ∀ (H : Hp) (σ' : L2.St) (δ : De) (F : List Addr), Still H1 H → RS K H σ' δ F → gdOk s.gd δ → (∀ g ∈ s.gd, σ'[g.1]? = σ[g.1]?) → ∃ xs, sqK K b H a xs ∧ RPs K H xs s.items
theorem wk_of {v : V} {x : Val} {s : Src} (rv : RV K H1 σ v x Fv) (st : RS K H1 σ δ F) (hs : zsrcOf δ x = some s) (hn : x.nl = true) : ∃ b a, v = .ref a ∧ WK K H1 σ b a s := by
  have vw : VWalk K H1 σ v s ∧ ∀ z, v ≠ .str z := by
    cases x with
    | «at» i =>
      simp only [zsrcOf, srcOf] at hs
      split at hs
      · rename_i ds e
        cases hs
        obtain ⟨ev, _⟩ := rv
        obtain ⟨v', Fm, ev', rm, _⟩ := st.get e
        rw [ev] at ev'; cases ev'
        cases rm with
        | l h1 h2 => exact ⟨.own ev h1, fun z h => nomatch h⟩
      · cases hs
    | own m =>
      cases m with
      | l ds => cases hn
      | dc kvs => simp [zsrcOf, srcOf, M.seq] at hs
      | p d =>
        have rm : RM K H1 v (.p d) Fv := rv
        cases rm with
        | p rp =>
          cases rp <;> simp only [zsrcOf, srcOf, M.seq, Option.map_none, Option.map_some, reduceCtorEq, Option.some.injEq] at hs
          · rename_i h1 h2; subst hs; exact ⟨.lst h1 h2, fun z h => nomatch h⟩
          · rename_i h1 h2; subst hs; exact ⟨.tup h1 h2, fun z h => nomatch h⟩
  rcases vw.1.listy with ⟨a, e, h1, h2⟩ | ⟨a, e, h1, h2⟩ | ⟨z, e, _⟩
  · exact ⟨true, a, e, h1, h2⟩
  · exact ⟨false, a, e, h1, fun H σ' δ F st _ _ _ => h2 H st⟩
  · exact absurd e (vw.2 z)
theorem gdOk_app {g1 g2 : List (Nat × List PyData)} {δ : De} (h : gdOk (g1 ++ g2) δ) : gdOk g1 δ ∧ gdOk g2 δ := ⟨fun g hg => h g (List.mem_append_left _ hg), fun g hg => h g (List.mem_append_right _ hg)⟩
theorem zip_len (xs ys : List PyData) : (zipItems xs ys).length = min xs.length ys.length := by unfold zipItems; simp
theorem zip_get {xs ys : List PyData} {i : Nat} {x y : PyData} (hx : xs[i]? = some x) (hy : ys[i]? = some y) : (zipItems xs ys)[i]? = some (.tuple [x, y]) := by
  unfold zipItems; simp [List.getElem?_zipWith, hx, hy]
theorem src_zip2 {b1 b2 st : Bool} {a b : Addr} {s t : Src} {σ0 : L2.St} {H0 : Hp} (h1 : WK K H0 σ0 b1 a s) (h2 : WK K H0 σ0 b2 b t) (hst : st = true → s.items.length = t.items.length) :
    SrcW K ⟨zipItems s.items t.items, s.gd ++ t.gd⟩ (Itz2 K st b1 b2 a b) σ0 H0 := by
  have both : ∀ (H : Hp) (σ : L2.St) (δ : De) (F : List Addr), Still H0 H → RS K H σ δ F → gdOk (s.gd ++ t.gd) δ → (∀ g ∈ s.gd ++ t.gd, σ[g.1]? = σ0[g.1]?) →
      (∃ xs, sqK K b1 H a xs ∧ RPs K H xs s.items) ∧ ∃ ys, sqK K b2 H b ys ∧ RPs K H ys t.items := fun H σ δ F still rs g e =>
    ⟨h1.on H σ δ F still rs (gdOk_app g).1 fun q hq => e q (List.mem_append_left _ hq), h2.on H σ δ F still rs (gdOk_app g).2 fun q hq => e q (List.mem_append_right _ hq)⟩
  refine ⟨fun i H σ δ F hi still rs g e => ?_, fun H σ δ F still rs g e => ?_, fun i H σ δ F x H' hi still rs g e y => ?_⟩
  · obtain ⟨⟨xs, p1, p2⟩, ys, q1, q2⟩ := both H σ δ F still rs g e
    simp only [zip_len] at hi
    obtain ⟨v, d, e1, _, _⟩ := p2.lt (i := i) (by omega)
    obtain ⟨v', d', e2, _, _⟩ := q2.lt (i := i) (by omega)
    exact ⟨xs, ys, v, v', p1, q1, e1, e2⟩
  · obtain ⟨⟨xs, p1, p2⟩, ys, q1, q2⟩ := both H σ δ F still rs g e
    have l1 := p2.length
    have l2 := q2.length
    refine ⟨xs, ys, p1, q1, ?_, ?_, ?_, fun h => ?_⟩
    · simp only [zip_len]; omega
    · simp only [zip_len]; omega
    · simp only [zip_len]; omega
    · have := hst h; omega
  · obtain ⟨⟨xs, p1, p2⟩, ys, q1, q2⟩ := both H σ δ F still rs g e
    simp only [zip_len] at hi
    obtain ⟨v, d, e1, f1, r1⟩ := p2.lt (i := i) (by omega)
    obtain ⟨v', d', e2, f2, r2⟩ := q2.lt (i := i) (by omega)
    obtain ⟨T, w, w', rfl, hT, rfl, y1, y2⟩ := y
    have := y1 xs p1
    rw [e1] at this; cases this
    have := y2 ys q1
    rw [e2] at this; cases this
    exact ⟨_, zip_get f1 f2, .tup hT (.cons r1 (.cons r2 .nil))⟩
end
section
variable {E : SE} {Γ : List Spec} {k : Nat} {X : Cx} {sc : Scope} {pos p2 p3 : Pos}
theorem src_enK {b : Bool} {a : Addr} {s : Src} {σ0 : L2.St} {H0 : Hp} (h1 : WK X.K H0 σ0 b a s) : SrcW X.K ⟨enumItems s.items, s.gd⟩ (IteK X.K b a) σ0 H0 := by
  refine ⟨fun i H σ δ F hi still rs g e => ?_, fun H σ δ F still rs g e => ?_, fun i H σ δ F x H' hi still rs g e y => ?_⟩
  · obtain ⟨xs, p1, p2⟩ := h1.on H σ δ F still rs g e
    simp only [enum_len] at hi
    obtain ⟨v, d, e1, _, _⟩ := p2.lt hi
    exact ⟨xs, v, p1, e1⟩
  · obtain ⟨xs, p1, p2⟩ := h1.on H σ δ F still rs g e
    exact ⟨xs, p1, by simp only [enum_len]; exact p2.length⟩
  · obtain ⟨xs, p1, p2⟩ := h1.on H σ δ F still rs g e
    simp only [enum_len] at hi
    obtain ⟨v, d, e1, e2, rp⟩ := p2.lt hi
    obtain ⟨T, w, rfl, hT, rfl, y2⟩ := y
    have := y2 xs p1
    rw [e1] at this
    cases this
    exact ⟨_, enum_get e2, .tup hT (.cons (.int _) (.cons rp .nil))⟩
theorem i_enum (o : OkX E Γ k X sc) {y : Str} {e : Expr} {a : C} {elts : List Expr} {kk : Nat} {tpos : Pos} (hy : (y == ("enumerate" : Str)) = true) (hg : globB sc y = true) (pl : plainB e = true) (ha : PE X e (tE X.K (wpE Γ XF a))) :
    PI X (.Tuple elts kk tpos) (.Call (.Name y p2) [e] [] pos) (tI X.K (wpI Γ XF (.enum a))) := by
  rw [beq_iff_eq] at hy
  subst hy
  refine PI.wk (pi_enK (o.gl hg) (o.blt _ (by decide +kernel)) (pa_cons (pe_ghost ha) pa_nil (plain_star pl _ _)) (plain_star pl _ _)) fun σ H R ⟨δ, F, Kc, st, nd, hw, hq⟩ => ?_
  rw [wpI] at hw
  refine ⟨δ, F, _, st, nd, hw, fun x δ1 v H1 F1 Fv k1 r1 => later_ok (Q := fun v H1 => ∃ b a xs, [v] = [V.ref a] ∧ sqK X.K b H1 a xs ∧ R (IteK X.K b a) H1) r1 fun H' F' Fv' x' ex nx rx => ?_⟩
  obtain ⟨s, e1, kc⟩ := k1
  obtain ⟨b, a1, rfl, w1⟩ := wk_of rx.vl.one' rx.st (by rw [ex]; exact e1) nx
  obtain ⟨xs, g1⟩ := w1.now
  exact ⟨b, a1, xs, rfl, g1, hq _ _ _ _ _ kc rx.drop (src_enK w1)⟩
theorem zip_wk {e f : Expr} {a b : C} {st : Bool} (ha : PE X e (tE X.K (wpE Γ XF a))) (hb : PE X f (tE X.K (wpE Γ XF b))) {σ : L2.St} {H : Hp} {R : It → Hp → Prop} (h : tI X.K (wpI Γ XF (.zip a b st)) σ H R) :
    iZ2 X.K st (tCons (tG (tE X.K (wpE Γ XF a))) (tCons (tG (tE X.K (wpE Γ XF b))) tNil)) σ H R := by
  obtain ⟨δ, F, Kc, rs, nd, hw, hq⟩ := h
  rw [wpI] at hw
  refine ⟨δ, F, _, rs, nd, hw, fun x δ1 v H1 F1 Fv k1 r1 => later_ok (Q := fun v H1 => tCons (tG (tE X.K (wpE Γ XF b))) tNil σ H1 fun vs H2 => ∃ b1 b2 a b xs ys, v :: vs = [.ref a, .ref b] ∧ sqK X.K b1 H2 a xs ∧ sqK X.K b2 H2 b ys ∧ R (Itz2 X.K st b1 b2 a b) H2) r1 fun H' F' Fv' x' ex nx rx => ?_⟩
  refine ⟨δ1, F', _, rx.st, nd_right rx.nd, k1, fun y δ2 w H2 F2 Fw k2 r2 => later_ok (Q := fun w H2 => ∃ b1 b2 a b xs ys, v :: w :: [] = [.ref a, .ref b] ∧ sqK X.K b1 H2 a xs ∧ sqK X.K b2 H2 b ys ∧ R (Itz2 X.K st b1 b2 a b) H2) r2 fun H3 F3 Fw' y' ey ny ry => ?_⟩
  obtain ⟨s, t, e1, e2, hst, kc⟩ := k2
  have rr := rx.step ry
  have rv : RVs X.K H3 σ [v, w] [x', y'] (Fv' ++ Fw') := rr.vl
  generalize Fv' ++ Fw' = G at rv
  cases rv with
  | cons ra rb =>
    obtain ⟨b1, a1, rfl, w1⟩ := wk_of ra rr.st (by rw [ex]; exact e1) nx
    obtain ⟨b2, a2, rfl, w2⟩ := wk_of rb.one' rr.st (by rw [ey]; exact e2) ny
    obtain ⟨xs, g1⟩ := w1.now
    obtain ⟨ys, g2⟩ := w2.now
    exact ⟨b1, b2, a1, a2, xs, ys, rfl, g1, g2, hq _ _ _ _ _ kc rr.drop (src_zip2 w1 w2 hst)⟩
theorem i_zip (o : OkX E Γ k X sc) {y : Str} {e f : Expr} {a b : C} {elts : List Expr} {kk : Nat} {tpos : Pos} (hy : (y == ("zip" : Str)) = true) (hg : globB sc y = true) (pl : plainB e = true) (pl2 : plainB f = true) (ha : PE X e (tE X.K (wpE Γ XF a))) (hb : PE X f (tE X.K (wpE Γ XF b))) :
    PI X (.Tuple elts kk tpos) (.Call (.Name y p2) [e, f] [] pos) (tI X.K (wpI Γ XF (.zip a b false))) := by
  rw [beq_iff_eq] at hy
  subst hy
  exact PI.wk (pi_z2 (o.gl hg) (o.blt _ (by decide +kernel)) (pa_cons (pe_ghost ha) (pa_cons (pe_ghost hb) pa_nil (plain_star pl2 _ _)) (plain_star pl _ _)) (plain_star pl _ _) (by rw [plain_star pl2]; rfl)) fun σ H R h => zip_wk ha hb h
theorem i_zipS (o : OkX E Γ k X sc) {y z : Str} {e f : Expr} {a b : C} {elts : List Expr} {kk kt : Nat} {tpos cp kp : Pos} (hy : (y == ("zip" : Str)) = true) (hg : globB sc y = true) (hz : (z == Str.ofString "strict") = true) (pl : plainB e = true) (pl2 : plainB f = true) (ha : PE X e (tE X.K (wpE Γ XF a))) (hb : PE X f (tE X.K (wpE Γ XF b))) :
    PI X (.Tuple elts kk tpos) (.Call (.Name y p2) [e, f] [⟨some z, .Constant (.bool true) kt cp, kp⟩] pos) (tI X.K (wpI Γ XF (.zip a b true))) := by
  rw [beq_iff_eq] at hy hz
  subst hy hz
  exact PI.wk (pi_z2S (tr := 0) (o.gl hg) (o.blt _ (by decide +kernel)) (pa_cons (pe_ghost ha) (pa_cons (pe_ghost hb) pa_nil (plain_star pl2 _ _)) (plain_star pl _ _)) (plain_star pl _ _) (by rw [plain_star pl, plain_star pl2]; rfl)) fun σ H R h => zip_wk ha hb h
end
end Q
set_option Elab.async false
set_option linter.all false
set_option maxRecDepth 100000
set_option maxHeartbeats 1000000
/-! ZT: zip of three. -/
namespace Q
open PySem PySem.Spec PyProof.Rows L2
def Itz3 (K : PySem.W.Frag) (b1 b2 b3 : Bool) (a b c : Addr) : It :=
  ⟨fun i H => ∃ (xs ys zs : List V) (x y z : V), sqK K b1 H a xs ∧ sqK K b2 H b ys ∧ sqK K b3 H c zs ∧ xs[i]? = some x ∧ ys[i]? = some y ∧ zs[i]? = some z,
    fun i H v H' => ∃ T x y z, v = .ref T ∧ H T = none ∧ H' = upd H T (.tup [x, y, z]) ∧ (∀ xs, sqK K b1 H a xs → xs[i]? = some x) ∧ (∀ ys, sqK K b2 H b ys → ys[i]? = some y) ∧ ∀ zs, sqK K b3 H c zs → zs[i]? = some z,
    fun i H => ∃ xs ys zs : List V, sqK K b1 H a xs ∧ sqK K b2 H b ys ∧ sqK K b3 H c zs ∧ i ≤ xs.length ∧ i ≤ ys.length ∧ i ≤ zs.length ∧ (i = xs.length ∨ i = ys.length ∨ i = zs.length)⟩
theorem turn_z3 {P : Program} {w : World} {K : PySem.W.Frag} {elts : List Expr} {kk : Nat} {tpos : Pos} {b1 b2 b3 : Bool} {a b c0 z TI TO i1 i2 i3 : Addr} (S : ZipSep3 z TI TO i1 i2 i3 [i1, a] [i2, b] [i3, c0]) (na : a ≠ i1) (nb : b ≠ i2) (nc : c0 ≠ i3) :
    Turn P w K (.Tuple elts kk tpos) (Itz3 K b1 b2 b3 a b c0) [z, TI, TO, i1, i2, i3] z (fun i h => IsZ false h z TI TO .none ∧ IsTupOf3 h TI (.ref i1) (.ref i2) (.ref i3) ∧ (∃ x y u, IsTupOf3 h TO x y u) ∧ itK b1 h i1 a i ∧ itK b2 h i2 b i ∧ itK b3 h i3 c0 i) where
  mem := by simp
  obj := fun i h st c hc => by
    obtain ⟨hz, tI, ⟨x, y, u, tO⟩, k1, k2, k3⟩ := st
    have e' : c = z ∨ c = TI ∨ c = TO ∨ c = i1 ∨ c = i2 ∨ c = i3 := by simpa using hc
    rcases e' with rfl | rfl | rfl | rfl | rfl | rfl
    · exact ⟨_, hz, fun v q => nomatch q⟩
    · exact ⟨_, tI, fun v q => nomatch q⟩
    · exact ⟨_, tO, fun v q => nomatch q⟩
    · exact k1.obj
    · exact k2.obj
    · exact k3.obj
  keep := fun i h h' st k => by
    obtain ⟨hz, tI, ⟨x, y, u, tO⟩, k1, k2, k3⟩ := st
    exact ⟨k z (by simp) _ hz, k TI (by simp) _ tI, ⟨x, y, u, k TO (by simp) _ tO⟩, k1.at' fun o q => k i1 (by simp) o q, k2.at' fun o q => k i2 (by simp) o q, k3.at' fun o q => k i3 (by simp) o q⟩
  item := by
    intro X hP hw hK hc i pins s σ H E I hf stt hg
    subst hP hw hK
    obtain ⟨hz, tI, ⟨x0, y0, u0, tO⟩, k1, k2, k3⟩ := stt
    obtain ⟨xs, ys, zs, x, y, zz, hqx, hqy, hqz, hx, hy, hz3⟩ := hg
    obtain ⟨its, rv, p⟩ := hqx.is I
    obtain ⟨its2, rv2, p2⟩ := hqy.is I
    obtain ⟨its3, rv3, p3⟩ := hqz.is I
    obtain ⟨u, hu, ru⟩ := rv.get hx
    obtain ⟨u2, hu2, ru2⟩ := rv2.get hy
    obtain ⟨u3, hu3, ru3⟩ := rv3.get hz3
    have hzl : z < s.heap.objs.size := Heap.lt_size hz
    have hd := I.ok.hd hc
    have U1 := drawK (prog := X.prog) (w := X.w) (A := X.A.in1) hd b1 i1 a na its.toArray
    have U2 := drawK (prog := X.prog) (w := X.w) (A := X.A.in1) hd b2 i2 b nb its2.toArray
    have U3 := drawK (prog := X.prog) (w := X.w) (A := X.A.in1) hd b3 i3 c0 nc its3.toArray
    have l1 : i < its.toArray.size := by rw [List.size_toArray]; exact (List.getElem?_eq_some_iff.mp hu).1
    have l2 : i < its2.toArray.size := by rw [List.size_toArray]; exact (List.getElem?_eq_some_iff.mp hu2).1
    have l3 : i < its3.toArray.size := by rw [List.size_toArray]; exact (List.getElem?_eq_some_iff.mp hu3).1
    have fin : ∀ (x1 x2 x3 : Value) (h' : Heap) (tk : Nat), its.toArray[i]? = some x1 → its2.toArray[i]? = some x2 → its3.toArray[i]? = some x3 → IsZ false h' z TI TO (rawInt s.heap.objs.size) → IsTupOf3 h' TO x1 x2 x3 → (itK b1 h' i1 a (i + 1) ∧ isK b1 h' a its.toArray) → (itK b2 h' i2 b (i + 1) ∧ isK b2 h' b its2.toArray) → (itK b3 h' i3 c0 (i + 1) ∧ isK b3 h' c0 its3.toArray) →
        IsTupOf3 h' s.heap.objs.size x1 x2 x3 → h'.objs.size = s.heap.objs.size + 1 → (∀ c o, c ≠ z → c ≠ TO → c ≠ i1 → c ≠ i2 → c ≠ i3 → s.heap.get? c = some o → h'.get? c = some o) →
        ∃ u, some (Value.ref s.heap.objs.size) = some u ∧ wpAny (model X.prog X.w) X.A (letOwnedTupleGo (.Tuple elts kk tpos) (.ref z) u) (fun _ s2 => ∃ x H', Inv X pins σ H' s2 ∧ RelV x u ∧ (Itz3 X.K b1 b2 b3 a b c0).yld i H x H' ∧
          (IsZ false s2.heap z TI TO .none ∧ IsTupOf3 s2.heap TI (.ref i1) (.ref i2) (.ref i3) ∧ (∃ x y u, IsTupOf3 s2.heap TO x y u) ∧ itK b1 s2.heap i1 a (i + 1) ∧ itK b2 s2.heap i2 b (i + 1) ∧ itK b3 s2.heap i3 c0 (i + 1)) ∧ ∀ c ∈ [z, TI, TO, i1, i2, i3], H' c = none) E { s with heap := h', toks := tk } := by
      intro x1 x2 x3 h' tk ex1 ex2 ex3 z' tO' d1 d2 d3 tN hsz hk
      have ex1' : u = x1 := by rw [List.getElem?_toArray, hu] at ex1; exact Option.some.inj ex1
      have ex2' : u2 = x2 := by rw [List.getElem?_toArray, hu2] at ex2; exact Option.some.inj ex2
      have ex3' : u3 = x3 := by rw [List.getElem?_toArray, hu3] at ex3; exact Option.some.inj ex3
      subst ex1' ex2' ex3'
      refine ⟨_, rfl, z_letGo (s := { s with heap := h', toks := tk }) z' fun h'' z'' sb => ?_⟩
      replace sb : Heap.SameBut z h' h'' := sb
      have tN2 : h''.get? s.heap.objs.size = some { cls := .type "tuple", data := .seq #[u, u2, u3] } := (sb.2 _ (Nat.ne_of_gt hzl)).trans tN
      have new : ObjOk X.prog X.w (upd H s.heap.objs.size (.tup [x, y, zz])) h'' s.heap.objs.size (.tup [x, y, zz]) :=
        ⟨by show 3 ≤ sizeLine; decide, [u, u2, u3], .cons ru (.cons ru2 (.cons ru3 .nil)), ⟨_, tN2, rfl, _, rfl⟩⟩
      have I1 : Inv X pins σ (upd H s.heap.objs.size (.tup [x, y, zz])) { s with heap := h'', toks := tk } :=
        I.turnedNew (t' := tk) (ch := [z, TI, TO, i1, i2, i3]) (fun c o hb q => (sb.2 c (fun q' => hb (by simp [q']))).trans (hk c o (fun q' => hb (by simp [q'])) (fun q' => hb (by simp [q'])) (fun q' => hb (by simp [q'])) (fun q' => hb (by simp [q'])) (fun q' => hb (by simp [q'])) q)) hf (Nat.le_refl _) new
      refine ⟨.ref s.heap.objs.size, _, I1, rfl, ⟨_, x, y, zz, rfl, I.hok.fresh (Nat.le_refl _), rfl, fun l hl => by rw [sqK.inj I hl hqx]; exact hx, fun l hl => by rw [sqK.inj I hl hqy]; exact hy, fun l hl => by rw [sqK.inj I hl hqz]; exact hz3⟩, ⟨z'', ?_, ⟨u, u2, u3, ?_⟩, ?_, ?_, ?_⟩, fun c hcm => ?_⟩
      · exact (sb.2 _ S.TIz).trans (hk _ _ S.TIz S.TITO S.TIi1 S.TIi2 S.TIi3 tI)
      · exact (sb.2 _ S.TOz).trans tO'
      · exact d1.1.at' fun o q => (sb.2 _ S.zi1.symm).trans q
      · exact d2.1.at' fun o q => (sb.2 _ S.zi2.symm).trans q
      · exact d3.1.at' fun o q => (sb.2 _ S.zi3.symm).trans q
      · have hlt : c < s.heap.objs.size := by
          have e' : c = z ∨ c = TI ∨ c = TO ∨ c = i1 ∨ c = i2 ∨ c = i3 := by simpa using hcm
          rcases e' with rfl | rfl | rfl | rfl | rfl | rfl
          · exact hzl
          · exact Heap.lt_size tI
          · exact Heap.lt_size tO
          · obtain ⟨_, e1, _⟩ := k1.obj; exact Heap.lt_size e1
          · obtain ⟨_, e2, _⟩ := k2.obj; exact Heap.lt_size e2
          · obtain ⟨_, e3, _⟩ := k3.obj; exact Heap.lt_size e3
        rw [upd_ne (Nat.ne_of_lt hlt)]
        exact (hf c hcm).1
    exact wpAny_pyNext_zipD3_item S U1 U2 U3 hz tI tO ⟨k1, p⟩ ⟨k2, p2⟩ ⟨k3, p3⟩ l1 l2 l3 fin
  done := by
    intro X hP hw hK hc i pins s σ H E I hf stt hg
    subst hP hw hK
    obtain ⟨hz, tI, ⟨x0, y0, u0, tO⟩, k1, k2, k3⟩ := stt
    obtain ⟨xs, ys, zs, hqx, hqy, hqz, g1, g2, g3, hend⟩ := hg
    obtain ⟨its, rv, p⟩ := hqx.is I
    obtain ⟨its2, rv2, p2⟩ := hqy.is I
    obtain ⟨its3, rv3, p3⟩ := hqz.is I
    have e1 := rv.length
    have e2 := rv2.length
    have e3 := rv3.length
    have hd := I.ok.hd hc
    have U1 := drawK (prog := X.prog) (w := X.w) (A := X.A.in1) hd b1 i1 a na its.toArray
    have U2 := drawK (prog := X.prog) (w := X.w) (A := X.A.in1) hd b2 i2 b nb its2.toArray
    have U3 := drawK (prog := X.prog) (w := X.w) (A := X.A.in1) hd b3 i3 c0 nc its3.toArray
    rw [List.size_toArray] at U1 U2 U3
    have fin : ∀ (h' : Heap) (tk : Nat), (∀ c o, c ≠ z → c ≠ TO → c ≠ i1 → c ≠ i2 → c ≠ i3 → s.heap.get? c = some o → h'.get? c = some o) → (none : Option Value) = none ∧ Inv X pins σ H { s with heap := h', toks := tk } := fun h' tk hk =>
      ⟨rfl, I.turnedL (t' := tk) (ch := [z, TI, TO, i1, i2, i3]) (fun c o hb q => hk c o (fun q' => hb (by simp [q'])) (fun q' => hb (by simp [q'])) (fun q' => hb (by simp [q'])) (fun q' => hb (by simp [q'])) (fun q' => hb (by simp [q'])) q) hf⟩
    exact wpAny_pyNext_zipD3_end S U1 U2 U3 hz tI tO ⟨k1, p⟩ ⟨k2, p2⟩ ⟨k3, p3⟩ (by omega) (by omega) (by omega) (by omega) fin
  self := fun A i s Q E st h => z_pyIter st.1 h
theorem sep3 {n a b c : Nat} (ha : a < n) (hb : b < n) (hc : c < n) : ZipSep3 (n + 5 : Nat) (n + 3 : Nat) (n + 4 : Nat) n (n + 1 : Nat) (n + 2 : Nat) [n, a] [n + 1, b] [n + 2, c] where
  TIz := (by omega : (n + 3 : Nat) ≠ n + 5)
  TOz := (by omega : (n + 4 : Nat) ≠ n + 5)
  TITO := (by omega : (n + 3 : Nat) ≠ n + 4)
  TIi1 := (by omega : (n + 3 : Nat) ≠ n)
  mem1 := List.mem_cons_self ..
  zf1 := nin2 (by omega) (by omega)
  Tf1 := nin2 (by omega) (by omega)
  TIi2 := (by omega : (n + 3 : Nat) ≠ n + 1)
  mem2 := List.mem_cons_self ..
  zf2 := nin2 (by omega) (by omega)
  Tf2 := nin2 (by omega) (by omega)
  TIi3 := (by omega : (n + 3 : Nat) ≠ n + 2)
  mem3 := List.mem_cons_self ..
  zf3 := nin2 (by omega) (by omega)
  Tf3 := nin2 (by omega) (by omega)
  sep1_2 := nin2 (by omega) (by omega)
  sep1_3 := nin2 (by omega) (by omega)
  sep2_1 := nin2 (by omega) (by omega)
  sep2_3 := nin2 (by omega) (by omega)
  sep3_1 := nin2 (by omega) (by omega)
  sep3_2 := nin2 (by omega) (by omega)
section
variable {X : Cx} {e e2 e3 : Expr} {p pos tpos : Pos} {elts : List Expr} {kk : Nat}
def iZ3 (K : PySem.W.Frag) (ta : TA) : TI := fun σ H R => ta σ H fun vs H1 => ∃ b1 b2 b3 a b c xs ys zs, vs = [.ref a, .ref b, .ref c] ∧ sqK K b1 H1 a xs ∧ sqK K b2 H1 b ys ∧ sqK K b3 H1 c zs ∧ R (Itz3 K b1 b2 b3 a b c) H1
theorem vals_r3 {vs : List V} {us : List Value} {a b c : Addr} (r : Vals vs us) (e : vs = [.ref a, .ref b, .ref c]) : us = [.ref a, .ref b, .ref c] := by
  subst e
  cases r with
  | cons r rr => cases rr with
    | cons r' rr => cases rr with
      | cons r'' rr => cases rr; cases r; cases r'; cases r''; rfl
theorem pi_z3 {ta : TA} (hg : Gl X "zip") (hm : X.mg "zip" = none) (ha : PA X [e, e2, e3] ta) (hs : starEach [e, e2, e3] X.env = (false, eval e X.env) :: starEach [e2, e3] X.env) (hpl : (backTo pos (starEach [e2, e3] X.env)).any (·.1) = false) :
    PI X (.Tuple elts kk tpos) (.Call (.Name "zip" p) [e, e2, e3] [] pos) (iZ3 X.K ta) := by
  refine ⟨fun pins s σ H R I h => ?_⟩
  refine Call_ (ld_blt I hg hm PyProof.Rows.boot_zip (PyProof.Rows.callWith_type1 (thn (ha.run pos pins s σ H _ I h) fun us s1 ⟨vs, H1, I1, r1, q1⟩ => ?_) hs hpl))
  obtain ⟨b1, b2, b3, a, b, c, xs, ys, zs, ex, hx, hy, hz, q⟩ := q1
  rw [vals_r3 r1 ex]
  obtain ⟨its, _, p1⟩ := hx.is I1
  obtain ⟨its2, _, p2⟩ := hy.is I1
  obtain ⟨its3, _, p3⟩ := hz.is I1
  refine zip_begins3 (begK b1 a its.toArray) (begK b2 b its2.toArray) (begK b3 c its3.toArray) p1 p2 p3 fun h' z' tI tO g1 g2 g3 _ hk => ?_
  refine z_pyIter (st := false) z' ?_
  have I2 : Inv X pins σ H1 { s1 with heap := h' } := I1.kept (t' := s1.toks) hk
  refine ⟨s1.heap.objs.size + 5, [s1.heap.objs.size + 5, s1.heap.objs.size + 3, s1.heap.objs.size + 4, s1.heap.objs.size, s1.heap.objs.size + 1, s1.heap.objs.size + 2], _, _, H1, rfl, I2, turn_z3 (sep3 p1.lt p2.lt p3.lt) (Nat.ne_of_lt p1.lt) (Nat.ne_of_lt (Nat.lt_succ_of_lt p2.lt)) (Nat.ne_of_lt (Nat.lt_succ_of_lt (Nat.lt_succ_of_lt p3.lt))), ⟨z', tI, ⟨_, _, _, tO⟩, .new g1, .new g2, .new g3⟩, fun c hcm => ?_, q⟩
  have e' : c = s1.heap.objs.size + 5 ∨ c = s1.heap.objs.size + 3 ∨ c = s1.heap.objs.size + 4 ∨ c = s1.heap.objs.size ∨ c = s1.heap.objs.size + 1 ∨ c = s1.heap.objs.size + 2 := by simpa using hcm
  have hle : s1.heap.objs.size ≤ c := by rcases e' with rfl | rfl | rfl | rfl | rfl | rfl <;> omega
  exact I1.fpOk hle (I1.hok.fresh hle)
end
section
variable {K : PySem.W.Frag} {H H1 H2 : Hp} {σ : L2.St} {F F1 F2 Fv : List Addr} {δ δ1 δ2 : De}
theorem zip3_len (xs ys zs : List PyData) : (zip3Items xs ys zs).length = min xs.length (min ys.length zs.length) := by unfold zip3Items; simp
theorem zip3_get {xs ys zs : List PyData} {i : Nat} {x y z : PyData} (hx : xs[i]? = some x) (hy : ys[i]? = some y) (hz : zs[i]? = some z) : (zip3Items xs ys zs)[i]? = some (.tuple [x, y, z]) := by
  have : (ys.zip zs)[i]? = some (y, z) := by rw [List.getElem?_zip_eq_some]; exact ⟨hy, hz⟩
  unfold zip3Items; simp [List.getElem?_zipWith, hx, this]
theorem src_zip3 {b1 b2 b3 : Bool} {a b c : Addr} {s t u : Src} {σ0 : L2.St} {H0 : Hp} (h1 : WK K H0 σ0 b1 a s) (h2 : WK K H0 σ0 b2 b t) (h3 : WK K H0 σ0 b3 c u) :
    SrcW K ⟨zip3Items s.items t.items u.items, s.gd ++ t.gd ++ u.gd⟩ (Itz3 K b1 b2 b3 a b c) σ0 H0 := by
  have all : ∀ (H : Hp) (σ : L2.St) (δ : De) (F : List Addr), Still H0 H → RS K H σ δ F → gdOk (s.gd ++ t.gd ++ u.gd) δ → (∀ g ∈ s.gd ++ t.gd ++ u.gd, σ[g.1]? = σ0[g.1]?) →
      (∃ xs, sqK K b1 H a xs ∧ RPs K H xs s.items) ∧ (∃ ys, sqK K b2 H b ys ∧ RPs K H ys t.items) ∧ ∃ zs, sqK K b3 H c zs ∧ RPs K H zs u.items := fun H σ δ F still rs g e =>
    ⟨h1.on H σ δ F still rs (gdOk_app (gdOk_app g).1).1 fun q hq => e q (List.mem_append_left _ (List.mem_append_left _ hq)), h2.on H σ δ F still rs (gdOk_app (gdOk_app g).1).2 fun q hq => e q (List.mem_append_left _ (List.mem_append_right _ hq)), h3.on H σ δ F still rs (gdOk_app g).2 fun q hq => e q (List.mem_append_right _ hq)⟩
  refine ⟨fun i H σ δ F hi still rs g e => ?_, fun H σ δ F still rs g e => ?_, fun i H σ δ F x H' hi still rs g e y => ?_⟩
  · obtain ⟨⟨xs, p1, p2⟩, ⟨ys, q1, q2⟩, zs, o1, o2⟩ := all H σ δ F still rs g e
    simp only [zip3_len] at hi
    obtain ⟨v, d, e1, _, _⟩ := p2.lt (i := i) (by omega)
    obtain ⟨v', d', e2, _, _⟩ := q2.lt (i := i) (by omega)
    obtain ⟨v2, d2, e3, _, _⟩ := o2.lt (i := i) (by omega)
    exact ⟨xs, ys, zs, v, v', v2, p1, q1, o1, e1, e2, e3⟩
  · obtain ⟨⟨xs, p1, p2⟩, ⟨ys, q1, q2⟩, zs, o1, o2⟩ := all H σ δ F still rs g e
    have l1 := p2.length
    have l2 := q2.length
    have l3 := o2.length
    refine ⟨xs, ys, zs, p1, q1, o1, ?_, ?_, ?_, ?_⟩ <;> (simp only [zip3_len]; omega)
  · obtain ⟨⟨xs, p1, p2⟩, ⟨ys, q1, q2⟩, zs, o1, o2⟩ := all H σ δ F still rs g e
    simp only [zip3_len] at hi
    obtain ⟨v, d, e1, f1, r1⟩ := p2.lt (i := i) (by omega)
    obtain ⟨v', d', e2, f2, r2⟩ := q2.lt (i := i) (by omega)
    obtain ⟨v2, d2, e3, f3, r3⟩ := o2.lt (i := i) (by omega)
    obtain ⟨T, w, w', w2, rfl, hT, rfl, y1, y2, y3⟩ := y
    have := y1 xs p1
    rw [e1] at this; cases this
    have := y2 ys q1
    rw [e2] at this; cases this
    have := y3 zs o1
    rw [e3] at this; cases this
    exact ⟨_, zip3_get f1 f2 f3, .tup hT (.cons r1 (.cons r2 (.cons r3 .nil)))⟩
end
section
variable {E : SE} {Γ : List Spec} {k : Nat} {X : Cx} {sc : Scope} {pos p2 p3 : Pos}
theorem zip3_wk {e f g : Expr} {a b c : C} (ha : PE X e (tE X.K (wpE Γ XF a))) (hb : PE X f (tE X.K (wpE Γ XF b))) (hc : PE X g (tE X.K (wpE Γ XF c))) {σ : L2.St} {H : Hp} {R : It → Hp → Prop} (h : tI X.K (wpI Γ XF (.zip3 a b c)) σ H R) :
    iZ3 X.K (tCons (tG (tE X.K (wpE Γ XF a))) (tCons (tG (tE X.K (wpE Γ XF b))) (tCons (tG (tE X.K (wpE Γ XF c))) tNil))) σ H R := by
  obtain ⟨δ, F, Kc, rs, nd, hw, hq⟩ := h
  rw [wpI] at hw
  refine ⟨δ, F, _, rs, nd, hw, fun x δ1 v H1 F1 Fv k1 r1 => later_ok (Q := fun v H1 => tCons (tG (tE X.K (wpE Γ XF b))) (tCons (tG (tE X.K (wpE Γ XF c))) tNil) σ H1 fun vs H2 => ∃ b1 b2 b3 a b c xs ys zs, v :: vs = [.ref a, .ref b, .ref c] ∧ sqK X.K b1 H2 a xs ∧ sqK X.K b2 H2 b ys ∧ sqK X.K b3 H2 c zs ∧ R (Itz3 X.K b1 b2 b3 a b c) H2) r1 fun H' F' Fv' x' ex nx rx => ?_⟩
  refine ⟨δ1, F', _, rx.st, nd_right rx.nd, k1, fun y δ2 w H2 F2 Fw k2 r2 => later_ok (Q := fun w H2 => tCons (tG (tE X.K (wpE Γ XF c))) tNil σ H2 fun vs H3 => ∃ b1 b2 b3 a b c xs ys zs, v :: w :: vs = [.ref a, .ref b, .ref c] ∧ sqK X.K b1 H3 a xs ∧ sqK X.K b2 H3 b ys ∧ sqK X.K b3 H3 c zs ∧ R (Itz3 X.K b1 b2 b3 a b c) H3) r2 fun H3 F3 Fw' y' ey ny ry => ?_⟩
  refine ⟨δ2, F3, _, ry.st, nd_right ry.nd, k2, fun z δ3 o H4 F4 Fo k3 r3 => later_ok (Q := fun o H4 => ∃ b1 b2 b3 a b c xs ys zs, v :: w :: o :: [] = [.ref a, .ref b, .ref c] ∧ sqK X.K b1 H4 a xs ∧ sqK X.K b2 H4 b ys ∧ sqK X.K b3 H4 c zs ∧ R (Itz3 X.K b1 b2 b3 a b c) H4) r3 fun H5 F5 Fo' z' ez nz rz => ?_⟩
  obtain ⟨s, t, u, e1, e2, e3, kc⟩ := k3
  have rr := (rx.step ry).step rz
  have rv := rr.vl
  generalize (Fv' ++ Fw') ++ Fo' = G at rv
  cases rv with
  | cons ra rb =>
    cases rb with
    | cons rb rd =>
      obtain ⟨b1, a1, rfl, w1⟩ := wk_of ra rr.st (by rw [ex]; exact e1) nx
      obtain ⟨b2, a2, rfl, w2⟩ := wk_of rb rr.st (by rw [ey]; exact e2) ny
      obtain ⟨b3, a3, rfl, w3⟩ := wk_of rd.one' rr.st (by rw [ez]; exact e3) nz
      obtain ⟨xs, g1⟩ := w1.now
      obtain ⟨ys, g2⟩ := w2.now
      obtain ⟨zs, g3⟩ := w3.now
      exact ⟨b1, b2, b3, a1, a2, a3, xs, ys, zs, rfl, g1, g2, g3, hq _ _ _ _ _ kc rr.drop (src_zip3 w1 w2 w3)⟩
theorem i_zip3 (o : OkX E Γ k X sc) {y : Str} {e f g : Expr} {a b c : C} {elts : List Expr} {kk : Nat} {tpos : Pos} (hy : (y == ("zip" : Str)) = true) (hg : globB sc y = true) (pl : plainB e = true) (pl2 : plainB f = true) (pl3 : plainB g = true)
    (ha : PE X e (tE X.K (wpE Γ XF a))) (hb : PE X f (tE X.K (wpE Γ XF b))) (hc : PE X g (tE X.K (wpE Γ XF c))) :
    PI X (.Tuple elts kk tpos) (.Call (.Name y p2) [e, f, g] [] pos) (tI X.K (wpI Γ XF (.zip3 a b c))) := by
  rw [beq_iff_eq] at hy
  subst hy
  exact PI.wk (pi_z3 (o.gl hg) (o.blt _ (by decide +kernel)) (pa_cons (pe_ghost ha) (pa_cons (pe_ghost hb) (pa_cons (pe_ghost hc) pa_nil (plain_star pl3 _ _)) (plain_star pl2 _ _)) (plain_star pl _ _)) (plain_star pl _ _) (by rw [plain_star pl2, plain_star pl3]; rfl)) fun σ H R h => zip3_wk ha hb hc h
end
end Q
set_option Elab.async false
set_option linter.all false
set_option maxRecDepth 100000
set_option maxHeartbeats 1000000
/-! LN: statements. -/
namespace Q
open PySem PySem.Spec PyProof.Rows L2

/-- from slots and heap to the next ones, the names lk as they were -/
structure RZ (K : PySem.W.Frag) (lk : List Nat) (σ : L2.St) (H : Hp) (F : List Addr) (σ' : L2.St) (H' : Hp) (δ' : De) (vs : List V) (xs : List Val) (F' Fv : List Addr) : Prop where
  rx : Rx K σ' H F H' δ' vs xs F' Fv
  lk : ∀ j ∈ lk, σ'[j]? = σ[j]?
structure EQ (K : PySem.W.Frag) (lk : List Nat) (σ : L2.St) (H : Hp) (F : List Addr) (Kd : EndD) (D : Ends) : Prop where
  nx : ∀ δ' σ' H' F', Kd.nx δ' → RZ K lk σ H F σ' H' δ' [] [] F' [] → D.nx σ' H'
  rt : ∀ x δ' σ' v H' F' Fv, Kd.rt x δ' → RZ K lk σ H F σ' H' δ' [v] [x] F' Fv → D.rt v H' ∨ ∃ a u, v = .ref a ∧ H' a = some u ∧ Mut (some u) ∧ ∀ od, D.rt v (upd H' a (.frz od u))
  bk : ∀ δ' σ' H' F', Kd.bk δ' → RZ K lk σ H F σ' H' δ' [] [] F' [] → D.bk σ' H'
  ct : ∀ δ' σ' H' F', Kd.ct δ' → RZ K lk σ H F σ' H' δ' [] [] F' [] → D.ct σ' H'
def tS (K : PySem.W.Frag) (lk : List Nat) (W : De → EndD → Prop) : TS := fun D σ H => ∃ δ F Kd, RS K H σ δ F ∧ F.Nodup ∧ W δ Kd ∧ EQ K lk σ H F Kd D

section
variable {K : PySem.W.Frag} {lk : List Nat} {H H1 H2 H' : Hp} {σ σ1 σ2 : L2.St} {F F1 F2 Fv Fw : List Addr} {δ δ1 δ2 : De} {vs : List V} {xs : List Val} {Kd : EndD} {D : Ends}
theorem Rx.mk' (st : RS K H1 σ1 δ1 F1) (vl : RVs K H1 σ1 vs xs Fv) (nd : (Fv ++ F1).Nodup) (tr : Tr H F H1 (Fv ++ F1)) : Rx K σ1 H F H1 δ1 vs xs F1 Fv := ⟨st, vl, nd, tr.kp, tr.fr⟩
theorem Rx.tr' (r : Rx K σ H F H1 δ1 vs xs F1 Fv) : Tr H F H1 (Fv ++ F1) := ⟨r.kp, r.fr⟩
theorem RZ.trans (a : RZ K lk σ H F σ1 H1 δ1 [] [] F1 []) (b : RZ K lk σ1 H1 F1 σ2 H2 δ2 vs xs F2 Fv) : RZ K lk σ H F σ2 H2 δ2 vs xs F2 Fv :=
  ⟨Rx.mk' b.rx.st b.rx.vl b.rx.nd (a.rx.tr.trans b.rx.tr'), fun j hj => (b.lk j hj).trans (a.lk j hj)⟩
theorem RZ.of (r : Rx K σ H F H1 δ1 vs xs F1 Fv) : RZ K lk σ H F σ H1 δ1 vs xs F1 Fv := ⟨r, fun _ _ => rfl⟩
theorem EQ.after (q : EQ K lk σ H F Kd D) (a : RZ K lk σ H F σ1 H1 δ1 [] [] F1 []) : EQ K lk σ1 H1 F1 Kd D :=
  ⟨fun δ' σ' H' F' k r => q.nx _ _ _ _ k (a.trans r), fun x δ' σ' v H' F' Fv k r => q.rt _ _ _ _ _ _ _ k (a.trans r), fun δ' σ' H' F' k r => q.bk _ _ _ _ k (a.trans r), fun δ' σ' H' F' k r => q.ct _ _ _ _ k (a.trans r)⟩
/-- a name is given a value -/
theorem RZ.set {v : V} {m : M} (r : Rx K σ H F H1 δ1 [v] [.own m] F1 Fv) {i : Nat} (hl : i ∉ lk) (hi : i < δ1.length) : ∃ F', RZ K lk σ H F (σ.set i (some v)) H1 (δ1.set i (some m)) [] [] F' [] := by
  obtain ⟨Fm, _, _, _, up⟩ := r.slot i hi
  obtain ⟨F', rx⟩ := up H1 [] v m Fv (Keep.refl _ _) (fun _ h => by cases h) (fun _ h => by cases h) r.vl.one' (nd_left r.nd) fun x hx => .inr (.inl hx)
  refine ⟨F', rx, fun j hj => ?_⟩
  rw [List.getElem?_set_ne]
  intro e; subst e; exact hl hj
end

section
variable {E : SE} {Γ : List Spec} {k : Nat} {X : Cx} {sc : Scope} {pos p2 p3 : Pos} {lk : List Nat}
structure OkS (E : SE) (Γ : List Spec) (k : Nat) (X : Cx) (sc : Scope) : Prop where
  x : OkX E Γ k X sc
  hp : PassesOwn (model X.prog X.w) X.A X.env X.xe
  kind : sc.kind = .function
  fn : ∀ x, sc.names.lookup x = some .cell → X.fn x = true
theorem z_nil : PSs X [] (tS X.K lk (wpS Γ XF lk .nil)) := PSs.wk pss_nil fun D σ H ⟨δ, F, Kd, st, nd, hw, hq⟩ => by
  rw [wpS] at hw
  exact hq.nx _ _ _ _ hw (.of (Rx.start st nd))
theorem z_cons {st : Stmt} {sts : List Stmt} {a as : S} (h1 : PS X st (tS X.K lk (wpS Γ XF lk a))) (h2 : PSs X sts (tS X.K lk (wpS Γ XF lk as))) : PSs X (st :: sts) (tS X.K lk (wpS Γ XF lk (.cons a as))) :=
  PSs.wk (pss_cons h1 h2) fun D σ H ⟨δ, F, Kd, st, nd, hw, hq⟩ => by
    rw [wpS] at hw
    exact ⟨δ, F, _, st, nd, hw, fun δ' σ' H' F' kn r => ⟨δ', F', Kd, r.rx.st, nd_right r.rx.nd, kn, hq.after r⟩, hq.rt, hq.bk, hq.ct⟩
theorem z_pass : PS X (.Pass pos) (tS X.K lk (wpS Γ XF lk .pass)) := PS.wk ps_pass fun D σ H ⟨δ, F, Kd, st, nd, hw, hq⟩ => by
  rw [wpS] at hw
  exact hq.nx _ _ _ _ hw (.of (Rx.start st nd))
theorem z_brk : PS X (.Break pos) (tS X.K lk (wpS Γ XF lk .brk)) := PS.wk ps_break fun D σ H ⟨δ, F, Kd, st, nd, hw, hq⟩ => by
  rw [wpS] at hw
  exact hq.bk _ _ _ _ hw (.of (Rx.start st nd))
theorem z_cont : PS X (.Continue pos) (tS X.K lk (wpS Γ XF lk .cont)) := PS.wk ps_continue fun D σ H ⟨δ, F, Kd, st, nd, hw, hq⟩ => by
  rw [wpS] at hw
  exact hq.ct _ _ _ _ hw (.of (Rx.start st nd))
theorem z_stop {st : Stmt} : PS X st (tS X.K lk (wpS Γ XF lk .stop)) := PS.wk ps_never fun D σ H ⟨δ, F, Kd, st, nd, hw, hq⟩ => by
  rw [wpS] at hw
  exact hw
theorem z_retN : PS X (.Return none pos) (tS X.K lk (wpS Γ XF lk .retN)) := PS.wk ps_retN fun D σ H ⟨δ, F, Kd, st, nd, hw, hq⟩ => by
  rw [wpS] at hw
  rcases hq.rt _ _ _ _ _ _ _ hw (.of ((Rx.start st nd).pure .non)) with h | ⟨_, _, h, _⟩
  · exact h
  · cases h
theorem z_ret {e : Expr} {a : C} (h : PE X e (tE X.K (wpE Γ XF a))) : PS X (.Return (some e) pos) (tS X.K lk (wpS Γ XF lk (.ret a))) := PS.wk (ps_ret (pe_ghost h)) fun D σ H ⟨δ, F, Kd, st, nd, hw, hq⟩ => by
  rw [wpS] at hw
  exact ⟨δ, F, _, st, nd, hw, fun x δ' v H' F' Fv kc rx => hq.rt _ _ _ _ _ _ _ kc (.of rx)⟩
def notLc : Expr → Bool
  | .ListComp .. => false
  | .SetComp .. => false
  | .DictComp .. => false
  | _ => true
theorem sw_no {e : Expr} (h : notLc e = true) (t : Option Expr) (n : Nat) (env : Env) : swapsWith e t n env = pure false := by
  cases e <;> first | (cases t <;> rfl) | cases h
theorem z_ex {e : Expr} {a : C} (hl : notLc e = true) (h : PE X e (tE X.K (wpE Γ XF a))) : PS X (.Expr e pos) (tS X.K lk (wpS Γ XF lk (.ex a))) := PS.wk (ps_expr h (sw_no hl _ _ _)) fun D σ H ⟨δ, F, Kd, st, nd, hw, hq⟩ => by
  rw [wpS] at hw
  exact ⟨δ, F, _, st, nd, hw, fun x δ' v H' F' Fv kc rx => hq.nx _ _ _ _ kc (.of rx.drop)⟩
theorem z_ife {c : Expr} {sa sb : List Stmt} {t : C} {a b : S} (hc : PT X c (tT X.K (wpT Γ XF t))) (ha : PSs X sa (tS X.K lk (wpS Γ XF lk a))) (hb : PSs X sb (tS X.K lk (wpS Γ XF lk b))) : PS X (.If c sa sb pos) (tS X.K lk (wpS Γ XF lk (.ife t a b))) :=
  PS.wk (ps_if hc ha hb) fun D σ H ⟨δ, F, Kd, st, nd, hw, hq⟩ => by
    rw [wpS] at hw
    refine ⟨δ, F, _, st, nd, hw, fun r δ1 H1 F1 kc rx => ?_⟩
    cases r with
    | true =>
      rw [if_pos rfl] at kc
      show (if true = true then _ else _)
      rw [if_pos rfl]
      exact ⟨δ1, F1, Kd, rx.st, nd_right rx.nd, kc, hq.after (.of rx)⟩
    | false =>
      rw [if_neg Bool.false_ne_true] at kc
      show (if false = true then _ else _)
      rw [if_neg Bool.false_ne_true]
      exact ⟨δ1, F1, Kd, rx.st, nd_right rx.nd, kc, hq.after (.of rx)⟩
/-! ### names set -/
theorem set_go {σ : L2.St} {H : Hp} {D : Ends} {i : Nat} {δ : De} {F : List Addr} {Kd : EndD} (hq : EQ X.K lk σ H F Kd D) {v : V} {m : M} {δ2 : De} {H' : Hp} {F' Fm : List Addr} (rx : Rx X.K σ H F H' δ2 [v] [.own m] F' Fm) (hk : i ∉ lk ∧ i < δ2.length ∧ Kd.nx (δ2.set i (some m))) :
    D.nx (σ.set i (some v)) H' := by
  obtain ⟨h1, h2, h3⟩ := hk
  obtain ⟨F2, rz⟩ := RZ.set rx h1 h2
  exact hq.nx _ _ _ _ h3 rz
theorem z_set (o : OkS E Γ k X sc) {i : Nat} {x : Str} {e : Expr} {a : C} (h1 : decide (E.N[i]? = some x) = true) (h2 : tgtB sc sc x = true) (hl : notLc e = true) (h : PE X e (tE X.K (wpE Γ XF a))) : PS X (.Assign [.Name x p2] e pos) (tS X.K lk (wpS Γ XF lk (.set i a))) := by
  obtain ⟨l1, l2⟩ := o.x.tgt o.fn h2
  refine PS.wk (ps_set (by rw [o.x.hN]; exact o.x.nd) (o.x.at h1) l1 (pe_ghost h) (sw_no hl _ _ _) l2) fun D σ H ⟨δ, F, Kd, st, nd, hw, hq⟩ => ?_
  rw [wpS] at hw
  exact ⟨δ, F, _, st, nd, hw, fun y δ1 v H1 F1 Fv k1 r1 => mov_ok (Q := fun v H1 => D.nx (σ.set i (some v)) H1) r1 k1 fun m δ2 H' F' Fm p rx => set_go (δ := δ) hq rx p⟩
theorem blk_kind (o : OkS E Γ k X sc) : X.env.blockKind = .function := by
  unfold Env.blockKind
  rw [o.x.hsc, o.kind]
  rfl
/-- is the new list stored from within (a local name, on the line of the display)? -/
def lcIn (sc scope : Scope) (y : Str) (l l' : Nat) : Bool := (match sc.names.lookup y with | some .local => true | _ => false) && (l == l') && !(scope.names.any fun p => p.1 == y && (p.2 == .local || p.2 == .cell))
theorem sw_lc (o : OkS E Γ k X sc) {y : Str} {py spos : Pos} {scope : Scope} {ee : Expr} {gs : List Comprehension} {n : Nat} : swapsWith (.ListComp ee gs scope pos) (some (.Name y py)) n X.env = pure (lcIn sc scope y py.line pos.line) := by
  show (pure _ : Sem Bool) = _
  congr 1
  unfold lcIn
  rw [blk_kind o]
  show (true && (X.env.scope.names.lookup y == some .local) && _ && _) = _
  rw [o.x.hsc, Bool.true_and]
  congr 2
  cases hh : sc.names.lookup y with
  | none => rfl
  | some q => cases q <;> rfl
theorem z_setLc (o : OkS E Γ k X sc) {i : Nat} {y : Str} {py : Pos} {spos : Pos} {own : List Nat} {tg : Tg} {src ifs elt : C} {et ei ee : Expr} {eifs : List Expr} {scope : Scope} (c : CompOk E Γ X sc scope own tg src ifs elt et ei eifs ee) (h1 : decide (E.N[i]? = some y) = true) (h2 : tgtB sc sc y = true) :
    PS X (.Assign [.Name y py] (.ListComp ee [⟨et, ei, eifs, 0⟩] scope pos) spos) (tS X.K lk (wpS Γ XF lk (.set i (.comp own tg src ifs elt)))) := by
  obtain ⟨l1, l2⟩ := o.x.tgt o.fn h2
  have sw := sw_lc o (y := y) (py := py) (spos := spos) (scope := scope) (ee := ee) (gs := [⟨et, ei, eifs, 0⟩]) (n := spos.line) (pos := pos)
  cases hb : lcIn sc scope y py.line pos.line with
  | true =>
    rw [hb] at sw
    refine PS.wk (s_setLc (py := py) (pos := pos) (spos := spos) o.x c (o.x.at h1) ?_ sw) fun D σ H ⟨δ, F, Kd, st, nd, hw, hq⟩ => ?_
    · rw [o.x.hsc]
      unfold lcIn at hb
      simp only [Bool.and_eq_true] at hb
      have := hb.1.1
      split at this
      · assumption
      · cases this
    · rw [wpS] at hw
      exact ⟨δ, F, _, st, nd, hw, fun ds δ' v H' F' Fv kc rx => set_go (δ := δ) hq rx kc⟩
  | false =>
    rw [hb] at sw
    refine PS.wk (ps_set (by rw [o.x.hN]; exact o.x.nd) (o.x.at h1) l1 (pe_ghost (s_comp o.x c)) sw l2) fun D σ H ⟨δ, F, Kd, st, nd, hw, hq⟩ => ?_
    rw [wpS] at hw
    exact ⟨δ, F, _, st, nd, hw, fun y δ1 v H1 F1 Fv k1 r1 => mov_ok (Q := fun v H1 => D.nx (σ.set i (some v)) H1) r1 k1 fun m δ2 H' F' Fm p rx => set_go (δ := δ) hq rx p⟩
/-! ### several names at once -/
theorem s_Dnil : PA X [] (tD X.K (wpD Γ XF .nil)) := PA.wk pa_nil fun σ H Q ⟨δ, F, Kc, st, nd, hw, hq⟩ => by
  rw [wpD] at hw
  exact hq [] _ _ _ _ _ hw (Rx.start st nd)
theorem s_Dcons {e : Expr} {es : List Expr} {a as : C} (pl : plainB e = true) (ha : PE X e (tE X.K (wpE Γ XF a))) (hs : PA X es (tD X.K (wpD Γ XF as))) : PA X (e :: es) (tD X.K (wpD Γ XF (.cons a as))) :=
  PA.wk (pa_cons (pe_ghost ha) hs (plain_star pl _ _)) fun σ H Q ⟨δ, F, Kc, st, nd, hw, hq⟩ => by
    rw [wpD] at hw
    exact ⟨δ, F, _, st, nd, hw, fun x δ1 v H1 F1 Fv k1 r1 => mov_ok (Q := fun x H1 => tD X.K (wpD Γ XF as) σ H1 fun xs H2 => Q (x :: xs) H2) r1 k1 fun d δ' H' F' Fm p rx => ⟨δ', F', _, rx.st, nd_right rx.nd, p, fun ds δ2 vs H2 F2 Fv k2 r2 => hq _ _ _ _ _ _ k2 (rx.step r2)⟩⟩
/-- the stores of a tuple's names from the right, or none -/
def swN (sc : Scope) (ts vs : List Expr) : Option (List Str) :=
  if !(ts.length == 2 || ts.length == 3) || vs.length != ts.length then none
  else if vs.any (fun e => match e with | .Starred .. => true | _ => false) then none
  else
    let line := (ts.head?.map (·.pos.line)).getD 0
    let names := ts.filterMap fun e => match e with
      | .Name id pos => if sc.names.lookup id == some .local && pos.line == line then some id else none
      | _ => none
    if names.length != ts.length || names.eraseDups.length != names.length then none
    else if vs.all (foldedForSure 8) then none
    else some names
theorem sw_eq (o : OkS E Γ k X sc) {ts vs : List Expr} {q1 q2 : Pos} {n1 n2 : Nat} (h : vs.all (constantsAlone 8) = false ∨ vs.all (foldedForSure 8) = true) : swappedStores [.Tuple ts n1 q1] (.Tuple vs n2 q2) X.env = pure (swN sc ts vs) := by
  have e1 : X.env.kindOf = fun x => sc.names.lookup x := by
    funext x; unfold Env.kindOf; rw [o.x.hsc]
  unfold swappedStores
  rw [blk_kind o, e1]
  simp only
  rw [show (ScopeKind.function != ScopeKind.function) = false from rfl, Bool.or_false]
  split
  · rename_i c1; exact congrArg pure (if_pos c1).symm
  rename_i c1
  split
  · rename_i c2; exact congrArg pure ((if_neg c1).trans (if_pos c2)).symm
  rename_i c2
  split
  · rename_i c3; exact congrArg pure ((if_neg c1).trans ((if_neg c2).trans (if_pos c3))).symm
  rename_i c3
  split
  · rename_i c4; exact congrArg pure ((if_neg c1).trans ((if_neg c2).trans ((if_neg c3).trans (if_pos c4)))).symm
  rename_i c4
  split
  · rename_i c5
    rcases h with h | h
    · rw [h] at c5; cases c5
    · exact absurd h c4
  · exact congrArg pure ((if_neg c1).trans ((if_neg c2).trans ((if_neg c3).trans (if_neg c4)))).symm
theorem ne_lk {q j : Nat} {lk : List Nat} (h : q ∈ lk) (n : j ∉ lk) : j ≠ q := fun e => n (e ▸ h)
theorem RMs.vals {K : PySem.W.Frag} {H : Hp} {σ : L2.St} : ∀ {vs : List V} {ms : List M} {F : List Addr}, RMs K H vs ms F → RVs K H σ vs (ms.map Val.own) F
  | _, _, _, .nil => .nil
  | _, _, _, .cons a b => .cons a b.vals
theorem Rx.store {K : PySem.W.Frag} {σ : L2.St} {H H1 : Hp} {F F1 Fv : List Addr} {δ1 : De} {v : V} {m : M} {vs : List V} {ms : List M} (r : Rx K σ H F H1 δ1 (v :: vs) ((m :: ms).map Val.own) F1 Fv) {i : Nat} (hi : i < δ1.length) :
    ∃ F' Fb, Rx K (σ.set i (some v)) H F H1 (δ1.set i (some m)) vs (ms.map Val.own) F' Fb := by
  have rm := r.vl.mine
  cases rm with
  | @cons _ _ _ _ Fa Fb a b =>
    obtain ⟨Fm, R, pm, g, z, up⟩ := r.st.upd i hi
    obtain ⟨F', w, q⟩ := up H1 [] v m Fa (Keep.refl _ _) (Still.refl _) (fun _ _ h => by cases h) a
    have n0 : ((Fa ++ Fb) ++ F1).Nodup := r.nd
    have sub : ∀ x ∈ Fb ++ F', x ∈ (Fa ++ Fb) ++ F1 := fun x hx => by
      rcases List.mem_append.mp hx with hx | hx
      · exact List.mem_append_left _ (List.mem_append_right _ hx)
      · rcases List.mem_append.mp (q.mem_iff.mp hx) with hx | hx
        · exact List.mem_append_left _ (List.mem_append_left _ hx)
        · exact List.mem_append_right _ (pm.mem_iff.mpr (List.mem_append_right _ hx))
    refine ⟨F', Fb, w, b.vals, nd_mk (nd_right (nd_left n0)) ?_ fun x hx hy => ?_, r.kp, fun x hx => r.fr x (sub x hx)⟩
    · refine q.nodup_iff.mpr (nd_mk (nd_left (nd_left n0)) (nd_right (pm.nodup_iff.mp (nd_right n0))) fun x hx hy => ?_)
      exact nd_apart n0 (List.mem_append_left _ hx) (pm.mem_iff.mpr (List.mem_append_right _ hy))
    · rcases List.mem_append.mp (q.mem_iff.mp hy) with hy | hy
      · exact nd_apart (nd_left n0) hy hx
      · exact nd_apart n0 (List.mem_append_right _ hx) (pm.mem_iff.mpr (List.mem_append_right _ hy))
theorem z_par2 (o : OkS E Γ k X sc) {i j : Nat} {x y : Str} {ea eb : Expr} {l : C} {px py pt pt2 : Pos} {n1 n2 : Nat} (hi : decide (E.N[i]? = some x) = true) (hj : decide (E.N[j]? = some y) = true) (hij : i ≠ j) (hx : sc.names.lookup x = some .local) (hy : sc.names.lookup y = some .local)
    (hc : [ea, eb].all (constantsAlone 8) = false) (hs : swN sc [.Name x px, .Name y py] [ea, eb] = some [x, y]) (ha : PA X [ea, eb] (tD X.K (wpD Γ XF l))) :
    PS X (.Assign [.Tuple [.Name x px, .Name y py] n1 pt] (.Tuple [ea, eb] n2 pt2) pos) (tS X.K lk (wpS Γ XF lk (.par [i, j] l))) := by
  refine PS.wk (ps_par o.x.calm (by rw [o.x.hN]; exact o.x.nd) (o.x.at hi) (o.x.at hj) hij (by rw [o.x.hsc]; exact hx) (by rw [o.x.hsc]; exact hy) ha (by rw [sw_eq o (.inl hc), hs])) fun D σ H ⟨δ, F, Kd, st, nd, hw, hq⟩ => ?_
  rw [wpS] at hw
  refine ⟨δ, F, _, st, nd, hw, fun ms δ' vs H' F' Fv kc rx => ?_⟩
  obtain ⟨hl, hm, kc⟩ := kc
  have hv := rx.vl.length
  rw [List.length_map, hl] at hv
  match ms, hl, vs, hv, rx, kc with
  | [m, m2], _, [v, w], _, rx, kc =>
    obtain ⟨F1, Fb, r1⟩ := rx.store (hm i (by simp)).2
    obtain ⟨F2, Fc, r2⟩ := r1.store (i := j) (by rw [List.length_set]; exact (hm j (by simp)).2)
    refine ⟨v, w, rfl, hq.nx _ _ _ _ kc ⟨r2.drop, fun q hj' => ?_⟩⟩
    rw [List.getElem?_set_ne (ne_lk hj' (hm j (by simp)).1), List.getElem?_set_ne (ne_lk hj' (hm i (by simp)).1)]
theorem z_par3 (o : OkS E Γ k X sc) {i j t : Nat} {x y z : Str} {ea eb ec : Expr} {l : C} {px py pz pt pt2 : Pos} {n1 n2 : Nat} (hi : decide (E.N[i]? = some x) = true) (hj : decide (E.N[j]? = some y) = true) (ht : decide (E.N[t]? = some z) = true) (hij : i ≠ j) (hit : i ≠ t) (hjt : j ≠ t)
    (hx : sc.names.lookup x = some .local) (hy : sc.names.lookup y = some .local) (hz : sc.names.lookup z = some .local)
    (hc : [ea, eb, ec].all (constantsAlone 8) = false) (hs : swN sc [.Name x px, .Name y py, .Name z pz] [ea, eb, ec] = some [x, y, z]) (ha : PA X [ea, eb, ec] (tD X.K (wpD Γ XF l))) :
    PS X (.Assign [.Tuple [.Name x px, .Name y py, .Name z pz] n1 pt] (.Tuple [ea, eb, ec] n2 pt2) pos) (tS X.K lk (wpS Γ XF lk (.par [i, j, t] l))) := by
  refine PS.wk (ps_par3 o.x.calm (by rw [o.x.hN]; exact o.x.nd) (o.x.at hi) (o.x.at hj) (o.x.at ht) hij hit hjt (by rw [o.x.hsc]; exact hx) (by rw [o.x.hsc]; exact hy) (by rw [o.x.hsc]; exact hz) ha (by rw [sw_eq o (.inl hc), hs])) fun D σ H ⟨δ, F, Kd, st, nd, hw, hq⟩ => ?_
  rw [wpS] at hw
  refine ⟨δ, F, _, st, nd, hw, fun ms δ' vs H' F' Fv kc rx => ?_⟩
  obtain ⟨hl, hm, kc⟩ := kc
  have hv := rx.vl.length
  rw [List.length_map, hl] at hv
  match ms, hl, vs, hv, rx, kc with
  | [m, m2, m3], _, [v, w, u], _, rx, kc =>
    obtain ⟨F1, Fb, r1⟩ := rx.store (hm i (by simp)).2
    obtain ⟨F2, Fc, r2⟩ := r1.store (i := j) (by rw [List.length_set]; exact (hm j (by simp)).2)
    obtain ⟨F3, Fd, r3⟩ := r2.store (i := t) (by rw [List.length_set, List.length_set]; exact (hm t (by simp)).2)
    refine ⟨v, w, u, rfl, hq.nx _ _ _ _ kc ⟨r3.drop, fun q hj' => ?_⟩⟩
    rw [List.getElem?_set_ne (ne_lk hj' (hm t (by simp)).1), List.getElem?_set_ne (ne_lk hj' (hm j (by simp)).1), List.getElem?_set_ne (ne_lk hj' (hm i (by simp)).1)]
/-- (a, b) = a tuple's value -/
theorem z_setT (o : OkS E Γ k X sc) {ts : List Expr} {n1 : Nat} {pt : Pos} {e : Expr} {a : C} {tg : Tg} (hg : chkG E sc sc tg (.Tuple ts n1 pt) = true) (h : PE X e (tE X.K (wpE Γ XF a))) (hs : swappedStores [.Tuple ts n1 pt] e X.env = pure none) :
    PS X (.Assign [.Tuple ts n1 pt] e pos) (tS X.K lk (wpS Γ XF lk (.setT tg a))) := by
  refine PS.wk (ps_asg h (g_ok o.x o.fn lk tg _ hg) (by cases e <;> rfl) hs rfl) fun D σ H ⟨δ, F, Kd, st, nd, hw, hq⟩ => ?_
  rw [wpS] at hw
  refine ⟨δ, F, _, st, nd, hw, fun x δ1 v H1 F1 Fv kc rx => ?_⟩
  obtain ⟨d, δ2, rfl, hb, kc⟩ := kc
  have rm : RM X.K H1 v (.p d) Fv := rx.vl.one'
  cases rm with
  | p rp => exact ⟨δ1, F1, d, δ2, rx.st, nd_right rx.nd, rp, hb, fun σ' F' w n s t l => hq.nx _ _ _ _ kc ⟨Rx.mk' w .nil (by simpa using n) (rx.tr.sub fun x hx => s x (by simpa using hx)), l⟩⟩
/-- another object, that no name holds -/
theorem Rx.more {K : PySem.W.Frag} {σ : L2.St} {H H1 : Hp} {F F1 Fv : List Addr} {δ1 : De} {vs : List V} {xs : List Val} (a : Rx K σ H F H1 δ1 vs xs F1 Fv) {p : Addr} {o : HO} (hp : H1 p = none) : Rx K σ H F (upd H1 p o) δ1 vs xs F1 Fv := by
  have k : Keep H1 (upd H1 p o) [] := Keep.new hp []
  have s : Still H1 (upd H1 p o) := k.still fun x hx => by cases hx
  refine ⟨a.st.keep k s (fun x _ hx => by cases hx), a.vl.keep k s (fun x _ hx => by cases hx), a.nd, fun x u e z => ?_, a.fr⟩
  have e1 := a.kp x u e z
  have np : x ≠ p := fun q => by rw [q, hp] at e1; cases e1
  rw [upd_ne np]; exact e1
def gNs : List Nat → TGs
  | [] => gNil
  | i :: is => gCons (gName i) (gNs is)
def parT (E : SE) (sc : Scope) : List Nat → List Expr → Bool
  | [], [] => true
  | i :: is, .Name x _ :: ts => decide (E.N[i]? = some x) && tgtB sc sc x && parT E sc is ts
  | _, _ => false
theorem parT_len {E : SE} {sc : Scope} : ∀ {is : List Nat} {ts : List Expr}, parT E sc is ts = true → ts.length = is.length ∧ plains ts = true
  | [], [], _ => ⟨rfl, rfl⟩
  | [], _ :: _, h => by simp [parT] at h
  | _ :: _, [], h => by simp [parT] at h
  | i :: is, e :: ts, h => by
    cases e <;> first | (simp [parT] at h; done) | skip
    simp only [parT, Bool.and_eq_true] at h
    obtain ⟨l, p⟩ := parT_len h.2
    exact ⟨congrArg (· + 1) l, by unfold plains at p ⊢; rw [List.all_cons, p]; rfl⟩
theorem pgs_ns (o : OkX E Γ k X sc) (hf : ∀ x, sc.names.lookup x = some .cell → X.fn x = true) : ∀ {is : List Nat} {ts : List Expr}, parT E sc is ts = true → PGs X ts (gNs is)
  | [], [], _ => pgs_nil
  | [], _ :: _, h => by simp [parT] at h
  | _ :: _, [], h => by simp [parT] at h
  | i :: is, e :: ts, h => by
    cases e <;> first | (simp [parT] at h; done) | skip
    simp only [parT, Bool.and_eq_true] at h
    obtain ⟨l1, l2⟩ := o.tgt hf h.1.2
    exact pgs_cons (pg_name (by rw [o.hN]; exact o.nd) (o.at h.1.1) l1 l2) (pgs_ns o hf h.2) (by rw [plain_assign rfl]; rfl)
theorem gNs_ok {K : PySem.W.Frag} {H H1 : Hp} {F : List Addr} {lk : List Nat} {Q : L2.St → Hp → Prop} : ∀ {is : List Nat} {ms : List M} {vs : List V} {σ : L2.St} {δ1 : De} {F1 Fv : List Addr}, Rx K σ H F H1 δ1 vs (ms.map Val.own) F1 Fv → ms.length = is.length →
    (∀ i ∈ is, i ∉ lk ∧ i < δ1.length) → (∀ σ' F', Rx K σ' H F H1 (setAll is ms δ1) [] [] F' [] → (∀ q ∈ lk, σ'[q]? = σ[q]?) → Q σ' H1) → gNs is vs σ H1 Q
  | [], ms, vs, σ, δ1, F1, Fv, r, hl, _, hq => by
    have e1 : ms = [] := List.eq_nil_of_length_eq_zero hl
    subst e1
    have e2 : vs = [] := List.eq_nil_of_length_eq_zero r.vl.length
    exact ⟨e2, hq σ F1 r.drop fun _ _ => rfl⟩
  | i :: is, ms, vs, σ, δ1, F1, Fv, r, hl, hm, hq => by
    cases ms with
    | nil => cases hl
    | cons m ms =>
      cases vs with
      | nil => have := r.vl.length; simp at this
      | cons v vs =>
        obtain ⟨F2, Fb, r1⟩ := r.store (hm i (List.mem_cons_self ..)).2
        exact ⟨v, vs, rfl, gNs_ok r1 (Nat.succ.inj hl) (fun j hj => ⟨(hm j (List.mem_cons_of_mem _ hj)).1, by rw [List.length_set]; exact (hm j (List.mem_cons_of_mem _ hj)).2⟩) fun σ' F' rx e => hq σ' F' rx fun q hq' => (e q hq').trans (List.getElem?_set_ne (ne_lk hq' (hm i (List.mem_cons_self ..)).1))⟩
/-- a, b, .. = x, y, ..: stored from the left -/
theorem z_parL (o : OkS E Γ k X sc) {is : List Nat} {ts vs : List Expr} {l : C} {pt pt2 : Pos} {n1 n2 : Nat} (ht : parT E sc is ts = true) (hz : is.length ≤ 100) (hs : swappedStores [.Tuple ts n1 pt] (.Tuple vs n2 pt2) X.env = pure none) (ha : PA X vs (tD X.K (wpD Γ XF l))) :
    PS X (.Assign [.Tuple ts n1 pt] (.Tuple vs n2 pt2) pos) (tS X.K lk (wpS Γ XF lk (.parL is l))) := by
  obtain ⟨hl, hp⟩ := parT_len ht
  refine PS.wk (ps_asg (pe_tup ha) (pg_tup o.x.calm (pgs_ns o.x o.fn ht) rfl (by rw [plains_assign hp]; exact none_find _)) rfl hs rfl) fun D σ H ⟨δ, F, Kd, st, nd, hw, hq⟩ => ?_
  rw [wpS] at hw
  refine ⟨δ, F, _, st, nd, hw, fun ms δ' vs H' F' Fv kc rx => ?_⟩
  obtain ⟨hl2, hm, kc⟩ := kc
  have hv := rx.vl.length
  rw [List.length_map, hl2] at hv
  exact ⟨by rw [hv, sizeLine_eq]; omega, fun p hp0 => ⟨p, vs, rfl, .of upd_same, by rw [plains_assign hp, List.length_map, hl, hv], gNs_ok (rx.more hp0) hl2 hm fun σ' F'' r1 e => hq.nx _ _ _ _ kc ⟨r1, e⟩⟩⟩
/-! ### loops -/
theorem z_whl (o : OkS E Γ k X sc) {c : Expr} {sts : List Stmt} {t : C} {body : S} (hc : PT X c (tT X.K (wpT Γ XF t))) (hb : PSs X sts (tS X.K lk (wpS Γ XF lk body))) : PS X (.While c sts [] pos) (tS X.K lk (wpS Γ XF lk (.whl t body))) :=
  PS.wk (ps_while o.hp hc hb) fun D σ H ⟨δ, F, Kd, st, nd, hw, hq⟩ => by
    rw [wpS] at hw
    obtain ⟨I, ⟨n0, i0⟩, step⟩ := hw
    refine ⟨fun n σ1 H1 => ∃ δ1 F1, RZ X.K lk σ H F σ1 H1 δ1 [] [] F1 [] ∧ I n δ1, ⟨n0, δ, F, .of (Rx.start st nd), i0⟩, fun n σ1 H1 ⟨δ1, F1, r1, i1⟩ => ?_⟩
    refine ⟨δ1, F1, _, r1.rx.st, nd_right r1.rx.nd, step n δ1 i1, fun b δ2 H2 F2 kb rx => ?_⟩
    have r2 := r1.trans (.of rx)
    cases b with
    | true =>
      rw [if_pos rfl] at kb
      show (if true = true then _ else _)
      rw [if_pos rfl]
      refine ⟨fun σ' H' => ∃ m, m < n ∧ ∃ δ1 F1, RZ X.K lk σ H F σ' H' δ1 [] [] F1 [] ∧ I m δ1, fun σ' H' ⟨m, hm, w⟩ => ⟨m, hm, w⟩, δ2, F2, _, r2.rx.st, nd_right r2.rx.nd, kb, ?_⟩
      exact ⟨fun δ' σ' H' F' ⟨m, hm, im⟩ r => ⟨m, hm, δ', F', r2.trans r, im⟩, (hq.after r2).rt, fun δ' σ' H' F' kn r => hq.nx _ _ _ _ kn (r2.trans r), fun δ' σ' H' F' ⟨m, hm, im⟩ r => ⟨m, hm, δ', F', r2.trans r, im⟩⟩
    | false =>
      rw [if_neg Bool.false_ne_true] at kb
      show (if false = true then _ else _)
      rw [if_neg Bool.false_ne_true]
      exact hq.nx _ _ _ _ kb r2
theorem z_forS (o : OkS E Γ k X sc) {et ei : Expr} {sts : List Stmt} {tg : Tg} {src : C} {body : S} (hg : chkG E sc sc tg et = true) (pl : plainB ei = true) (hi : PI X et ei (tI X.K (wpI Γ XF src))) (hb : ∀ lk, PSs X sts (tS X.K lk (wpS Γ XF lk body))) : PS X (.For et ei sts [] pos) (tS X.K lk (wpS Γ XF lk (.forS tg src body))) := by
  have hg' : PG X et (fun v σ H Q => ∃ lk', gT X.K lk' tg v σ H Q) := ⟨fun pins s σ H v u Q I r ⟨lk', h⟩ => (g_ok o.x o.fn lk' tg et hg).run pins s σ H v u Q I r h⟩
  have hb' : PSs X sts (fun D σ H => ∃ lk', tS X.K lk' (wpS Γ XF lk' body) D σ H) := ⟨fun pins s σ H D I ⟨lk', h⟩ => (hb lk').run pins s σ H D I h⟩
  refine PS.wk (ps_for o.hp o.x.calm hi hg' hb' (plain_fold pl _)) fun D σ H ⟨δ, F, Kd, st, nd, hw, hq⟩ => ?_
  rw [wpS] at hw
  refine ⟨δ, F, _, st, nd, hw, fun s δ1 H1 F1 J kc rx sw => ?_⟩
  have loop : forLoop s.gd (fun x δ2 D' => ∃ δ3, bindT (s.gd.map (·.1) ++ lk) tg x δ2 = some δ3 ∧ wpS Γ XF (s.gd.map (·.1) ++ lk) body δ3 D') s.items δ1 Kd := kc
  generalize htn : (fun (x : PyData) (δ2 : De) (D' : EndD) => ∃ δ3, bindT (s.gd.map (·.1) ++ lk) tg x δ2 = some δ3 ∧ wpS Γ XF (s.gd.map (·.1) ++ lk) body δ3 D') = turn at loop
  have lk1 : ∀ {σ2 : L2.St}, (∀ j ∈ s.gd.map (·.1) ++ lk, σ2[j]? = σ[j]?) → ∀ j ∈ lk, σ2[j]? = σ[j]? := fun h j hj => h j (List.mem_append_right _ hj)
  have lk2 : ∀ {σ2 : L2.St}, (∀ j ∈ s.gd.map (·.1) ++ lk, σ2[j]? = σ[j]?) → ∀ g ∈ s.gd, σ2[g.1]? = σ[g.1]? := fun h g hg => h g.1 (List.mem_append_left _ (List.mem_map.mpr ⟨g, hg, rfl⟩))
  refine ⟨fun i m σ2 H2 => m = s.items.length - i ∧ i ≤ s.items.length ∧ ∃ δ2 F2, RZ X.K (s.gd.map (·.1) ++ lk) σ H1 F1 σ2 H2 δ2 [] [] F2 [] ∧ forLoop s.gd turn (s.items.drop i) δ2 Kd, ⟨s.items.length, by simp, Nat.zero_le _, δ1, F1, .of (Rx.start rx.st (nd_right rx.nd)), by rw [List.drop_zero]; exact loop⟩, ?_⟩
  rintro i m σ2 H2 ⟨rfl, hi, δ2, F2, rz, lp⟩
  have still : Still H1 H2 := rz.rx.kp.still rx.st.owns
  have full : ∀ {σ3 H3 δ3 vs xs F3 Fv}, RZ X.K (s.gd.map (·.1) ++ lk) σ2 H2 F2 σ3 H3 δ3 vs xs F3 Fv → RZ X.K lk σ H F σ3 H3 δ3 vs xs F3 Fv := fun r => by
    have r2 := rz.trans r
    exact RZ.trans (.of rx) ⟨r2.rx, lk1 r2.lk⟩
  by_cases hlt : i < s.items.length
  · rw [List.drop_eq_getElem_cons hlt, forLoop] at lp
    obtain ⟨g, lp⟩ := lp
    let Nx : L2.St → Hp → Prop := fun σ3 H3 => ∃ δ3 F3, RZ X.K (s.gd.map (·.1) ++ lk) σ H1 F1 σ3 H3 δ3 [] [] F3 [] ∧ forLoop s.gd turn (s.items.drop (i + 1)) δ3 Kd
    refine .inr ⟨sw.go i H2 σ2 δ2 F2 hlt still rz.rx.st g (lk2 rz.lk), Nx, fun σ3 H3 p => ⟨s.items.length - (i + 1), by omega, rfl, hlt, p⟩, fun x H3 y => ?_⟩
    obtain ⟨d, ed, mk⟩ := sw.yld i H2 σ2 δ2 F2 x H3 hlt still rz.rx.st g (lk2 rz.lk) y
    rw [List.getElem?_eq_getElem hlt] at ed
    cases ed
    rw [← htn] at lp
    obtain ⟨δ3, hb3, hw3⟩ := lp
    rw [htn] at hw3
    obtain ⟨w2, rp, k2⟩ := mk.rx rz.rx.st
    refine ⟨s.gd.map (·.1) ++ lk, δ2, F2, _, δ3, w2, nd_right rz.rx.nd, rp, hb3, fun σ4 F4 w4 n4 s4 t4 l4 => ?_⟩
    have r4 : RZ X.K (s.gd.map (·.1) ++ lk) σ2 H2 F2 σ4 H3 δ3 [] [] F4 [] := ⟨Rx.mk' w4 .nil (by simpa using n4) ⟨k2.mono (fun _ h => by cases h), fun a ha => .inl (s4 a (by simpa using ha))⟩, l4⟩
    refine ⟨s.gd.map (·.1) ++ lk, δ3, F4, _, w4, n4, hw3, fun δ5 σ5 H5 F5 kn r => ⟨δ5, F5, (rz.trans r4).trans r, kn⟩, fun x δ5 σ5 v H5 F5 Fv kr r => hq.rt _ _ _ _ _ _ _ kr (full (r4.trans r)), fun δ5 σ5 H5 F5 kn r => hq.nx _ _ _ _ kn (full (r4.trans r)), fun δ5 σ5 H5 F5 kn r => ⟨δ5, F5, (rz.trans r4).trans r, kn⟩⟩
  · have e : i = s.items.length := by omega
    subst e
    rw [List.drop_length, forLoop] at lp
    exact .inl ⟨sw.stop H2 σ2 δ2 F2 still rz.rx.st lp.1 (lk2 rz.lk), hq.nx _ _ _ _ lp.2 (full (.of (Rx.start rz.rx.st (nd_right rz.rx.nd))))⟩
end
end Q
set_option Elab.async false
set_option linter.all false
set_option maxRecDepth 100000
set_option maxHeartbeats 1000000
/-! LO: items set, in lists and dicts. -/
namespace Q
open PySem PySem.Spec PyProof.Rows L2

section
variable {K : PySem.W.Frag} {H H1 H2 H' : Hp} {σ : L2.St} {F F1 F2 Fv : List Addr} {δ δ1 δ2 : De} {vs : List V} {xs : List Val}
theorem putK_cons {k0 k : Key} {v0 v : V} {r : List (Key × V)} (h : (((k0, v0) :: r).map (·.1)).Nodup) : putK ((k0, v0) :: r) k v = if k0 = k then (k, v) :: r else (k0, v0) :: putK r k v := by
  rw [List.map_cons, List.nodup_cons] at h
  unfold putK
  by_cases e : k0 = k
  · subst e
    rw [if_pos (by simp), if_pos rfl, List.map_cons, if_pos rfl]
    congr 1
    have : ∀ p ∈ r, (if p.1 = k0 then (p.1, v) else p) = p := fun p hp => if_neg fun z => h.1 (List.mem_map.mpr ⟨p, hp, z⟩)
    rw [List.map_congr_left this, List.map_id']
  · rw [if_neg e, List.any_cons, decide_eq_false e, Bool.false_or, List.map_cons, if_neg e]
    split <;> rfl
theorem putK_keys {k : Key} {v : V} : ∀ {r : List (Key × V)}, (r.map (·.1)).Nodup → ((putK r k v).map (·.1)).Nodup ∧ ∀ x, x ∈ (putK r k v).map (·.1) → x = k ∨ x ∈ r.map (·.1)
  | [], _ => ⟨by simp [putK], fun x hx => .inl (by simpa [putK] using hx)⟩
  | (k0, v0) :: r, h => by
    rw [putK_cons h]
    have h' := h
    rw [List.map_cons, List.nodup_cons] at h'
    by_cases e : k0 = k
    · subst e
      rw [if_pos rfl]
      exact ⟨h, fun x hx => .inr hx⟩
    · rw [if_neg e]
      obtain ⟨a, b⟩ := putK_keys (k := k) (v := v) h'.2
      refine ⟨?_, fun x hx => ?_⟩
      · rw [List.map_cons, List.nodup_cons]
        exact ⟨fun z => (b _ z).elim e h'.1, a⟩
      · rw [List.map_cons] at hx
        rcases List.mem_cons.mp hx with z | z
        · exact .inr (by rw [z]; exact List.mem_cons_self ..)
        · exact (b x z).imp id fun z => List.mem_cons_of_mem _ z
theorem RMk.put {k : Key} {v : V} {d : PyData} (rp : RP K H v d) : ∀ {kvs : List (Key × V)} {ms : List (Key × M)} {G : List Addr}, RMk K H kvs ms G → (kvs.map (·.1)).Nodup → ∃ G', RMk K H (putK kvs k v) (kput ms k (.p d)) G' ∧ G'.Sublist G
  | _, _, _, .nil, _ => ⟨[] ++ [], .cons (.p rp) .nil, .refl _⟩
  | _, _, _, .cons (k := k0) (F := A) (G := B) a b, h => by
    rw [putK_cons h]
    rw [kput]
    by_cases e : k0 = k
    · subst e
      rw [if_pos rfl, if_pos rfl]
      exact ⟨[] ++ B, .cons (.p rp) b, List.sublist_append_right ..⟩
    · rw [if_neg e, if_neg e]
      rw [List.map_cons, List.nodup_cons] at h
      obtain ⟨G', r, s⟩ := RMk.put rp b h.2
      exact ⟨A ++ G', .cons a r, s.append_left _⟩
theorem RMk.inner {k : Key} {ds : List PyData} : ∀ {kvs : List (Key × V)} {ms : List (Key × M)} {G : List Addr}, RMk K H kvs ms G → kget ms k = some (.l ds) → G.Nodup → ∃ a xs, valV kvs k = some (.ref a) ∧ H a = some (.lst xs) ∧ RPs K H xs ds ∧ a ∈ G ∧
    ∀ H', Keep H H' [a] → Still H H' → ∀ xs' ds', H' a = some (.lst xs') → RPs K H' xs' ds' → RMk K H' kvs (kput ms k (.l ds')) G
  | _, _, _, .nil, e, _ => by simp [kget] at e
  | _, _, _, .cons (k := k0) (F := A) (G := B) a b, e, n => by
    rw [kget] at e
    by_cases ek : k0 = k
    · subst ek
      rw [if_pos rfl] at e
      cases e
      cases a with
      | @l p zs _ h1 h2 =>
        refine ⟨p, zs, valV_pos rfl, h1, h2, by simp, fun H' kp st xs' ds' h3 h4 => ?_⟩
        rw [kput, if_pos rfl]
        refine .cons (.l h3 h4) (b.keep kp st fun x hx hz => ?_)
        rw [List.mem_singleton] at hz; subst hz
        exact nd_apart n (List.mem_singleton.mpr rfl) hx
    · rw [if_neg ek] at e
      obtain ⟨p, zs, e1, h1, h2, hm, up⟩ := RMk.inner b e (nd_right n)
      refine ⟨p, zs, by rw [valV_neg ek]; exact e1, h1, h2, List.mem_append_right _ hm, fun H' kp st xs' ds' h3 h4 => ?_⟩
      rw [kput, if_neg ek]
      refine .cons (a.keep kp st fun x hx hz => ?_) (up H' kp st xs' ds' h3 h4)
      rw [List.mem_singleton] at hz; subst hz
      exact nd_apart n hx hm
theorem keep1 {a : Addr} {o o' : HO} (h : H a = some o) (m : MutK o) : Keep H (upd H a o') [a] ∧ Owns H [a] :=
  ⟨fun b u eb n => by rw [upd_ne (by simpa using n)]; exact eb, fun b hb => by rw [List.mem_singleton] at hb; subst hb; exact ⟨_, h, m⟩⟩
/-- a dict that a name holds is written -/
theorem Rx.putD (r : Rx K σ H F H2 δ2 vs xs F2 Fv) {i : Nat} {a : Addr} {kvs : List (Key × V)} {ms : List (Key × M)} {k : Key} {v : V} {d : PyData} (e : (δ2[i]?).getD none = some (.dc ms)) (ev : σ[i]? = some (some (.ref a))) (ea : H2 a = some (.dK kvs)) (rp : RP K H2 v d) :
    ∃ F', Rx K σ H F (upd H2 a (.dK (putK kvs k v))) (δ2.set i (some (.dc (kput ms k (.p d))))) [] [] F' [] := by
  obtain ⟨Fm, g, nd, _, up⟩ := r.slot i (getD_lt e)
  obtain ⟨v1, e1, rm⟩ := g _ e
  rw [ev] at e1; cases e1
  cases rm with
  | @dc _ kv _ G h1 un h2 =>
    rw [ea] at h1; cases h1
    obtain ⟨kk, oo⟩ := keep1 (o' := .dK (putK kvs k v)) ea trivial
    have ss := kk.still oo
    have nd' := nd
    rw [List.nodup_cons] at nd'
    obtain ⟨G', rk, sub⟩ := RMk.put (k := k) (rp.still ss) (h2.keep kk ss fun x hx hz => by rw [List.mem_singleton] at hz; subst hz; exact nd'.1 hx) un
    obtain ⟨F', rx⟩ := up _ [a] (.ref a) (.dc (kput ms k (.p d))) (a :: G') kk (fun b hb => .inl (by rw [List.mem_singleton] at hb; subst hb; exact List.mem_cons_self ..)) oo
      (.dc upd_same (putK_keys un).1 rk) (List.nodup_cons.mpr ⟨fun z => nd'.1 (sub.subset z), sub.nodup nd'.2⟩) fun x hx => .inl (by
        rcases List.mem_cons.mp hx with rfl | hx
        · exact List.mem_cons_self ..
        · exact List.mem_cons_of_mem _ (sub.subset hx))
    rw [set_same ev] at rx
    exact ⟨F', rx⟩
/-- a list within a dict that a name holds is written -/
theorem Rx.putI (r : Rx K σ H F H2 δ2 vs xs F2 Fv) {i : Nat} {a b : Addr} {kvs : List (Key × V)} {ms : List (Key × M)} {k : Key} {zs ws : List V} {ds es : List PyData} (e : (δ2[i]?).getD none = some (.dc ms)) (ev : σ[i]? = some (some (.ref a))) (ea : H2 a = some (.dK kvs)) (eg : kget ms k = some (.l ds)) (evv : valV kvs k = some (.ref b)) (eb : H2 b = some (.lst zs)) (rp : RPs K H2 ws es) :
    ∃ F', Rx K σ H F (upd H2 b (.lst ws)) (δ2.set i (some (.dc (kput ms k (.l es))))) [] [] F' [] := by
  obtain ⟨Fm, g, nd, _, up⟩ := r.slot i (getD_lt e)
  obtain ⟨v1, e1, rm⟩ := g _ e
  rw [ev] at e1; cases e1
  cases rm with
  | @dc _ kv _ G h1 un h2 =>
    rw [ea] at h1; cases h1
    have nd' := nd
    rw [List.nodup_cons] at nd'
    obtain ⟨p, ys, q1, q2, q3, q4, q5⟩ := h2.inner eg nd'.2
    rw [evv] at q1; cases q1
    obtain ⟨kk, oo⟩ := keep1 (o' := .lst ws) eb trivial
    have ss := kk.still oo
    have ne : a ≠ b := fun z => nd'.1 (z ▸ q4)
    obtain ⟨F', rx⟩ := up _ [b] (.ref a) (.dc (kput ms k (.l es))) (a :: G) kk (fun x hx => .inl (by rw [List.mem_singleton] at hx; subst hx; exact List.mem_cons_of_mem _ q4)) oo
      (.dc (by rw [upd_ne ne]; exact ea) un (q5 _ kk ss ws es upd_same (rp.still ss))) nd fun x hx => .inl hx
    rw [set_same ev] at rx
    exact ⟨F', rx⟩
end

section
variable {E : SE} {Γ : List Spec} {k : Nat} {X : Cx} {sc : Scope} {pos p2 p3 : Pos} {lk : List Nat}
theorem set_any (hu : X.A.units + 1 < cLine) : PSet X (fun o i v H Q => rSetL o i v H Q ∨ ∃ a H', o = .ref a ∧ DPut H a i v H' ∧ Q H') := by
  intro pins s σ H o i v ov iv u Q I ro ri rv h
  rcases h with h | ⟨a, H', rfl, g, q⟩
  · exact set_list pins s σ H o i v ov iv u Q I ro ri rv h
  · cases ro
    exact d_setItem hu I g ri rv fun s' I' => ⟨H', I', q⟩
theorem get_any (hu : X.A.units + 1 < cLine) : PGet X (fun o i H Q => rIxL X.K o i H Q ∨ ∃ a v, o = .ref a ∧ DGet H a i (some v) ∧ Q v H) := by
  intro pins s σ H x y v u Q I rx ry h
  rcases h with h | ⟨a, w, rfl, g, q⟩
  · obtain ⟨p, xs, i, z, rfl, rfl, hq, he, q⟩ := h
    cases rx
    obtain ⟨t, rfl⟩ := ry
    obtain ⟨its, r, pl, hz⟩ := I.list hq
    obtain ⟨j, h1, h2, h3, h4, h5⟩ := atI_get he
    obtain ⟨w, ew, rw'⟩ := r.get h2
    have hl := r.length
    have hn := line63
    have fin : EP X pins σ Q w s := ⟨z, H, I, rw', q⟩
    by_cases h0 : 0 ≤ i
    · have hj : i.toNat = j := by
        rw [seqIndex_of h0 h5] at h1
        exact Option.some.inj h1
      exact wpAny_getItem_list pl.isList h0 (by omega) (by rw [hj]; simpa using ew) fin
    · have hj : (i + (its.toArray.size : Int)).toNat = j := by
        rw [seqIndex_neg (by omega) h4] at h1
        rw [List.size_toArray, ← hl]
        exact Option.some.inj h1
      exact wpAny_getItem_list_neg pl.isList (by omega) (by rw [List.size_toArray] <;> omega) (by omega) (by rw [hj]; simpa using ew) fin
  · cases rx
    exact d_getItem hu I g ry fun w' s' I' rw' => ⟨w, H, I', rw', q⟩
theorem ip_any (op : BOp) : PIp X (bopOf op) (fun x y H Q => ∃ i j, x = .int i ∧ y = .int j ∧ (op = .add ∨ op = .sub) ∧ Q (.int (if op = .add then i + j else i - j)) H) := by
  intro pins s σ H x y v u Q I rx ry h
  obtain ⟨i, j, rfl, rfl, ho, q⟩ := h
  rcases ho with rfl | rfl
  · exact ip_add pins s σ H _ _ v u Q I rx ry ⟨i, j, rfl, rfl, q⟩
  · exact ip_sub pins s σ H _ _ v u Q I rx ry ⟨i, j, rfl, rfl, q⟩
theorem sub_assign {o i : Expr} (h : plainB i = true) : ∀ v, assign (.Subscript o i pos) X.env v = (do
      let ov ← holding [v] (eval o X.env)
      let iv ← holding [v, ov] (eval i X.env)
      standAt pos
      holding [v, ov, iv] (setItem ov iv v)
      release [v, ov, iv] []) := by
  intro v
  cases i <;> first | rfl | cases h
theorem aug_store {i : Expr} (h : plainB i = true) : ∀ ov iv new, augStore i ov iv new = (do holding [new, ov, iv] (setItem ov iv new); release [new, ov, iv] []; pure .next) := by
  intro ov iv new
  cases i <;> first | rfl | cases h
theorem RMk.putM {K : PySem.W.Frag} {H : Hp} {k : Key} {v : V} {m : M} {Fm : List Addr} (rm : RM K H v m Fm) : ∀ {kvs : List (Key × V)} {ms : List (Key × M)} {G : List Addr}, RMk K H kvs ms G → (kvs.map (·.1)).Nodup → (Fm ++ G).Nodup → ∃ G', RMk K H (putK kvs k v) (kput ms k m) G' ∧ G'.Nodup ∧ ∀ x ∈ G', x ∈ Fm ∨ x ∈ G
  | _, _, _, .nil, _, n => ⟨Fm ++ [], .cons rm .nil, by simpa using nd_left n, fun x hx => .inl (by simpa using hx)⟩
  | _, _, _, .cons (k := k0) (F := A) (G := B) a b, h, n => by
    rw [putK_cons h]
    rw [kput]
    by_cases e : k0 = k
    · subst e
      rw [if_pos rfl, if_pos rfl]
      refine ⟨Fm ++ B, .cons rm b, nd_mk (nd_left n) (nd_right (nd_right n)) fun x hx hy => nd_apart n hx (List.mem_append_right _ hy), fun x hx => ?_⟩
      exact (List.mem_append.mp hx).imp id (List.mem_append_right _)
    · rw [if_neg e, if_neg e]
      rw [List.map_cons, List.nodup_cons] at h
      have nr := nd_right n
      obtain ⟨G', r, g1, g2⟩ := RMk.putM rm b h.2 (nd_mk (nd_left n) (nd_right nr) fun x hx hy => nd_apart n hx (List.mem_append_right _ hy))
      refine ⟨A ++ G', .cons a r, nd_mk (nd_left nr) g1 fun x hx hy => ?_, fun x hx => ?_⟩
      · rcases g2 x hy with z | z
        · exact nd_apart n z (List.mem_append_left _ hx)
        · exact nd_apart nr hx z
      · rcases List.mem_append.mp hx with z | z
        · exact .inr (List.mem_append_left _ z)
        · exact (g2 x z).imp id (List.mem_append_right _)
theorem Rx.putM {K : PySem.W.Frag} {H H2 : Hp} {σ : L2.St} {F F2 Fv : List Addr} {δ2 : De} {v : V} {m : M} (r : Rx K σ H F H2 δ2 [v] [.own m] F2 Fv) {i : Nat} {a : Addr} {kvs : List (Key × V)} {ms : List (Key × M)} {k : Key} (e : (δ2[i]?).getD none = some (.dc ms)) (ev : σ[i]? = some (some (.ref a))) (ea : H2 a = some (.dK kvs)) :
    ∃ F', Rx K σ H F (upd H2 a (.dK (putK kvs k v))) (δ2.set i (some (.dc (kput ms k m)))) [] [] F' [] := by
  obtain ⟨Fm, g, nd, sub, up⟩ := r.slot i (getD_lt e)
  obtain ⟨v1, e1, rm⟩ := g _ e
  rw [ev] at e1; cases e1
  cases rm with
  | @dc _ kv _ G h1 un h2 =>
    rw [ea] at h1; cases h1
    obtain ⟨kk, oo⟩ := keep1 (o' := .dK (putK kvs k v)) ea trivial
    have ss := kk.still oo
    have nd' := nd
    rw [List.nodup_cons] at nd'
    have naV : a ∉ Fv := fun z => nd_apart r.nd z (sub a (List.mem_cons_self ..))
    have rmv : RM K _ v m Fv := RM.keep kk ss (show RM K H2 v m Fv from r.vl.one') fun x hx hz => by rw [List.mem_singleton] at hz; subst hz; exact naV hx
    obtain ⟨G', rk, g1, g2⟩ := RMk.putM (k := k) rmv (h2.keep kk ss fun x hx hz => by rw [List.mem_singleton] at hz; subst hz; exact nd'.1 hx) un (nd_mk (nd_left r.nd) nd'.2 fun x hx hy => nd_apart r.nd hx (sub x (List.mem_cons_of_mem _ hy)))
    obtain ⟨F', rx⟩ := up _ [a] (.ref a) (.dc (kput ms k m)) (a :: G') kk (fun b hb => .inl (by rw [List.mem_singleton] at hb; subst hb; exact List.mem_cons_self ..)) oo
      (.dc upd_same (putK_keys un).1 rk) (List.nodup_cons.mpr ⟨fun z => (g2 a z).elim naV nd'.1, g1⟩) fun x hx => by
        rcases List.mem_cons.mp hx with rfl | hx
        · exact .inl (List.mem_cons_self ..)
        · rcases g2 x hx with z | z
          · exact .inr (.inl z)
          · exact .inl (List.mem_cons_of_mem _ z)
    rw [set_same ev] at rx
    exact ⟨F', rx⟩
theorem z_setK (o : OkS E Γ k X sc) {i j : Nat} {x y : Str} {e : Expr} {a : C} {q r : Pos} (h1 : decide (E.N[i]? = some x) = true) (h2 : visB sc x = true) (h3 : okX x = true) (h : PE X e (tE X.K (wpE Γ XF a))) :
    PS X (.Assign [.Subscript (.Name x p2) (.Constant (.str y) j p3) q] e r) (tS X.K lk (wpS Γ XF lk (.setK i y a))) := by
  refine PS.wk (ps_dput (pos' := q) (by have := o.x.un; omega) (pe_var (i := i) (o.x.at h1) (o.x.vis h2) (okX_1 h3) (okX_2 h3)) pe_str (pe_ghost h) (by cases e <;> rfl)) fun D σ H ⟨δ, F, Kd, st, nd, hw, hq⟩ => ?_
  rw [wpS] at hw
  refine ⟨δ, F, _, st, nd, hw, fun x δ1 v H1 F1 Fv k1 r1 => mov_ok (Q := fun v H1 => tVar i σ H1 fun x H2 => tC (V.str y) σ H2 fun y H3 => ∃ a H4, x = .ref a ∧ DPut H3 a y v H4 ∧ D.nx σ H4) r1 k1 fun m δ2 H2 F2 Fm ⟨kvs, e0, hlen, kc⟩ rx => ?_⟩
  obtain ⟨ov, Fo, ev, rm, _⟩ := rx.st.get e0
  cases rm with
  | @dc a' kv _ G ha un rk =>
    obtain ⟨F', r2⟩ := rx.putM (k := .inr y) e0 ev ha
    exact ⟨_, ev, a', _, rfl, DPut.k (k := .inr y) ha (by rw [rk.length]; exact hlen), hq.nx _ _ _ _ kc (.of r2)⟩
/-- an item is set, by what stands there -/
theorem setAt_go {σ : L2.St} {H : Hp} {F : List Addr} {D : Ends} {Kd : EndD} (hq : EQ X.K lk σ H F Kd D) {H2 : Hp} {δ2 : De} {F2 Fv : List Addr} {vs : List V} {xs : List Val} (r : Rx X.K σ H F H2 δ2 vs xs F2 Fv) {i : Nat} {key d : PyData} {o y v : V} (ev : σ[i]? = some (some o)) (ry : RP X.K H2 y key) (rp : RP X.K H2 v d) (h : setAt i key d δ2 Kd.nx) :
    rSetL o y v H2 (fun H3 => D.nx σ H3) ∨ ∃ a H', o = .ref a ∧ DPut H2 a y v H' ∧ D.nx σ H' := by
  unfold setAt at h
  split at h
  · rename_i ds e
    obtain ⟨z, j, rfl, hj, kc⟩ := h
    obtain ⟨o', Fm, ev', rm, _⟩ := r.st.get e
    rw [ev] at ev'; cases ev'
    cases rm with
    | @l a zs _ ha rs =>
      cases ry
      refine .inl ⟨a, zs, z, j, rfl, rfl, ha, by rw [rs.length]; exact hj, ?_⟩
      obtain ⟨F', rx⟩ := r.put e ev ha (rs.set rp j)
      exact hq.nx _ _ _ _ kc (.of rx)
  · rename_i ms e
    obtain ⟨kk, hk, hl, kc⟩ := h
    obtain ⟨o', Fm, ev', rm, _⟩ := r.st.get e
    rw [ev] at ev'; cases ev'
    cases rm with
    | @dc a kvs _ G ha un rk =>
      have ey := ry.kV hk
      subst ey
      obtain ⟨F', rx⟩ := r.putD (k := kk) e ev ha rp
      exact .inr ⟨a, _, rfl, DPut.k ha (by rw [rk.length]; exact hl), hq.nx _ _ _ _ kc (.of rx)⟩
  · exact h.elim
theorem z_setIx (o : OkS E Γ k X sc) {i : Nat} {x : Str} {eb e : Expr} {b a : C} (h1 : decide (E.N[i]? = some x) = true) (h2 : visB sc x = true) (h3 : okX x = true) (pl : plainB eb = true) (hb : PE X eb (tE X.K (wpE Γ XF b))) (h : PE X e (tE X.K (wpE Γ XF a))) :
    PS X (.Assign [.Subscript (.Name x p2) eb p3] e pos) (tS X.K lk (wpS Γ XF lk (.setIx i b a))) := by
  refine PS.wk (ps_asg (pe_ghost h) (pg_sub (pe_var (i := i) (o.x.at h1) (o.x.vis h2) (okX_1 h3) (okX_2 h3)) hb (set_any (by have := o.x.un; omega)) (sub_assign pl)) (by cases e <;> rfl) (by cases e <;> rfl) rfl) fun D σ H ⟨δ, F, Kd, st, nd, hw, hq⟩ => ?_
  rw [wpS] at hw
  refine ⟨δ, F, _, st, nd, hw, fun x δ1 v H1 F1 Fv k1 r1 => frz_ok (Q := fun v H1 => gSub (tVar i) (tE X.K (wpE Γ XF b)) (fun o i v H Q => rSetL o i v H Q ∨ ∃ a H', o = .ref a ∧ DPut H a i v H' ∧ Q H') v σ H1 D.nx) r1 k1 fun d δ2 H2 F2 ⟨⟨m0, e0⟩, k2⟩ rp rx => ?_⟩
  obtain ⟨ov, Fm, ev, _, _⟩ := rx.st.get e0
  refine ⟨ov, ev, δ2, F2, _, rx.st, nd_right rx.nd, k2, fun y δ3 w H3 F3 Fw k3 r3 => ?_⟩
  obtain ⟨key, rfl, ks⟩ := k3
  have r := rx.step r3
  have rp3 : RP X.K H3 v d := rp.still (r3.kp.still rx.st.owns)
  have rw3 : RM X.K H3 w (.p key) Fw := r3.vl.one'
  cases rw3 with
  | p ry => exact setAt_go hq r ev ry rp3 ks
theorem z_setSub (o : OkS E Γ k X sc) {i j : Nat} {x y : Str} {eb e : Expr} {b a : C} {q r : Pos} (h1 : decide (E.N[i]? = some x) = true) (h2 : visB sc x = true) (h3 : okX x = true) (pl : plainB eb = true) (hb : chkQ E b sc eb = true) (h : PE X e (tE X.K (wpE Γ XF a))) :
    PS X (.Assign [.Subscript (.Subscript (.Name x p2) (.Constant (.str y) j p3) q) eb r] e pos) (tS X.K lk (wpS Γ XF lk (.setSub i y b a))) := by
  refine PS.wk (ps_asg (pe_ghost h) (pg_sub (pe_dget (by have := o.x.un; omega) (pe_var (i := i) (o.x.at h1) (o.x.vis h2) (okX_1 h3) (okX_2 h3)) pe_str (fun _ _ => rfl)) (q_I o.x b eb hb) set_list (sub_assign pl)) (by cases e <;> rfl) (by cases e <;> rfl) rfl) fun D σ H ⟨δ, F, Kd, st, nd, hw, hq⟩ => ?_
  rw [wpS] at hw
  refine ⟨δ, F, _, st, nd, hw, fun x δ1 v H1 F1 Fv k1 r1 => frz_ok (Q := fun v H1 => gSub (tDGet (tVar i) (tC (.str y))) (fun σ H Q => ∃ δ F z, RS X.K H σ δ F ∧ qI b δ = some z ∧ Q (.int z) H) rSetL v σ H1 D.nx) r1 k1 fun d δ2 H2 F2 k2 rp rx => ?_⟩
  obtain ⟨ms, ds, z, jj, e0, e1, e2, e3, kc⟩ := k2
  obtain ⟨ov, Fm, ev, rm, hsub⟩ := rx.st.get e0
  cases rm with
  | @dc a' kvs _ G ha un rk =>
    obtain ⟨Fm', g', ndm, _, _⟩ := rx.slot i (getD_lt e0)
    obtain ⟨v1, ev1, rm1⟩ := g' _ e0
    rw [ev] at ev1; cases ev1
    cases rm1 with
    | @dc _ kvs' _ G' ha' un' rk' =>
      rw [ha] at ha'; cases ha'
      obtain ⟨p, zs, q1, q2, q3, q4, _⟩ := rk'.inner e1 (List.nodup_cons.mp ndm).2
      refine ⟨_, ev, a', .ref p, rfl, by rw [← q1]; exact DGet.k (k := .inr y) ha, δ2, F2, z, rx.st, e2, p, zs, z, jj, rfl, rfl, q2, by rw [q3.length]; exact e3, ?_⟩
      obtain ⟨F', r2⟩ := rx.putI e0 ev ha e1 q1 q2 (q3.set rp jj)
      exact hq.nx _ _ _ _ kc (.of r2)
theorem z_aug (o : OkS E Γ k X sc) {i : Nat} {x : Str} {op : BOp} {e : Expr} {a : C} (h1 : decide (E.N[i]? = some x) = true) (h2 : tgtB sc sc x = true) (h : PE X e (tE X.K (wpE Γ XF a))) : PS X (.AugAssign (.Name x p2) (bopOf op) e pos) (tS X.K lk (wpS Γ XF lk (.aug i op a))) := by
  obtain ⟨l1, l2⟩ := o.x.tgt o.fn h2
  refine PS.wk (ps_aug (by rw [o.x.hN]; exact o.x.nd) (o.x.at h1) l1 h (ip_any op) l2) fun D σ H ⟨δ, F, Kd, st, nd, hw, hq⟩ => ?_
  rw [wpS] at hw
  obtain ⟨z, e0, hw⟩ := hw
  obtain ⟨v, Fm, ev, rm, _⟩ := st.get e0
  have := rm.pI
  subst this
  refine ⟨_, ev, δ, F, _, st, nd, hw, fun y δ1 w H1 F1 Fv k1 r1 => ?_⟩
  obtain ⟨b, rfl, ho, hi, kc⟩ := k1
  have ew := (show RM X.K H1 w (.p (.int b)) Fv from r1.vl.one').pI
  refine ⟨z, b, rfl, ew, ho, ?_⟩
  obtain ⟨F2, rz⟩ := RZ.set (r1.pure (.int (if op = .add then z + b else z - b))) hi (by rw [← r1.st.length, st.length]; exact getD_lt e0)
  exact hq.nx _ _ _ _ kc rz
theorem z_augIx (o : OkS E Γ k X sc) {i : Nat} {x : Str} {op : BOp} {eb e : Expr} {b a : C} (h1 : decide (E.N[i]? = some x) = true) (h2 : visB sc x = true) (h3 : okX x = true) (pl : plainB eb = true) (hb : PE X eb (tE X.K (wpE Γ XF b))) (h : PE X e (tE X.K (wpE Γ XF a))) :
    PS X (.AugAssign (.Subscript (.Name x p2) eb p3) (bopOf op) e pos) (tS X.K lk (wpS Γ XF lk (.augIx i op b a))) := by
  have hu : X.A.units + 1 < cLine := by have := o.x.un; omega
  refine PS.wk (ps_augS (pe_var (i := i) (o.x.at h1) (o.x.vis h2) (okX_1 h3) (okX_2 h3)) hb (get_any hu) h (ip_any op) (set_any hu) (aug_store pl)) fun D σ H ⟨δ, F, Kd, st, nd, hw, hq⟩ => ?_
  rw [wpS] at hw
  obtain ⟨⟨m0, e0⟩, hw⟩ := hw
  obtain ⟨ov, Fm0, ev, _, _⟩ := st.get e0
  refine ⟨ov, ev, δ, F, _, st, nd, hw, fun y δ1 w H1 F1 Fv k1 r1 => ?_⟩
  obtain ⟨key, m, z, rfl, e1, hx, hm, k1⟩ := k1
  obtain ⟨ov', Fm, ev', rm, hsub⟩ := r1.st.get e1
  rw [ev] at ev'; cases ev'
  have rw1 : RM X.K H1 w (.p key) Fv := r1.vl.one'
  cases rw1 with
  | p ry =>
    have next : (tE X.K (wpE Γ XF a)) σ H1 fun y2 H4 => ∃ i2 j2, V.int z = V.int i2 ∧ y2 = .int j2 ∧ (op = .add ∨ op = .sub) ∧ (rSetL ov w (.int (if op = .add then i2 + j2 else i2 - j2)) H4 (fun H6 => D.nx σ H6) ∨ ∃ a H', ov = .ref a ∧ DPut H4 a w (.int (if op = .add then i2 + j2 else i2 - j2)) H' ∧ D.nx σ H') := by
      refine ⟨δ1, F1, _, r1.st, nd_right r1.nd, k1, fun y2 δ2 w2 H2 F2 Fw k2 r2 => ?_⟩
      obtain ⟨c, rfl, ho, ks⟩ := k2
      have ew := (show RM X.K H2 w2 (.p (.int c)) Fw from r2.vl.one').pI
      exact ⟨z, c, rfl, ew, ho, setAt_go hq (r1.step r2) ev (ry.still (r2.kp.still r1.st.owns)) (.int _) ks⟩
    cases rm with
    | p _ => cases hm
    | @l p zs ds ha rs =>
      cases key <;> first | (simp [ixM] at hx; done) | skip
      rename_i kk
      obtain ⟨ds', d, e2, e3, rfl⟩ := (show ∃ ds' d, (M.l ds).seq = some ds' ∧ L2.atI ds' kk = some d ∧ d = .int z from hx)
      cases e2
      obtain ⟨v3, e4, rp4⟩ := atI_rel rs e3
      cases ry
      cases rp4
      exact .inl ⟨p, zs, kk, .int z, rfl, rfl, .of ha, e4, next⟩
    | @dc p kvs ms G ha un rk =>
      obtain ⟨key', d, e2, e3, rfl⟩ := (show ∃ key' d, keyOf key = some key' ∧ kget ms key' = some (.p d) ∧ d = .int z from hx)
      obtain ⟨v3, Fw, e4, rm4, _⟩ := (RMk.get (k := key') rk).1 _ e3
      have ey := ry.kV e2
      have e5 := rm4.pI
      subst e5
      refine .inr ⟨p, .int z, rfl, ?_, next⟩
      rw [ey, ← e4]
      exact DGet.k ha
end
end Q
set_option Elab.async false
set_option linter.all false
set_option maxRecDepth 100000
set_option maxHeartbeats 2000000
/-! DC: dict comprehensions; max and min with a default; several places set at once. -/
namespace Q
open PySem PySem.Spec PyProof.Rows L2
theorem dcOf_app : ∀ (ds : List PyData) (e : PyData) (kvs : List (L2.Key × M)), dcOf kvs (ds ++ [e]) = dcAdd (dcOf kvs ds) e
  | [], _, _ => rfl
  | d :: ds, e, kvs => dcOf_app ds e (dcAdd kvs d)
theorem dcAdd_key {kd d : PyData} {key : L2.Key} {kvs : List (L2.Key × M)} (h : keyOf kd = some key) : dcAdd kvs (.tuple [kd, d]) = kput kvs key (.p d) := by
  cases kd <;> cases h <;> rfl
section
variable {E : SE} {Γ : List Spec} {k : Nat} {X : Cx} {sc : Scope} {pos p2 p3 : Pos}
theorem dc_go {own : List Nat} {tg : Tg} {src ifs key val : C} (htg : ∀ i ∈ tgS tg, i ∈ own) {σ : L2.St} {H : Hp} {Q : VK} (h : ∃ δ F Kc, RS X.K H σ δ F ∧ F.Nodup ∧ wpE Γ XF (.dcm own tg src ifs key val) δ Kc ∧ ∀ ms δ' v H' F' Fv, Kc (.own (.dc ms)) δ' → Rx X.K σ H F H' δ' [v] [.own (.dc ms)] F' Fv → Q v H') :
    tDc (tI X.K (wpI Γ XF src)) (gT X.K [] tg) (tT X.K (wpA Γ XF ifs)) (tE X.K (wpE Γ XF key)) (tG (tE X.K (wpE Γ XF val))) own σ H Q := by
  obtain ⟨δ, F, Kc, st, nd, hw, hq⟩ := h
  rw [wpE] at hw
  refine ⟨δ, F, _, st, nd, hw, fun s δ1 H1 F1 J kc rx sw D hD => ?_⟩
  obtain ⟨hli, hz, loop⟩ := kc
  generalize htn : (fun (x : PyData) (δ2 : De) (k : Option PyData → De → Prop) => ∃ δ3, bindT [] tg x δ2 = some δ3 ∧ wpA Γ XF ifs δ3 fun b δ4 => if b = true then wpE Γ XF key δ4 fun y δ5 => ∃ kd, y = .own (.p kd) ∧ (keyOf kd).isSome = true ∧ wpE Γ XF val δ5 fun z δ6 => frz z δ6 fun d δ7 => k (some (.tuple [kd, d])) δ7 else k none δ4) = turn at loop
  have k0 : Keep H1 (upd H1 D (.dK [])) [] := Keep.new hD []
  have sl0 := k0.still fun x hx => by cases hx
  have hgd : ∀ g ∈ s.gd, g.1 ∉ own := fun g hg hin => by
    have : gdOk s.gd (wipe δ1 own) := by
      cases hi : s.items with
      | nil => rw [hi, compLoop] at loop; exact loop.1
      | cons x xs => rw [hi, compLoop] at loop; exact loop.1
    obtain ⟨m, e, _⟩ := this g hg
    have : ∀ is : List Nat, g.1 ∈ is → ((wipe δ1 is)[g.1]?).getD none = none := by
      intro is
      induction is with
      | nil => intro h; cases h
      | cons j is ih =>
        intro h
        unfold wipe
        by_cases ej : j = g.1
        · subst ej
          by_cases hl : g.1 < (wipe δ1 is).length
          · rw [List.getElem?_set_self hl]; rfl
          · rw [List.getElem?_eq_none (by rw [List.length_set]; omega)]; rfl
        · rw [List.getElem?_set_ne ej]
          exact ih ((List.mem_cons.mp h).resolve_left fun z => ej z.symm)
    rw [this own hin] at e; cases e
  have same : ∀ g ∈ s.gd, (L2.wipe σ own)[g.1]? = σ[g.1]? := fun g hg => wipeV_get (hgd g hg)
  have nF1 : D ∉ F1 := fun h => by
    obtain ⟨o, e, _⟩ := rx.st.owns D h
    rw [hD] at e; cases e
  let Pv : Nat → Hp → Prop := fun i H' => ∃ δ' F' kvs ms ds, RS X.K H' (L2.wipe σ own) δ' F' ∧ F'.Nodup ∧ H' D = some (.dK kvs) ∧ (kvs.map (·.1)).Nodup ∧ RMk X.K H' kvs ms [] ∧ ms = dcOf [] ds ∧ kvs.length ≤ i ∧ D ∉ F' ∧ Tr H1 F1 H' F' ∧
    compLoop own s.gd turn (s.items.drop i) δ' (fun ds' δ'' => Kc (.own (.dc (dcOf [] (ds ++ ds')))) (back δ1 δ'' own))
  have still1 : ∀ {H' : Hp} {F' : List Addr}, Tr H1 F1 H' F' → Still H1 H' := fun t => t.kp.still rx.st.owns
  refine ⟨fun i m H' => m = s.items.length - i ∧ i ≤ s.items.length ∧ Pv i H', ⟨s.items.length, by simp, Nat.zero_le _, ?_⟩, ?_⟩
  · obtain ⟨F', w, n, u⟩ := (rx.st.keep k0 sl0 (fun _ _ h => by cases h)).wipes (nd_right rx.nd) own
    refine ⟨_, F', [], [], [], w, n, upd_same, .nil, .nil, rfl, Nat.le_refl _, fun h => nF1 (u D h), ⟨k0.mono (fun _ h => by cases h), fun a ha => .inl (u a ha)⟩, ?_⟩
    rw [List.drop_zero]
    exact loop
  · rintro i m H' ⟨rfl, hi, δ', F', kvs, ms, ds, w, n, eD, un, rk, em, hl, nD, tr, lp⟩
    by_cases hlt : i < s.items.length
    · rw [List.drop_eq_getElem_cons hlt, compLoop] at lp
      obtain ⟨g, lp⟩ := lp
      refine .inr ⟨sw.go i H' _ δ' F' hlt (still1 tr) w g same, Pv (i + 1), fun H2 p => ⟨_, ?_, rfl, hlt, p⟩, fun x H2 y => ?_⟩
      · omega
      obtain ⟨d, ed, mk⟩ := sw.yld i H' _ δ' F' x H2 hlt (still1 tr) w g same y
      rw [List.getElem?_eq_getElem hlt] at ed
      cases ed
      rw [← htn] at lp
      obtain ⟨δ3, hb, hA⟩ := lp
      obtain ⟨w2, rp, k2⟩ := mk.rx w
      refine ⟨δ', F', _, δ3, w2, n, rp, hb, fun σ' F3 w3 n3 s3 t3 _ => ⟨?_, δ3, F3, _, w3, n3, hA, fun b δ4 H3 F4 kb rx4 => ?_⟩⟩
      · refine wipeV_eq ?_ fun j hj => ?_
        · rw [w3.length, bindT_len hb, ← w.length, wipe_length]
        · rw [t3 j (fun h => hj (htg j h)), wipeV_get hj]
      have ew : L2.wipe σ' own = L2.wipe σ own := by
        refine wipeV_eq ?_ fun j hj => ?_
        · rw [w3.length, bindT_len hb, ← w.length, wipe_length]
        · rw [t3 j (fun h => hj (htg j h)), wipeV_get hj]
      have tr2 : Tr H' F' H2 F3 := ⟨k2.mono (fun _ h => by cases h), fun a ha => .inl (s3 a ha)⟩
      have tr3 := tr2.trans rx4.tr
      have own' : Owns H' F' := w.owns
      cases b with
      | true =>
        rw [if_pos rfl] at kb
        show (if true = true then _ else _)
        rw [if_pos rfl]
        refine ⟨δ4, F4, _, rx4.st, nd_right rx4.nd, kb, fun y1 δ5 u5 H5 F5 Fy k5 r5 => ?_⟩
        obtain ⟨kd, rfl, hk, k5⟩ := k5
        have ry : RM X.K H5 u5 (.p kd) Fy := r5.vl.one'
        obtain ⟨key', ek⟩ := Option.isSome_iff_exists.mp hk
        cases ry with
        | p rpk =>
          have eu := rpk.kV ek
          subst eu
          have tr5 := tr3.trans r5.tr
          refine ⟨δ5, F5, _, r5.st, nd_right r5.nd, k5, fun z δ6 v H6 F6 Fv k6 r6 => frz_ok (Q := fun v H6 => ∃ kvs k, kV key' = kV k ∧ H6 D = some (.dK kvs) ∧ kvs.length < sizeLine ∧ Pv (i + 1) (upd H6 D (.dK (putK kvs k v)))) r6 k6 fun d' δ7 H7 F7 p rp7 rx7 => ?_⟩
          have t7 := tr5.trans rx7.tr
          obtain ⟨nD7, eD7⟩ := t7.off eD nD
          refine ⟨kvs, key', rfl, eD7, by omega, ?_⟩
          have k8 : Keep H7 (upd H7 D (.dK (putK kvs key' v))) [D] := fun b o e nn => by rw [upd_ne (by simpa using nn)]; exact e
          have s8 := k8.still fun b hb => by rw [List.mem_singleton] at hb; subst hb; exact ⟨_, eD7, trivial⟩
          have w8 := rx7.st.keep k8 s8 fun a ha hz => nD7 (by rw [List.mem_singleton] at hz; subst hz; exact ha)
          obtain ⟨F9, w9, n9, u9⟩ := w8.wipes (nd_right rx7.nd) own
          rw [ew] at w9
          have tt := tr.trans t7
          have rk7 : RMk X.K H7 kvs ms [] := rk.keep t7.kp (t7.kp.still own') fun _ h => by cases h
          obtain ⟨G', rk8, sub⟩ := rk7.put (k := key') rp7 un
          have eG : G' = [] := List.sublist_nil.mp sub
          subst eG
          have rk9 := rk8.keep k8 s8 fun _ h => by cases h
          refine ⟨_, F9, _, _, ds ++ [.tuple [kd, d']], w9, n9, upd_same, (putK_keys un).1, rk9, ?_, ?_, fun h => nD7 (u9 D h), ⟨fun a o e nn => ?_, fun a ha => tt.fr a (u9 a ha)⟩, ?_⟩
          · rw [dcOf_app, dcAdd_key ek, ← em]
          · have := length_putK kvs key' v; omega
          · have ne : a ≠ D := fun z => by rw [z, hD] at e; cases e
            rw [upd_ne ne]
            exact tt.kp a o e nn
          · rw [← htn]
            simpa only [List.append_assoc, List.cons_append, List.nil_append, Option.toList] using p
      | false =>
        rw [if_neg Bool.false_ne_true] at kb
        show (if false = true then _ else _)
        rw [if_neg Bool.false_ne_true]
        obtain ⟨nD3, eD3⟩ := tr3.off eD nD
        obtain ⟨F9, w9, n9, u9⟩ := rx4.st.wipes (nd_right rx4.nd) own
        rw [ew] at w9
        have tt := tr.trans tr3
        have rk7 : RMk X.K H3 kvs ms [] := rk.keep tr3.kp (tr3.kp.still own') fun _ h => by cases h
        refine ⟨_, F9, kvs, ms, ds, w9, n9, eD3, un, rk7, em, by omega, fun h => nD3 (u9 D h), ⟨tt.kp, fun a ha => tt.fr a (u9 a ha)⟩, ?_⟩
        rw [← htn]
        simpa only [Option.toList, List.nil_append] using kb
    · have e : i = s.items.length := by omega
      subst e
      rw [List.drop_length, compLoop] at lp
      obtain ⟨g, lp⟩ := lp
      refine .inl ⟨sw.stop H' _ δ' F' (still1 tr) w g same, ?_⟩
      obtain ⟨F8, w8, n8, u8⟩ := rx.st.backs (still1 tr) (wipe_length σ own) own hli w n
      have eb : backV σ (L2.wipe σ own) own = σ := by
        apply List.ext_getElem?
        intro j
        refine backV_eq (wipe_length σ own) own j ?_
        by_cases hj : j ∈ own
        · exact .inl hj
        · exact .inr (wipeV_get hj)
      rw [eb] at w8
      rw [List.append_nil, ← em] at lp
      have nD8 : D ∉ F8 := fun h => nD (u8 D h)
      have tt := rx.tr.trans (tr.sub u8)
      refine hq _ _ _ _ F8 [D] lp ⟨w8, .one (.dc eD un rk), ?_, tt.kp, fun a ha => ?_⟩
      · exact nd_mk (by simp) n8 fun a ha hz => by rw [List.mem_singleton] at ha; subst ha; exact nD8 hz
      · rcases List.mem_append.mp ha with ha | ha
        · rw [List.mem_singleton] at ha; subst ha
          exact rx.tr.none hD
        · exact tt.fr a ha
structure DcOk (E : SE) (Γ : List Spec) (X : Cx) (sc scope : Scope) (own : List Nat) (tg : Tg) (src ifs key val : C) (et ei : Expr) (eifs : List Expr) (ek ev : Expr) : Prop where
  b : blkC E.N sc scope (ownB E.N own) = true
  how : (ownB E.N own).map (·.2) = own
  htg : ∀ i ∈ tgS tg, i ∈ own
  pl : plainB ei = true
  i : PI X et ei (tI X.K (wpI Γ XF src))
  g : ∀ (s : Shared) (H : Hp) (C : Addr) (cl : List (Str × Addr)) (fp : List Addr), PG (X.blk s H scope (compEnvC scope cl C X.env) fp) et (gT X.K [] tg)
  t : ∀ (s : Shared) (H : Hp) (C : Addr) (cl : List (Str × Addr)) (fp : List Addr), PTs (X.blk s H scope (compEnvC scope cl C X.env) fp) eifs (tT X.K (wpA Γ XF ifs))
  k : ∀ (s : Shared) (H : Hp) (C : Addr) (cl : List (Str × Addr)) (fp : List Addr), PE (X.blk s H scope (compEnvC scope cl C X.env) fp) ek (tE X.K (wpE Γ XF key))
  v : ∀ (s : Shared) (H : Hp) (C : Addr) (cl : List (Str × Addr)) (fp : List Addr), PE (X.blk s H scope (compEnvC scope cl C X.env) fp) ev (tE X.K (wpE Γ XF val))
theorem s_dcm (o : OkX E Γ k X sc) {own : List Nat} {tg : Tg} {src ifs key val : C} {et ei ek ev : Expr} {eifs : List Expr} {scope : Scope} (c : DcOk E Γ X sc scope own tg src ifs key val et ei eifs ek ev) :
    PE X (.DictComp ek ev [⟨et, ei, eifs, 0⟩] scope pos) (tE X.K (wpE Γ XF (.dcm own tg src ifs key val))) := by
  have h := pe_dc (pos := pos) o.calm (by rw [o.hN]; exact o.nd) c.i (by rw [o.hN, o.hsc]; exact blkOk_by c.b) c.g c.t c.k (fun s H C cl fp => pe_ghost (c.v s H C cl fp)) (plain_fold c.pl _)
  rw [c.how] at h
  exact PE.wk h fun σ H Q ⟨δ, F, Kc, st, nd, hw, hq⟩ => dc_go c.htg ⟨δ, F, Kc, st, nd, hw, fun ds δ' v H' F' Fv kc rx => hq _ _ _ _ _ _ kc rx⟩
end
end Q
set_option Elab.async false
set_option linter.all false
set_option maxRecDepth 100000
set_option maxHeartbeats 2000000
/-! DD: a dict comprehension stored; max and min with a default; several places set at once. -/
namespace Q
open PySem PySem.Spec PyProof.Rows L2
section
variable {E : SE} {Γ : List Spec} {k : Nat} {X : Cx} {sc : Scope} {pos p2 p3 : Pos} {lk : List Nat}
theorem sw_dc (o : OkS E Γ k X sc) {y : Str} {py spos : Pos} {scope : Scope} {ek ev : Expr} {gs : List Comprehension} {n : Nat} : swapsWith (.DictComp ek ev gs scope pos) (some (.Name y py)) n X.env = pure (lcIn sc scope y py.line pos.line) := by
  show (pure _ : Sem Bool) = _
  congr 1
  unfold lcIn
  rw [blk_kind o]
  show (true && (X.env.scope.names.lookup y == some .local) && _ && _) = _
  rw [o.x.hsc, Bool.true_and]
  congr 2
  cases hh : sc.names.lookup y with
  | none => rfl
  | some q => cases q <;> rfl
theorem ps_setDc {i : Nat} {y : Str} {py : Pos} {ek ev tg iter : Expr} {ifs : List Expr} {scope : Scope} {own : List (Str × Nat)} {spos : Pos} {wi : TI} {g : TG} {tt : TT} {tk tv : TE} (hc : X.calm = true) (hN : X.N.Nodup) (hy : X.N[i]? = some y) (hyl : X.env.scope.names.lookup y = some .local)
    (hsw : swapsWith (.DictComp ek ev [⟨tg, iter, ifs, 0⟩] scope pos) (some (.Name y py)) spos.line X.env = pure true) (hi : PI X tg iter wi) (ok : BlkOk X.N X.env.scope scope own)
    (hg : ∀ (s : Shared) (H : Hp) (C : Addr) (cl : List (Str × Addr)) (fp : List Addr), PG (X.blk s H scope (compEnvC scope cl C X.env) fp) tg g) (ht : ∀ (s : Shared) (H : Hp) (C : Addr) (cl : List (Str × Addr)) (fp : List Addr), PTs (X.blk s H scope (compEnvC scope cl C X.env) fp) ifs tt)
    (hk : ∀ (s : Shared) (H : Hp) (C : Addr) (cl : List (Str × Addr)) (fp : List Addr), PE (X.blk s H scope (compEnvC scope cl C X.env) fp) ek tk)
    (he : ∀ (s : Shared) (H : Hp) (C : Addr) (cl : List (Str × Addr)) (fp : List Addr), PE (X.blk s H scope (compEnvC scope cl C X.env) fp) ev tv) (hs : ∀ x, foldedSetIterable iter X.env x = pure x) :
    PS X (.Assign [.Name y py] (.DictComp ek ev [⟨tg, iter, ifs, 0⟩] scope pos) spos) (tAsg (tDc wi g tt tk tv (own.map (·.2))) (gName i)) := by
  refine ⟨fun pins s σ H D I h => ?_⟩
  rw [exec_Assign_Name_used _ _ _ _ hsw]
  refine wpAny_bind (wpAny_standAt (wpAny_bind ?_))
  show wpAny _ X.A (do let _ ← comprehension (.DictComp ek ev [⟨tg, iter, ifs, 0⟩] scope pos) scope X.env (firstIterPos [⟨tg, iter, ifs, 0⟩] pos) newDict false (eval iter X.env) (some (assign (.Name y py) X.env))) _ _ s
  have h : tDc wi g tt tk tv (own.map (·.2)) σ H (fun x H1 => gName i x σ H1 D.nx) := h
  refine wpAny_bind (thn (dc_core (Qf := fun _ s' => SP X pins D .next s') hc hN I hi ok hg ht hk he hs h fun L C s' m H' I' q hn f => ?_) fun _ s' hq => wpAny_pure (wpAny_pure hq))
  show wpAny _ _ (assign (.Name y py) X.env (.ref L)) _ _ _
  refine wpAny_assign_Name (store_ok2 (v := V.ref L) I' hN hy (.inl hyl) rfl (fun s2 I2 ⟨a, sb, ha⟩ => ?_) (.inr hyl))
  obtain ⟨f0, f1, f2, f3, f4, f5⟩ := f
  have nC : C ≠ a := by
    rcases ha with z | z
    · rw [z]; exact f1
    · exact fun e => f4 y a z e.symm
  refine ⟨m, hn.sameBut sb nC, fun h3 sb3 => ?_⟩
  exact ⟨_, H', I2.turned (t' := s2.toks) (fun b o hb e => (sb3.2 b hb).trans e) f0 f1 f3 f4 f5, q⟩
theorem z_setDc (o : OkS E Γ k X sc) {i : Nat} {y : Str} {py : Pos} {spos : Pos} {own : List Nat} {tg : Tg} {src ifs key val : C} {et ei ek ev : Expr} {eifs : List Expr} {scope : Scope} (c : DcOk E Γ X sc scope own tg src ifs key val et ei eifs ek ev) (h1 : decide (E.N[i]? = some y) = true) (h2 : tgtB sc sc y = true) :
    PS X (.Assign [.Name y py] (.DictComp ek ev [⟨et, ei, eifs, 0⟩] scope pos) spos) (tS X.K lk (wpS Γ XF lk (.set i (.dcm own tg src ifs key val)))) := by
  obtain ⟨l1, l2⟩ := o.x.tgt o.fn h2
  have sw := sw_dc o (y := y) (py := py) (spos := spos) (scope := scope) (ek := ek) (ev := ev) (gs := [⟨et, ei, eifs, 0⟩]) (n := spos.line) (pos := pos)
  have hmv : ∀ {m : M} {δ : De} {K : M → De → Prop}, mov (.own m) δ K = K m δ := rfl
  cases hb : lcIn sc scope y py.line pos.line with
  | true =>
    rw [hb] at sw
    have hl : X.env.scope.names.lookup y = some .local := by
      rw [o.x.hsc]
      unfold lcIn at hb
      simp only [Bool.and_eq_true] at hb
      have := hb.1.1
      split at this
      · assumption
      · cases this
    have h := ps_setDc (pos := pos) (spos := spos) (py := py) o.x.calm (by rw [o.x.hN]; exact o.x.nd) (o.x.at h1) hl sw c.i (by rw [o.x.hN, o.x.hsc]; exact blkOk_by c.b) c.g c.t c.k (fun s H C cl fp => pe_ghost (c.v s H C cl fp)) (plain_fold c.pl _)
    rw [c.how] at h
    refine PS.wk h fun D σ H ⟨δ, F, Kd, st, nd, hw, hq⟩ => ?_
    rw [wpS] at hw
    refine dc_go c.htg ⟨δ, F, _, st, nd, hw, fun ds δ' v H' F' Fv kc rx => ?_⟩
    exact set_go (δ := δ) hq rx kc
  | false =>
    rw [hb] at sw
    refine PS.wk (ps_set (by rw [o.x.hN]; exact o.x.nd) (o.x.at h1) l1 (pe_ghost (s_dcm o.x c)) sw l2) fun D σ H ⟨δ, F, Kd, st, nd, hw, hq⟩ => ?_
    rw [wpS] at hw
    exact ⟨δ, F, _, st, nd, hw, fun y δ1 v H1 F1 Fv k1 r1 => mov_ok (Q := fun v H1 => D.nx (σ.set i (some v)) H1) r1 k1 fun m δ2 H' F' Fm p rx => set_go (δ := δ) hq rx p⟩
/-! ### max, min with a default -/
theorem crk_max (hc : X.calm = true) (hu : X.A.units + 110 < cLine) (b : Bool) : CallRK X (.builtin (if b = true then "max" else "min")) [Str.ofString "default"] (fun xs zs H Q => ∃ a ns v, xs = [.ref a] ∧ zs = [v] ∧ SqL X.K H a (ns.map V.int) ∧
    (ns = [] → Q v H) ∧ ∀ n r, ns = n :: r → Q (.int (if b = true then r.foldl max n else r.foldl min n)) H) := by
  intro pins s σ H xs zs us ws Q I r rz h
  obtain ⟨a, ns, v, rfl, rfl, hs, q0, q⟩ := h
  obtain ⟨its, rv, hl, hz⟩ := I.list hs
  rw [Vals.ref1 r]
  obtain ⟨u, rfl, ru⟩ := vals1 rz
  have rp : RPs X.K H (ns.map V.int) (ns.map PyData.int) := by
    clear hs rv q0 q hz hl
    induction ns with
    | nil => exact .nil
    | cons n ns ih => exact .cons (.int n) ih
  have hd : PyData.hasDictAll (ns.map PyData.int) = false := by
    clear hs rv q0 q hz rp hl
    induction ns with
    | nil => rfl
    | cons n ns ih => simp [PyData.hasDictAll, PyData.hasDict, ih]
  have dp : PyData.depthAll (ns.map PyData.int) = 0 := PySem.W.depth_ints ns
  obtain ⟨as, rr⟩ := RPs.reads I _ _ its rp hd rv
  have al : PySem.W.AlikeAll (ns.map PyData.int) := by
    refine ⟨fun x hx y hy => ?_, fun x hx => ?_⟩
    · obtain ⟨i, _, rfl⟩ := List.mem_map.mp hx
      obtain ⟨j, _, rfl⟩ := List.mem_map.mp hy
      simp [PySem.W.alike]
    · obtain ⟨i, _, rfl⟩ := List.mem_map.mp hx
      exact fun h => nomatch h
  have hh := I.ok.hd hc
  cases b with
  | true =>
    refine PySem.W.max_list_default (d := u) hh hl.isList rr al (by rw [dp]; omega) (fun e h' tk hk => ?_) fun y ys i v' h' tk bs e hv rd hk => ?_
    · exact ⟨v, H, I.kept hk, ru, q0 (List.map_eq_nil_iff.mp e)⟩
    · cases ns with
      | nil => cases e
      | cons n r =>
        cases e
        rw [PySem.W.maxD_ints] at rd
        cases rd with
        | int _ t => exact ⟨.int _, H, I.kept hk, ⟨t, rfl⟩, q n r rfl⟩
  | false =>
    refine PySem.W.min_list_default (d := u) hh hl.isList rr al (by rw [dp]; omega) (fun e h' tk hk => ?_) fun y ys i v' h' tk bs e hv rd hk => ?_
    · exact ⟨v, H, I.kept hk, ru, q0 (List.map_eq_nil_iff.mp e)⟩
    · cases ns with
      | nil => cases e
      | cons n r =>
        cases e
        rw [PySem.W.minD_ints] at rd
        cases rd with
        | int _ t => exact ⟨.int _, H, I.kept hk, ⟨t, rfl⟩, q n r rfl⟩
theorem s_mxd (o : OkX E Γ k X sc) {b : Bool} {x : Str} {y : Str} {kp : Pos} {e ed : Expr} {a d : C} (hx : (x == (if b = true then ("max" : Str) else ("min" : Str))) = true) (hg : globB sc x = true) (hy : (y == Str.ofString "default") = true) (pl : plainB e = true) (ha : PE X e (tE X.K (wpE Γ XF a))) (hd : PE X ed (tE X.K (wpE Γ XF d))) :
    PE X (.Call (.Name x p2) [e] [⟨some y, ed, kp⟩] pos) (tE X.K (wpE Γ XF (.mxd b a d))) := by
  rw [beq_iff_eq] at hx hy
  subst hx hy
  have hm : X.mg (if b = true then ("max" : Str) else ("min" : Str)) = none := by cases b <;> exact o.blt _ (by decide +kernel)
  have hv : bootBuiltins (if b = true then ("max" : Str) else ("min" : Str)) = some (.builtin (if b = true then "max" else "min")) := by
    cases b
    · exact boot_min
    · exact boot_max
  have hkw : PK X [⟨some (Str.ofString "default"), ed, kp⟩] (tV X.K 1 (wpV Γ XF (.cons d .nil))) := s_Kcons hd s_Knil
  refine PE.wk (pe_callBK (crk_max o.calm (by have := o.room.un; omega) b) (o.gl hg) hm hv (pa_cons ha pa_nil (plain_star pl _ _)) hkw (by cases b <;> decide) (by cases b <;> decide) (by rw [plain_star pl]; rfl) (by rw [plain_star pl]; rfl) rfl rfl rfl) fun σ H Q ⟨δ, F, Kc, st, nd, hw, hq⟩ => ?_
  rw [wpE] at hw
  refine ⟨δ, F, _, st, nd, hw, fun v δ1 u H1 F1 Fv k1 r1 => ?_⟩
  refine ⟨δ1, F1, fun xs δ2 => (match xs with
    | [z] => ∃ m e ds ns, peek δ2 v = some m ∧ z = .own (.p e) ∧ m.lst = some ds ∧ intL ds = some ns ∧ Kc (.own (.p (mxOf b e ns))) δ2
    | _ => False), r1.st, nd_right r1.nd, ?_, fun xs δ2 vs H2 F2 Fw k2 l2 r2 => ?_⟩
  · simp only [wpV]
    exact k1
  · match xs, k2, r2 with
    | [z], ⟨m, e, ds, ns, e1, e2, e3, e4, kc⟩, r2 =>
      subst e2
      have rx := r1.step r2
      match vs, l2, rx with
      | [w], _, rx =>
        have rv := rx.vl
        generalize Fv ++ Fw = G at rv
        cases rv with
        | cons ra rb =>
          obtain ⟨Fm, rm, _⟩ := ra.peek rx.st e1
          obtain ⟨aa, ys, rfl, hs, rs⟩ := rm.lst e3
          have rw' : RM X.K H2 w (.p e) _ := rb.one'
          cases rw' with
          | p rp =>
            refine ⟨aa, ns, w, rfl, rfl, by rw [← rs.ints e4]; exact hs, fun en => ?_, fun n r en => ?_⟩
            · subst en
              exact hq _ _ _ _ _ _ kc (rx.pure rp)
            · subst en
              exact hq _ _ _ _ _ _ kc (rx.pure (.int _))
/-! ### several places set at once -/
def tgQ (E : SE) (sc : Scope) : List Nat → C → List Expr → Bool
  | [], .nil, [] => true
  | i :: is, .cons b bs, .Subscript (.Name x _) eb _ :: es => decide (E.N[i]? = some x) && visB sc x && okX x && plainB eb && chkE E b sc eb && tgQ E sc is bs es
  | _, _, _ => false
theorem setAt_go2 {σ : L2.St} {H : Hp} {F : List Addr} {Kn : De → Prop} {Qq : Hp → Prop} (hq : ∀ δ' H' F', Kn δ' → Rx X.K σ H F H' δ' [] [] F' [] → Qq H') {H2 : Hp} {δ2 : De} {F2 Fv : List Addr} {vs : List V} {xs : List Val} (r : Rx X.K σ H F H2 δ2 vs xs F2 Fv) {i : Nat} {key d : PyData} {o y v : V}
    (ev : σ[i]? = some (some o)) (ry : RP X.K H2 y key) (rp : RP X.K H2 v d) (h : setAt i key d δ2 Kn) : rSetL o y v H2 (fun H3 => Qq H3) ∨ ∃ a H', o = .ref a ∧ DPut H2 a y v H' ∧ Qq H' := by
  unfold setAt at h
  split at h
  · rename_i ds e
    obtain ⟨z, j, rfl, hj, kc⟩ := h
    obtain ⟨o', Fm, ev', rm, _⟩ := r.st.get e
    rw [ev] at ev'; cases ev'
    cases rm with
    | @l a zs _ ha rs =>
      cases ry
      obtain ⟨F', rx⟩ := r.put e ev ha (rs.set rp j)
      exact .inl ⟨a, zs, z, j, rfl, rfl, ha, by rw [rs.length]; exact hj, hq _ _ _ kc rx⟩
  · rename_i ms e
    obtain ⟨kk, hk, hl, kc⟩ := h
    obtain ⟨o', Fm, ev', rm, _⟩ := r.st.get e
    rw [ev] at ev'; cases ev'
    cases rm with
    | @dc a kvs _ G ha un rk =>
      have ey := ry.kV hk
      subst ey
      obtain ⟨F', rx⟩ := r.putD (k := kk) e ev ha rp
      exact .inr ⟨a, _, rfl, DPut.k ha (by rw [rk.length]; exact hl), hq _ _ _ kc rx⟩
  · exact h.elim
def gQ (K : PySem.W.Frag) (Γ : List Spec) (is : List Nat) (bs : C) : TGs := fun vs σ H Q => ∃ δ F ds Kc, RS K H σ δ F ∧ F.Nodup ∧ RPs K H vs ds ∧ wpQ Γ XF is bs ds δ Kc ∧ ∀ δ' H' F', Kc δ' → Rx K σ H F H' δ' [] [] F' [] → Q σ H'
theorem q_pgs (o : OkX E Γ k X sc) (hE : ∀ (c : C) (e : Expr), chkE E c sc e = true → PE X e (tE X.K (wpE Γ XF c))) : ∀ (is : List Nat) (bs : C) (ts : List Expr), tgQ E sc is bs ts = true → PGs X ts (gQ X.K Γ is bs)
  | [], bs, ts, h => by
    cases bs <;> first | (simp [tgQ] at h; done) | skip
    cases ts <;> first | (simp [tgQ] at h; done) | skip
    obtain ⟨run⟩ := pgs_nil (X := X)
    refine ⟨fun pins s σ H vs us Q I r ⟨δ, F, ds, Kc, st, nd, rp, hw, hq⟩ => run pins s σ H vs us Q I r ?_⟩
    cases rp with
    | nil => rw [wpQ] at hw; exact ⟨rfl, hq _ _ _ hw (Rx.start st nd)⟩
    | cons _ _ => simp [wpQ] at hw
  | i :: is, bs, ts, h => by
    cases bs <;> first | (simp [tgQ] at h; done) | skip
    rename_i b bs
    cases ts with
    | nil => simp [tgQ] at h
    | cons e es =>
      cases e <;> first | (simp [tgQ] at h; done) | skip
      rename_i eo eb ps
      cases eo <;> first | (simp [tgQ] at h; done) | skip
      rename_i x px
      simp only [tgQ, Bool.and_eq_true] at h
      obtain ⟨⟨⟨⟨⟨h1, h2⟩, h3⟩, h4⟩, h5⟩, h6⟩ := h
      obtain ⟨run⟩ := pgs_cons (pg_sub (pos := ps) (pe_var (i := i) (o.at h1) (o.vis h2) (okX_1 h3) (okX_2 h3)) (hE b eb h5) (set_any (by have := o.un; omega)) (sub_assign h4)) (q_pgs o hE is bs es h6) (by rw [plain_assign (by rfl)]; rfl)
      refine ⟨fun pins s σ H vs us Q I r ⟨δ, F, ds, Kc, st, nd, rp, hw, hq⟩ => run pins s σ H vs us Q I r ?_⟩
      cases rp with
      | nil => simp [wpQ] at hw
      | @cons v vs d ds ra rs =>
        rw [wpQ] at hw
        obtain ⟨⟨m0, e0⟩, hw⟩ := hw
        obtain ⟨ov, Fm, ev, _, _⟩ := st.get e0
        refine ⟨v, vs, rfl, ov, ev, δ, F, _, st, nd, hw, fun y δ1 w H1 F1 Fw k1 r1 => ?_⟩
        obtain ⟨key, rfl, ks⟩ := k1
        have still1 := r1.kp.still st.owns
        have rw1 : RM X.K H1 w (.p key) Fw := r1.vl.one'
        cases rw1 with
        | p ry => exact setAt_go2 (fun δ' H' F' kc rx => ⟨δ', F', ds, Kc, rx.st, nd_right rx.nd, rs.still (rx.kp.still st.owns), kc, fun δ2 H2 F2 k2 r2 => hq _ _ _ k2 (rx.step r2)⟩) r1 ev ry (ra.still still1) ks
theorem tgQ_none : ∀ {is : List Nat} {bs : C} {ts : List Expr}, tgQ E sc is bs ts = true → ∀ env, (assignEach ts env).length = is.length ∧ (assignEach ts env).findIdx? (·.1) = none ∧ ts.length = is.length
  | [], bs, ts, h, env => by
    cases bs <;> first | (simp [tgQ] at h; done) | skip
    cases ts <;> first | (simp [tgQ] at h; done) | skip
    exact ⟨rfl, rfl, rfl⟩
  | i :: is, bs, ts, h, env => by
    cases bs <;> first | (simp [tgQ] at h; done) | skip
    cases ts with
    | nil => simp [tgQ] at h
    | cons e es =>
      cases e <;> first | (simp [tgQ] at h; done) | skip
      rename_i eo eb ps
      cases eo <;> first | (simp [tgQ] at h; done) | skip
      simp only [tgQ, Bool.and_eq_true] at h
      obtain ⟨a, b, c⟩ := tgQ_none h.2 env
      rw [plain_assign (by rfl)]
      refine ⟨by rw [List.length_cons, List.length_cons, a], ?_, by rw [List.length_cons, List.length_cons, c]⟩
      rw [List.findIdx?_cons, b]
      rfl
theorem z_setQ (o : OkS E Γ k X sc) (hE : ∀ (c : C) (e : Expr), chkE E c sc e = true → PE X e (tE X.K (wpE Γ XF c))) {is : List Nat} {bs a : C} {ts : List Expr} {n1 : Nat} {pt : Pos} {e : Expr} (ht : tgQ E sc is bs ts = true) (hn : notLc e = true) (ha : chkE E a sc e = true) (hs : swappedStores [.Tuple ts n1 pt] e X.env = pure none) :
    PS X (.Assign [.Tuple ts n1 pt] e pos) (tS X.K lk (wpS Γ XF lk (.setQ is bs a))) := by
  obtain ⟨t1, t2, t3⟩ := tgQ_none ht X.env
  refine PS.wk (ps_asg (hE a e ha) (pg_tup (n := is.length) o.x.calm (q_pgs o.x hE is bs ts ht) t1 t2) (by cases e <;> first | rfl | cases hn) hs rfl) fun D σ H ⟨δ, F, Kd, st, nd, hw, hq⟩ => ?_
  rw [wpS] at hw
  refine ⟨δ, F, _, st, nd, hw, fun x δ1 v H1 F1 Fv k1 r1 => ?_⟩
  obtain ⟨ds, rfl, hl, hw2⟩ := k1
  have rv := r1.vl.one'
  obtain ⟨b, xs, rfl, h1, h2⟩ := RM.pT (show RM X.K H1 v (.p (.tuple ds)) Fv from rv)
  exact ⟨b, xs, rfl, h1, by rw [h2.length, hl], δ1, F1, ds, _, r1.st, nd_right r1.nd, h2, hw2, fun δ' H' F' kc rx => hq.nx _ _ _ _ kc (.of (Rx.mk' rx.st .nil (by simpa using nd_right rx.nd) (r1.tr.trans rx.tr)))⟩
end
end Q
set_option Elab.async false
set_option linter.all false
set_option maxRecDepth 100000
set_option maxHeartbeats 2000000
/-! LP: the checkers tell the truth. -/
namespace Q
open PySem PySem.Spec PyProof.Rows L2

structure Snd (E : SE) (Γ : List Spec) (k n : Nat) : Prop where
  e : ∀ (c : C), sizeOf c < n → ∀ (X : Cx) (sc : Scope), OkX E Γ k X sc → ∀ ex : Expr, chkE E c sc ex = true → PE X ex (tE X.K (wpE Γ XF c))
  t : ∀ (c : C), sizeOf c < n → ∀ (X : Cx) (sc : Scope), OkX E Γ k X sc → ∀ ex : Expr, chkT E c sc ex = true → PT X ex (tT X.K (wpT Γ XF c))
section
variable {E : SE} {Γ : List Spec} {k n : Nat} {X : Cx} {sc : Scope} {pos : Pos}
theorem ba {a b : Bool} (h : (a && b) = true) : a = true ∧ b = true := by rw [Bool.and_eq_true] at h; exact h
theorem chkL_pl : ∀ {l : C} {es : List Expr}, chkL E l sc es = true → plains es = true
  | l, [], _ => rfl
  | l, e :: es, h => by
    cases l <;> first | (simp [chkL] at h; done) | skip
    rw [chkL] at h
    obtain ⟨h1, h2⟩ := ba h
    unfold plains
    rw [List.all_cons, (ba h1).1]
    exact chkL_pl h2
theorem chkL_nil {l : C} (h : chkL E l sc [] = true) : l = .nil := by
  cases l <;> first | rfl | (simp [chkL] at h; done)
theorem lF (S : Snd E Γ k n) (o : OkX E Γ k X sc) : ∀ (l : C), sizeOf l < n + 1 → ∀ es, chkL E l sc es = true → PA X es (tF X.K (wpF Γ XF l)) := by
  intro l
  induction l with
  | nil => intro _ es h; cases es with
    | nil => exact s_Fnil
    | cons _ _ => simp [chkL] at h
  | cons a as _ ih => intro hn es h; cases es with
    | nil => simp [chkL] at h
    | cons e es =>
      rw [chkL] at h
      simp only [C.cons.sizeOf_spec] at hn
      exact s_Fcons (ba (ba h).1).1 (S.e a (by omega) X sc o e (ba (ba h).1).2) (ih (by omega) es (ba h).2)
  | _ => intro _ es h; cases es <;> simp [chkL] at h
theorem lV (S : Snd E Γ k n) (o : OkX E Γ k X sc) : ∀ (l : C), sizeOf l < n + 1 → ∀ es, chkL E l sc es = true → PA X es (tV X.K es.length (wpV Γ XF l)) := by
  intro l
  induction l with
  | nil => intro _ es h; cases es with
    | nil => exact s_Vnil
    | cons _ _ => simp [chkL] at h
  | cons a as _ ih => intro hn es h; cases es with
    | nil => simp [chkL] at h
    | cons e es =>
      rw [chkL] at h
      simp only [C.cons.sizeOf_spec] at hn
      exact s_Vcons (ba (ba h).1).1 (S.e a (by omega) X sc o e (ba (ba h).1).2) (ih (by omega) es (ba h).2)
  | _ => intro _ es h; cases es <;> simp [chkL] at h
theorem lD (S : Snd E Γ k n) (o : OkX E Γ k X sc) : ∀ (l : C), sizeOf l < n + 1 → ∀ es, chkL E l sc es = true → PA X es (tD X.K (wpD Γ XF l)) := by
  intro l
  induction l with
  | nil => intro _ es h; cases es with
    | nil => exact s_Dnil
    | cons _ _ => simp [chkL] at h
  | cons a as _ ih => intro hn es h; cases es with
    | nil => simp [chkL] at h
    | cons e es =>
      rw [chkL] at h
      simp only [C.cons.sizeOf_spec] at hn
      exact s_Dcons (ba (ba h).1).1 (S.e a (by omega) X sc o e (ba (ba h).1).2) (ih (by omega) es (ba h).2)
  | _ => intro _ es h; cases es <;> simp [chkL] at h
theorem lK (S : Snd E Γ k n) (o : OkX E Γ k X sc) : ∀ (l : C), sizeOf l < n + 1 → ∀ es, chkK E l sc es = true → PK X es (tV X.K es.length (wpV Γ XF l)) := by
  intro l
  induction l with
  | nil => intro _ es h; cases es with
    | nil => exact s_Knil
    | cons _ _ => simp [chkK] at h
  | cons a as _ ih => intro hn es h; cases es with
    | nil => simp [chkK] at h
    | cons e es =>
      obtain ⟨nm, e, p⟩ := e
      cases nm with
      | none => simp [chkK] at h
      | some nm =>
        rw [chkK] at h
        simp only [C.cons.sizeOf_spec] at hn
        exact s_Kcons (S.e a (by omega) X sc o e (ba h).1) (ih (by omega) es (ba h).2)
  | _ => intro _ es h; cases es with
    | nil => simp [chkK] at h
    | cons e es => obtain ⟨nm, e, p⟩ := e; cases nm <;> simp [chkK] at h
theorem lAV (S : Snd E Γ k n) (o : OkX E Γ k X sc) : ∀ (l : C), sizeOf l < n + 1 → ∀ es, chkL E l sc es = true → PE X (.BoolOp .And es pos) (tE X.K (wpE Γ XF (.and l))) := by
  intro l
  induction l with
  | nil => intro _ es h; exact ⟨fun pins s σ H Q I ⟨δ, F, Kc, st, nd, hw, hq⟩ => by rw [wpE, wpAV] at hw <;> first | exact hw.elim | (intros; contradiction)⟩
  | cons a as _ ih => intro hn es h; cases es with
    | nil => simp [chkL] at h
    | cons e es =>
      rw [chkL] at h
      simp only [C.cons.sizeOf_spec] at hn
      have he := S.e a (by omega) X sc o e (ba (ba h).1).2
      cases es with
      | nil =>
        cases chkL_nil (ba h).2
        exact s_AV1 he
      | cons e2 es =>
        have hr := ih (by omega) (e2 :: es) (ba h).2
        have h2 := (ba h).2
        cases as <;> first | (simp [chkL] at h2; done) | skip
        exact s_AVc he hr
  | _ => intro _ es h; cases es <;> simp [chkL] at h
theorem lOV (S : Snd E Γ k n) (o : OkX E Γ k X sc) : ∀ (l : C), sizeOf l < n + 1 → ∀ es, chkL E l sc es = true → PE X (.BoolOp .Or es pos) (tE X.K (wpE Γ XF (.or l))) := by
  intro l
  induction l with
  | nil => intro _ es h; exact ⟨fun pins s σ H Q I ⟨δ, F, Kc, st, nd, hw, hq⟩ => by rw [wpE, wpOV] at hw <;> first | exact hw.elim | (intros; contradiction)⟩
  | cons a as _ ih => intro hn es h; cases es with
    | nil => simp [chkL] at h
    | cons e es =>
      rw [chkL] at h
      simp only [C.cons.sizeOf_spec] at hn
      have he := S.e a (by omega) X sc o e (ba (ba h).1).2
      cases es with
      | nil =>
        cases chkL_nil (ba h).2
        exact s_OV1 he
      | cons e2 es =>
        have hr := ih (by omega) (e2 :: es) (ba h).2
        have h2 := (ba h).2
        cases as <;> first | (simp [chkL] at h2; done) | skip
        exact s_OVc he hr
  | _ => intro _ es h; cases es <;> simp [chkL] at h
theorem lA (S : Snd E Γ k n) (o : OkX E Γ k X sc) : ∀ (l : C), sizeOf l < n + 1 → ∀ es, es ≠ [] → chkTs E l sc es = true → PW X (.BoolOp .And es pos) (tT X.K (wpA Γ XF l)) := by
  intro l
  induction l with
  | cons a as _ ih => intro hn es _ h; cases es with
    | nil => simp [chkTs] at h
    | cons e es =>
      rw [chkTs] at h
      simp only [C.cons.sizeOf_spec] at hn
      have he := S.t a (by omega) X sc o e (ba h).1
      cases es with
      | nil =>
        have h2 := (ba h).2
        cases as <;> first | (simp [chkTs] at h2; done) | skip
        exact s_A1 he
      | cons e2 es => exact s_Ac he (ih (by omega) (e2 :: es) (by simp) (ba h).2)
  | nil => intro _ es hne h; cases es with
    | nil => exact absurd rfl hne
    | cons _ _ => simp [chkTs] at h
  | _ => intro _ es _ h; cases es <;> simp [chkTs] at h
theorem lO (S : Snd E Γ k n) (o : OkX E Γ k X sc) : ∀ (l : C), sizeOf l < n + 1 → ∀ es, es ≠ [] → chkTs E l sc es = true → PW X (.BoolOp .Or es pos) (tT X.K (wpO Γ XF l)) := by
  intro l
  induction l with
  | cons a as _ ih => intro hn es _ h; cases es with
    | nil => simp [chkTs] at h
    | cons e es =>
      rw [chkTs] at h
      simp only [C.cons.sizeOf_spec] at hn
      have he := S.t a (by omega) X sc o e (ba h).1
      cases es with
      | nil =>
        have h2 := (ba h).2
        cases as <;> first | (simp [chkTs] at h2; done) | skip
        exact s_O1 he
      | cons e2 es => exact s_Oc he (ih (by omega) (e2 :: es) (by simp) (ba h).2)
  | nil => intro _ es hne h; cases es with
    | nil => exact absurd rfl hne
    | cons _ _ => simp [chkTs] at h
  | _ => intro _ es _ h; cases es <;> simp [chkTs] at h
theorem lDct (S : Snd E Γ k n) (o : OkX E Γ k X sc) : ∀ (l : C), sizeOf l < n + 1 → ∀ ks keys vals, keysB ks keys = true → keys.length = vals.length → chkL E l sc vals = true → DOk X Γ pos keys vals ks l := by
  intro l
  induction l with
  | nil => intro _ ks keys vals hk hl h; cases vals with
    | cons _ _ => simp [chkL] at h
    | nil => cases keys with
      | cons _ _ => simp at hl
      | nil => cases ks with
        | cons _ _ => simp [keysB] at hk
        | nil => exact d_nil
  | cons a as _ ih => intro hn ks keys vals hk hl h; cases vals with
    | nil => simp [chkL] at h
    | cons e es => cases keys with
      | nil => simp at hl
      | cons ky keys => cases ks with
        | nil => simp [keysB] at hk
        | cons x xs =>
          unfold keysB at hk
          split at hk
          · rename_i e1 e2; cases e1
          · rename_i x1 xs1 y1 p1 p2 r1 e1 e2
            cases e1
            cases e2
            obtain ⟨h1, h2⟩ := ba hk
            rw [beq_iff_eq] at h1
            subst h1
            rw [chkL] at h
            simp only [C.cons.sizeOf_spec] at hn
            exact d_cons (S.e a (by omega) X sc o e (ba (ba h).1).2) (ih (by omega) _ _ _ h2 (by simpa using hl) (ba h).2)
          · cases hk
  | _ => intro _ ks keys vals hk hl h; cases vals <;> simp [chkL] at h
theorem keysB_some : ∀ {ks : List Str} {keys : List (Option Expr)}, keysB ks keys = true → keys.all (·.isSome) = true ∧ keys.length = ks.length
  | [], [], _ => ⟨rfl, rfl⟩
  | [], _ :: _, h => by simp [keysB] at h
  | _ :: _, [], h => by simp [keysB] at h
  | x :: xs, e :: r, h => by
    unfold keysB at h
    split at h
    · rename_i e1 e2; cases e1
    · rename_i x1 xs1 y1 p1 p2 r1 e1 e2
      cases e1
      cases e2
      obtain ⟨a, b⟩ := keysB_some (ba h).2
      exact ⟨by rw [List.all_cons, a]; rfl, congrArg (· + 1) b⟩
    · cases h
theorem lRg (S : Snd E Γ k n) (o : OkX E Γ k X sc) {l : C} {es : List Expr} (hn : sizeOf l < n + 1) (hl : es.length = 1 ∨ es.length = 2) (h : chkL E l sc es = true) : rgExprs es l X Γ := by
  match es, hl with
  | [e], _ =>
    cases l <;> first | (simp [chkL] at h; done) | skip
    rename_i a as
    rw [chkL] at h
    cases chkL_nil (ba h).2
    simp only [C.cons.sizeOf_spec, C.nil.sizeOf_spec] at hn
    exact .inl ⟨e, a, rfl, rfl, (ba (ba h).1).1, S.e a (by omega) X sc o e (ba (ba h).1).2⟩
  | [e1, e2], _ =>
    cases l <;> first | (simp [chkL] at h; done) | skip
    rename_i a as
    rw [chkL] at h
    have h2 := (ba h).2
    cases as <;> first | (simp [chkL] at h2; done) | skip
    rename_i b bs
    rw [chkL] at h2
    cases chkL_nil (ba h2).2
    simp only [C.cons.sizeOf_spec, C.nil.sizeOf_spec] at hn
    exact .inr ⟨e1, e2, a, b, rfl, rfl, (ba (ba h).1).1, (ba (ba h2).1).1, S.e a (by omega) X sc o e1 (ba (ba h).1).2, S.e b (by omega) X sc o e2 (ba (ba h2).1).2⟩
  | [], hl => simp at hl
  | _ :: _ :: _ :: _, hl => simp at hl
theorem lI (S : Snd E Γ k n) (o : OkX E Γ k X sc) {c : C} (hn : sizeOf c < n + 1) {et ex : Expr} (h : chkI E c sc et ex = true) : PI X et ex (tI X.K (wpI Γ XF c)) := by
  rw [chkI.eq_def] at h
  split at h
  · rename_i l y p es q
    simp only [C.rng.sizeOf_spec] at hn
    obtain ⟨h, h4⟩ := ba h
    obtain ⟨h, h3⟩ := ba h
    obtain ⟨h1, h2⟩ := ba h
    exact i_rng o h1 h2 (lRg S o (by omega) (of_decide_eq_true h3) h4)
  · rename_i a y p e q
    simp only [C.enum.sizeOf_spec] at hn
    obtain ⟨h, h5⟩ := ba h
    obtain ⟨h, h4⟩ := ba h
    obtain ⟨h, h3⟩ := ba h
    obtain ⟨h1, h2⟩ := ba h
    cases et <;> first | (simp [tupB] at h1; done) | skip
    exact i_enum o h2 h3 h4 (S.e a (by omega) X sc o e h5)
  · rename_i a b y p e f q
    simp only [C.zip.sizeOf_spec] at hn
    obtain ⟨h, h7⟩ := ba h
    obtain ⟨h, h6⟩ := ba h
    obtain ⟨h, h5⟩ := ba h
    obtain ⟨h, h4⟩ := ba h
    obtain ⟨h, h3⟩ := ba h
    obtain ⟨h1, h2⟩ := ba h
    cases et <;> first | (simp [tupB] at h1; done) | skip
    exact i_zip o h2 h3 h4 h5 (S.e a (by omega) X sc o e h6) (S.e b (by omega) X sc o f h7)
  · rename_i a b y p e f z _ _ _ q
    simp only [C.zip.sizeOf_spec] at hn
    obtain ⟨h, h8⟩ := ba h
    obtain ⟨h, h7⟩ := ba h
    obtain ⟨h, h6⟩ := ba h
    obtain ⟨h, h5⟩ := ba h
    obtain ⟨h, h4⟩ := ba h
    obtain ⟨h, h3⟩ := ba h
    obtain ⟨h1, h2⟩ := ba h
    cases et <;> first | (simp [tupB] at h1; done) | skip
    exact i_zipS o h2 h3 h4 h5 h6 (S.e a (by omega) X sc o e h7) (S.e b (by omega) X sc o f h8)
  · rename_i a b c y p e f g q
    simp only [C.zip3.sizeOf_spec] at hn
    obtain ⟨h, h9⟩ := ba h
    obtain ⟨h, h8⟩ := ba h
    obtain ⟨h, h7⟩ := ba h
    obtain ⟨h, h6⟩ := ba h
    obtain ⟨h, h5⟩ := ba h
    obtain ⟨h, h4⟩ := ba h
    obtain ⟨h, h3⟩ := ba h
    obtain ⟨h1, h2⟩ := ba h
    cases et <;> first | (simp [tupB] at h1; done) | skip
    exact i_zip3 o h2 h3 h4 h5 h6 (S.e a (by omega) X sc o e h7) (S.e b (by omega) X sc o f h8) (S.e c (by omega) X sc o g h9)
  · rename_i a
    simp only [C.sv.sizeOf_spec] at hn
    exact i_sv (S.e a (by omega) X sc o _ h)
  · cases h
theorem lA1 (S : Snd E Γ k n) (o : OkX E Γ k X sc) {l : C} (hn : sizeOf l < n + 1) {es : List Expr} (h : chkA1 E l sc es = true) : PTs X es (tT X.K (wpA Γ XF l)) := by
  rw [chkA1.eq_def] at h
  split at h
  · obtain ⟨run⟩ := pts_nil (X := X)
    refine ⟨fun pins s σ H Q I ⟨δ, F, Kc, st, nd, hw, hq⟩ => run pins s σ H Q I ?_⟩
    rw [wpA] at hw
    exact hq _ _ _ _ hw (Rx.start st nd)
  · rename_i a e
    simp only [C.cons.sizeOf_spec, C.nil.sizeOf_spec] at hn
    obtain ⟨run⟩ := pts_one (S.t a (by omega) X sc o e h)
    refine ⟨fun pins s σ H Q I ⟨δ, F, Kc, st, nd, hw, hq⟩ => run pins s σ H Q I ?_⟩
    rw [wpA] at hw
    refine ⟨δ, F, _, st, nd, hw, fun b δ1 H1 F1 k1 r1 => ?_⟩
    cases b with
    | true => rw [if_pos rfl, wpA] at k1; exact hq _ _ _ _ k1 r1
    | false => exact hq _ _ _ _ k1 r1
  · cases h
theorem lComp (S : Snd E Γ k n) (o : OkX E Γ k X sc) {own : List Nat} {tg : Tg} {src ifs elt : C} {et ei ee : Expr} {eifs : List Expr} {scope : Scope} (hn : sizeOf (C.comp own tg src ifs elt) < n + 1) (h : chkE E (.comp own tg src ifs elt) sc (.ListComp ee [⟨et, ei, eifs, 0⟩] scope pos) = true) : CompOk E Γ X sc scope own tg src ifs elt et ei eifs ee := by
  rw [chkE] at h
  simp only [C.comp.sizeOf_spec] at hn
  obtain ⟨h, h8⟩ := ba h
  obtain ⟨h, h7⟩ := ba h
  obtain ⟨h, h6⟩ := ba h
  obtain ⟨h, h5⟩ := ba h
  obtain ⟨h, h4⟩ := ba h
  obtain ⟨h, h3⟩ := ba h
  obtain ⟨h1, h2⟩ := ba h
  exact ⟨h1, of_decide_eq_true h2, fun i hi => of_decide_eq_true (List.all_eq_true.mp h4 i hi), h5, lI S o (by omega) h3, fun s H Cc cl fp => g_ok (o.blk s H scope Cc cl fp) (blk_fn s H scope Cc cl fp) [] tg et h6,
    fun s H Cc cl fp => lA1 S (o.blk s H scope Cc cl fp) (by omega) h7, fun s H Cc cl fp => S.e elt (by omega) _ _ (o.blk s H scope Cc cl fp) ee h8⟩
theorem lDcm (S : Snd E Γ k n) (o : OkX E Γ k X sc) {own : List Nat} {tg : Tg} {src ifs key val : C} {et ei ek ev : Expr} {eifs : List Expr} {scope : Scope} (hn : sizeOf (C.dcm own tg src ifs key val) < n + 1) (h : chkE E (.dcm own tg src ifs key val) sc (.DictComp ek ev [⟨et, ei, eifs, 0⟩] scope pos) = true) : DcOk E Γ X sc scope own tg src ifs key val et ei eifs ek ev := by
  rw [chkE] at h
  simp only [C.dcm.sizeOf_spec] at hn
  obtain ⟨h, h9⟩ := ba h
  obtain ⟨h, h8⟩ := ba h
  obtain ⟨h, h7⟩ := ba h
  obtain ⟨h, h6⟩ := ba h
  obtain ⟨h, h5⟩ := ba h
  obtain ⟨h, h4⟩ := ba h
  obtain ⟨h, h3⟩ := ba h
  obtain ⟨h1, h2⟩ := ba h
  exact ⟨h1, of_decide_eq_true h2, fun i hi => of_decide_eq_true (List.all_eq_true.mp h4 i hi), h5, lI S o (by omega) h3, fun s H Cc cl fp => g_ok (o.blk s H scope Cc cl fp) (blk_fn s H scope Cc cl fp) [] tg et h6,
    fun s H Cc cl fp => lA1 S (o.blk s H scope Cc cl fp) (by omega) h7, fun s H Cc cl fp => S.e key (by omega) _ _ (o.blk s H scope Cc cl fp) ek h8, fun s H Cc cl fp => S.e val (by omega) _ _ (o.blk s H scope Cc cl fp) ev h9⟩
theorem lO1 (S : Snd E Γ k n) (o : OkX E Γ k X sc) {l : C} (hn : sizeOf l < n + 1) {eo : Option Expr} (h : chkO E l sc eo = true) : (l = .nil ∧ eo = none) ∨ ∃ e c, l = .cons c .nil ∧ eo = some e ∧ PE X e (tE X.K (wpE Γ XF c)) := by
  rw [chkO.eq_def] at h
  split at h
  · exact .inl ⟨rfl, rfl⟩
  · rename_i a e
    simp only [C.cons.sizeOf_spec, C.nil.sizeOf_spec] at hn
    exact .inr ⟨e, a, rfl, rfl, S.e a (by omega) X sc o e h⟩
  · cases h
theorem step_e (S : Snd E Γ k n) (c : C) (hn : sizeOf c < n + 1) (o : OkX E Γ k X sc) (ex : Expr) (h : chkE E c sc ex = true) : PE X ex (tE X.K (wpE Γ XF c)) := by
  have h0 := h
  rw [chkE.eq_def] at h
  split at h <;> try simp only [Bool.and_eq_true] at h
  · obtain ⟨⟨h1, h2⟩, h3⟩ := h
    exact s_v o h1 h2 h3
  · exact s_k h
  · refine s_gk o ?_
    simp only [Bool.and_eq_true]
    exact h
  · rename_i l es _ _
    simp only [C.tup.sizeOf_spec] at hn
    exact s_tup (lF S o l (by omega) es h)
  · rename_i l es _
    simp only [C.lst.sizeOf_spec] at hn
    exact s_lst (lF S o l (by omega) es h)
  · rename_i ks l keys vals _
    simp only [C.dct.sizeOf_spec] at hn
    obtain ⟨⟨⟨⟨h1, h2⟩, h3⟩, h4⟩, h5⟩ := h
    have h2 := of_decide_eq_true h2
    obtain ⟨g1, g2⟩ := keysB_some h1
    refine s_dct (lDct S o l (by omega) ks keys vals h1 h2 h5) g1 h2 g2 (of_decide_eq_true h3) (of_decide_eq_true h4) fun e => ?_
    subst e
    cases vals with
    | nil => exact chkL_nil h5
    | cons _ _ => simp at h2
  · rename_i op a b ea eop eb _
    simp only [C.bin.sizeOf_spec] at hn
    obtain ⟨⟨h1, h2⟩, h3⟩ := h
    cases of_decide_eq_true h1
    exact s_bin op (S.e a (by omega) X sc o ea h2) (S.e b (by omega) X sc o eb h3)
  · rename_i a ea _
    simp only [C.neg.sizeOf_spec] at hn
    exact s_neg (S.e a (by omega) X sc o ea h)
  · rename_i op a b ea eop eb _
    simp only [C.cmp.sizeOf_spec] at hn
    obtain ⟨⟨⟨h1, h4⟩, h2⟩, h3⟩ := h
    cases of_decide_eq_true h1
    exact s_cmp o op h4 (S.e a (by omega) X sc o ea h2) (S.e b (by omega) X sc o eb h3)
  · rename_i o1 o2 a b c ea e1 e2 eb ec _
    simp only [C.ch.sizeOf_spec] at hn
    obtain ⟨⟨⟨⟨⟨h1, h2⟩, h3⟩, h4⟩, h5⟩, h6⟩ := h
    cases of_decide_eq_true h1
    cases of_decide_eq_true h2
    exact s_ch o o1 o2 h3 (S.e a (by omega) X sc o ea h4) (S.e b (by omega) X sc o eb h5) (S.e c (by omega) X sc o ec h6)
  · rename_i l vs _
    simp only [C.and.sizeOf_spec] at hn
    exact lAV S o l (by omega) vs h
  · rename_i l vs _
    simp only [C.or.sizeOf_spec] at hn
    exact lOV S o l (by omega) vs h
  · rename_i t e _
    simp only [C.not.sizeOf_spec] at hn
    exact s_not (S.e t (by omega) X sc o e h)
  · rename_i t a b et ea eb _
    simp only [C.ite.sizeOf_spec] at hn
    obtain ⟨⟨h1, h2⟩, h3⟩ := h
    exact s_ite (S.t t (by omega) X sc o et h1) (S.e a (by omega) X sc o ea h2) (S.e b (by omega) X sc o eb h3)
  · rename_i a b ea eb _
    simp only [C.ix.sizeOf_spec] at hn
    obtain ⟨⟨h1, h2⟩, h3⟩ := h
    exact s_ix o h1 (S.e a (by omega) X sc o ea h2) (S.e b (by omega) X sc o eb h3)
  · rename_i a lo hi ea l hh _ _
    simp only [C.sl.sizeOf_spec] at hn
    obtain ⟨⟨h1, h2⟩, h3⟩ := h
    exact s_sl (S.e a (by omega) X sc o ea h1) (lO1 S o (by omega) h2) (lO1 S o (by omega) h3)
  · rename_i a ea _ _ _ _ _
    simp only [C.rev.sizeOf_spec] at hn
    exact s_rev (S.e a (by omega) X sc o ea h)
  · rename_i i key b x _ y _ _ _ eb _
    obtain ⟨⟨⟨⟨⟨h1, h2⟩, h3⟩, h4⟩, h5⟩, h6⟩ := h
    rw [beq_iff_eq] at h4
    subst h4
    exact s_ixs o h1 h2 h3 h5 h6
  · rename_i i key x _ y _ _ _ _ _
    obtain ⟨⟨⟨h1, h2⟩, h3⟩, h4⟩ := h
    rw [beq_iff_eq] at h4
    subst h4
    exact s_nes o h1 h2 h3
  · rename_i i key f _ x _ y _ _ _ _
    obtain ⟨⟨⟨⟨⟨h1, h2⟩, h3⟩, h4⟩, h5⟩, h6⟩ := h
    rw [beq_iff_eq] at h6
    subst h6
    exact s_lens o h1 h2 h3 h4 h5
  · rename_i f l x _ e es _
    simp only [C.bi.sizeOf_spec] at hn
    obtain ⟨⟨h1, h2⟩, h3⟩ := h
    rw [beq_iff_eq] at h1
    subst h1
    exact s_bi o f h2 (chkL_pl h3) (lV S o l (by omega) _ h3)
  · rename_i b a d x _ e y ed _ _
    simp only [C.mxd.sizeOf_spec] at hn
    obtain ⟨⟨⟨⟨⟨h1, h2⟩, h3⟩, h4⟩, h5⟩, h6⟩ := h
    exact s_mxd o h1 h2 h3 h4 (S.e a (by omega) X sc o e h5) (S.e d (by omega) X sc o ed h6)
  · exact s_dcm o (lDcm S o hn h0)
  · rename_i a t x _ e y _ _
    simp only [C.isi.sizeOf_spec] at hn
    obtain ⟨⟨⟨⟨⟨⟨h1, h2⟩, h3⟩, h4⟩, h5⟩, h6⟩, h7⟩ := h
    rw [beq_iff_eq] at h3
    subst h3
    exact s_isi o h1 h2 h4 (of_decide_eq_true h5) h6 (S.e a (by omega) X sc o e h7)
  · rename_i f oo l eo x apos e es cpos
    simp only [C.me.sizeOf_spec] at hn
    obtain ⟨⟨⟨⟨⟨h1, h2⟩, h3⟩, h4⟩, h5⟩, h6⟩ := h
    exact s_me f h1 h2 (chkL_pl h6) (of_decide_eq_true h4) h3 (S.e oo (by omega) X sc o eo h5) (lV S o l (by omega) _ h6)
  · rename_i f i l y _ x apos e es cpos
    simp only [C.mu.sizeOf_spec] at hn
    obtain ⟨⟨⟨⟨⟨⟨h1, h2⟩, h3⟩, h4⟩, h5⟩, h6⟩, h7⟩ := h
    exact s_mu o f h1 h4 h5 h6 (chkL_pl h7) (of_decide_eq_true h3) h2 (lF S o l (by omega) _ h7)
  · rename_i f l kl x _ es kws _
    simp only [C.call.sizeOf_spec] at hn
    obtain ⟨⟨⟨⟨⟨h1, h2⟩, h3⟩, h4⟩, h5⟩, h6⟩ := h
    cases hk : kwNames kws with
    | none => rw [hk] at h2; cases h2
    | some ks =>
      rw [hk] at h1
      have hG := of_decide_eq_true h1
      have lk := lK S o kl (by omega) kws h6
      rw [kw_len hk] at lk
      exact s_call o hG hk h3 h4 (chkL_pl h5) (lV S o l (by omega) es h5) lk fun e => by subst e; exact chkL_nil h5
  · exact s_comp o (lComp S o hn h0)
  · rename_i l x _ y _ es _ _
    simp only [C.tupI.sizeOf_spec, C.rng.sizeOf_spec] at hn
    obtain ⟨⟨⟨⟨⟨h1, h2⟩, h3⟩, h4⟩, h5⟩, h6⟩ := h
    exact s_tupI o h1 h2 h3 h4 (lRg S o (by omega) (of_decide_eq_true h5) h6)
  · rename_i l x _ y _ es _ _
    simp only [C.lstI.sizeOf_spec, C.rng.sizeOf_spec] at hn
    obtain ⟨⟨⟨⟨⟨h1, h2⟩, h3⟩, h4⟩, h5⟩, h6⟩ := h
    exact s_lstI o h1 h2 h3 h4 (lRg S o (by omega) (of_decide_eq_true h5) h6)
  · cases h
theorem step_t (S : Snd E Γ k n) (c : C) (hn : sizeOf c < n + 1) (o : OkX E Γ k X sc) (ex : Expr) (h : chkT E c sc ex = true) : PT X ex (tT X.K (wpT Γ XF c)) := by
  rw [chkT.eq_def] at h
  split at h <;> try simp only [Bool.and_eq_true] at h
  · rename_i t e _
    simp only [C.not.sizeOf_spec] at hn
    exact s_notT (S.t t (by omega) X sc o e h)
  · rename_i l vs _
    simp only [C.and.sizeOf_spec] at hn
    exact s_andT (lA S o l (by omega) vs (by intro e; subst e; simp at h) h.1)
  · rename_i l vs _
    simp only [C.or.sizeOf_spec] at hn
    exact s_orT (lO S o l (by omega) vs (by intro e; subst e; simp at h) h.1)
  · rename_i op a b ea eop eb _
    simp only [C.tv.sizeOf_spec, C.cmp.sizeOf_spec] at hn
    obtain ⟨⟨⟨h1, h4⟩, h2⟩, h3⟩ := h
    cases of_decide_eq_true h1
    exact s_cmpT o op h4 (S.e a (by omega) X sc o ea h2) (S.e b (by omega) X sc o eb h3)
  · rename_i o1 o2 a b c ea e1 e2 eb ec _
    simp only [C.tv.sizeOf_spec, C.ch.sizeOf_spec] at hn
    obtain ⟨⟨⟨⟨⟨h1, h2⟩, h3⟩, h4⟩, h5⟩, h6⟩ := h
    cases of_decide_eq_true h1
    cases of_decide_eq_true h2
    exact s_chT o o1 o2 h3 (S.e a (by omega) X sc o ea h4) (S.e b (by omega) X sc o eb h5) (S.e c (by omega) X sc o ec h6)
  · rename_i i key x _ y _ _ _ _ _
    obtain ⟨⟨⟨h1, h2⟩, h3⟩, h4⟩ := h
    rw [beq_iff_eq] at h4
    subst h4
    exact s_nesT o h1 h2 h3
  · rename_i c _ _ _
    simp only [C.tv.sizeOf_spec] at hn
    exact s_tv h.1 (S.e c (by omega) X sc o _ h.2)
  · cases h
theorem snd_all : ∀ n, Snd E Γ k n
  | 0 => ⟨fun c h => by omega, fun c h => by omega⟩
  | n + 1 => ⟨fun c hn X sc o ex h => step_e (snd_all n) c hn o ex h, fun c hn X sc o ex h => step_t (snd_all n) c hn o ex h⟩
end

end Q
set_option Elab.async false
set_option linter.all false
set_option maxRecDepth 100000
set_option maxHeartbeats 2000000
/-! LQ: the checkers of statements tell the truth. -/
namespace Q
open PySem PySem.Spec PyProof.Rows L2

/-! ### statements -/
def swOk (sc : Scope) (ts : List Expr) : Expr → Bool
  | .Tuple vs _ _ => (!vs.all (constantsAlone 8) || vs.all (foldedForSure 8)) && (match swN sc ts vs with | none => true | _ => false)
  | _ => true
def locS (sc : Scope) (x : Str) : Bool := match sc.names.lookup x with
  | some .local => true
  | _ => false
mutual
def chkS (E : SE) : S → Scope → Stmt → Bool
  | .set i a, sc, .Assign [.Name x _] e _ => decide (E.N[i]? = some x) && tgtB sc sc x && chkE E a sc e
  | .setT tg a, sc, .Assign [.Tuple ts n1 pt] e _ => chkG E sc sc tg (.Tuple ts n1 pt) && swOk sc ts e && chkE E a sc e
  | .parL is l, sc, .Assign [.Tuple ts n1 pt] (.Tuple vs n2 pt2) _ => parT E sc is ts && decide (is.length ≤ 100) && swOk sc ts (.Tuple vs n2 pt2) && chkL E l sc vs
  | .par [i, j] l, sc, .Assign [.Tuple [.Name x px, .Name y py] _ _] (.Tuple [ea, eb] _ _) _ => decide (E.N[i]? = some x) && decide (E.N[j]? = some y) && decide (i ≠ j) && locS sc x && locS sc y && !([ea, eb].all (constantsAlone 8)) &&
      decide (swN sc [.Name x px, .Name y py] [ea, eb] = some [x, y]) && chkL E l sc [ea, eb]
  | .par [i, j, t] l, sc, .Assign [.Tuple [.Name x px, .Name y py, .Name z pz] _ _] (.Tuple [ea, eb, ec] _ _) _ => decide (E.N[i]? = some x) && decide (E.N[j]? = some y) && decide (E.N[t]? = some z) && decide (i ≠ j) && decide (i ≠ t) && decide (j ≠ t) && locS sc x && locS sc y && locS sc z &&
      !([ea, eb, ec].all (constantsAlone 8)) && decide (swN sc [.Name x px, .Name y py, .Name z pz] [ea, eb, ec] = some [x, y, z]) && chkL E l sc [ea, eb, ec]
  | .setIx i b a, sc, .Assign [.Subscript (.Name x _) eb _] e _ => decide (E.N[i]? = some x) && visB sc x && okX x && plainB eb && chkE E b sc eb && chkE E a sc e
  | .setQ is bs a, sc, .Assign [.Tuple ts n1 pt] e _ => tgQ E sc is bs ts && notLc e && swOk sc ts e && chkE E a sc e
  | .setSub i key b a, sc, .Assign [.Subscript (.Subscript (.Name x _) (.Constant (.str y) _ _) _) eb _] e _ => decide (E.N[i]? = some x) && visB sc x && okX x && y == key && plainB eb && chkQ E b sc eb && chkE E a sc e
  | .setK i key a, sc, .Assign [.Subscript (.Name x _) (.Constant (.str y) _ _) _] e _ => decide (E.N[i]? = some x) && visB sc x && okX x && y == key && chkE E a sc e
  | .aug i op a, sc, .AugAssign (.Name x _) eop e _ => decide (E.N[i]? = some x) && tgtB sc sc x && decide (eop = bopOf op) && chkE E a sc e
  | .augIx i op b a, sc, .AugAssign (.Subscript (.Name x _) eb _) eop e _ => decide (E.N[i]? = some x) && visB sc x && okX x && decide (eop = bopOf op) && plainB eb && chkE E b sc eb && chkE E a sc e
  | .ex a, sc, .Expr e _ => notLc e && chkE E a sc e
  | .ret a, sc, .Return (some e) _ => chkE E a sc e
  | .retN, _, .Return none _ => true
  | .ife t a b, sc, .If c sa sb _ => chkT E t sc c && chkB E a sc sa && chkB E b sc sb
  | .forS tg src body, sc, .For et ei sts [] _ => chkG E sc sc tg et && plainB ei && chkI E src sc et ei && chkB E body sc sts
  | .whl t body, sc, .While c sts [] _ => chkT E t sc c && chkB E body sc sts
  | .pass, _, .Pass _ => true
  | .brk, _, .Break _ => true
  | .cont, _, .Continue _ => true
  | .stop, _, _ => true
  | _, _, _ => false
def chkB (E : SE) : S → Scope → List Stmt → Bool
  | .nil, _, [] => true
  | .cons a as, sc, st :: sts => chkS E a sc st && chkB E as sc sts
  | _, _, _ => false
end
section
variable {E : SE} {Γ : List Spec} {k n : Nat} {X : Cx} {sc : Scope} {pos : Pos}
theorem locS_ok {x : Str} (h : locS sc x = true) : sc.names.lookup x = some .local := by
  unfold locS at h
  split at h
  · assumption
  · cases h
theorem aE (o : OkS E Γ k X sc) {c : C} {ex : Expr} (h : chkE E c sc ex = true) : PE X ex (tE X.K (wpE Γ XF c)) := (snd_all (sizeOf c + 1)).e c (Nat.lt_succ_self _) X sc o.x ex h
theorem aT (o : OkS E Γ k X sc) {c : C} {ex : Expr} (h : chkT E c sc ex = true) : PT X ex (tT X.K (wpT Γ XF c)) := (snd_all (sizeOf c + 1)).t c (Nat.lt_succ_self _) X sc o.x ex h
theorem aB {c : Bool} (h : (!c) = true) : c = false := by cases c <;> first | rfl | cases h
structure SndS (E : SE) (Γ : List Spec) (k n : Nat) : Prop where
  s : ∀ (c : S), sizeOf c < n → ∀ (X : Cx) (sc : Scope), OkS E Γ k X sc → ∀ st : Stmt, chkS E c sc st = true → ∀ lk, PS X st (tS X.K lk (wpS Γ XF lk c))
  b : ∀ (c : S), sizeOf c < n → ∀ (X : Cx) (sc : Scope), OkS E Γ k X sc → ∀ sts : List Stmt, chkB E c sc sts = true → ∀ lk, PSs X sts (tS X.K lk (wpS Γ XF lk c))
theorem step_s (T : SndS E Γ k n) (c : S) (hn : sizeOf c < n + 1) (o : OkS E Γ k X sc) (st : Stmt) (h : chkS E c sc st = true) (lk : List Nat) : PS X st (tS X.K lk (wpS Γ XF lk c)) := by
  rw [chkS.eq_def] at h
  split at h <;> try simp only [Bool.and_eq_true] at h
  · rename_i i a x _ e _
    obtain ⟨⟨h1, h2⟩, h3⟩ := h
    cases hl : notLc e with
    | true => exact z_set o h1 h2 hl (aE o h3)
    | false =>
      cases e <;> first | (simp [notLc] at hl; done) | skip
      all_goals (cases a <;> first | (simp [chkE] at h3; done) | skip)
      · rename_i ee gs scope pp own tg src ifs elt
        have h4 := h3
        rw [chkE.eq_def] at h4
        split at h4 <;> first | (rename_i e1 e2; cases e1; done) | skip
        all_goals first | (cases h4; done) | skip
        all_goals (first | (rename_i e1 e2; cases e1; cases e2) | skip)
        all_goals exact z_setLc o (lComp (snd_all (sizeOf (C.comp own tg src ifs elt))) o.x (Nat.lt_succ_self _) h3) h1 h2
      · rename_i ek ev gs scope pp own tg src ifs key val
        have h4 := h3
        rw [chkE.eq_def] at h4
        split at h4 <;> first | (rename_i e1 e2; cases e1; done) | skip
        all_goals first | (cases h4; done) | skip
        all_goals (first | (rename_i e1 e2; cases e1; cases e2) | skip)
        all_goals exact z_setDc o (lDcm (snd_all (sizeOf (C.dcm own tg src ifs key val))) o.x (Nat.lt_succ_self _) h3) h1 h2
  · rename_i tg a ts n1 pt e _
    obtain ⟨⟨h1, h2⟩, h3⟩ := h
    refine z_setT o h1 (aE o h3) ?_
    cases e <;> first | rfl | skip
    rename_i vs n2 q2
    simp only [swOk, Bool.and_eq_true, Bool.or_eq_true] at h2
    rw [sw_eq o (h2.1.imp aB id)]
    obtain ⟨_, h2⟩ := h2
    split at h2
    · rename_i e2; rw [e2]
    · cases h2
  · rename_i is l ts n1 pt vs n2 q2 _
    obtain ⟨⟨⟨h1, h2⟩, h3⟩, h4⟩ := h
    refine z_parL o h1 (of_decide_eq_true h2) ?_ (lD (snd_all (sizeOf l)) o.x l (Nat.lt_succ_self _) _ h4)
    simp only [swOk, Bool.and_eq_true, Bool.or_eq_true] at h3
    rw [sw_eq o (h3.1.imp aB id)]
    obtain ⟨_, h3⟩ := h3
    split at h3
    · rename_i e2; rw [e2]
    · cases h3
  · rename_i i j l x px y py _ _ ea eb _ _ _
    obtain ⟨⟨⟨⟨⟨⟨⟨h1, h2⟩, h3⟩, h4⟩, h5⟩, h6⟩, h7⟩, h8⟩ := h
    exact z_par2 o h1 h2 (of_decide_eq_true h3) (locS_ok h4) (locS_ok h5) (aB h6) (of_decide_eq_true h7) (lD (snd_all (sizeOf l)) o.x l (Nat.lt_succ_self _) _ h8)
  · rename_i i j t l x px y py z pz _ _ ea eb ec _ _ _
    obtain ⟨⟨⟨⟨⟨⟨⟨⟨⟨⟨⟨h1, h2⟩, h3⟩, h4⟩, h5⟩, h6⟩, h7⟩, h8⟩, h9⟩, h10⟩, h11⟩, h12⟩ := h
    exact z_par3 o h1 h2 h3 (of_decide_eq_true h4) (of_decide_eq_true h5) (of_decide_eq_true h6) (locS_ok h7) (locS_ok h8) (locS_ok h9) (aB h10) (of_decide_eq_true h11) (lD (snd_all (sizeOf l)) o.x l (Nat.lt_succ_self _) _ h12)
  · rename_i i b a x _ eb _ e _
    obtain ⟨⟨⟨⟨⟨h1, h2⟩, h3⟩, h4⟩, h5⟩, h6⟩ := h
    exact z_setIx o h1 h2 h3 h4 (aE o h5) (aE o h6)
  · rename_i is bs a ts n1 pt e _
    obtain ⟨⟨⟨h1, h2⟩, h3⟩, h4⟩ := h
    refine z_setQ o (fun c ex hc => aE o hc) h1 h2 h4 ?_
    cases e <;> first | rfl | skip
    rename_i vs n2 q2
    simp only [swOk, Bool.and_eq_true, Bool.or_eq_true] at h3
    rw [sw_eq o (h3.1.imp aB id)]
    obtain ⟨_, h3⟩ := h3
    split at h3
    · rename_i e2; rw [e2]
    · cases h3
  · rename_i i key b a x _ y _ _ _ eb _ e _
    obtain ⟨⟨⟨⟨⟨⟨h1, h2⟩, h3⟩, h4⟩, h5⟩, h6⟩, h7⟩ := h
    rw [beq_iff_eq] at h4
    subst h4
    exact z_setSub o h1 h2 h3 h5 h6 (aE o h7)
  · rename_i i key a x _ y _ _ _ e _
    obtain ⟨⟨⟨⟨h1, h2⟩, h3⟩, h4⟩, h6⟩ := h
    rw [beq_iff_eq] at h4
    subst h4
    exact z_setK o h1 h2 h3 (aE o h6)
  · rename_i i op a x _ eop e _
    obtain ⟨⟨⟨h1, h2⟩, h3⟩, h4⟩ := h
    cases of_decide_eq_true h3
    exact z_aug o h1 h2 (aE o h4)
  · rename_i i op b a x _ eb _ eop e _
    obtain ⟨⟨⟨⟨⟨⟨h1, h2⟩, h3⟩, h4⟩, h5⟩, h6⟩, h7⟩ := h
    cases of_decide_eq_true h4
    exact z_augIx o h1 h2 h3 h5 (aE o h6) (aE o h7)
  · exact z_ex h.1 (aE o h.2)
  · exact z_ret (aE o h)
  · exact z_retN
  · rename_i t a b cc sa sb _
    simp only [S.ife.sizeOf_spec] at hn
    obtain ⟨⟨h1, h2⟩, h3⟩ := h
    exact z_ife (aT o h1) (T.b a (by omega) X sc o sa h2 lk) (T.b b (by omega) X sc o sb h3 lk)
  · rename_i tg src body et ei sts _
    simp only [S.forS.sizeOf_spec] at hn
    obtain ⟨⟨⟨h1, h2⟩, h3⟩, h4⟩ := h
    exact z_forS o h1 h2 (lI (snd_all (sizeOf src)) o.x (Nat.lt_succ_self _) h3) (fun lk => T.b body (by omega) X sc o sts h4 lk)
  · rename_i t body cc sts _
    simp only [S.whl.sizeOf_spec] at hn
    exact z_whl o (aT o h.1) (T.b body (by omega) X sc o sts h.2 lk)
  · exact z_pass
  · exact z_brk
  · exact z_cont
  · exact z_stop
  · cases h
theorem step_b (T : SndS E Γ k n) (c : S) (hn : sizeOf c < n + 1) (o : OkS E Γ k X sc) (sts : List Stmt) (h : chkB E c sc sts = true) (lk : List Nat) : PSs X sts (tS X.K lk (wpS Γ XF lk c)) := by
  rw [chkB.eq_def] at h
  split at h
  · exact z_nil
  · rename_i a as st sts
    simp only [S.cons.sizeOf_spec] at hn
    exact z_cons (T.s a (by omega) X sc o st (ba h).1 lk) (T.b as (by omega) X sc o sts (ba h).2 lk)
  · cases h
theorem snd_S : ∀ n, SndS E Γ k n
  | 0 => ⟨fun c h => by omega, fun c h => by omega⟩
  | n + 1 => ⟨fun c hn X sc o ex h lk => step_s (snd_S n) c hn o ex h lk, fun c hn X sc o ex h lk => step_b (snd_S n) c hn o ex h lk⟩
theorem aS (o : OkS E Γ k X sc) {c : S} {sts : List Stmt} (h : chkB E c sc sts = true) (lk : List Nat) : PSs X sts (tS X.K lk (wpS Γ XF lk c)) := (snd_S (sizeOf c + 1)).b c (Nat.lt_succ_self _) X sc o sts h lk
end
end Q
set_option Elab.async false
set_option linter.all false
set_option maxRecDepth 100000
set_option maxHeartbeats 2000000
/-! LR: a def keeps what its code is worth. -/
namespace Q
open PySem PySem.Spec PyProof.Rows L2

section
variable {K : PySem.W.Frag} {H H' : Hp} {σ : L2.St} {F F' : List Addr} {δ : De}
theorem RS.blanks : ∀ n : Nat, RS K H (List.replicate n none) (List.replicate n none) []
  | 0 => .nil
  | n + 1 => .no (RS.blanks n)
theorem RS.starts {m : Nat} : ∀ {vs : List V} {ms : List M} {F : List Addr}, RMs K H vs ms F → RS K H (vs.map some ++ List.replicate m none) (ms.map some ++ List.replicate m none) F
  | _, _, _, .nil => RS.blanks m
  | _, _, _, .cons a b => .so a (RS.starts b)
/-- what the arguments are at the end -/
theorem outs_ok (s : Still H H') : ∀ {vs : List V} {ms : List M} {F : List Addr}, RMs K H vs ms F → ∀ {σ : L2.St} {δ : De} {F' : List Addr} {os : List M} (i : Nat), RS K H' σ δ F' → F'.Nodup → outs ms δ = some os →
    (∀ j, i + j ∈ lockOf i ms → σ[j]? = (vs.map some)[j]?) → ∃ G, RMs K H' vs os G ∧ G.Nodup ∧ ∀ a ∈ G, a ∈ F'
  | _, _, _, .nil, σ, δ, F', os, i, st, nd, e, h => by
    simp only [outs, Option.some.injEq] at e
    subst e
    exact ⟨[], .nil, .nil, fun _ h => by cases h⟩
  | _, _, _, .cons (v := v) (m := m) (vs := vs) (ms := ms) a b, σ, δ, F', os, i, st, nd, e, h => by
    have rest : ∀ {σ' δ' G' os'}, RS K H' σ' δ' G' → G'.Nodup → outs ms δ' = some os' → (∀ j, σ'[j]? = σ[j + 1]?) → (∀ x ∈ lockOf (i + 1) ms, x ∈ lockOf i (m :: ms)) → ∃ G, RMs K H' vs os' G ∧ G.Nodup ∧ ∀ a ∈ G, a ∈ G' := fun st' nd' e' hs hl =>
      outs_ok s b (i + 1) st' nd' e' fun j hj => by
        have := h (j + 1) (by have := hl _ hj; rw [show i + (j + 1) = i + 1 + j by omega]; exact this)
        rw [hs, this]; rfl
    -- one place taken off
    have tl : ∃ (σ' : L2.St) (δ' : De) (Gh Gt : List Addr), F' = Gh ++ Gt ∧ δ.tail = δ' ∧ RS K H' σ' δ' Gt ∧ (∀ j, σ'[j]? = σ[j + 1]?) ∧ ∀ m', (δ.head?).getD none = some m' → ∃ v', σ[0]? = some (some v') ∧ RM K H' v' m' Gh := by
      cases st with
      | nil => exact ⟨[], [], [], [], rfl, rfl, .nil, fun j => rfl, fun m' e => by simp at e⟩
      | no st => exact ⟨_, _, [], _, rfl, rfl, st, fun j => rfl, fun m' e => by simp at e⟩
      | so rm st => exact ⟨_, _, _, _, rfl, rfl, st, fun j => rfl, fun m' e => by simp at e; subst e; exact ⟨_, rfl, rm⟩⟩
    obtain ⟨σ', δ', Gh, Gt, rfl, rfl, st', hs, hd⟩ := tl
    have own : (m.isP = false) → (∀ x ∈ lockOf (i + 1) ms, x ∈ lockOf i (m :: ms)) ∧ i ∈ lockOf i (m :: ms) := fun hm => by
      cases m with
      | p d => cases hm
      | l _ => exact ⟨fun x hx => List.mem_cons_of_mem _ hx, List.mem_cons_self ..⟩
      | dc _ => exact ⟨fun x hx => List.mem_cons_of_mem _ hx, List.mem_cons_self ..⟩
    have owned : m.isP = false → (match (δ.head?).getD none, outs ms δ.tail with | some m, some r => some (m :: r) | _, _ => none) = some os → ∃ G, RMs K H' (v :: vs) os G ∧ G.Nodup ∧ ∀ a ∈ G, a ∈ Gh ++ Gt := fun hm e => by
      split at e
      · rename_i m' r e1 e2
        cases e
        obtain ⟨v', ev, rm⟩ := hd m' e1
        obtain ⟨hl, hi⟩ := own hm
        have := h 0 (by simpa using hi)
        rw [ev] at this
        simp only [List.map_cons, List.getElem?_cons_zero, Option.some.injEq] at this
        subst this
        obtain ⟨G, g1, g2, g3⟩ := rest st' (nd_right nd) e2 hs hl
        exact ⟨Gh ++ G, .cons rm g1, nd_mk (nd_left nd) g2 fun x hx hy => nd_apart nd hx (g3 x hy), fun x hx => (List.mem_append.mp hx).elim (List.mem_append_left _) fun hx => List.mem_append_right _ (g3 x hx)⟩
      · cases e
    cases m with
    | p d =>
      simp only [outs, Option.map_eq_some_iff] at e
      obtain ⟨r, e1, rfl⟩ := e
      obtain ⟨G, g1, g2, g3⟩ := rest st' (nd_right nd) e1 hs (fun x hx => hx)
      cases a with
      | p rp => exact ⟨[] ++ G, .cons (.p (rp.still s)) g1, g2, fun x hx => List.mem_append_right _ (g3 x hx)⟩
    | l ds => exact owned rfl e
    | dc kvs => exact owned rfl e
theorem outs_set {i : Nat} : ∀ {ms : List M} {δ : De} {j : Nat}, ms.length ≤ j → outs ms (δ.set j none) = outs ms δ
  | [], _, _, _ => rfl
  | .p d :: ms, δ, j + 1, h => by
    cases δ with
    | nil => rfl
    | cons x δ => 
      simp only [outs, List.set_cons_succ, List.tail_cons]
      rw [outs_set (i := i) (by simpa using h)]
  | .l d :: ms, δ, j + 1, h => by
    cases δ with
    | nil => rfl
    | cons x δ => 
      simp only [outs, List.set_cons_succ, List.tail_cons, List.head?_cons]
      rw [outs_set (i := i) (by simpa using h)]
  | .dc d :: ms, δ, j + 1, h => by
    cases δ with
    | nil => rfl
    | cons x δ => 
      simp only [outs, List.set_cons_succ, List.tail_cons, List.head?_cons]
      rw [outs_set (i := i) (by simpa using h)]
  | _ :: _, _, 0, h => by simp at h
end
theorem fn_ofG {P : Program} {w : World} {K : PySem.W.Frag} {mg : Str → Option Value} {base : Heap} {k : Nat} {f : Addr} {name qual : Str} {params : Arguments} {body : List Stmt} {scope : Scope} {dV kV doc pm cdv ct oc : Value} {an od : Option Addr}
    {osl : Array (Option Value)} {N ps : List Str} {sp : SpV} (lk : K.lookup f = some ⟨oc, od, .func (PySem.W.fnOf name qual params body scope dV kV doc pm an cdv ct), osl⟩) (hcd : PySem.W.codeIn K cdv qual = true) (S : FnScope N ps scope)
    (len : ∀ vs H Q, sp vs H Q → vs.length = ps.length)
    (hbody : ∀ (A : Around) (outer : List Env) (s : Shared) (H : Hp) (vs : List V) (Q : VK), Room k (A.deeper (envOfC qual scope s.heap.objs.size f cdv)) → A.guards = some [] → sp vs H Q →
      ∃ t, PSs (cxOf CX0 P w K mg base N qual scope f cdv A outer s H (fun _ _ _ => False)) body t ∧ t { nx := fun _ H' => Q .non H', rt := Q } (L2.start N vs) H) :
    FnOkG P w K mg base (k + 1) f (PySem.W.fnOf name qual params body scope dV kV doc pm an cdv ct) ps sp := by
  refine ⟨len, fun A outer s H args us vs Q room hgd ev bind rel want => ?_⟩
  have lenV := len _ _ _ want
  have KI : K.In s.heap := ev.mod.kin.keeps fun b o e => (ev.bs b o e).1
  have NL : s.heap.NoLimit := ev.mod.nolimit.keeps fun b o e => (ev.bs b o e).1
  have kinds : ∀ y ∈ ps.zip us, scope.names.lookup y.1 = some .local ∨ (scope.names.lookup y.1 = some .cell ∧ ((cellsFrom (s.heap.objs.size + 1) scope.names []).lookup y.1).isSome = true) := fun y hy =>
    (S.par y.1 (List.of_mem_zip (show (y.1, y.2) ∈ _ from hy)).1).imp id fun q => ⟨q, PySem.W.cellsFrom_some _ _ _ (.inl q)⟩
  refine codeAny_call_function room.depth (KI _ _ lk) rfl S.co S.gen rfl (PySem.W.codeRec_of KI hcd) (bind _ _ _ _ ?_)
  refine wpAny_newFunctionEnv_cells S.kind kinds fun env ee s1 x => ?_
  subst ee
  refine ⟨NL.keeps x.toInCall.keep, codeAny_func ?_⟩
  obtain ⟨t, walk, goal⟩ := hbody A outer s H vs Q (room.deeper _) hgd want
  have I0 : Inv (cxOf CX0 P w K mg base N qual scope f cdv A outer s H (fun _ _ _ => False)) [] (L2.start N vs) H s1 := inv_start S room.hd ev lenV rel x
  refine wpAny_mono (walk.run [] s1 (L2.start N vs) H _ I0 goal) (fun fl s2 after => ?_) fun _ _ z => z
  match fl, after with
  | .ret u, ⟨v, _, H2, J, rv, q⟩ => exact ⟨v, H2, J.os, J.bare, J.base, J.hok, rv, q⟩
  | .next, ⟨_, H2, J, q⟩ => exact ⟨V.non, H2, J.os, J.bare, J.base, J.hok, rfl, q⟩
  | .brk, ⟨_, _, _, q⟩ => exact False.elim q
  | .cont, ⟨_, _, _, q⟩ => exact False.elim q
/-- what a def's worth is, over the heap -/
theorem body_goal {K : PySem.W.Frag} {Γ : List Spec} {N : List Str} {c : S} {H : Hp} {vs : List V} {ms : List M} {F : List Addr} {Kc : M → List M → Prop} {Q : VK} (hN : ms.length ≤ N.length) (rm : RMs K H vs ms F) (nd : F.Nodup) (hw : wpFn Γ N.length c ms Kc (fun _ _ => False))
    (hq : ∀ r os v H' F' Fr, Kc r os → RM K H' v r Fr → RMs K H' vs os F' → (Fr ++ F').Nodup → Keep H H' F → Fresh H F (Fr ++ F') → Q v H') :
    tS K (lockOf 0 ms) (wpS Γ XF (lockOf 0 ms) c) { nx := fun _ H' => Q .non H', rt := Q } (L2.start N vs) H := by
  unfold wpFn at hw
  have ee : (fun (e : Exn) (δ : De) => ∃ os, outs ms δ = some os ∧ (fun (_ : Exn) (_ : List M) => False) e os) = XF := by
    funext e δ
    exact propext ⟨fun ⟨_, _, h⟩ => h, fun h => h.elim⟩
  rw [ee] at hw
  have es : L2.start N vs = vs.map some ++ List.replicate (N.length - ms.length) none := by unfold L2.start; rw [rm.length]
  have st : RS K H (L2.start N vs) (startD N.length ms) F := by rw [es]; exact RS.starts rm
  have at0 : ∀ j, j ∈ lockOf 0 ms → j < ms.length := by
    have : ∀ (ms : List M) (i j : Nat), j ∈ lockOf i ms → j < i + ms.length := by
      intro ms
      induction ms with
      | nil => intro i j h; simp [lockOf] at h
      | cons m ms ih =>
        intro i j h
        have go : j ∈ lockOf (i + 1) ms → j < i + (ms.length + 1) := fun h => by have := ih (i + 1) j h; omega
        cases m with
        | p d => exact go h
        | l _ => rcases List.mem_cons.mp h with rfl | h
                 · simp only [List.length_cons]; omega
                 · exact go h
        | dc _ => rcases List.mem_cons.mp h with rfl | h
                  · simp only [List.length_cons]; omega
                  · exact go h
    intro j h; simpa using this ms 0 j h
  have fin : ∀ {σ' H' δ' F' os}, RS K H' σ' δ' F' → F'.Nodup → Still H H' → outs ms δ' = some os → (∀ j ∈ lockOf 0 ms, σ'[j]? = (L2.start N vs)[j]?) → ∃ G, RMs K H' vs os G ∧ G.Nodup ∧ ∀ a ∈ G, a ∈ F' := fun {σ' H' δ' F' os} s1 n1 sl e hl =>
    outs_ok sl rm 0 s1 n1 e fun j hj => by
      rw [Nat.zero_add] at hj
      rw [hl j hj, es, List.getElem?_append_left (by rw [List.length_map, rm.length]; exact at0 j hj)]
  refine ⟨startD N.length ms, F, _, st, nd, hw, fun δ' σ' H' F' kn r => ?_, fun x δ' σ' v H' F' Fv kr r => ?_, fun _ _ _ _ k _ => k, fun _ _ _ _ k _ => k⟩
  · obtain ⟨os, e, kc⟩ := kn
    obtain ⟨G, g1, g2, g3⟩ := fin r.rx.st (nd_right r.rx.nd) (r.rx.kp.still st.owns) e r.lk
    exact hq _ _ _ _ G [] kc (.p .non) g1 g2 r.rx.kp fun a ha => r.rx.fr a (by simpa using g3 a (by simpa using ha))
  · cases x with
    | own m =>
      obtain ⟨os, e, kc⟩ := (show ∃ os, outs ms δ' = some os ∧ Kc m os from kr)
      obtain ⟨G, g1, g2, g3⟩ := fin r.rx.st (nd_right r.rx.nd) (r.rx.kp.still st.owns) e r.lk
      exact .inl (hq _ _ _ _ G Fv kc r.rx.vl.one' g1 (nd_mk (nd_left r.rx.nd) g2 fun a ha hb => nd_apart r.rx.nd ha (g3 a hb)) r.rx.kp fun a ha => r.rx.fr a ((List.mem_append.mp ha).elim (List.mem_append_left _) fun h => List.mem_append_right _ (g3 a h)))
    | «at» i =>
      simp only [retV] at kr
      split at kr
      · refine frz_ok (Q := Q) r.rx kr fun d δ2 H2 F2 p rp rx => ?_
        obtain ⟨os, e, kc⟩ := p
        obtain ⟨G, g1, g2, g3⟩ := fin rx.st (nd_right rx.nd) (rx.kp.still st.owns) e r.lk
        exact hq _ _ _ _ G [] kc (.p rp) g1 g2 rx.kp fun a ha => rx.fr a (by simpa using g3 a (by simpa using ha))
      · rename_i hi
        obtain ⟨m, e1, os, e, kc⟩ := kr
        obtain ⟨ev, rfl⟩ := (show σ'[i]? = some (some v) ∧ Fv = [] from r.rx.vl.one')
        obtain ⟨Fm, R, pm, g, z, up⟩ := r.rx.st.upd i (getD_lt e1)
        obtain ⟨v', ev', rmm⟩ := g m e1
        rw [ev] at ev'; cases ev'
        have n1 : (Fm ++ R).Nodup := pm.nodup_iff.mp (by simpa using r.rx.nd)
        obtain ⟨G, g1, g2, g3⟩ := fin z (nd_right n1) (r.rx.kp.still st.owns) (by rw [outs_set (i := i) (by omega)]; exact e) r.lk
        exact .inl (hq _ _ _ _ G Fm kc rmm g1 (nd_mk (nd_left n1) g2 fun a ha hb => nd_apart n1 ha (g3 a hb)) r.rx.kp fun a ha => r.rx.fr a (by
          simpa using pm.mem_iff.mpr ((List.mem_append.mp ha).elim (List.mem_append_left _) fun h => List.mem_append_right _ (g3 a h))))
/-- what is known of the text's names where defs run -/
structure Tab (P : Program) (w : World) (K : PySem.W.Frag) (mg : Str → Option Value) (base : Heap) (k : Nat) (E : SE) (Γ : List Spec) : Prop where
  dig : base.NoDigits
  blt : ∀ x ∈ bltNames, mg x = none
  con : ∀ p ∈ E.C, ∃ u v, mg p.1 = some u ∧ RelV v u ∧ RP K (fun _ => none) v p.2
  calls : ∀ (f : Nat) (x : Str) (n : Nat) (ks : List Str), E.G[f]? = some (x, n, ks) → ∃ sp, Γ[f]? = some sp ∧ CallOk P w K mg base k x n ks sp
/-- THE RULE of a def -/
theorem fn_Q {P : Program} {w : World} {K : PySem.W.Frag} {mg : Str → Option Value} {base : Heap} {k : Nat} {f : Addr} {name qual : Str} {params : Arguments} {body : List Stmt} {scope : Scope} {dV kV doc pm cdv ct oc : Value} {an od : Option Addr}
    {osl : Array (Option Value)} {E : SE} {Γ : List Spec} {ps : List Str} {c : S} {sp : Spec} (lk : K.lookup f = some ⟨oc, od, .func (PySem.W.fnOf name qual params body scope dV kV doc pm an cdv ct), osl⟩) (hcd : PySem.W.codeIn K cdv qual = true) (S : FnScope E.N ps scope)
    (tb : Tab P w K mg base k E Γ) (hc : chkB E c scope body = true) (hs : ∀ ms Kc, ms.length = ps.length → sp ms Kc (fun _ _ => False) → wpFn Γ E.N.length c ms Kc (fun _ _ => False)) :
    FnOkG P w K mg base (k + 1) f (PySem.W.fnOf name qual params body scope dV kV doc pm an cdv ct) ps (liftSp K ps.length sp) := by
  refine fn_ofG lk hcd S (fun vs H Q ⟨ms, F, Kc, hl, rm, _⟩ => rm.length.trans hl) fun A outer s H vs Q room hgd ⟨ms, F, Kc, hl, rm, nd, hsp, hq⟩ => ?_
  have hN : ps.length ≤ E.N.length := by have := congrArg List.length S.pre; rw [List.length_take] at this; omega
  refine ⟨_, aS (k := k) (E := E) (sc := scope) ⟨⟨rfl, S.nd, rfl, rfl, room, ?_, tb.dig, tb.blt, tb.con, tb.calls⟩, passes_of rfl, S.kind, fun _ _ => rfl⟩ hc (lockOf 0 ms), body_goal (by omega) rm nd (hs ms Kc hl hsp) hq⟩
  exact hgd
end Q
set_option Elab.async false
set_option linter.all false
set_option maxRecDepth 100000
set_option maxHeartbeats 2000000
/-! LS: the law's own call. -/
namespace Q
open PySem PySem.Spec PyProof.Rows L2

theorem script_rp {K : PySem.W.Frag} {H : Hp} : ∀ ns : List Int, RPs K H (ns.map V.int) (ns.map PyData.int)
  | [] => .nil
  | n :: ns => .cons (.int n) (script_rp ns)
theorem call_lawG {P : Program} {w : World} {K : PySem.W.Frag} {mg mb : Str → Option Value} {k : Nat} {fa a : Addr} {fd : FuncData} {x : Str} {sp : Spec} {s₁ : Shared} {vs : List Value} {ns : List Int}
    (inK : K.In s₁.heap) (nsM : s₁.heap.Ns mainGlobals mg) (nsB : s₁.heap.Ns builtinsNs mb) (boot : ∀ x : Str, x ≠ "__name__" → mb x = bootBuiltins x) (noLim : s₁.heap.NoLimit) (noGen : s₁.gens = #[])
    (objA : s₁.heap.get? a = some { cls := .type "list", data := .seq vs.toArray }) (allI : IntsAre vs ns) (short : ns.length ≤ sizeLine) (room : Room k callerA) (gds : callerA.guards = some [])
    (noDig : s₁.heap.NoDigits) (F : ∀ base : Heap, K.In base → base.Ns mainGlobals mg → base.NoDigits → FnOkG P w K mg base k fa fd [x] (liftSp K 1 sp)) (bind : ∀ (s : Shared) (u : Value), BindsTo s fd ⟨[u], []⟩ [(x, u)])
    (tell : ∀ Kc : M → List M → Prop, (∀ os, Kc (.p (.bool true)) os) → sp [.p (.list (ns.map PyData.int))] Kc (fun _ _ => False)) :
    codeAny (model P w) callerA (.call (.ref fa) ⟨[.ref a], []⟩) (fun r s' => r = .ok (.ret (.bool true)) ∧ OldK s₁.heap s'.heap ∧ s'.os = s₁.os ∧ AllBare s'.gens) s₁ := by
  have vals := vals_ints allI
  have size := allI.length
  -- over any abstract heap that holds the script alone
  have go : ∀ H : Hp, Only H → SqZ K H a (ns.map V.int) → HOk P w H s₁.heap → (∀ b, H b ≠ none → b = a) → (H a ≠ none → K.lookup a = none) →
      codeAny (model P w) callerA (.call (.ref fa) ⟨[.ref a], []⟩) (fun r s' => r = .ok (.ret (.bool true)) ∧ OldK s₁.heap s'.heap ∧ s'.os = s₁.os ∧ AllBare s'.gens) s₁ := by
    intro H only sq hok one off
    have getB : ∀ {b : Addr} {o : Obj}, s₁.heap.get? b = some o → H b = none → (hidT s₁.heap H).get? b = some o := fun e z => hidT_get e z
    have free : ∀ b : Addr, b ≠ a → H b = none := fun b hb => by
      cases z : H b with
      | none => rfl
      | some u => exact absurd (one b (by rw [z]; simp)) hb
    have dictFree : ∀ {b : Addr} {o : Obj} {es : Array DictEntry} {ep : Nat}, s₁.heap.get? b = some o → o.data = .dict es ep → H b = none := fun {b o es ep} e d => by
      refine free b fun z => ?_
      subst z
      rw [objA] at e; cases e
      have d' : Data.seq vs.toArray _ = Data.dict es ep := d
      cases d'
    have nsOf : ∀ {b : Addr} {m : Str → Option Value}, s₁.heap.Ns b m → (hidT s₁.heap H).Ns b m := fun {b m} ⟨o, es, ep, e, d, r⟩ => ⟨o, es, ep, getB e (dictFree e d), d, r⟩
    have inB : K.In (hidT s₁.heap H) := fun b o e => getB (inK b o e) (by
      by_cases z : b = a
      · subst z
        cases y : H b with
        | none => rfl
        | some u => rw [off (by rw [y]; simp)] at e; cases e
      · exact free b z)
    have mod : Mod K mg (hidT s₁.heap H) := ⟨inB, nsOf nsM, ⟨mb, nsOf nsB, boot⟩, let ⟨mc, h1, h2⟩ := noLim; ⟨mc, nsOf h1, h2⟩⟩
    have env : Env0 P w K mg (hidT s₁.heap H) callerA [] s₁ H := ⟨rfl, mod, fun b o e => of_hidT e, Nat.le_of_eq (hidT_size _ _), trivial, fun b hb => absurd (show b ∈ ([] : List Addr) from hb) (by simp), hok, .of_eq noGen⟩
    have want : liftSp K 1 sp [.ref a] H (fun v _ => v = .bl true) := ⟨[.p (.list (ns.map PyData.int))], [] ++ [], fun r _ => r = .p (.bool true), rfl, .cons (.p (.lst sq (script_rp ns))) .nil, .nil, tell _ fun _ => rfl, fun r os v H' F' Fr e rm _ _ _ _ => by
      subst e
      exact rm.pB⟩
    refine codeAny_mono ((F _ inB (nsOf nsM) (let ⟨mc, h1, h2⟩ := noDig; ⟨mc, nsOf h1, h2⟩)).run callerA [] s₁ H ⟨[.ref a], []⟩ [.ref a] [.ref a] _ room gds env (bind s₁ (.ref a)) (.cons rfl .nil) want) fun r s' h => ?_
    match r, h with
    | .ok (.ret u), h =>
      obtain ⟨v, H', os, bare, un, hok', rel, q⟩ := h
      obtain rfl : v = .bl true := q
      obtain rfl : u = Value.bool true := rel
      refine ⟨rfl, OldK.of_keep fun b o e => ?_, os, bare⟩
      cases z : H b with
      | none => exact un.keep b o e z (by intro y; exact absurd (show b ∈ ([] : List Addr) from y) (by simp)) (by simp)
      | some u =>
        rcases only b with y | ⟨ob, xs, y⟩
        · rw [z] at y; cases y
        · obtain ⟨e1, _⟩ := hok b _ y
          obtain ⟨e2, _⟩ := hok' b _ (un.frzs b ob _ y)
          rw [e] at e1; cases e1
          exact e2
    | .ok .next, h => exact False.elim h
    | .ok .brk, h => exact False.elim h
    | .ok .cont, h => exact False.elim h
    | .error e, h => exact False.elim h
  cases hk : K.lookup a with
  | some o =>
    have e := inK a o hk
    rw [objA] at e
    cases e
    exact go (fun _ => none) (fun _ => .inl rfl) (.inr ⟨_, vs.toArray, _, hk, rfl, rfl, rfl, by rw [List.size_toArray, size]; exact short, by simpa using vals⟩) (fun b u z => by have z' : (none : Option HO) = some u := z; cases z') (fun b z => absurd rfl z) fun z => absurd rfl z
  | none =>
    have at_ : ∀ b, (fun b => if b = a then some (HO.frz { cls := .type "list", data := .seq vs.toArray } (.lst (ns.map V.int))) else none) b = if b = a then some (HO.frz { cls := .type "list", data := .seq vs.toArray } (.lst (ns.map V.int))) else none := fun b => rfl
    refine go (fun b => if b = a then some (.frz { cls := .type "list", data := .seq vs.toArray } (.lst (ns.map V.int))) else none) (fun b => ?_) (.inl ⟨{ cls := .type "list", data := .seq vs.toArray }, if_pos rfl⟩) (fun b u z => ?_) (fun b z => ?_) fun _ => hk
    · by_cases hb : b = a
      · exact .inr ⟨_, _, if_pos hb⟩
      · exact .inl (if_neg hb)
    · by_cases hb : b = a
      · have z' := (if_pos hb).symm.trans z
        cases z'
        subst hb
        exact ⟨objA, by rw [List.length_map]; exact short, vs, _, vals, objA⟩
      · cases (if_neg hb).symm.trans z
    · by_cases hb : b = a
      · exact hb
      · exact absurd (if_neg hb) z
theorem walk_ofG {l : PySem.W.OpenLaw} {n k : Nat} {q : Program} {loose : List Str} {XP : (Str → Option Value) → Heap → Prop} {YP : World → Heap → Prop} {d : DefRec} {x : Str}
    (hn : l.most = some n) (hn2 : n ≤ sizeLine) (hdf : d.params.defaults = []) (room : Room k callerA) (gds : callerA.guards = some [])
    (F : ∀ (w : World) (mg : Str → Option Value) (fa : Addr) (h : Heap), YP w h → h.Ns mainGlobals mg → mg d.name = some (.ref fa) →
      ∃ (K : PySem.W.Frag) (fd : FuncData) (sp : Spec), K.In h ∧ (∀ (s : Shared) (u : Value), BindsTo s fd ⟨[u], []⟩ [(x, u)]) ∧
        (∀ (ns : List Int) (Kc : M → List M → Prop), ns.length ≤ n → (∀ z ∈ ns, Builtin.Int.intBits z ≤ 1048576) → (∀ os, Kc (.p (.bool true)) os) → sp [.p (.list (ns.map PyData.int))] Kc (fun _ _ => False)) ∧
        ∀ base : Heap, K.In base → base.Ns mainGlobals mg → base.NoDigits → FnOkG l.prog w K mg base k fa fd [x] (liftSp K 1 sp)) :
    PySem.W.WalkO q loose XP YP l.row.toRowW d [] (fun f vs => PySem.call f vs) := by
  refine Att.attach_callB hn hdf fun w s₀ s₁ mg mb fa o pm cd doc a vs ns G Y ho hd hcd hmg hobj hints hlen hbits hg => ?_
  obtain ⟨K, fd, sp, KX, hb, hsp, hF⟩ := F w mg fa _ Y G.T.g hmg
  exact call_lawG KX G.T.g G.T.b G.T.builtins G.T.nolimit hg hobj hints (Nat.le_trans hlen hn2) room gds G.T.nodigits hF hb fun Kc hK => hsp ns Kc hlen hbits hK
/-- a def by its datum -/
theorem fn_D {P : Program} {w : World} {K : PySem.W.Frag} {mg : Str → Option Value} {base : Heap} {k : Nat} {f : Addr} {fd : FuncData} {x qual : Str} {params : Arguments} {body : List Stmt} {scope : Scope} {dvs : List V} {kws : List (Str × V)}
    {E : SE} {Γ : List Spec} {ps : List Str} {c : S} {sp : Spec} (F : FunD K x qual params body scope dvs kws f fd) (S : FnScope E.N ps scope) (tb : Tab P w K mg base k E Γ) (hc : chkB E c scope body = true)
    (hs : ∀ ms Kc, ms.length = ps.length → sp ms Kc (fun _ _ => False) → wpFn Γ E.N.length c ms Kc (fun _ _ => False)) : FnOkG P w K mg base (k + 1) f fd ps (liftSp K ps.length sp) := by
  obtain ⟨oc, od, dV, kV, doc, pm, an, cdv, ct, osl, rfl, lk, hcd, _, _⟩ := F.ex
  exact fn_Q lk hcd S tb hc hs
theorem FnOkG.mono {P : Program} {w : World} {K : PySem.W.Frag} {mg : Str → Option Value} {base : Heap} {j k : Nat} {f : Addr} {fd : FuncData} {ps : List Str} {sp : SpV} (F : FnOkG P w K mg base j f fd ps sp) (h : j ≤ k) : FnOkG P w K mg base k f fd ps sp :=
  ⟨F.len, fun A outer s H args us vs Q hr => F.run A outer s H args us vs Q (hr.mono h)⟩
/-- a call by place -/
theorem CallOk.pos {P : Program} {w : World} {K : PySem.W.Frag} {mg : Str → Option Value} {base : Heap} {k n : Nat} {x : Str} {f : Addr} {fd : FuncData} {ps : List Str} {sp : Spec} (hm : mg x = some (.ref f)) (hk : PySem.W.keepIn K (.ref f) = true) (F : FnOkG P w K mg base k f fd ps (liftSp K n sp)) (hn : ps.length = n) (hb : Binds K fd ps []) :
    CallOk P w K mg base k x n [] sp := by
  subst hn
  refine ⟨f, fd, ps, fun us _ => us, fun vs _ => vs, liftSp K ps.length sp, hm, hk, F, ⟨fun s us ws hK hl _ => ?_, fun r _ => r⟩, fun vs zs H Q l1 l2 h => ?_⟩
  · have := hb s us hK (by rw [List.append_nil]; exact hl)
    rw [List.append_nil] at this
    exact this
  · cases zs with
    | nil => rw [List.append_nil] at h; exact h
    | cons _ _ => cases l2
/-- what a call with keywords promises, all its values pure -/
def kwSp (n m : Nat) (g : List PyData → List PyData → List PyData) (sp : Spec) : Spec := fun ms Kc X => ∃ ds es, ms = (ds ++ es).map M.p ∧ ds.length = n ∧ es.length = m ∧ sp ((g ds es).map M.p) (fun r _ => Kc r ms) (fun e _ => X e ms)
theorem RMs.pure {K : PySem.W.Frag} {H : Hp} : ∀ {vs : List V} {ds : List PyData} {F : List Addr}, RMs K H vs (ds.map M.p) F → F = [] ∧ RPs K H vs ds
  | _, [], _, h => by cases h; exact ⟨rfl, .nil⟩
  | _, d :: ds, _, h => by
    cases h with
    | cons a b =>
      cases a with
      | p r =>
        obtain ⟨e, q⟩ := RMs.pure b
        subst e
        exact ⟨rfl, .cons r q⟩
theorem RPs.rms {K : PySem.W.Frag} {H : Hp} : ∀ {vs : List V} {ds : List PyData}, RPs K H vs ds → RMs K H vs (ds.map M.p) []
  | _, _, .nil => .nil
  | _, _, .cons a b => .cons (F := []) (.p a) b.rms
theorem RPs.split {K : PySem.W.Frag} {H : Hp} : ∀ {vs zs : List V} {ds es : List PyData}, vs.length = ds.length → RPs K H (vs ++ zs) (ds ++ es) → RPs K H vs ds ∧ RPs K H zs es
  | [], _, [], _, _, h => ⟨.nil, h⟩
  | v :: vs, zs, d :: ds, es, l, .cons a b => by
    obtain ⟨p, q⟩ := RPs.split (by simpa using l) b
    exact ⟨.cons a p, q⟩
  | [], _, _ :: _, _, l, _ => by simp at l
  | _ :: _, _, [], _, l, _ => by simp at l
theorem CallOk.kw {P : Program} {w : World} {K : PySem.W.Frag} {mg : Str → Option Value} {base : Heap} {k n : Nat} {x : Str} {f : Addr} {fd : FuncData} {ps ks : List Str} {sp : Spec} {g : List Value → List Value → List Value} {gV : List V → List V → List V} {gD : List PyData → List PyData → List PyData}
    (hm : mg x = some (.ref f)) (hk : PySem.W.keepIn K (.ref f) = true) (F : FnOkG P w K mg base k f fd ps (liftSp K ps.length sp)) (hb : KBn K fd ps n ks g gV)
    (hg : ∀ {H : Hp} {vs zs : List V} {ds es : List PyData}, RPs K H vs ds → RPs K H zs es → ds.length = n → es.length = ks.length → RPs K H (gV vs zs) (gD ds es)) (hl : ∀ ds es : List PyData, ds.length = n → es.length = ks.length → (gD ds es).length = ps.length) :
    CallOk P w K mg base k x n ks (kwSp n ks.length gD sp) := by
  refine ⟨f, fd, ps, g, gV, liftSp K ps.length sp, hm, hk, F, hb, fun vs zs H Q l1 l2 ⟨ms, F0, Kc, lm, rm, nd, ⟨ds, es, e, d1, d2, hsp⟩, hq⟩ => ?_⟩
  subst e
  obtain ⟨rfl, rp⟩ := rm.pure
  obtain ⟨r1, r2⟩ := RPs.split (by omega) rp
  refine ⟨(gD ds es).map M.p, [], _, by rw [List.length_map]; exact hl ds es d1 d2, (hg r1 r2 d1 d2).rms, .nil, hsp, fun r os v H' F' Fr kc rv ro n2 kp fr => ?_⟩
  have st : Still H H' := kp.still fun x hx => by cases hx
  exact hq r _ v H' [] Fr kc rv (rp.still st).rms (by rw [List.append_nil]; exact nd_left n2) kp fun a ha => fr a (List.mem_append_left _ (by simpa using ha))
end Q
set_option Elab.async false
set_option linter.all false
set_option maxRecDepth 100000
set_option maxHeartbeats 2000000
/-! W0: how the worth of a code is told (plain equations), loops by invariants. -/
namespace Q
open PySem PySem.Spec PyProof.Rows L2
section
variable {i j : Int} {a b : Str} {ds es : List PyData} {K : M → Prop} {Kb : Bool → Prop} {Kd : PyData → Prop} {d e : PyData} {x y : M} {kvs : List (L2.Key × M)}
@[simp] theorem bI1 : binM .add (.p (.int i)) (.p (.int j)) K = K (.p (.int (i + j))) := rfl
@[simp] theorem bI2 : binM .sub (.p (.int i)) (.p (.int j)) K = K (.p (.int (i - j))) := rfl
@[simp] theorem bI3 : binM .mul (.p (.int i)) (.p (.int j)) K = (mulOk i j ∧ K (.p (.int (i * j)))) := rfl
@[simp] theorem bI4 : binM .fdiv (.p (.int i)) (.p (.int j)) K = ((0 < j ∧ j.natAbs.log2 < 9000) ∧ K (.p (.int (i / j)))) := rfl
@[simp] theorem bI5 : binM .mod (.p (.int i)) (.p (.int j)) K = (0 < j ∧ K (.p (.int (i % j)))) := rfl
@[simp] theorem bI6 : binM .pow (.p (.int i)) (.p (.int j)) K = ((0 ≤ j ∧ j ≤ 1000000 ∧ i.natAbs < 2 ^ 64) ∧ K (.p (.int (i ^ j.toNat)))) := rfl
@[simp] theorem bI7 : binM .shl (.p (.int i)) (.p (.int j)) K = ((0 ≤ j ∧ j ≤ 1000000 ∧ i.natAbs < 2 ^ 64) ∧ K (.p (.int (i * 2 ^ j.toNat)))) := rfl
@[simp] theorem bI8 : binM .shr (.p (.int i)) (.p (.int j)) K = (0 ≤ j ∧ K (.p (.int (i / 2 ^ j.toNat)))) := rfl
@[simp] theorem bI9 : binM .band (.p (.int i)) (.p (.int j)) K = K (.p (.int (Builtin.bitAnd i j))) := rfl
@[simp] theorem bS1 : binM .add (.p (.str a)) (.p (.str b)) K = (a.length + b.length ≤ sizeLine ∧ K (.p (.str (a ++ b)))) := rfl
@[simp] theorem bS2 : binM .mul (.p (.str a)) (.p (.int j)) K = (MulOk a j ∧ K (.p (.str (Txt.mul a j)))) := rfl
@[simp] theorem bT1 : binM .add (.p (.tuple ds)) (.p (.tuple es)) K = (ds.length + es.length ≤ sizeLine ∧ K (.p (.tuple (ds ++ es)))) := rfl
@[simp] theorem bL1 : binM .add (.l ds) (.l es) K = (ds.length + es.length ≤ sizeLine ∧ K (.l (ds ++ es))) := by simp [binM, M.lst]
@[simp] theorem bL2 : binM .add (.p (.list ds)) (.l es) K = (ds.length + es.length ≤ sizeLine ∧ K (.l (ds ++ es))) := by simp [binM, M.lst]
@[simp] theorem bL3 : binM .add (.l ds) (.p (.list es)) K = (ds.length + es.length ≤ sizeLine ∧ K (.l (ds ++ es))) := by simp [binM, M.lst]
@[simp] theorem bL4 : binM .add (.p (.list ds)) (.p (.list es)) K = (ds.length + es.length ≤ sizeLine ∧ K (.l (ds ++ es))) := by simp [binM, M.lst]
@[simp] theorem bL5 : binM .mul (.l ds) (.p (.int j)) K = (-(2 ^ 63) ≤ j ∧ j < 2 ^ 63 ∧ ds.length * j.toNat ≤ sizeLine ∧ K (.l (rep j.toNat ds))) := rfl
@[simp] theorem bT2 : binM .mul (.p (.tuple ds)) (.p (.int j)) K = (ds ≠ [] ∧ 2 ≤ j ∧ j ≤ 1000 ∧ ds.length ≤ 1000 ∧ K (.p (.tuple (rep j.toNat ds)))) := rfl
@[simp] theorem cI1 : cmpM .eq (.p (.int i)) (.p (.int j)) Kb = Kb (decide (i = j)) := rfl
@[simp] theorem cI2 : cmpM .ne (.p (.int i)) (.p (.int j)) Kb = Kb (!decide (i = j)) := rfl
@[simp] theorem cI3 : cmpM .lt (.p (.int i)) (.p (.int j)) Kb = Kb (decide (i < j)) := rfl
@[simp] theorem cI4 : cmpM .le (.p (.int i)) (.p (.int j)) Kb = Kb (decide (i ≤ j)) := rfl
@[simp] theorem cI5 : cmpM .gt (.p (.int i)) (.p (.int j)) Kb = Kb (decide (j < i)) := rfl
@[simp] theorem cI6 : cmpM .ge (.p (.int i)) (.p (.int j)) Kb = Kb (decide (j ≤ i)) := rfl
@[simp] theorem cS1 : cmpM .eq (.p (.str a)) (.p (.str b)) Kb = Kb (decide (a = b)) := rfl
@[simp] theorem cS2 : cmpM .ne (.p (.str a)) (.p (.str b)) Kb = Kb (!decide (a = b)) := rfl
@[simp] theorem cB1 {p q : Bool} : cmpM .eq (.p (.bool p)) (.p (.bool q)) Kb = Kb (decide (p = q)) := rfl
@[simp] theorem cB2 {p q : Bool} : cmpM .is (.p (.bool p)) (.p (.bool q)) Kb = Kb (p == q) := rfl
@[simp] theorem cB3 {p q : Bool} : cmpM .isnot (.p (.bool p)) (.p (.bool q)) Kb = Kb (!(p == q)) := rfl
theorem cS3 : cmpM .isin (.p (.str a)) (.p (.str b)) Kb = Kb (!(Builtin.Str.occurrences b a 0 b.length 1).isEmpty) := rfl
theorem cS4 : cmpM .notin (.p (.str a)) (.p (.str b)) Kb = Kb (!(!(Builtin.Str.occurrences b a 0 b.length 1).isEmpty)) := rfl
@[simp] theorem tB1 {b : Bool} : truM (.p (.bool b)) Kb = Kb b := rfl
@[simp] theorem tI1 : truM (.p (.int i)) Kb = Kb (i != 0) := rfl
@[simp] theorem tN1 : truM (.p .none) Kb = Kb false := rfl
@[simp] theorem tL1 : truM (.l ds) Kb = Kb (!ds.isEmpty) := rfl
@[simp] theorem xL1 : ixM (.l ds) (.int i) Kd = ∃ d, L2.atI ds i = some d ∧ Kd d := by simp [ixM, M.seq]
@[simp] theorem xL2 : ixM (.p (.list ds)) (.int i) Kd = ∃ d, L2.atI ds i = some d ∧ Kd d := by simp [ixM, M.seq]
@[simp] theorem xT1 : ixM (.p (.tuple ds)) (.int i) Kd = ∃ d, L2.atI ds i = some d ∧ Kd d := by simp [ixM, M.seq]
@[simp] theorem xS1 : ixM (.p (.str a)) (.int i) Kd = (a.length ≤ sizeLine ∧ ∃ c, L2.atI a.cps.toList i = some c ∧ Kd (.str ⟨#[c]⟩)) := rfl
@[simp] theorem xD1 : ixM (.dc kvs) (.str a) Kd = ∃ d, kget kvs (.inr a) = some (.p d) ∧ Kd d := by simp [ixM, keyOf]
@[simp] theorem lS1 : biM .len [.p (.str a)] K = (a.length ≤ sizeLine ∧ K (.p (.int a.length))) := rfl
@[simp] theorem lL1 : biM .len [.l ds] K = K (.p (.int ds.length)) := by simp [biM, M.seq]
@[simp] theorem lL2 : biM .len [.p (.list ds)] K = K (.p (.int ds.length)) := by simp [biM, M.seq]
@[simp] theorem lT1 : biM .len [.p (.tuple ds)] K = K (.p (.int ds.length)) := by simp [biM, M.seq]
end
theorem compLoop_inv {own : List Nat} {gd : List (Nat × List PyData)} {turn : PyData → De → (Option PyData → De → Prop) → Prop} (I : List PyData → List PyData → De → Prop)
    (step : ∀ x xs ds δ k, I (x :: xs) ds δ → (∀ o δ', I xs (ds ++ o.toList) (wipe δ' own) → k o δ') → gdOk gd δ ∧ turn x δ k) :
    ∀ (items ds0 : List PyData) (δ : De) (K : List PyData → De → Prop), I items ds0 δ → (∀ ds δ', I [] (ds0 ++ ds) δ' → gdOk gd δ' ∧ K ds δ') → compLoop own gd turn items δ K
  | [], ds0, δ, K, h, fin => by
    rw [compLoop]
    exact fin [] δ (by rw [List.append_nil]; exact h)
  | x :: xs, ds0, δ, K, h, fin => by
    rw [compLoop]
    refine step x xs ds0 δ _ h fun o δ' h' => ?_
    refine compLoop_inv I step xs (ds0 ++ o.toList) (wipe δ' own) _ h' fun ds δ'' h'' => ?_
    have := fin (o.toList ++ ds) δ'' (by rw [← List.append_assoc]; exact h'')
    exact this
theorem forLoop_inv {gd : List (Nat × List PyData)} {turn : PyData → De → EndD → Prop} {D : EndD} (I : List PyData → De → Prop)
    (step : ∀ x xs δ N, I (x :: xs) δ → (∀ δ', I xs δ' → N δ') → gdOk gd δ ∧ turn x δ ⟨N, D.rt, D.nx, N⟩) (fin : ∀ δ, I [] δ → gdOk gd δ ∧ D.nx δ) : ∀ (items : List PyData) (δ : De), I items δ → forLoop gd turn items δ D
  | [], δ, h => by rw [forLoop]; exact fin δ h
  | x :: xs, δ, h => by
    rw [forLoop]
    exact step x xs δ _ h fun δ' h' => forLoop_inv I step fin xs δ' h'
theorem wB0 {vs : List Val} {δ : De} : writeB vs [] δ = δ := by
  cases vs with
  | nil => rfl
  | cons v vs => cases v <;> rfl
@[simp] theorem wB1 {m : M} {vs : List Val} {os : List M} {δ : De} : writeB (.own m :: vs) os δ = writeB vs os.tail δ := by
  cases os with
  | nil => rw [wB0, List.tail_nil, wB0]
  | cons o os => rfl
@[simp] theorem wB2 {i : Nat} {m : M} {vs : List Val} {os : List M} {δ : De} : writeB (.at i :: vs) (m :: os) δ = writeB vs os (δ.set i (some m)) := rfl
@[simp] theorem wB3 {os : List M} {δ : De} : writeB [] os δ = δ := by cases os <;> rfl
theorem gdOk_nil {δ : De} : gdOk [] δ := fun _ h => by cases h
theorem canLay_ints : ∀ ns : List Int, PyData.canLayAll0 (ns.map PyData.int) = true
  | [] => by simp [PyData.canLayAll0]
  | n :: ns => by simp [PyData.canLayAll0, PyData.canLay0, canLay_ints ns]
theorem depth_ints : ∀ ns : List Int, PyData.depthAll (ns.map PyData.int) ≤ 1
  | [] => by simp [PyData.depthAll]
  | n :: ns => by simp [PyData.depthAll, PyData.depth, depth_ints ns]
theorem shaped_ints (ns : List Int) : SeqAt.shaped (.list (ns.map PyData.int)) = true := by
  simp only [SeqAt.shaped, PyData.canLay0, PyData.depth, canLay_ints, Bool.and_eq_true, decide_eq_true_eq, true_and]
  have := depth_ints ns
  exact decide_eq_true (by omega)
theorem atI_ok {α : Type} {xs : List α} {i : Int} {x : α} (h0 : 0 ≤ i) (h : xs[i.toNat]? = some x) : L2.atI xs i = some x := by
  unfold L2.atI
  have hl : i.toNat < xs.length := by
    by_cases hl : i.toNat < xs.length
    · exact hl
    · rw [List.getElem?_eq_none (by omega)] at h; cases h
  rw [show L2.ixN xs.length i = some i.toNat from by unfold L2.ixN; rw [if_pos h0, if_pos (by omega)]]
  exact h
theorem ixN_ok {n : Nat} {i : Int} (h0 : 0 ≤ i) (h : i < n) : L2.ixN n i = some i.toNat := by unfold L2.ixN; rw [if_pos h0, if_pos h]
theorem atI_int {ns : List Int} {i : Int} (h0 : 0 ≤ i) (h : i < ns.length) : ∃ c, c ∈ ns ∧ L2.atI (ns.map PyData.int) i = some (.int c) := by
  have hl : i.toNat < ns.length := by omega
  refine ⟨ns[i.toNat], List.getElem_mem hl, atI_ok h0 ?_⟩
  rw [List.getElem?_map, List.getElem?_eq_getElem hl]; rfl
theorem mulR {i j : Int} (h : -(2 ^ 64) < j ∧ j < 2 ^ 64) : mulOk i j := .inr (.inl h)
theorem mulL {i j : Int} (h : -(2 ^ 64) < i ∧ i < 2 ^ 64) : mulOk i j := .inl h
theorem log_ok {j : Int} (h0 : 0 < j) (h : j < 2 ^ 63) : j.natAbs.log2 < 9000 := by
  have h1 : j.natAbs < 2 ^ 63 := by omega
  have := (Nat.log2_lt (by omega : j.natAbs ≠ 0)).mpr h1
  omega
theorem mem_rng {lo hi : Int} {x : PyData} (h : x ∈ rngItems lo hi) : ∃ i, x = .int i ∧ lo ≤ i ∧ i < hi := by
  unfold rngItems at h
  obtain ⟨k, hk, rfl⟩ := List.mem_map.mp h
  rw [List.mem_range] at hk
  exact ⟨_, rfl, by omega, by omega⟩
theorem mem_enum {xs : List PyData} {x : PyData} (h : x ∈ enumItems xs) : ∃ k d, x = .tuple [.int k, d] ∧ 0 ≤ k ∧ k < xs.length ∧ d ∈ xs := by
  obtain ⟨i, hi, e⟩ := List.getElem_of_mem h
  rw [enum_len] at hi
  have := enum_get (List.getElem?_eq_getElem hi)
  rw [List.getElem?_eq_getElem (by rw [enum_len]; exact hi), e] at this
  cases this
  exact ⟨i, _, rfl, by omega, by omega, List.getElem_mem hi⟩
theorem mem_ints {ns : List Int} {x : PyData} (h : x ∈ ns.map PyData.int) : ∃ i, x = .int i ∧ i ∈ ns := by
  obtain ⟨i, hi, rfl⟩ := List.mem_map.mp h
  exact ⟨i, rfl, hi⟩
section
variable {δ : De} {i j np : Nat} {d : PyData} {ds : List PyData} {m : M} {K : PyData → De → Prop} {Km : M → De → Prop} {kvs : List (L2.Key × M)}
@[simp] theorem fz1 : frz (.own (.p d)) δ K = K d δ := rfl
@[simp] theorem fz2 : frz (.own (.l ds)) δ K = K (.list ds) δ := rfl
@[simp] theorem fz3 : frz (.own (.dc kvs)) δ K = (match (pureKvs kvs).map PyData.dict with | some d => K d δ | none => False) := rfl
def frzAt (o : Option M) (i : Nat) (δ : De) (K : PyData → De → Prop) : Prop := match o with
  | none => False
  | some m => match m.data with
    | none => False
    | some d => K d (δ.set i (some (.p d)))
@[simp] theorem fz4 : frz (.at i) δ K = frzAt ((δ[i]?).getD none) i δ K := by
  unfold frzAt
  simp only [frz]
  generalize (δ[i]?).getD none = o
  cases o with
  | none => rfl
  | some m =>
    simp only
    generalize m.data = q
    cases q <;> rfl
@[simp] theorem fa1 : frzAt (some (.p d)) i δ K = K d (δ.set i (some (.p d))) := rfl
@[simp] theorem fa2 : frzAt (some (.l ds)) i δ K = K (.list ds) (δ.set i (some (.p (.list ds)))) := rfl
@[simp] theorem mv1 : mov (.own m) δ Km = Km m δ := rfl
@[simp] theorem mv2 : mov (.at i) δ Km = frz (.at i) δ fun d δ' => Km (.p d) δ' := rfl
@[simp] theorem rv1 : retV np (.own m) δ Km = Km m δ := rfl
@[simp] theorem rv2 : retV np (.at i) δ Km = (if i < np then frz (.at i) δ fun d δ' => Km (.p d) δ' else ∃ m, (δ[i]?).getD none = some m ∧ Km m δ) := rfl
@[simp] theorem dt1 : M.data (.p d) = some d := rfl
@[simp] theorem dt2 : M.data (.l ds) = some (.list ds) := rfl
@[simp] theorem rg1 {i : Int} {P : Int → Int → Prop} : (∃ lo hi, rngOf [.int i] = some (lo, hi) ∧ P lo hi) = P 0 i := propext ⟨fun ⟨lo, hi, e, h⟩ => by cases e; exact h, fun h => ⟨_, _, rfl, h⟩⟩
@[simp] theorem rg2 {i j : Int} {P : Int → Int → Prop} : (∃ lo hi, rngOf [.int i, .int j] = some (lo, hi) ∧ P lo hi) = P i j := propext ⟨fun ⟨lo, hi, e, h⟩ => by cases e; exact h, fun h => ⟨_, _, rfl, h⟩⟩
@[simp] theorem so1 : srcOf δ (.own (.l ds)) = some ⟨ds, []⟩ := rfl
@[simp] theorem so2 : srcOf δ (.own (.p (.list ds))) = some ⟨ds, []⟩ := rfl
@[simp] theorem so3 : srcOf δ (.own (.p (.tuple ds))) = some ⟨ds, []⟩ := rfl
@[simp] theorem so4 {z : Str} : srcOf δ (.own (.p (.str z))) = some ⟨z.cps.toList.map fun c => .str ⟨#[c]⟩, []⟩ := rfl
@[simp] theorem so5 : srcOf δ (.at i) = (match (δ[i]?).getD none with | some (.l ds) => some ⟨ds, [(i, ds)]⟩ | _ => none) := rfl
@[simp] theorem lo1 : lsrcOf δ (.own (.l ds)) = some ⟨ds, []⟩ := rfl
@[simp] theorem lo2 : lsrcOf δ (.own (.p (.list ds))) = some ⟨ds, []⟩ := rfl
@[simp] theorem lo5 : lsrcOf δ (.at i) = (match (δ[i]?).getD none with | some (.l ds) => some ⟨ds, [(i, ds)]⟩ | _ => none) := rfl
end
section
variable {Γ : List Spec} {X : Exn → De → Prop} {δ : De} {K : Val → De → Prop}
/-- a name is read -/
def rdV (o : Option M) (i : Nat) (δ : De) (K : Val → De → Prop) : Prop := match o with
  | none => False
  | some (.p d) => K (.own (.p d)) δ
  | some _ => K (.at i) δ
@[simp] theorem we_v (i : Nat) : wpE Γ X (.v i) δ K = rdV ((δ[i]?).getD none) i δ K := by
  rw [wpE]
  generalize (δ[i]?).getD none = o
  cases o with
  | none => rfl
  | some m => cases m <;> rfl
@[simp] theorem rd1 {d : PyData} {i : Nat} : rdV (some (.p d)) i δ K = K (.own (.p d)) δ := rfl
@[simp] theorem rd2 {ds : List PyData} {i : Nat} : rdV (some (.l ds)) i δ K = K (.at i) δ := rfl
@[simp] theorem rd3 {kvs : List (L2.Key × M)} {i : Nat} : rdV (some (.dc kvs)) i δ K = K (.at i) δ := rfl
theorem we_k (d : PyData) : wpE Γ X (.k d) δ K = (K (.own (.p d)) δ) := by rw [wpE]
theorem we_gk (y : Str) (d : PyData) : wpE Γ X (.gk y d) δ K = (K (.own (.p d)) δ) := by rw [wpE]
theorem we_tup (l : C) : wpE Γ X (.tup l) δ K = (wpF Γ X l δ fun ds δ' => ds.length ≤ sizeLine ∧ K (.own (.p (.tuple ds))) δ') := by rw [wpE]
theorem we_lst (l : C) : wpE Γ X (.lst l) δ K = (wpF Γ X l δ fun ds δ' => ds.length ≤ sizeLine ∧ K (.own (.l ds)) δ') := by rw [wpE]
theorem we_dct (ks : List Str) (l : C) : wpE Γ X (.dct ks l) δ K = (wpD Γ X l δ fun ms δ' => K (.own (.dc ((ks.map Sum.inr).zip ms))) δ') := by rw [wpE]
theorem we_bin (op : BOp) (a b : C) : wpE Γ X (.bin op a b) δ K = (wpE Γ X a δ fun x δ1 => wpE Γ X b δ1 fun y δ2 => ∃ m n, peek δ2 x = some m ∧ peek δ2 y = some n ∧ binM op m n fun r => K (.own r) δ2) := by rw [wpE]
theorem we_neg (a : C) : wpE Γ X (.neg a) δ K = (wpE Γ X a δ fun x δ1 => ∃ i, peek δ1 x = some (.p (.int i)) ∧ K (.own (.p (.int (-i)))) δ1) := by rw [wpE]
theorem we_cmp (op : COp) (a b : C) : wpE Γ X (.cmp op a b) δ K = (wpE Γ X a δ fun x δ1 => wpE Γ X b δ1 fun y δ2 => ∃ m n, peek δ2 x = some m ∧ peek δ2 y = some n ∧ cmpM op m n fun r => K (.own (.p (.bool r))) δ2) := by rw [wpE]
theorem we_ch (o1 o2 : COp) (a b c : C) : wpE Γ X (.ch o1 o2 a b c) δ K = (wpE Γ X a δ fun x δ1 => wpE Γ X b δ1 fun y δ2 => ∃ m n, peek δ2 x = some m ∧ peek δ2 y = some n ∧ cmpM o1 m n fun r =>
      if r = true then wpE Γ X c δ2 fun z δ3 => ∃ n' q, peek δ3 y = some n' ∧ peek δ3 z = some q ∧ cmpM o2 n' q fun r => K (.own (.p (.bool r))) δ3 else K (.own (.p (.bool false))) δ2) := by rw [wpE]
theorem we_and (l : C) : wpE Γ X (.and l) δ K = (wpAV Γ X l δ K) := by rw [wpE]
theorem we_or (l : C) : wpE Γ X (.or l) δ K = (wpOV Γ X l δ K) := by rw [wpE]
theorem we_not (t : C) : wpE Γ X (.not t) δ K = (wpE Γ X t δ fun x δ1 => ∃ m, peek δ1 x = some m ∧ truM m fun b => K (.own (.p (.bool (!b)))) δ1) := by rw [wpE]
theorem we_ite (t a b : C) : wpE Γ X (.ite t a b) δ K = (wpT Γ X t δ fun r δ1 => if r = true then wpE Γ X a δ1 K else wpE Γ X b δ1 K) := by rw [wpE]
theorem we_ix (a b : C) : wpE Γ X (.ix a b) δ K = (wpE Γ X a δ fun x δ1 => wpE Γ X b δ1 fun y δ2 => ∃ m d, peek δ2 x = some m ∧ y = .own (.p d) ∧ ixM m d fun r => K (.own (.p r)) δ2) := by rw [wpE]
theorem we_sl (a lo hi : C) : wpE Γ X (.sl a lo hi) δ K = (wpE Γ X a δ fun x δ1 => wpF Γ X lo δ1 fun ls δ2 => ∃ l, optI ls = some l ∧ wpF Γ X hi δ2 fun hs δ3 => ∃ h, optI hs = some h ∧ ∃ m, peek δ3 x = some m ∧ slM m l h fun r => K (.own r) δ3) := by rw [wpE]
theorem we_rev (a : C) : wpE Γ X (.rev a) δ K = (wpE Γ X a δ fun x δ1 => ∃ m ds, peek δ1 x = some m ∧ m.lst = some ds ∧ K (.own (.l ds.reverse)) δ1) := by rw [wpE]
theorem we_ixs (i : Nat) (key : Str) (b : C) : wpE Γ X (.ixs i key b) δ K = (∃ kvs ds z d, (δ[i]?).getD none = some (.dc kvs) ∧ kget kvs (.inr key) = some (.l ds) ∧ qI b δ = some z ∧ L2.atI ds z = some d ∧ K (.own (.p d)) δ) := by rw [wpE]
theorem we_nes (i : Nat) (key : Str) : wpE Γ X (.nes i key) δ K = (∃ kvs ds, (δ[i]?).getD none = some (.dc kvs) ∧ kget kvs (.inr key) = some (.l ds) ∧ SeqAt.shaped (.list ds) = true ∧ K (.own (.p (.bool (!ds.isEmpty)))) δ) := by rw [wpE]
theorem we_lens (i : Nat) (key : Str) : wpE Γ X (.lens i key) δ K = (∃ kvs ds, (δ[i]?).getD none = some (.dc kvs) ∧ kget kvs (.inr key) = some (.l ds) ∧ K (.own (.p (.int ds.length))) δ) := by rw [wpE]
theorem we_bi (f : BI) (l : C) : wpE Γ X (.bi f l) δ K = (wpV Γ X l δ fun vs δ1 => ∃ ms, peeks δ1 vs = some ms ∧ biM f ms fun r => K (.own r) δ1) := by rw [wpE]
theorem we_isi (a : C) (t : String) : wpE Γ X (.isi a t) δ K = (wpE Γ X a δ fun x δ1 => ∃ m, peek δ1 x = some m ∧ isiM m t fun r => K (.own (.p (.bool r))) δ1) := by rw [wpE]
theorem we_me (f : ME) (o l : C) : wpE Γ X (.me f o l) δ K = (wpE Γ X o δ fun x δ1 => (∃ m0, peek δ1 x = some m0 ∧ meTy f m0) ∧ wpV Γ X l δ1 fun vs δ2 => ∃ m ms, peek δ2 x = some m ∧ peeks δ2 vs = some ms ∧ meM f m ms fun r => K (.own r) δ2) := by rw [wpE]
theorem we_mu (f : MU) (i : Nat) (l : C) : wpE Γ X (.mu f i l) δ K = ((∃ ds0, (δ[i]?).getD none = some (.l ds0)) ∧ wpF Γ X l δ fun ds δ1 => ∃ m, (δ1[i]?).getD none = some m ∧ muM f m ds fun r m' => K (.own (.p r)) (δ1.set i (some m'))) := by rw [wpE]
theorem we_call (f : Nat) (l kl : C) : wpE Γ X (.call f l kl) δ K = (wpV Γ X l δ fun vs δ1 => wpV Γ X kl δ1 fun ks δ2 => ∃ sp ms, Γ[f]? = some sp ∧ (ats (vs ++ ks)).Nodup ∧ peeks δ2 (vs ++ ks) = some ms ∧
      sp ms (fun r outs => K (.own r) (writeB (vs ++ ks) outs δ2)) fun e outs => X e (writeB (vs ++ ks) outs δ2)) := by rw [wpE]
theorem we_comp (own : List Nat) (tg : Tg) (src ifs elt : C) : wpE Γ X (.comp own tg src ifs elt) δ K = (wpI Γ X src δ fun s δ1 => lightAll δ1 own = true ∧ s.items.length ≤ sizeLine ∧
      compLoop own s.gd (fun x δ2 k => ∃ δ3, bindT [] tg x δ2 = some δ3 ∧ wpA Γ X ifs δ3 fun b δ4 => if b = true then wpE Γ X elt δ4 fun y δ5 => frz y δ5 fun d δ6 => k (some d) δ6 else k none δ4)
        s.items (wipe δ1 own) fun ds δ2 => K (.own (.l ds)) (back δ1 δ2 own)) := by rw [wpE]
theorem we_tupI (src : C) : wpE Γ X (.tupI src) δ K = (wpI Γ X src δ fun s δ1 => s.items.length ≤ sizeLine ∧ K (.own (.p (.tuple s.items))) δ1) := by rw [wpE]
theorem we_lstI (src : C) : wpE Γ X (.lstI src) δ K = (wpI Γ X src δ fun s δ1 => s.items.length ≤ sizeLine ∧ K (.own (.l s.items)) δ1) := by rw [wpE]
end
section
variable {δ : De} {K : De → Prop} {i : Nat} {key d : PyData}
def setAtO (o : Option M) (i : Nat) (key d : PyData) (δ : De) (K : De → Prop) : Prop := match o with
  | some (.l ds) => ∃ z j, key = .int z ∧ L2.ixN ds.length z = some j ∧ K (δ.set i (some (.l (ds.set j d))))
  | some (.dc kvs) => ∃ k, keyOf key = some k ∧ kvs.length < sizeLine ∧ K (δ.set i (some (.dc (kput kvs k (.p d)))))
  | _ => False
@[simp] theorem sa : setAt i key d δ K = setAtO ((δ[i]?).getD none) i key d δ K := by
  unfold setAt setAtO
  generalize (δ[i]?).getD none = o
  cases o with
  | none => rfl
  | some m => cases m <;> rfl
@[simp] theorem sa1 {ds : List PyData} {z : Int} : setAtO (some (.l ds)) i (.int z) d δ K = (∃ j, L2.ixN ds.length z = some j ∧ K (δ.set i (some (.l (ds.set j d))))) := by simp [setAtO]
@[simp] theorem sa2 {kvs : List (L2.Key × M)} {x : Str} : setAtO (some (.dc kvs)) i (.str x) d δ K = (kvs.length < sizeLine ∧ K (δ.set i (some (.dc (kput kvs (.inr x) (.p d)))))) := by simp [setAtO, keyOf]
end
end Q
set_option Elab.async false
set_option linter.all false
set_option maxRecDepth 100000
set_option maxHeartbeats 2000000
/-! W1: more equations of the wp; comprehensions that change nothing. -/
namespace Q
open PySem PySem.Spec PyProof.Rows L2
section
variable {Γ : List Spec} {X : Exn → De → Prop} {δ : De} {K : Val → De → Prop}
@[simp] theorem we_mxd (b : Bool) (a d : C) : wpE Γ X (.mxd b a d) δ K = (wpE Γ X a δ fun x δ1 => wpE Γ X d δ1 fun y δ2 => ∃ m e ds ns, peek δ2 x = some m ∧ y = .own (.p e) ∧ m.lst = some ds ∧ intL ds = some ns ∧ K (.own (.p (mxOf b e ns))) δ2) := by rw [wpE]
@[simp] theorem we_dcm (own : List Nat) (tg : Tg) (src ifs key val : C) : wpE Γ X (.dcm own tg src ifs key val) δ K = (wpI Γ X src δ fun s δ1 => lightAll δ1 own = true ∧ s.items.length ≤ sizeLine ∧
      compLoop own s.gd (fun x δ2 k => ∃ δ3, bindT [] tg x δ2 = some δ3 ∧ wpA Γ X ifs δ3 fun b δ4 => if b = true then wpE Γ X key δ4 fun y δ5 => ∃ kd, y = .own (.p kd) ∧ (keyOf kd).isSome = true ∧ wpE Γ X val δ5 fun z δ6 => frz z δ6 fun d δ7 => k (some (.tuple [kd, d])) δ7 else k none δ4)
        s.items (wipe δ1 own) fun ds δ2 => K (.own (.dc (dcOf [] ds))) (back δ1 δ2 own)) := by rw [wpE]
@[simp] theorem zs1 {ds : List PyData} : zsrcOf δ (.own (.l ds)) = some ⟨ds, []⟩ := rfl
@[simp] theorem zs2 {ds : List PyData} : zsrcOf δ (.own (.p (.list ds))) = some ⟨ds, []⟩ := rfl
@[simp] theorem zs3 {ds : List PyData} : zsrcOf δ (.own (.p (.tuple ds))) = some ⟨ds, []⟩ := rfl
@[simp] theorem zs5 {i : Nat} : zsrcOf δ (.at i) = (match (δ[i]?).getD none with | some (.l ds) => some ⟨ds, [(i, ds)]⟩ | _ => none) := rfl
@[simp] theorem at0 {α : Type} {a : α} {r : List α} : L2.atI (a :: r) 0 = some a := atI_ok (by omega) rfl
@[simp] theorem at1 {α : Type} {a b : α} {r : List α} : L2.atI (a :: b :: r) 1 = some b := atI_ok (by omega) rfl
@[simp] theorem at2 {α : Type} {a b c : α} {r : List α} : L2.atI (a :: b :: c :: r) 2 = some c := atI_ok (by omega) rfl
@[simp] theorem at3 {α : Type} {a b c d : α} {r : List α} : L2.atI (a :: b :: c :: d :: r) 3 = some d := atI_ok (by omega) rfl
@[simp] theorem at4 {α : Type} {a b c d e : α} {r : List α} : L2.atI (a :: b :: c :: d :: e :: r) 4 = some e := atI_ok (by omega) rfl
@[simp] theorem at5 {α : Type} {a b c d e f : α} {r : List α} : L2.atI (a :: b :: c :: d :: e :: f :: r) 5 = some f := atI_ok (by omega) rfl
end
theorem intL_map : ∀ ns : List Int, intL (ns.map .int) = some ns
  | [] => rfl
  | n :: ns => by simp [intL, intL_map ns]
theorem boolL_map : ∀ bs : List Bool, boolL (bs.map PyData.bool) = some bs
  | [] => rfl
  | b :: bs => by simp [boolL, boolL_map bs]
@[simp] theorem sumM {ns : List Int} {K : M → Prop} : biM .sum [.l (ns.map .int)] K = K (.p (.int ns.sum)) := by
  refine propext ⟨fun ⟨ds, ms, e, e2, h⟩ => ?_, fun h => ⟨_, ns, rfl, intL_map ns, h⟩⟩
  cases e; rw [intL_map] at e2; cases e2; exact h
@[simp] theorem allM {bs : List Bool} {K : M → Prop} : biM .all [.l (bs.map .bool)] K = K (.p (.bool (bs.all id))) := by
  refine propext ⟨fun ⟨ds, ms, e, e2, h⟩ => ?_, fun h => ⟨_, bs, rfl, boolL_map bs, h⟩⟩
  cases e; rw [boolL_map] at e2; cases e2; exact h
@[simp] theorem anyM {bs : List Bool} {K : M → Prop} : biM .any [.l (bs.map .bool)] K = K (.p (.bool (bs.any id))) := by
  refine propext ⟨fun ⟨ds, ms, e, e2, h⟩ => ?_, fun h => ⟨_, bs, rfl, boolL_map bs, h⟩⟩
  cases e; rw [boolL_map] at e2; cases e2; exact h
@[simp] theorem tupL {ds : List PyData} {K : M → Prop} : biM .tuple [.l ds] K = K (.p (.tuple ds)) := by simp [biM, M.seq]
@[simp] theorem tupT {ds : List PyData} {K : M → Prop} : biM .tuple [.p (.tuple ds)] K = K (.p (.tuple ds)) := by simp [biM, M.seq]
@[simp] theorem tupP {ds : List PyData} {K : M → Prop} : biM .tuple [.p (.list ds)] K = K (.p (.tuple ds)) := by simp [biM, M.seq]
@[simp] theorem lstL {ds : List PyData} {K : M → Prop} : biM .list [.l ds] K = K (.l ds) := by simp [biM, M.seq]
@[simp] theorem lstT {ds : List PyData} {K : M → Prop} : biM .list [.p (.tuple ds)] K = K (.l ds) := by simp [biM, M.seq]
@[simp] theorem lstP {ds : List PyData} {K : M → Prop} : biM .list [.p (.list ds)] K = K (.l ds) := by simp [biM, M.seq]
@[simp] theorem max2M {i j : Int} {K : M → Prop} : biM .max [.p (.int i), .p (.int j)] K = K (.p (.int (if j > i then j else i))) := rfl
@[simp] theorem min2M {i j : Int} {K : M → Prop} : biM .min [.p (.int i), .p (.int j)] K = K (.p (.int (if j < i then j else i))) := rfl
/-- a comprehension whose turns leave the names as they were -/
theorem compLoop_map {own : List Nat} {turn : PyData → De → (Option PyData → De → Prop) → Prop} (f : PyData → Option PyData) {δ : De} : ∀ (items : List PyData) (K : List PyData → De → Prop),
    (∀ x ∈ items, ∀ k : Option PyData → De → Prop, (∀ δ', wipe δ' own = δ → k (f x) δ') → turn x δ k) → K (items.filterMap f) δ → compLoop own [] turn items δ K
  | [], K, _, h => by rw [compLoop]; exact ⟨gdOk_nil, h⟩
  | x :: xs, K, st, h => by
    rw [compLoop]
    refine ⟨gdOk_nil, st x (List.mem_cons_self ..) _ fun δ' e => ?_⟩
    rw [e]
    refine compLoop_map f xs _ (fun y hy k hk => st y (List.mem_cons_of_mem _ hy) k hk) ?_
    rw [List.filterMap_cons] at h
    cases hx : f x with
    | none => rw [hx] at h; simpa using h
    | some d => rw [hx] at h; simpa using h
/-- .. over what stands for a list of Lean things -/
theorem compLoop_of {α : Type} (enc : α → PyData) (f : α → Option PyData) {own : List Nat} {turn : PyData → De → (Option PyData → De → Prop) → Prop} {δ : De} (xs : List α) (K : List PyData → De → Prop)
    (st : ∀ x ∈ xs, ∀ k : Option PyData → De → Prop, (∀ δ', wipe δ' own = δ → k (f x) δ') → turn (enc x) δ k) (h : K (xs.filterMap f) δ) : compLoop own [] turn (xs.map enc) δ K := by
  induction xs generalizing K with
  | nil => rw [List.map_nil, compLoop]; exact ⟨gdOk_nil, h⟩
  | cons x xs ih =>
    rw [List.map_cons, compLoop]
    refine ⟨gdOk_nil, st x (List.mem_cons_self ..) _ fun δ' e => ?_⟩
    rw [e]
    refine ih _ (fun y hy k hk => st y (List.mem_cons_of_mem _ hy) k hk) ?_
    rw [List.filterMap_cons] at h
    cases hx : f x with
    | none => rw [hx] at h; simpa using h
    | some d => rw [hx] at h; simpa using h
theorem filterMap_some {α β : Type} (f : α → β) (xs : List α) : xs.filterMap (fun x => some (f x)) = xs.map f := by
  induction xs with
  | nil => rfl
  | cons x xs ih => rw [List.filterMap_cons, List.map_cons, ih]
/-- a for, its state told by what is ahead -/
theorem forLoop_of {α : Type} (enc : α → PyData) {gd : List (Nat × List PyData)} {turn : PyData → De → EndD → Prop} {D : EndD} (I : List α → De → Prop)
    (step : ∀ x xs δ N, I (x :: xs) δ → (∀ δ', I xs δ' → N δ') → gdOk gd δ ∧ turn (enc x) δ ⟨N, D.rt, D.nx, N⟩) (fin : ∀ δ, I [] δ → gdOk gd δ ∧ D.nx δ) : ∀ (xs : List α) (δ : De), I xs δ → forLoop gd turn (xs.map enc) δ D
  | [], δ, h => by rw [List.map_nil, forLoop]; exact fin δ h
  | x :: xs, δ, h => by
    rw [List.map_cons, forLoop]
    exact step x xs δ _ h fun δ' h' => forLoop_of enc I step fin xs δ' h'
theorem rngItems_map (n : Nat) : rngItems 0 (n : Int) = (List.range n).map fun (k : Nat) => PyData.int (k : Int) := by
  unfold rngItems
  simp
theorem zipItems_map {α β : Type} (f : α → PyData) (g : β → PyData) (xs : List α) (ys : List β) : zipItems (xs.map f) (ys.map g) = (xs.zip ys).map fun p => .tuple [f p.1, g p.2] := by
  unfold zipItems
  rw [List.zipWith_map, List.zip, List.map_zipWith]
theorem zip3Items_map {α β γ : Type} (f : α → PyData) (g : β → PyData) (h : γ → PyData) (xs : List α) (ys : List β) (zs : List γ) : zip3Items (xs.map f) (ys.map g) (zs.map h) = (xs.zip (ys.zip zs)).map fun p => .tuple [f p.1, g p.2.1, h p.2.2] := by
  unfold zip3Items
  rw [List.zip_map, List.zipWith_map]
  generalize ys.zip zs = ps
  rw [List.zip, List.map_zipWith]
  rfl
end Q
set_option Elab.async false
set_option linter.all false
set_option maxRecDepth 100000
set_option maxHeartbeats 2000000
/-! W2: the equations of the wp for simp. -/
namespace Q
open PySem PySem.Spec PyProof.Rows L2
section
variable {Γ : List Spec} {X : Exn → De → Prop} {lk : List Nat}
@[simp] theorem ww1 (d : PyData) (δ : De) (K : Val → De → Prop) : wpE Γ X (.k d) δ K = (K (.own (.p d)) δ) := by rw [wpE]
@[simp] theorem ww2 (u1 : Str) (d : PyData) (δ : De) (K : Val → De → Prop) : wpE Γ X (.gk u1 d) δ K = (K (.own (.p d)) δ) := by rw [wpE]
@[simp] theorem ww3 (l : C) (δ : De) (K : Val → De → Prop) : wpE Γ X (.tup l) δ K = (wpF Γ X l δ fun ds δ' => ds.length ≤ sizeLine ∧ K (.own (.p (.tuple ds))) δ') := by rw [wpE]
@[simp] theorem ww4 (l : C) (δ : De) (K : Val → De → Prop) : wpE Γ X (.lst l) δ K = (wpF Γ X l δ fun ds δ' => ds.length ≤ sizeLine ∧ K (.own (.l ds)) δ') := by rw [wpE]
@[simp] theorem ww5 (ks : List Str) (l : C) (δ : De) (K : Val → De → Prop) : wpE Γ X (.dct ks l) δ K = (wpD Γ X l δ fun ms δ' => K (.own (.dc ((ks.map Sum.inr).zip ms))) δ') := by rw [wpE]
@[simp] theorem ww6 (op : BOp) (a : C) (b : C) (δ : De) (K : Val → De → Prop) : wpE Γ X (.bin op a b) δ K = (wpE Γ X a δ fun x δ1 => wpE Γ X b δ1 fun y δ2 => ∃ m n, peek δ2 x = some m ∧ peek δ2 y = some n ∧ binM op m n fun r => K (.own r) δ2) := by rw [wpE]
@[simp] theorem ww7 (a : C) (δ : De) (K : Val → De → Prop) : wpE Γ X (.neg a) δ K = (wpE Γ X a δ fun x δ1 => ∃ i, peek δ1 x = some (.p (.int i)) ∧ K (.own (.p (.int (-i)))) δ1) := by rw [wpE]
@[simp] theorem ww8 (op : COp) (a : C) (b : C) (δ : De) (K : Val → De → Prop) : wpE Γ X (.cmp op a b) δ K = (wpE Γ X a δ fun x δ1 => wpE Γ X b δ1 fun y δ2 => ∃ m n, peek δ2 x = some m ∧ peek δ2 y = some n ∧ cmpM op m n fun r => K (.own (.p (.bool r))) δ2) := by rw [wpE]
@[simp] theorem ww9 (o1 : COp) (o2 : COp) (a : C) (b : C) (c : C) (δ : De) (K : Val → De → Prop) : wpE Γ X (.ch o1 o2 a b c) δ K = (wpE Γ X a δ fun x δ1 => wpE Γ X b δ1 fun y δ2 => ∃ m n, peek δ2 x = some m ∧ peek δ2 y = some n ∧ cmpM o1 m n fun r =>
      if r = true then wpE Γ X c δ2 fun z δ3 => ∃ n' q, peek δ3 y = some n' ∧ peek δ3 z = some q ∧ cmpM o2 n' q fun r => K (.own (.p (.bool r))) δ3 else K (.own (.p (.bool false))) δ2) := by rw [wpE]
@[simp] theorem ww10 (l : C) (δ : De) (K : Val → De → Prop) : wpE Γ X (.and l) δ K = (wpAV Γ X l δ K) := by rw [wpE]
@[simp] theorem ww11 (l : C) (δ : De) (K : Val → De → Prop) : wpE Γ X (.or l) δ K = (wpOV Γ X l δ K) := by rw [wpE]
@[simp] theorem ww12 (t : C) (δ : De) (K : Val → De → Prop) : wpE Γ X (.not t) δ K = (wpE Γ X t δ fun x δ1 => ∃ m, peek δ1 x = some m ∧ truM m fun b => K (.own (.p (.bool (!b)))) δ1) := by rw [wpE]
@[simp] theorem ww13 (t : C) (a : C) (b : C) (δ : De) (K : Val → De → Prop) : wpE Γ X (.ite t a b) δ K = (wpT Γ X t δ fun r δ1 => if r = true then wpE Γ X a δ1 K else wpE Γ X b δ1 K) := by rw [wpE]
@[simp] theorem ww14 (a : C) (b : C) (δ : De) (K : Val → De → Prop) : wpE Γ X (.ix a b) δ K = (wpE Γ X a δ fun x δ1 => wpE Γ X b δ1 fun y δ2 => ∃ m d, peek δ2 x = some m ∧ y = .own (.p d) ∧ ixM m d fun r => K (.own (.p r)) δ2) := by rw [wpE]
@[simp] theorem ww15 (a : C) (lo : C) (hi : C) (δ : De) (K : Val → De → Prop) : wpE Γ X (.sl a lo hi) δ K = (wpE Γ X a δ fun x δ1 => wpF Γ X lo δ1 fun ls δ2 => ∃ l, optI ls = some l ∧ wpF Γ X hi δ2 fun hs δ3 => ∃ h, optI hs = some h ∧ ∃ m, peek δ3 x = some m ∧ slM m l h fun r => K (.own r) δ3) := by rw [wpE]
@[simp] theorem ww16 (a : C) (δ : De) (K : Val → De → Prop) : wpE Γ X (.rev a) δ K = (wpE Γ X a δ fun x δ1 => ∃ m ds, peek δ1 x = some m ∧ m.lst = some ds ∧ K (.own (.l ds.reverse)) δ1) := by rw [wpE]
@[simp] theorem ww17 (i : Nat) (key : Str) (b : C) (δ : De) (K : Val → De → Prop) : wpE Γ X (.ixs i key b) δ K = (∃ kvs ds z d, (δ[i]?).getD none = some (.dc kvs) ∧ kget kvs (.inr key) = some (.l ds) ∧ qI b δ = some z ∧ L2.atI ds z = some d ∧ K (.own (.p d)) δ) := by rw [wpE]
@[simp] theorem ww18 (i : Nat) (key : Str) (δ : De) (K : Val → De → Prop) : wpE Γ X (.nes i key) δ K = (∃ kvs ds, (δ[i]?).getD none = some (.dc kvs) ∧ kget kvs (.inr key) = some (.l ds) ∧ SeqAt.shaped (.list ds) = true ∧ K (.own (.p (.bool (!ds.isEmpty)))) δ) := by rw [wpE]
@[simp] theorem ww19 (i : Nat) (key : Str) (δ : De) (K : Val → De → Prop) : wpE Γ X (.lens i key) δ K = (∃ kvs ds, (δ[i]?).getD none = some (.dc kvs) ∧ kget kvs (.inr key) = some (.l ds) ∧ K (.own (.p (.int ds.length))) δ) := by rw [wpE]
@[simp] theorem ww20 (f : BI) (l : C) (δ : De) (K : Val → De → Prop) : wpE Γ X (.bi f l) δ K = (wpV Γ X l δ fun vs δ1 => ∃ ms, peeks δ1 vs = some ms ∧ biM f ms fun r => K (.own r) δ1) := by rw [wpE]
@[simp] theorem ww21 (a : C) (t : String) (δ : De) (K : Val → De → Prop) : wpE Γ X (.isi a t) δ K = (wpE Γ X a δ fun x δ1 => ∃ m, peek δ1 x = some m ∧ isiM m t fun r => K (.own (.p (.bool r))) δ1) := by rw [wpE]
@[simp] theorem ww22 (f : ME) (o : C) (l : C) (δ : De) (K : Val → De → Prop) : wpE Γ X (.me f o l) δ K = (wpE Γ X o δ fun x δ1 => (∃ m0, peek δ1 x = some m0 ∧ meTy f m0) ∧ wpV Γ X l δ1 fun vs δ2 => ∃ m ms, peek δ2 x = some m ∧ peeks δ2 vs = some ms ∧ meM f m ms fun r => K (.own r) δ2) := by rw [wpE]
@[simp] theorem ww23 (f : MU) (i : Nat) (l : C) (δ : De) (K : Val → De → Prop) : wpE Γ X (.mu f i l) δ K = ((∃ ds0, (δ[i]?).getD none = some (.l ds0)) ∧ wpF Γ X l δ fun ds δ1 => ∃ m, (δ1[i]?).getD none = some m ∧ muM f m ds fun r m' => K (.own (.p r)) (δ1.set i (some m'))) := by rw [wpE]
@[simp] theorem ww24 (f : Nat) (l : C) (kl : C) (δ : De) (K : Val → De → Prop) : wpE Γ X (.call f l kl) δ K = (wpV Γ X l δ fun vs δ1 => wpV Γ X kl δ1 fun ks δ2 => ∃ sp ms, Γ[f]? = some sp ∧ (ats (vs ++ ks)).Nodup ∧ peeks δ2 (vs ++ ks) = some ms ∧
      sp ms (fun r outs => K (.own r) (writeB (vs ++ ks) outs δ2)) fun e outs => X e (writeB (vs ++ ks) outs δ2)) := by rw [wpE]
@[simp] theorem ww25 (own : List Nat) (tg : Tg) (src : C) (ifs : C) (elt : C) (δ : De) (K : Val → De → Prop) : wpE Γ X (.comp own tg src ifs elt) δ K = (wpI Γ X src δ fun s δ1 => lightAll δ1 own = true ∧ s.items.length ≤ sizeLine ∧
      compLoop own s.gd (fun x δ2 k => ∃ δ3, bindT [] tg x δ2 = some δ3 ∧ wpA Γ X ifs δ3 fun b δ4 => if b = true then wpE Γ X elt δ4 fun y δ5 => frz y δ5 fun d δ6 => k (some d) δ6 else k none δ4)
        s.items (wipe δ1 own) fun ds δ2 => K (.own (.l ds)) (back δ1 δ2 own)) := by rw [wpE]
@[simp] theorem ww26 (b : Bool) (a : C) (d : C) (δ : De) (K : Val → De → Prop) : wpE Γ X (.mxd b a d) δ K = (wpE Γ X a δ fun x δ1 => wpE Γ X d δ1 fun y δ2 => ∃ m e ds ns, peek δ2 x = some m ∧ y = .own (.p e) ∧ m.lst = some ds ∧ intL ds = some ns ∧ K (.own (.p (mxOf b e ns))) δ2) := by rw [wpE]
@[simp] theorem ww27 (own : List Nat) (tg : Tg) (src : C) (ifs : C) (key : C) (val : C) (δ : De) (K : Val → De → Prop) : wpE Γ X (.dcm own tg src ifs key val) δ K = (wpI Γ X src δ fun s δ1 => lightAll δ1 own = true ∧ s.items.length ≤ sizeLine ∧
      compLoop own s.gd (fun x δ2 k => ∃ δ3, bindT [] tg x δ2 = some δ3 ∧ wpA Γ X ifs δ3 fun b δ4 => if b = true then wpE Γ X key δ4 fun y δ5 => ∃ kd, y = .own (.p kd) ∧ (keyOf kd).isSome = true ∧ wpE Γ X val δ5 fun z δ6 => frz z δ6 fun d δ7 => k (some (.tuple [kd, d])) δ7 else k none δ4)
        s.items (wipe δ1 own) fun ds δ2 => K (.own (.dc (dcOf [] ds))) (back δ1 δ2 own)) := by rw [wpE]
@[simp] theorem ww28 (src : C) (δ : De) (K : Val → De → Prop) : wpE Γ X (.tupI src) δ K = (wpI Γ X src δ fun s δ1 => s.items.length ≤ sizeLine ∧ K (.own (.p (.tuple s.items))) δ1) := by rw [wpE]
@[simp] theorem ww29 (src : C) (δ : De) (K : Val → De → Prop) : wpE Γ X (.lstI src) δ K = (wpI Γ X src δ fun s δ1 => s.items.length ≤ sizeLine ∧ K (.own (.l s.items)) δ1) := by rw [wpE]
@[simp] theorem ww30  (δ : De) (K : List PyData → De → Prop) : wpF Γ X (.nil) δ K = (K [] δ) := by rw [wpF]
@[simp] theorem ww31 (a : C) (as : C) (δ : De) (K : List PyData → De → Prop) : wpF Γ X (.cons a as) δ K = (wpE Γ X a δ fun x δ1 => frz x δ1 fun d δ2 => wpF Γ X as δ2 fun ds δ3 => K (d :: ds) δ3) := by rw [wpF]
@[simp] theorem ww32  (δ : De) (K : List M → De → Prop) : wpD Γ X (.nil) δ K = (K [] δ) := by rw [wpD]
@[simp] theorem ww33 (a : C) (as : C) (δ : De) (K : List M → De → Prop) : wpD Γ X (.cons a as) δ K = (wpE Γ X a δ fun x δ1 => mov x δ1 fun d δ2 => wpD Γ X as δ2 fun ds δ3 => K (d :: ds) δ3) := by rw [wpD]
@[simp] theorem ww34  (δ : De) (K : List Val → De → Prop) : wpV Γ X (.nil) δ K = (K [] δ) := by rw [wpV]
@[simp] theorem ww35 (a : C) (as : C) (δ : De) (K : List Val → De → Prop) : wpV Γ X (.cons a as) δ K = (wpE Γ X a δ fun x δ1 => wpV Γ X as δ1 fun xs δ2 => K (x :: xs) δ2) := by rw [wpV]
@[simp] theorem ww36 (l : C) (δ : De) (K : Src → De → Prop) : wpI Γ X (.rng l) δ K = (wpF Γ X l δ fun ds δ1 => ∃ lo hi, rngOf ds = some (lo, hi) ∧ (-(2 ^ 62) ≤ lo ∧ lo < 2 ^ 62 ∧ -(2 ^ 62) ≤ hi ∧ hi < 2 ^ 62) ∧ K ⟨rngItems lo hi, []⟩ δ1) := by rw [wpI]
@[simp] theorem ww37 (a : C) (δ : De) (K : Src → De → Prop) : wpI Γ X (.enum a) δ K = (wpE Γ X a δ fun x δ1 => ∃ s, zsrcOf δ1 x = some s ∧ K ⟨enumItems s.items, s.gd⟩ δ1) := by rw [wpI]
@[simp] theorem ww38 (a : C) (b : C) (st : Bool) (δ : De) (K : Src → De → Prop) : wpI Γ X (.zip a b st) δ K = (wpE Γ X a δ fun x δ1 => wpE Γ X b δ1 fun y δ2 => ∃ s t, zsrcOf δ2 x = some s ∧ zsrcOf δ2 y = some t ∧ (st = true → s.items.length = t.items.length) ∧ K ⟨zipItems s.items t.items, s.gd ++ t.gd⟩ δ2) := by rw [wpI]
@[simp] theorem ww39 (a : C) (b : C) (c : C) (δ : De) (K : Src → De → Prop) : wpI Γ X (.zip3 a b c) δ K = (wpE Γ X a δ fun x δ1 => wpE Γ X b δ1 fun y δ2 => wpE Γ X c δ2 fun z δ3 => ∃ s t u, zsrcOf δ3 x = some s ∧ zsrcOf δ3 y = some t ∧ zsrcOf δ3 z = some u ∧ K ⟨zip3Items s.items t.items u.items, s.gd ++ t.gd ++ u.gd⟩ δ3) := by rw [wpI]
@[simp] theorem ww40 (a : C) (δ : De) (K : Src → De → Prop) : wpI Γ X (.sv a) δ K = (wpE Γ X a δ fun x δ1 => ∃ s, srcOf δ1 x = some s ∧ K s δ1) := by rw [wpI]
@[simp] theorem ww41 (t : C) (δ : De) (K : Bool → De → Prop) : wpT Γ X (.not t) δ K = (wpT Γ X t δ fun b δ1 => K (!b) δ1) := by rw [wpT]
@[simp] theorem ww42 (l : C) (δ : De) (K : Bool → De → Prop) : wpT Γ X (.and l) δ K = (wpA Γ X l δ K) := by rw [wpT]
@[simp] theorem ww43 (l : C) (δ : De) (K : Bool → De → Prop) : wpT Γ X (.or l) δ K = (wpO Γ X l δ K) := by rw [wpT]
@[simp] theorem ww44 (c : C) (δ : De) (K : Bool → De → Prop) : wpT Γ X (.tv c) δ K = (wpE Γ X c δ fun x δ1 => ∃ m, peek δ1 x = some m ∧ truM m fun b => K b δ1) := by rw [wpT]
@[simp] theorem ww45  (δ : De) (K : Bool → De → Prop) : wpA Γ X (.nil) δ K = (K true δ) := by rw [wpA]
@[simp] theorem ww46 (a : C) (as : C) (δ : De) (K : Bool → De → Prop) : wpA Γ X (.cons a as) δ K = (wpT Γ X a δ fun b δ1 => if b = true then wpA Γ X as δ1 K else K false δ1) := by rw [wpA]
@[simp] theorem ww47  (δ : De) (K : Bool → De → Prop) : wpO Γ X (.nil) δ K = (K false δ) := by rw [wpO]
@[simp] theorem ww48 (a : C) (as : C) (δ : De) (K : Bool → De → Prop) : wpO Γ X (.cons a as) δ K = (wpT Γ X a δ fun b δ1 => if b = true then K true δ1 else wpO Γ X as δ1 K) := by rw [wpO]
@[simp] theorem ww49 (a : C) (δ : De) (K : Val → De → Prop) : wpAV Γ X (.cons a .nil) δ K = (wpE Γ X a δ K) := by rw [wpAV]
@[simp] theorem ww50 (a b0 : C) (bs : C) (δ : De) (K : Val → De → Prop) : wpAV Γ X (.cons a (.cons b0 bs)) δ K = (wpE Γ X a δ fun x δ1 => ∃ b, x = .own (.p (.bool b)) ∧ if b = true then wpAV Γ X (.cons b0 bs) δ1 K else K (.own (.p (.bool false))) δ1) := by rw [wpAV]; intro h; cases h
@[simp] theorem ww51 (a : C) (δ : De) (K : Val → De → Prop) : wpOV Γ X (.cons a .nil) δ K = (wpE Γ X a δ K) := by rw [wpOV]
@[simp] theorem ww52 (a b0 : C) (bs : C) (δ : De) (K : Val → De → Prop) : wpOV Γ X (.cons a (.cons b0 bs)) δ K = (wpE Γ X a δ fun x δ1 => ∃ b, x = .own (.p (.bool b)) ∧ if b = true then K (.own (.p (.bool true))) δ1 else wpOV Γ X (.cons b0 bs) δ1 K) := by rw [wpOV]; intro h; cases h
@[simp] theorem ww53  (δ : De) (D : EndD) : wpS Γ X lk (.nil) δ D = (D.nx δ) := by rw [wpS]
@[simp] theorem ww54 (a : S) (as : S) (δ : De) (D : EndD) : wpS Γ X lk (.cons a as) δ D = (wpS Γ X lk a δ ⟨fun δ' => wpS Γ X lk as δ' D, D.rt, D.bk, D.ct⟩) := by rw [wpS]
@[simp] theorem ww55 (i : Nat) (e : C) (δ : De) (D : EndD) : wpS Γ X lk (.set i e) δ D = (wpE Γ X e δ fun x δ1 => mov x δ1 fun m δ2 => i ∉ lk ∧ i < δ2.length ∧ D.nx (δ2.set i (some m))) := by rw [wpS]
@[simp] theorem ww56 (tg : Tg) (e : C) (δ : De) (D : EndD) : wpS Γ X lk (.setT tg e) δ D = (wpE Γ X e δ fun x δ1 => ∃ d δ2, x = .own (.p d) ∧ bindT lk tg d δ1 = some δ2 ∧ D.nx δ2) := by rw [wpS]
@[simp] theorem ww57 (is : List Nat) (l : C) (δ : De) (D : EndD) : wpS Γ X lk (.par is l) δ D = (wpD Γ X l δ fun ms δ2 => ms.length = is.length ∧ (∀ i ∈ is, i ∉ lk ∧ i < δ2.length) ∧ D.nx (setAll is ms δ2)) := by rw [wpS]
@[simp] theorem ww58 (is : List Nat) (l : C) (δ : De) (D : EndD) : wpS Γ X lk (.parL is l) δ D = (wpD Γ X l δ fun ms δ2 => ms.length = is.length ∧ (∀ i ∈ is, i ∉ lk ∧ i < δ2.length) ∧ D.nx (setAll is ms δ2)) := by rw [wpS]
@[simp] theorem ww59 (i : Nat) (b : C) (e : C) (δ : De) (D : EndD) : wpS Γ X lk (.setIx i b e) δ D = (wpE Γ X e δ fun x δ1 => frz x δ1 fun d δ2 => (∃ m0, (δ2[i]?).getD none = some m0) ∧ wpE Γ X b δ2 fun y δ3 => ∃ k, y = .own (.p k) ∧ setAt i k d δ3 D.nx) := by rw [wpS]
@[simp] theorem ww60 (is : List Nat) (bs : C) (e : C) (δ : De) (D : EndD) : wpS Γ X lk (.setQ is bs e) δ D = (wpE Γ X e δ fun x δ1 => ∃ ds, x = .own (.p (.tuple ds)) ∧ ds.length = is.length ∧ wpQ Γ X is bs ds δ1 D.nx) := by rw [wpS]
@[simp] theorem ww61 (i : Nat) (key : Str) (b : C) (e : C) (δ : De) (D : EndD) : wpS Γ X lk (.setSub i key b e) δ D = (wpE Γ X e δ fun x δ1 => frz x δ1 fun d δ2 => ∃ kvs ds z j, (δ2[i]?).getD none = some (.dc kvs) ∧ kget kvs (.inr key) = some (.l ds) ∧
      qI b δ2 = some z ∧ L2.ixN ds.length z = some j ∧ D.nx (δ2.set i (some (.dc (kput kvs (.inr key) (.l (ds.set j d))))))) := by rw [wpS]
@[simp] theorem ww62 (i : Nat) (key : Str) (e : C) (δ : De) (D : EndD) : wpS Γ X lk (.setK i key e) δ D = (wpE Γ X e δ fun x δ1 => mov x δ1 fun m δ2 => ∃ kvs, (δ2[i]?).getD none = some (.dc kvs) ∧ kvs.length < sizeLine ∧ D.nx (δ2.set i (some (.dc (kput kvs (.inr key) m))))) := by rw [wpS]
@[simp] theorem ww63 (i : Nat) (op : BOp) (e : C) (δ : De) (D : EndD) : wpS Γ X lk (.aug i op e) δ D = (∃ a, (δ[i]?).getD none = some (.p (.int a)) ∧ wpE Γ X e δ fun y δ1 => ∃ b, y = .own (.p (.int b)) ∧ (op = .add ∨ op = .sub) ∧ i ∉ lk ∧
      D.nx (δ1.set i (some (.p (.int (if op = .add then a + b else a - b)))))) := by rw [wpS]
@[simp] theorem ww64 (i : Nat) (op : BOp) (b : C) (e : C) (δ : De) (D : EndD) : wpS Γ X lk (.augIx i op b e) δ D = ((∃ m0, (δ[i]?).getD none = some m0) ∧ wpE Γ X b δ fun y δ1 => ∃ k m a, y = .own (.p k) ∧ (δ1[i]?).getD none = some m ∧ ixM m k (fun z => z = .int a) ∧ m.isP = false ∧ wpE Γ X e δ1 fun z δ2 => ∃ c, z = .own (.p (.int c)) ∧ (op = .add ∨ op = .sub) ∧
      setAt i k (.int (if op = .add then a + c else a - c)) δ2 D.nx) := by rw [wpS]
@[simp] theorem ww65 (e : C) (δ : De) (D : EndD) : wpS Γ X lk (.ex e) δ D = (wpE Γ X e δ fun _ δ1 => D.nx δ1) := by rw [wpS]
@[simp] theorem ww66 (e : C) (δ : De) (D : EndD) : wpS Γ X lk (.ret e) δ D = (wpE Γ X e δ D.rt) := by rw [wpS]
@[simp] theorem ww67  (δ : De) (D : EndD) : wpS Γ X lk (.retN) δ D = (D.rt (.own (.p .none)) δ) := by rw [wpS]
@[simp] theorem ww68 (t : C) (a : S) (b : S) (δ : De) (D : EndD) : wpS Γ X lk (.ife t a b) δ D = (wpT Γ X t δ fun r δ1 => if r = true then wpS Γ X lk a δ1 D else wpS Γ X lk b δ1 D) := by rw [wpS]
@[simp] theorem ww69 (tg : Tg) (src : C) (body : S) (δ : De) (D : EndD) : wpS Γ X lk (.forS tg src body) δ D = (wpI Γ X src δ fun s δ1 => forLoop s.gd (fun x δ2 D' => ∃ δ3, bindT (s.gd.map (·.1) ++ lk) tg x δ2 = some δ3 ∧ wpS Γ X (s.gd.map (·.1) ++ lk) body δ3 D') s.items δ1 D) := by rw [wpS]
@[simp] theorem ww70 (t : C) (body : S) (δ : De) (D : EndD) : wpS Γ X lk (.whl t body) δ D = (∃ I : Nat → De → Prop, (∃ n, I n δ) ∧ ∀ n δ', I n δ' → wpT Γ X t δ' fun b δ1 => if b = true then
      wpS Γ X lk body δ1 ⟨fun δ2 => ∃ m, m < n ∧ I m δ2, D.rt, D.nx, fun δ2 => ∃ m, m < n ∧ I m δ2⟩ else D.nx δ1) := by rw [wpS]
@[simp] theorem ww71  (δ : De) (D : EndD) : wpS Γ X lk (.pass) δ D = (D.nx δ) := by rw [wpS]
@[simp] theorem ww72  (δ : De) (D : EndD) : wpS Γ X lk (.brk) δ D = (D.bk δ) := by rw [wpS]
@[simp] theorem ww73  (δ : De) (D : EndD) : wpS Γ X lk (.cont) δ D = (D.ct δ) := by rw [wpS]
@[simp] theorem ww74  (w0 : De) (w1 : EndD) : wpS Γ X lk (.stop) w0 w1 = (False) := by rw [wpS]
@[simp] theorem wq0 (δ : De) (K : De → Prop) : wpQ Γ X [] .nil [] δ K = K δ := by rw [wpQ]
@[simp] theorem wq1 (i : Nat) (is : List Nat) (b bs : C) (d : PyData) (ds : List PyData) (δ : De) (K : De → Prop) : wpQ Γ X (i :: is) (.cons b bs) (d :: ds) δ K = ((∃ m0, (δ[i]?).getD none = some m0) ∧ wpE Γ X b δ fun y δ1 => ∃ k, y = .own (.p k) ∧ setAt i k d δ1 fun δ2 => wpQ Γ X is bs ds δ2 K) := by rw [wpQ]
end
end Q
set_option Elab.async false
set_option linter.all false
set_option maxRecDepth 100000
set_option maxHeartbeats 2000000
/-! SA: codes that many laws share. -/
namespace Q.S
open PySem PySem.Spec PyProof.Rows L2 Q
def c_is_number : S := (.cons (.ret (.and (.cons (.isi (.v 0) "int") (.cons (.not (.isi (.v 0) "bool")) .nil))))
  .nil)
def c_is_coins : S := (.cons (.ret (.and (.cons (.call 0 (.cons (.v 0) .nil) .nil) (.cons (.cmp .ge (.v 0) (.v 1)) .nil))))
  .nil)
def c_is_among : S := (.cons (.ret (.and (.cons (.call 0 (.cons (.v 0) .nil) .nil) (.cons (.ch .le .lt (.k (.int 0)) (.v 0) (.v 1)) .nil))))
  .nil)
def e1_is_name : C := (.cmp .isin (.v 1) (.gk "LETTERS" (.str "abcdefghijklmnopqrstuvwxyz")))
def c_is_name : S := (.cons (.ret (.and (.cons (.isi (.v 0) "str") (.cons (.ch .le .le (.k (.int 1)) (.bi .len (.cons (.v 0) .nil)) (.gk "MOST_SIGNS" (.int 8))) (.cons (.bi .all (.cons (.comp [1] (.n 1) (.sv (.v 0)) .nil e1_is_name) .nil)) .nil)))))
  .nil)
def c_is_party : S := (.cons (.ret (.and (.cons (.isi (.v 0) "tuple") (.cons (.cmp .eq (.bi .len (.cons (.v 0) .nil)) (.k (.int 2))) (.cons (.call 0 (.cons (.ix (.v 0) (.k (.int 0))) .nil) .nil) (.cons (.call 1 (.cons (.ix (.v 0) (.k (.int 1))) .nil) .nil) .nil))))))
  .nil)
def e1_is_good : C := (.call 0 (.cons (.v 1) .nil) .nil)
def c_is_good : S := (.cons (.ife (.or (.cons (.not (.tv (.isi (.v 0) "tuple"))) (.cons (.tv (.cmp .ne (.bi .len (.cons (.v 0) .nil)) (.k (.int 5)))) (.cons (.not (.tv (.bi .all (.cons (.comp [1] (.n 1) (.sv (.sl (.v 0) .nil (.cons (.k (.int 3)) .nil))) .nil e1_is_good) .nil)))) .nil)))) (.cons (.ret (.k (.bool false)))
  .nil) .nil)
  (.cons (.ret (.and (.cons (.cmp .ne (.ix (.v 0) (.k (.int 1))) (.ix (.v 0) (.k (.int 2)))) (.cons (.call 1 (.cons (.ix (.v 0) (.k (.int 3))) .nil) .nil) (.cons (.call 1 (.cons (.ix (.v 0) (.k (.int 4))) .nil) .nil) .nil)))))
  .nil))
def b1_need_parties : S := (.cons (.ife (.or (.cons (.not (.tv (.call 0 (.cons (.v 3) .nil) .nil))) (.cons (.tv (.cmp .isin (.ix (.v 3) (.k (.int 0))) (.v 1))) .nil))) (.cons .stop
  .nil) .nil)
  (.cons (.ex (.mu .append 1 (.cons (.ix (.v 3) (.k (.int 0))) .nil)))
  .nil))
def c_need_parties : S := (.cons (.ife (.or (.cons (.not (.tv (.isi (.v 0) "tuple"))) (.cons (.not (.tv (.ch .le .le (.gk "LEAST_PARTIES" (.int 2)) (.bi .len (.cons (.v 0) .nil)) (.gk "MOST_PARTIES" (.int 6))))) .nil))) (.cons .stop
  .nil) .nil)
  (.cons (.set 1 (.lst .nil))
  (.cons (.forS (.tc (.n 2) (.tc (.n 3) .t0)) (.enum (.v 0)) b1_need_parties)
  .nil)))
def e1_need_goods : C := (.ix (.v 4) (.k (.int 0)))
def b2_need_goods : S := (.cons (.ife (.or (.cons (.not (.tv (.call 0 (.cons (.v 6) .nil) .nil))) (.cons (.tv (.cmp .isin (.ix (.v 6) (.k (.int 0))) (.v 3))) (.cons (.tv (.cmp .notin (.ix (.v 6) (.k (.int 1))) (.v 2))) (.cons (.tv (.cmp .notin (.ix (.v 6) (.k (.int 2))) (.v 2))) .nil))))) (.cons .stop
  .nil) .nil)
  (.cons (.ex (.mu .append 3 (.cons (.ix (.v 6) (.k (.int 0))) .nil)))
  .nil))
def c_need_goods : S := (.cons (.ife (.or (.cons (.not (.tv (.isi (.v 1) "tuple"))) (.cons (.tv (.cmp .gt (.bi .len (.cons (.v 1) .nil)) (.gk "MOST_GOODS" (.int 60)))) .nil))) (.cons .stop
  .nil) .nil)
  (.cons (.par [2, 3] (.cons (.comp [4] (.n 4) (.sv (.v 0)) .nil e1_need_goods) (.cons (.lst .nil) .nil)))
  (.cons (.forS (.tc (.n 5) (.tc (.n 6) .t0)) (.enum (.v 1)) b2_need_goods)
  .nil)))
def b1_need_shares : S := (.cons (.ife (.not (.tv (.call 0 (.cons (.v 3) .nil) .nil))) (.cons .stop
  .nil) .nil)
  .nil)
def c_need_shares : S := (.cons (.ife (.or (.cons (.not (.tv (.isi (.v 1) "tuple"))) (.cons (.tv (.cmp .ne (.bi .len (.cons (.v 1) .nil)) (.bi .len (.cons (.v 0) .nil)))) .nil))) (.cons .stop
  .nil) .nil)
  (.cons (.forS (.tc (.n 2) (.tc (.n 3) .t0)) (.enum (.v 1)) b1_need_shares)
  (.cons (.ife (.tv (.cmp .ne (.bi .sum (.cons (.v 1) .nil)) (.k (.int 0)))) (.cons .stop
  .nil) .nil)
  .nil)))
def c_need_deal : S := (.cons (.ife (.or (.cons (.not (.tv (.isi (.v 0) "tuple"))) (.cons (.tv (.cmp .ne (.bi .len (.cons (.v 0) .nil)) (.k (.int 3)))) .nil))) (.cons .stop
  .nil) .nil)
  (.cons (.ex (.call 0 (.cons (.ix (.v 0) (.k (.int 0))) .nil) .nil))
  (.cons (.ex (.call 1 (.cons (.ix (.v 0) (.k (.int 0))) (.cons (.ix (.v 0) (.k (.int 1))) .nil)) .nil))
  (.cons (.ex (.call 2 (.cons (.ix (.v 0) (.k (.int 0))) (.cons (.ix (.v 0) (.k (.int 2))) .nil)) .nil))
  .nil))))
def e1_need_numbers : C := (.call 0 (.cons (.v 2) .nil) (.cons (.bi .len (.cons (.ix (.v 0) (.k (.int 1))) .nil)) .nil))
def e2_need_numbers : C := (.cmp .ge (.v 2) (.v 3))
def c_need_numbers : S := (.cons (.ife (.or (.cons (.not (.tv (.isi (.v 1) "tuple"))) (.cons (.not (.tv (.bi .all (.cons (.comp [2] (.n 2) (.sv (.v 1)) .nil e1_need_numbers) .nil)))) .nil))) (.cons .stop
  .nil) .nil)
  (.cons (.ife (.tv (.bi .any (.cons (.comp [2, 3] (.tc (.n 2) (.tc (.n 3) .t0)) (.zip (.v 1) (.sl (.v 1) (.cons (.k (.int 1)) .nil) .nil) false) .nil e2_need_numbers) .nil))) (.cons .stop
  .nil) .nil)
  .nil))
def c_need_left : S := (.cons (.ex (.call 0 (.cons (.v 0) .nil) .nil))
  (.cons (.ex (.call 1 (.cons (.v 0) (.cons (.v 1) .nil)) .nil))
  .nil))
def e1_need_stand : C := (.call 2 (.cons (.v 3) .nil) .nil)
def c_need_stand : S := (.cons (.ex (.call 0 (.cons (.v 0) .nil) .nil))
  (.cons (.ife (.or (.cons (.not (.tv (.isi (.v 1) "tuple"))) (.cons (.tv (.cmp .ne (.bi .len (.cons (.v 1) .nil)) (.k (.int 2)))) .nil))) (.cons .stop
  .nil) .nil)
  (.cons (.ex (.call 1 (.cons (.v 0) (.cons (.ix (.v 1) (.k (.int 0))) .nil)) .nil))
  (.cons (.set 2 (.ix (.v 1) (.k (.int 1))))
  (.cons (.ife (.or (.cons (.not (.tv (.isi (.v 2) "tuple"))) (.cons (.tv (.cmp .ne (.bi .len (.cons (.v 2) .nil)) (.bi .len (.cons (.ix (.v 0) (.k (.int 0))) .nil)))) (.cons (.not (.tv (.bi .all (.cons (.comp [3] (.n 3) (.sv (.v 2)) .nil e1_need_stand) .nil)))) .nil)))) (.cons .stop
  .nil) .nil)
  (.cons (.ife (.tv (.cmp .ne (.bi .sum (.cons (.v 2) .nil)) (.k (.int 0)))) (.cons .stop
  .nil) .nil)
  .nil))))))
def e1_gain_there : C := (.bin .sub (.ix (.ix (.ix (.v 0) (.k (.int 1))) (.v 2)) (.k (.int 4))) (.ix (.ix (.ix (.v 0) (.k (.int 1))) (.v 2)) (.k (.int 3))))
def c_gain_there : S := (.cons (.ret (.bi .sum (.cons (.comp [2] (.n 2) (.sv (.v 1)) .nil e1_gain_there) .nil)))
  .nil)
def c_gain_of : S := (.cons (.ex (.call 0 (.cons (.v 0) .nil) .nil))
  (.cons (.ex (.call 1 (.cons (.v 0) (.cons (.v 1) .nil)) .nil))
  (.cons (.ret (.call 2 (.cons (.v 0) (.cons (.v 1) .nil)) .nil))
  .nil)))
def e1_trust_there : C := (.ix (.v 1) (.k (.int 1)))
def c_trust_there : S := (.cons (.ret (.bi .sum (.cons (.comp [1] (.n 1) (.sv (.ix (.v 0) (.k (.int 0)))) .nil e1_trust_there) .nil)))
  .nil)
def c_trust_of : S := (.cons (.ex (.call 0 (.cons (.v 0) .nil) .nil))
  (.cons (.ret (.call 1 (.cons (.v 0) .nil) .nil))
  .nil))
def e1_own_gains : C := (.ix (.v 3) (.k (.int 0)))
def e2_own_gains : C := (.k (.int 0))
def b3_own_gains : S := (.cons (.setT (.tc (.n 5) (.tc (.n 6) (.tc (.n 7) (.tc (.n 8) (.tc (.n 9) .t0))))) (.ix (.ix (.v 0) (.k (.int 1))) (.v 4)))
  (.cons (.augIx 2 .sub (.v 6) (.v 8))
  (.cons (.augIx 2 .add (.v 7) (.v 9))
  .nil)))
def e4_own_gains : C := (.ix (.v 2) (.ix (.v 3) (.k (.int 0))))
def c_own_gains : S := (.cons (.set 2 (.dcm [3] (.n 3) (.sv (.ix (.v 0) (.k (.int 0)))) .nil e1_own_gains e2_own_gains))
  (.cons (.forS (.n 4) (.sv (.v 1)) b3_own_gains)
  (.cons (.ret (.comp [3] (.n 3) (.sv (.ix (.v 0) (.k (.int 0)))) .nil e4_own_gains))
  .nil)))
def e1_come_there : C := (.bin .add (.v 2) (.v 3))
def c_come_there : S := (.cons (.ret (.bi .tuple (.cons (.comp [2, 3] (.tc (.n 2) (.tc (.n 3) .t0)) (.zip (.call 0 (.cons (.v 0) (.cons (.ix (.v 1) (.k (.int 0))) .nil)) .nil) (.ix (.v 1) (.k (.int 1))) true) .nil e1_come_there) .nil)))
  .nil)
def c_to_come : S := (.cons (.ex (.call 0 (.cons (.v 0) (.cons (.v 1) .nil)) .nil))
  (.cons (.ret (.call 1 (.cons (.v 0) (.cons (.v 1) .nil)) .nil))
  .nil))
def i1_leaving_there : C := (.cons (.tv (.cmp .lt (.bin .add (.v 4) (.ix (.v 3) (.k (.int 1)))) (.k (.int 0)))) .nil)
def e2_leaving_there : C := (.ix (.v 3) (.k (.int 0)))
def c_leaving_there : S := (.cons (.set 2 (.call 0 (.cons (.v 0) (.cons (.v 1) .nil)) .nil))
  (.cons (.ret (.bi .tuple (.cons (.comp [3, 4] (.tc (.n 3) (.tc (.n 4) .t0)) (.zip (.ix (.v 0) (.k (.int 0))) (.v 2) true) i1_leaving_there e2_leaving_there) .nil)))
  .nil))
def c_leaving : S := (.cons (.ex (.call 0 (.cons (.v 0) (.cons (.v 1) .nil)) .nil))
  (.cons (.ret (.call 1 (.cons (.v 0) (.cons (.v 1) .nil)) .nil))
  .nil))
def c_is_safe : S := (.cons (.ret (.cmp .eq (.call 0 (.cons (.v 0) (.cons (.v 1) .nil)) .nil) (.tup .nil)))
  .nil)
def c__law_mixed : S := (.cons (.set 2 (.bin .add (.bin .add (.bin .mod (.bin .mul (.bin .mul (.v 0) (.bin .add (.k (.int 1)) (.bin .mul (.k (.int 2)) (.v 1)))) (.k (.int 48271))) (.k (.int 2147483647))) (.bin .mul (.bin .mul (.k (.int 7919)) (.v 1)) (.v 1))) (.bin .mul (.k (.int 104729)) (.v 1))))
  (.cons (.ret (.bin .fdiv (.bin .mod (.bin .mul (.v 2) (.k (.int 69621))) (.k (.int 2147483629))) (.k (.int 7))))
  .nil))
def e1__law_folded : C := (.bin .add (.k (.int 17)) (.v 2))
def b2__law_folded : S := (.cons (.setIx 1 (.bin .mod (.v 2) (.k (.int 64))) (.bin .mod (.bin .add (.bin .mul (.ix (.v 1) (.bin .mod (.v 2) (.k (.int 64)))) (.k (.int 48271))) (.v 3)) (.k (.int 2147483647))))
  .nil)
def b3__law_folded : S := (.cons (.setIx 1 (.v 2) (.bin .mod (.bin .add (.ix (.v 1) (.v 2)) (.bin .mul (.ix (.v 1) (.bin .sub (.v 2) (.k (.int 1)))) (.k (.int 16807)))) (.k (.int 2147483647))))
  .nil)
def c__law_folded : S := (.cons (.set 1 (.comp [2] (.n 2) (.rng (.cons (.k (.int 64)) .nil)) .nil e1__law_folded))
  (.cons (.forS (.tc (.n 2) (.tc (.n 3) .t0)) (.enum (.v 0)) b2__law_folded)
  (.cons (.forS (.n 2) (.rng (.cons (.k (.int 1)) (.cons (.k (.int 64)) .nil))) b3__law_folded)
  (.cons (.ret (.v 1))
  .nil))))
def c__law_draw : S := (.cons (.set 2 (.ix (.v 0) (.k (.str "spot"))))
  (.cons (.setK 0 "spot" (.bin .add (.v 2) (.k (.int 1))))
  (.cons (.ife (.tv (.nes 0 "great")) (.cons (.set 3 (.bin .mod (.v 2) (.lens 0 "great")))
  (.cons (.set 4 (.ixs 0 "great" (.v 3)))
  (.cons (.ife (.tv (.cmp .gt (.v 4) (.k (.int 0)))) (.cons (.setSub 0 "great" (.v 3) (.bin .fdiv (.v 4) (.v 1)))
  (.cons (.ret (.bin .mod (.v 4) (.v 1)))
  .nil)) .nil)
  .nil))) .nil)
  (.cons (.ret (.bin .mod (.call 0 (.cons (.call 0 (.cons (.bin .add (.ixs 0 "cells" (.bin .mod (.v 2) (.k (.int 64)))) (.bin .mul (.k (.int 31)) (.bin .fdiv (.v 2) (.k (.int 64))))) (.cons (.v 2) .nil)) .nil) (.cons (.bin .add (.v 2) (.k (.int 7))) .nil)) .nil) (.v 1)))
  .nil))))
def e1__law_begun : C := (.ite (.tv (.cmp .ge (.v 2) (.bin .pow (.k (.int 10)) (.k (.int 18))))) (.v 2) (.k (.int 0)))
def c__law_begun : S := (.cons (.set 1 (.dct ["cells", "great", "spot"] (.cons (.call 0 (.cons (.v 0) .nil) .nil) (.cons (.lst .nil) (.cons (.k (.int 0)) .nil)))))
  (.cons (.setK 1 "great" (.comp [2] (.n 2) (.sv (.v 0)) .nil e1__law_begun))
  (.cons (.ret (.v 1))
  .nil)))
def e1__law_called : C := (.ix (.v 2) (.call 0 (.cons (.v 0) (.cons (.k (.int 26)) .nil)) .nil))
def e2__law_called : C := (.ix (.v 2) (.call 0 (.cons (.v 0) (.cons (.k (.int 26)) .nil)) .nil))
def b3__law_called : S := (.cons (.set 9 (.bin .mod (.bin .add (.v 4) (.bin .mul (.v 5) (.v 7))) (.k (.int 676))))
  (.cons (.set 10 (.me .join (.k (.str "")) (.cons (.comp [11] (.n 11) (.rng (.cons (.bin .mul (.call 0 (.cons (.v 0) (.cons (.k (.int 3)) .nil)) .nil) (.v 8)) .nil)) .nil e2__law_called) .nil)))
  (.cons (.ex (.mu .append 3 (.cons (.bin .add (.bin .add (.bin .add (.v 6) (.ix (.v 2) (.bin .fdiv (.v 9) (.k (.int 26))))) (.ix (.v 2) (.bin .mod (.v 9) (.k (.int 26))))) (.v 10)) .nil)))
  .nil)))
def c__law_called : S := (.cons (.parL [2, 3] (.cons (.k (.str "abcdefghijklmnopqrstuvwxyz")) (.cons (.lst .nil) .nil)))
  (.cons (.par [4, 5] (.cons (.call 0 (.cons (.v 0) (.cons (.k (.int 676)) .nil)) .nil) (.cons (.bin .add (.k (.int 1)) (.bin .mul (.k (.int 2)) (.call 0 (.cons (.v 0) (.cons (.k (.int 6)) .nil)) .nil))) .nil)))
  (.cons (.set 6 (.me .join (.k (.str "")) (.cons (.comp [7] (.n 7) (.rng (.cons (.call 0 (.cons (.v 0) (.cons (.k (.int 4)) .nil)) .nil) .nil)) .nil e1__law_called) .nil)))
  (.cons (.set 8 (.call 0 (.cons (.v 0) (.cons (.k (.int 2)) .nil)) .nil))
  (.cons (.forS (.n 7) (.rng (.cons (.v 1) .nil)) b3__law_called)
  (.cons (.ret (.v 3))
  .nil))))))
def c__law_amount : S := (.cons (.set 1 (.lst (.cons (.call 0 (.cons (.v 0) (.cons (.k (.int 6)) .nil)) .nil) (.cons (.call 0 (.cons (.v 0) (.cons (.k (.int 40)) .nil)) .nil) (.cons (.call 0 (.cons (.v 0) (.cons (.k (.int 1000)) .nil)) .nil) (.cons (.k (.int 0)) (.cons (.k (.int 1)) (.cons (.bin .add (.bin .pow (.k (.int 10)) (.k (.int 12))) (.call 0 (.cons (.v 0) (.cons (.k (.int 9)) .nil)) .nil)) .nil))))))))
  (.cons (.ret (.ix (.v 1) (.ix (.lst (.cons (.k (.int 0)) (.cons (.k (.int 0)) (.cons (.k (.int 0)) (.cons (.k (.int 1)) (.cons (.k (.int 1)) (.cons (.k (.int 1)) (.cons (.k (.int 1)) (.cons (.k (.int 2)) (.cons (.k (.int 2)) (.cons (.k (.int 3)) (.cons (.k (.int 4)) (.cons (.k (.int 5)) .nil))))))))))))) (.call 0 (.cons (.v 0) (.cons (.k (.int 12)) .nil)) .nil))))
  .nil))
def b1__law_split : S := (.cons (.ex (.mu .append 3 (.cons (.ix (.lst (.cons (.k (.int 0)) (.cons (.v 1) (.cons (.bin .fdiv (.v 1) (.k (.int 2))) (.cons (.call 0 (.cons (.v 0) (.cons (.bin .add (.v 1) (.k (.int 1))) .nil)) .nil) .nil))))) (.call 0 (.cons (.v 0) (.cons (.k (.int 4)) .nil)) .nil)) .nil)))
  (.cons (.set 1 (.bin .sub (.v 1) (.ix (.v 3) (.neg (.k (.int 1))))))
  .nil))
def c__law_split : S := (.cons (.set 3 (.lst .nil))
  (.cons (.forS (.n 4) (.rng (.cons (.bin .sub (.v 2) (.k (.int 1))) .nil)) b1__law_split)
  (.cons (.set 5 (.call 0 (.cons (.v 0) (.cons (.v 2) .nil)) .nil))
  (.cons (.ex (.mu .insert 3 (.cons (.v 5) (.cons (.v 1) .nil))))
  (.cons (.ret (.v 3))
  .nil)))))
def b1__law_goods : S := (.cons (.set 8 (.ite (.tv (.v 5)) (.k (.int 0)) (.call 0 (.cons (.v 0) (.cons (.bi .len (.cons (.v 2) .nil)) .nil)) .nil)))
  (.cons (.set 9 (.ite (.tv (.v 5)) (.k (.int 1)) (.bin .mod (.bin .add (.bin .add (.v 8) (.k (.int 1))) (.call 0 (.cons (.v 0) (.cons (.bin .sub (.bi .len (.cons (.v 2) .nil)) (.k (.int 1))) .nil)) .nil)) (.bi .len (.cons (.v 2) .nil)))))
  (.cons (.par [10, 11] (.cons (.call 1 (.cons (.v 0) .nil) .nil) (.cons (.call 1 (.cons (.v 0) .nil) .nil) .nil)))
  (.cons (.ife (.or (.cons (.and (.cons (.tv (.cmp .eq (.v 6) (.k (.int 1)))) (.cons (.tv (.cmp .gt (.v 10) (.v 11))) .nil))) (.cons (.and (.cons (.tv (.cmp .eq (.v 6) (.k (.int 2)))) (.cons (.tv (.cmp .lt (.v 10) (.v 11))) .nil))) .nil))) (.cons (.par [10, 11] (.cons (.v 11) (.cons (.v 10) .nil)))
  .nil) .nil)
  (.cons (.set 12 (.ite (.or (.cons (.tv (.cmp .gt (.call 0 (.cons (.v 0) (.cons (.k (.int 30)) .nil)) .nil) (.k (.int 0)))) (.cons (.tv (.cmp .gt (.v 7) (.k (.int 0)))) .nil))) (.ix (.v 1) (.bin .add (.k (.int 6)) (.v 7))) (.ix (.v 1) (.k (.int 0)))))
  (.cons (.ex (.mu .append 4 (.cons (.tup (.cons (.v 12) (.cons (.ix (.v 2) (.v 8)) (.cons (.ix (.v 2) (.v 9)) (.cons (.v 10) (.cons (.v 11) .nil)))))) .nil)))
  .nil))))))
def c__law_goods : S := (.cons (.par [4, 5, 6] (.cons (.lst .nil) (.cons (.cmp .eq (.call 0 (.cons (.v 0) (.cons (.k (.int 3)) .nil)) .nil) (.k (.int 0))) (.cons (.call 0 (.cons (.v 0) (.cons (.k (.int 4)) .nil)) .nil) .nil))))
  (.cons (.forS (.n 7) (.rng (.cons (.call 0 (.cons (.v 0) (.cons (.bin .add (.v 3) (.k (.int 1))) .nil)) .nil) .nil)) b1__law_goods)
  (.cons (.ret (.bi .tuple (.cons (.v 4) .nil)))
  .nil)))
def e1__law_gain : C := (.bin .sub (.ix (.ix (.ix (.v 0) (.k (.int 1))) (.v 2)) (.k (.int 4))) (.ix (.ix (.ix (.v 0) (.k (.int 1))) (.v 2)) (.k (.int 3))))
def c__law_gain : S := (.cons (.ret (.bi .sum (.cons (.comp [2] (.n 2) (.sv (.v 1)) .nil e1__law_gain) .nil)))
  .nil)
def e1__law_bonds : C := (.ix (.v 1) (.k (.int 1)))
def c__law_bonds : S := (.cons (.ret (.bi .sum (.cons (.comp [1] (.n 1) (.sv (.ix (.v 0) (.k (.int 0)))) .nil e1__law_bonds) .nil)))
  .nil)
def i1__law_own_gains : C := (.cons (.tv (.cmp .eq (.ix (.ix (.ix (.v 0) (.k (.int 1))) (.v 6)) (.k (.int 2))) (.v 3))) .nil)
def e2__law_own_gains : C := (.ix (.ix (.ix (.v 0) (.k (.int 1))) (.v 6)) (.k (.int 4)))
def i3__law_own_gains : C := (.cons (.tv (.cmp .eq (.ix (.ix (.ix (.v 0) (.k (.int 1))) (.v 6)) (.k (.int 1))) (.v 3))) .nil)
def e4__law_own_gains : C := (.ix (.ix (.ix (.v 0) (.k (.int 1))) (.v 6)) (.k (.int 3)))
def b5__law_own_gains : S := (.cons (.set 5 (.bi .sum (.cons (.comp [6] (.n 6) (.sv (.v 1)) i1__law_own_gains e2__law_own_gains) .nil)))
  (.cons (.ex (.mu .append 2 (.cons (.bin .sub (.v 5) (.bi .sum (.cons (.comp [6] (.n 6) (.sv (.v 1)) i3__law_own_gains e4__law_own_gains) .nil))) .nil)))
  .nil))
def c__law_own_gains : S := (.cons (.set 2 (.lst .nil))
  (.cons (.forS (.tc (.n 3) (.tc (.n 4) .t0)) (.sv (.ix (.v 0) (.k (.int 0)))) b5__law_own_gains)
  (.cons (.ret (.v 2))
  .nil)))
def e1__law_come : C := (.bin .add (.v 2) (.v 3))
def c__law_come : S := (.cons (.ret (.comp [2, 3] (.tc (.n 2) (.tc (.n 3) .t0)) (.zip (.call 0 (.cons (.v 0) (.cons (.ix (.v 1) (.k (.int 0))) .nil)) .nil) (.ix (.v 1) (.k (.int 1))) false) .nil e1__law_come))
  .nil)
def i1__law_leavers : C := (.cons (.tv (.cmp .lt (.bin .add (.v 3) (.ix (.v 2) (.k (.int 1)))) (.k (.int 0)))) .nil)
def e2__law_leavers : C := (.ix (.v 2) (.k (.int 0)))
def c__law_leavers : S := (.cons (.ret (.bi .tuple (.cons (.comp [2, 3] (.tc (.n 2) (.tc (.n 3) .t0)) (.zip (.ix (.v 0) (.k (.int 0))) (.call 0 (.cons (.v 0) (.cons (.v 1) .nil)) .nil) false) i1__law_leavers e2__law_leavers) .nil)))
  .nil)
def i1__law_sorted : C := (.cons (.tv (.cmp .gt (.ix (.ix (.ix (.v 0) (.k (.int 1))) (.v 3)) (.k (.int 3))) (.ix (.ix (.ix (.v 0) (.k (.int 1))) (.v 3)) (.k (.int 4))))) .nil)
def e2__law_sorted : C := (.v 3)
def i3__law_sorted : C := (.cons (.tv (.cmp .le (.ix (.ix (.ix (.v 0) (.k (.int 1))) (.v 3)) (.k (.int 3))) (.ix (.ix (.ix (.v 0) (.k (.int 1))) (.v 3)) (.k (.int 4))))) .nil)
def e4__law_sorted : C := (.v 3)
def e5__law_sorted : C := (.tup (.cons (.ix (.ix (.ix (.v 0) (.k (.int 1))) (.v 3)) (.k (.int 4))) (.cons (.ix (.ix (.ix (.v 0) (.k (.int 1))) (.v 3)) (.k (.int 0))) (.cons (.v 3) .nil))))
def e6__law_sorted : C := (.ix (.v 5) (.k (.int 2)))
def e7__law_sorted : C := (.tup (.cons (.bin .sub (.k (.int 0)) (.ix (.ix (.ix (.v 0) (.k (.int 1))) (.v 3)) (.k (.int 3)))) (.cons (.ix (.ix (.ix (.v 0) (.k (.int 1))) (.v 3)) (.k (.int 0))) (.cons (.v 3) .nil))))
def e8__law_sorted : C := (.ix (.v 5) (.k (.int 2)))
def c__law_sorted : S := (.cons (.set 2 (.comp [3] (.n 3) (.sv (.v 1)) i1__law_sorted e2__law_sorted))
  (.cons (.set 4 (.comp [3] (.n 3) (.sv (.v 1)) i3__law_sorted e4__law_sorted))
  (.cons (.set 2 (.comp [5] (.n 5) (.sv (.bi .sorted (.cons (.comp [3] (.n 3) (.sv (.v 2)) .nil e5__law_sorted) .nil))) .nil e6__law_sorted))
  (.cons (.ret (.bin .add (.v 2) (.comp [5] (.n 5) (.sv (.bi .sorted (.cons (.comp [3] (.n 3) (.sv (.v 4)) .nil e7__law_sorted) .nil))) .nil e8__law_sorted)))
  .nil))))
def b1__law_needed : S := (.cons (.ex (.mu .append 2 (.cons (.bin .sub (.ix (.ix (.ix (.v 0) (.k (.int 1))) (.v 4)) (.k (.int 4))) (.v 3)) .nil)))
  (.cons (.set 3 (.bin .add (.bin .sub (.v 3) (.ix (.ix (.ix (.v 0) (.k (.int 1))) (.v 4)) (.k (.int 4)))) (.ix (.ix (.ix (.v 0) (.k (.int 1))) (.v 4)) (.k (.int 3)))))
  .nil))
def c__law_needed : S := (.cons (.par [2, 3] (.cons (.lst .nil) (.cons (.call 0 (.cons (.v 0) (.cons (.v 1) .nil)) .nil) .nil)))
  (.cons (.forS (.n 4) (.sv (.v 1)) b1__law_needed)
  (.cons (.ret (.mxd true (.v 2) (.k .none)))
  .nil)))
def c__law_need_of : S := (.cons (.set 2 (.call 0 (.cons (.v 0) (.cons (.call 1 (.cons (.v 0) (.cons (.v 1) .nil)) .nil) .nil)) .nil))
  (.cons (.ret (.ite (.tv (.cmp .is (.v 2) (.k .none))) (.k (.int 0)) (.v 2)))
  .nil))
def e1__law_dues : C := (.bin .sub (.bin .sub (.v 6) (.ix (.v 7) (.k (.int 1)))) (.v 8))
def c__law_dues : S := (.cons (.set 3 (.bin .add (.call 0 (.cons (.v 1) (.cons (.v 2) .nil)) .nil) (.call 1 (.cons (.v 1) .nil) .nil)))
  (.cons (.set 4 (.call 2 (.cons (.v 0) (.cons (.bi .max (.cons (.k (.int 0)) (.cons (.v 3) .nil))) (.cons (.bi .len (.cons (.ix (.v 1) (.k (.int 0))) .nil)) .nil))) .nil))
  (.cons (.setIx 4 (.k (.int 0)) (.bin .add (.ix (.v 4) (.k (.int 0))) (.bi .min (.cons (.k (.int 0)) (.cons (.v 3) .nil)))))
  (.cons (.set 5 (.call 3 (.cons (.v 1) (.cons (.v 2) .nil)) .nil))
  (.cons (.ret (.bi .tuple (.cons (.comp [6, 7, 8] (.tc (.n 6) (.tc (.n 7) (.tc (.n 8) .t0))) (.zip3 (.v 4) (.ix (.v 1) (.k (.int 0))) (.v 5)) .nil e1__law_dues) .nil)))
  .nil)))))
def e1__law_deal_of : C := (.tup (.cons (.v 4) (.cons (.k (.int 0)) .nil)))
def e2__law_deal_of : C := (.tup (.cons (.v 4) (.cons (.v 9) .nil)))
def c__law_deal_of : S := (.cons (.set 3 (.tup (.cons (.bi .tuple (.cons (.comp [4] (.n 4) (.sv (.v 1)) .nil e1__law_deal_of) .nil)) (.cons (.v 2) (.cons (.tup .nil) .nil)))))
  (.cons (.set 5 (.call 0 (.cons (.v 3) (.cons (.lstI (.rng (.cons (.bi .len (.cons (.v 2) .nil)) .nil))) .nil)) .nil))
  (.cons (.set 6 (.bi .max (.cons (.k (.int 0)) (.cons (.bin .add (.v 5) (.ix (.lst (.cons (.k (.int 0)) (.cons (.k (.int 0)) (.cons (.bin .sub (.k (.int 0)) (.k (.int 1))) (.cons (.k (.int 1)) (.cons (.call 1 (.cons (.v 0) (.cons (.k (.int 50)) .nil)) .nil) (.cons (.bin .sub (.call 1 (.cons (.v 0) (.cons (.k (.int 50)) .nil)) .nil) (.k (.int 25))) .nil))))))) (.call 1 (.cons (.v 0) (.cons (.k (.int 6)) .nil)) .nil))) .nil))))
  (.cons (.set 7 (.call 2 (.cons (.v 0) (.cons (.v 6) (.cons (.bi .len (.cons (.v 1) .nil)) .nil))) .nil))
  (.cons (.set 8 (.tup (.cons (.bi .tuple (.cons (.comp [4, 9] (.tc (.n 4) (.tc (.n 9) .t0)) (.zip (.v 1) (.v 7) false) .nil e2__law_deal_of) .nil)) (.cons (.v 2) (.cons (.tup .nil) .nil)))))
  (.cons (.ret (.bin .add (.sl (.v 8) .nil (.cons (.k (.int 2)) .nil)) (.tup (.cons (.call 3 (.cons (.v 0) (.cons (.v 8) (.cons (.lstI (.rng (.cons (.bi .len (.cons (.v 2) .nil)) .nil))) .nil))) .nil) .nil))))
  .nil))))))
def c__law_any : S := (.cons (.set 4 (.sl (.v 1) .nil (.cons (.bin .add (.k (.int 2)) (.call 0 (.cons (.v 0) (.cons (.bin .sub (.v 2) (.k (.int 1))) .nil)) .nil)) .nil)))
  (.cons (.ret (.call 1 (.cons (.v 0) (.cons (.v 4) (.cons (.call 2 (.cons (.v 0) (.cons (.v 1) (.cons (.v 4) (.cons (.v 3) .nil)))) .nil) .nil))) .nil))
  .nil))
def i1__law_rest : C := (.cons (.or (.cons (.tv (.cmp .eq (.v 2) (.k (.int 0)))) (.cons (.tv (.cmp .gt (.call 0 (.cons (.v 0) (.cons (.bin .add (.k (.int 1)) (.v 2)) .nil)) .nil) (.k (.int 0)))) .nil))) .nil)
def e2__law_rest : C := (.v 3)
def c__law_rest : S := (.cons (.set 2 (.call 0 (.cons (.v 0) (.cons (.k (.int 4)) .nil)) .nil))
  (.cons (.ret (.bi .tuple (.cons (.comp [3] (.n 3) (.rng (.cons (.bi .len (.cons (.ix (.v 1) (.k (.int 1))) .nil)) .nil)) i1__law_rest e2__law_rest) .nil)))
  .nil))
def c__law_spot : S := (.cons (.set 2 (.call 0 (.cons (.v 0) (.cons (.v 1) .nil)) .nil))
  (.cons (.set 3 (.bi .list (.cons (.call 1 (.cons (.v 0) (.cons (.v 1) (.cons (.v 2) .nil))) .nil) .nil)))
  (.cons (.ife (.tv (.cmp .eq (.call 2 (.cons (.v 0) (.cons (.k (.int 5)) .nil)) .nil) (.k (.int 0)))) (.cons (.set 4 (.bin .add (.k (.int 1)) (.call 3 (.cons (.v 0) .nil) .nil)))
  (.cons (.setQ [3, 3] (.cons (.k (.int 0)) (.cons (.neg (.k (.int 1))) .nil)) (.tup (.cons (.bin .add (.ix (.v 3) (.k (.int 0))) (.v 4)) (.cons (.bin .sub (.ix (.v 3) (.neg (.k (.int 1)))) (.v 4)) .nil))))
  .nil)) .nil)
  (.cons (.ret (.tup (.cons (.v 2) (.cons (.bi .tuple (.cons (.v 3) .nil)) .nil))))
  .nil))))
end Q.S
set_option Elab.async false
set_option linter.all false
set_option maxRecDepth 100000
set_option maxHeartbeats 2000000
/-! SB: numbers, names, draws. -/
namespace Q.S
open PySem PySem.Spec PyProof.Rows L2 Q
def isInt : PyData → Bool
  | .int _ => true
  | _ => false
def sp_is_number : Spec := fun ms Kc _ => ∃ d, ms = [.p d] ∧ Kc (.p (.bool (isInt d))) ms
theorem h_is_number (ms : List M) (Kc : M → List M → Prop) (h : sp_is_number ms Kc (fun _ _ => False)) : wpFn [] 1 c_is_number ms Kc (fun _ _ => False) := by
  obtain ⟨d, rfl, h⟩ := h
  cases d <;> simp [wpFn, startD, lockOf, outs, wipe, back, bindT, bindTs, peek, peeks, ats, setAll, light, lightAll, qI, rng_len, enum_len, c_is_number, isiM, isiS, M.kn, truM] at h ⊢ <;> exact h
def coinsB : PyData → Int → Bool
  | .int i, l => decide (l ≤ i)
  | _, _ => false
def sp_is_coins : Spec := fun ms Kc _ => ∃ d l, ms = [.p d, .p (.int l)] ∧ Kc (.p (.bool (coinsB d l))) ms
theorem h_is_coins (ms : List M) (Kc : M → List M → Prop) (h : sp_is_coins ms Kc (fun _ _ => False)) : wpFn [sp_is_number] 2 c_is_coins ms Kc (fun _ _ => False) := by
  obtain ⟨d, l, rfl, h⟩ := h
  cases d <;> simp [wpFn, startD, lockOf, outs, wipe, back, bindT, bindTs, peek, peeks, ats, setAll, light, lightAll, qI, rng_len, enum_len, c_is_coins, sp_is_number, isInt, coinsB] at h ⊢ <;> exact h
def amongB : PyData → Int → Bool
  | .int i, l => decide (0 ≤ i) && decide (i < l)
  | _, _ => false
def sp_is_among : Spec := fun ms Kc _ => ∃ d l, ms = [.p d, .p (.int l)] ∧ Kc (.p (.bool (amongB d l))) ms
theorem h_is_among (ms : List M) (Kc : M → List M → Prop) (h : sp_is_among ms Kc (fun _ _ => False)) : wpFn [sp_is_number] 2 c_is_among ms Kc (fun _ _ => False) := by
  obtain ⟨d, l, rfl, h⟩ := h
  cases d <;> simp [wpFn, startD, lockOf, outs, wipe, back, bindT, bindTs, peek, peeks, ats, setAll, light, lightAll, qI, rng_len, enum_len, c_is_among, sp_is_number, isInt, amongB] at h ⊢ <;> first | exact h | skip
  rename_i i
  by_cases h0 : 0 ≤ i
  · simp [h0] at h ⊢; exact h
  · simp [h0] at h ⊢; exact h
def sp__law_mixed : Spec := fun ms Kc _ => ∃ c k, ms = [.p (.int c), .p (.int k)] ∧ 0 ≤ k ∧ k < 2 ^ 60 ∧ ∀ r, Kc (.p (.int r)) ms
theorem h__law_mixed (ms : List M) (Kc : M → List M → Prop) (h : sp__law_mixed ms Kc (fun _ _ => False)) : wpFn [] 3 c__law_mixed ms Kc (fun _ _ => False) := by
  obtain ⟨c, k, rfl, h0, h1, h⟩ := h
  simp [wpFn, startD, lockOf, outs, wipe, back, bindT, bindTs, peek, peeks, ats, setAll, light, lightAll, qI, rng_len, enum_len, c__law_mixed]
  refine ⟨mulR (by omega), mulR (by omega), mulR (by omega), mulR (by omega), mulR (by omega), mulR (by omega), mulR (by omega), ?_, h _⟩
  decide +kernel
section
variable (a b c x : M)
theorem kg1 : kget [(.inr "cells", a), (.inr "great", b), (.inr "spot", c)] (.inr "cells") = some a := rfl
theorem kg2 : kget [(.inr "cells", a), (.inr "great", b), (.inr "spot", c)] (.inr "great") = some b := rfl
theorem kg3 : kget [(.inr "cells", a), (.inr "great", b), (.inr "spot", c)] (.inr "spot") = some c := rfl
theorem kp2 : kput [(.inr "cells", a), (.inr "great", b), (.inr "spot", c)] (.inr "great") x = [(.inr "cells", a), (.inr "great", x), (.inr "spot", c)] := rfl
theorem kp3 : kput [(.inr "cells", a), (.inr "great", b), (.inr "spot", c)] (.inr "spot") x = [(.inr "cells", a), (.inr "great", b), (.inr "spot", x)] := rfl
end
def mOf (cells great : List Int) (spot : Int) : List (L2.Key × M) := [(.inr "cells", .l (cells.map .int)), (.inr "great", .l (great.map .int)), (.inr "spot", .p (.int spot))]
def mOk (s : Int) (m : List (L2.Key × M)) : Prop := ∃ cells great spot, m = mOf cells great spot ∧ cells.length = 64 ∧ (∀ g ∈ great, 0 ≤ g) ∧ 0 ≤ spot ∧ spot ≤ s
def sp__law_draw : Spec := fun ms Kc _ => ∃ m s top, ms = [.dc m, .p (.int top)] ∧ mOk s m ∧ s < 2 ^ 40 ∧ 0 < top ∧ top < 2 ^ 63 ∧ ∀ r m', 0 ≤ r → r < top → mOk (s + 1) m' → Kc (.p (.int r)) [.dc m', .p (.int top)]
theorem h__law_draw (ms : List M) (Kc : M → List M → Prop) (h : sp__law_draw ms Kc (fun _ _ => False)) : wpFn [sp__law_mixed] 5 c__law_draw ms Kc (fun _ _ => False) := by
  obtain ⟨m, s, top, rfl, ⟨cells, great, spot, rfl, hc, hg, s0, s1⟩, hs, t0, t1, h⟩ := h
  obtain ⟨c, _, ec⟩ := atI_int (ns := cells) (i := spot % 64) (by omega) (by omega)
  have l64 : Nat.log2 64 < 9000 := by decide +kernel
  have l3 : 3 < sizeLine := by decide
  have m31 : mulOk 31 (spot / 64) := mulL (by omega)
  have f1 : ∀ r : Int, 0 ≤ r % top ∧ r % top < top := fun r => ⟨Int.emod_nonneg _ (by omega), Int.emod_lt_of_pos _ t0⟩
  by_cases hgr : great = []
  · subst hgr
    simp [wpFn, startD, lockOf, outs, wipe, back, bindT, bindTs, peek, peeks, ats, setAll, light, lightAll, qI, rng_len, enum_len, c__law_draw, mOf, kg1, kg2, kg3, kp2, kp3, ec, l64, l3, m31, sp__law_mixed]
    refine ⟨shaped_ints [], _, _, ⟨rfl, rfl⟩, s0, by omega, fun r => ⟨_, _, ⟨rfl, rfl⟩, by omega, by omega, fun r => ⟨t0, ?_⟩⟩⟩
    exact h _ _ (f1 r).1 (f1 r).2 ⟨cells, [], spot + 1, rfl, hc, by simp, by omega, by omega⟩
  · have hl : 0 < great.length := List.length_pos_iff.mpr hgr
    obtain ⟨g, hgm, eg⟩ := atI_int (ns := great) (i := spot % great.length) (Int.emod_nonneg _ (by omega)) (Int.emod_lt_of_pos _ (by omega))
    have eix : L2.ixN great.length (spot % great.length) = some (spot % great.length).toNat := ixN_ok (Int.emod_nonneg _ (by omega)) (Int.emod_lt_of_pos _ (by omega))
    by_cases hp : 0 < g
    · have ltop := log_ok t0 t1
      simp [wpFn, startD, lockOf, outs, wipe, back, bindT, bindTs, peek, peeks, ats, setAll, light, lightAll, qI, rng_len, enum_len, c__law_draw, mOf, kg1, kg2, kg3, kp2, kp3, eg, l64, l3, hgr, hl, hp, t0, ltop, eix, shaped_ints]
      refine h _ _ (f1 g).1 (f1 g).2 ⟨cells, great.set (spot % great.length).toNat (g / top), spot + 1, ?_, hc, fun x hx => ?_, by omega, by omega⟩
      · simp [mOf, List.map_set]
      · rcases List.mem_or_eq_of_mem_set hx with z | z
        · exact hg x z
        · rw [z]; exact Int.ediv_nonneg (by omega) (by omega)
    · simp [wpFn, startD, lockOf, outs, wipe, back, bindT, bindTs, peek, peeks, ats, setAll, light, lightAll, qI, rng_len, enum_len, c__law_draw, mOf, kg1, kg2, kg3, kp2, kp3, ec, eg, l64, l3, m31, sp__law_mixed, hgr, hl, hp, shaped_ints]
      refine ⟨_, _, ⟨rfl, rfl⟩, s0, by omega, fun r => ⟨_, _, ⟨rfl, rfl⟩, by omega, by omega, fun r => ⟨t0, ?_⟩⟩⟩
      exact h _ _ (f1 r).1 (f1 r).2 ⟨cells, great, spot + 1, rfl, hc, hg, by omega, by omega⟩

def sp__law_folded : Spec := fun ms Kc _ => ∃ ns : List Int, ms = [.p (.list (ns.map .int))] ∧ ns.length ≤ 1000 ∧ ∀ cells : List Int, cells.length = 64 → Kc (.l (cells.map .int)) ms
theorem h__law_folded (ms : List M) (Kc : M → List M → Prop) (h : sp__law_folded ms Kc (fun _ _ => False)) : wpFn [] 4 c__law_folded ms Kc (fun _ _ => False) := by
  obtain ⟨ns, rfl, hn, h⟩ := h
  have l64 : Nat.log2 64 < 9000 := by decide +kernel
  have lz : 64 ≤ sizeLine := by decide
  simp [wpFn, startD, lockOf, outs, wipe, back, bindT, bindTs, peek, peeks, ats, setAll, light, lightAll, qI, rng_len, enum_len, c__law_folded, lz]
  refine ⟨by decide, compLoop_inv (fun xs ds δ => (∀ x ∈ xs, ∃ i, x = .int i) ∧ ∃ fs : List Int, ds = fs.map .int ∧ fs.length + xs.length = 64 ∧ δ = [some (M.p (.list (ns.map .int))), none, none, none]) ?_ (rngItems 0 64) [] _ _ ⟨fun x hx => (mem_rng hx).imp fun i h => h.1, [], rfl, by simp [rng_len], rfl⟩ ?_⟩
  · rintro x xs ds δ k ⟨hx, fs, rfl, hl, rfl⟩ hk
    obtain ⟨i, rfl⟩ := hx x (List.mem_cons_self ..)
    refine ⟨gdOk_nil, ?_⟩
    simp [wpFn, startD, lockOf, outs, wipe, back, bindT, bindTs, peek, peeks, ats, setAll, light, lightAll, qI, rng_len, enum_len, e1__law_folded]
    refine hk _ _ ⟨fun y hy => hx y (List.mem_cons_of_mem _ hy), fs ++ [17 + i], by simp, by simp at hl ⊢; omega, by simp [wipe]⟩
  rintro ds δ ⟨-, fs, e, hl, rfl⟩
  simp at e hl
  subst e
  refine ⟨gdOk_nil, ?_⟩
  simp [wpFn, startD, lockOf, outs, wipe, back, bindT, bindTs, peek, peeks, ats, setAll, light, lightAll, qI, rng_len, enum_len]
  refine forLoop_inv (fun xs δ => (∀ x ∈ xs, ∃ k c, x = .tuple [.int k, .int c] ∧ 0 ≤ k) ∧ ∃ (fs : List Int) (a b : Option M), fs.length = 64 ∧ δ = [some (M.p (.list (ns.map .int))), some (.l (fs.map .int)), a, b]) ?_ ?_ _ _ ⟨fun x hx => ?_, fs, none, none, hl, rfl⟩
  · rintro x xs δ N ⟨hx, fs, a, b, hl, rfl⟩ hN
    obtain ⟨k, c, rfl, k0⟩ := hx x (List.mem_cons_self ..)
    refine ⟨gdOk_nil, ?_⟩
    obtain ⟨q, _, eq⟩ := atI_int (ns := fs) (i := k % 64) (by omega) (by omega)
    have eix : L2.ixN 64 (k % 64) = some (k % 64).toNat := ixN_ok (by omega) (by omega)
    simp [wpFn, startD, lockOf, outs, wipe, back, bindT, bindTs, peek, peeks, ats, setAll, light, lightAll, qI, rng_len, enum_len, b2__law_folded, eq, hl, eix]
    refine ⟨mulR (by omega), hN _ ⟨fun y hy => hx y (List.mem_cons_of_mem _ hy), fs.set (k % 64).toNat ((q * 48271 + c) % 2147483647), _, _, by simp [hl], by rw [List.map_set]⟩⟩
  · rintro δ ⟨-, fs, a, b, hl, rfl⟩
    refine ⟨gdOk_nil, ?_⟩
    refine forLoop_inv (fun xs δ => (∀ x ∈ xs, ∃ k, x = .int k ∧ 1 ≤ k ∧ k < 64) ∧ ∃ (fs : List Int) (a b : Option M), fs.length = 64 ∧ δ = [some (M.p (.list (ns.map .int))), some (.l (fs.map .int)), a, b]) ?_ ?_ _ _ ⟨fun x hx => mem_rng hx, fs, a, b, hl, rfl⟩
    · rintro x xs δ N ⟨hx, fs, a, b, hl, rfl⟩ hN
      obtain ⟨k, rfl, k1, k2⟩ := hx x (List.mem_cons_self ..)
      refine ⟨gdOk_nil, ?_⟩
      obtain ⟨q, _, eq⟩ := atI_int (ns := fs) (i := k) (by omega) (by omega)
      obtain ⟨q2, _, eq2⟩ := atI_int (ns := fs) (i := k - 1) (by omega) (by omega)
      have eix : L2.ixN 64 k = some k.toNat := ixN_ok (by omega) (by omega)
      simp [wpFn, startD, lockOf, outs, wipe, back, bindT, bindTs, peek, peeks, ats, setAll, light, lightAll, qI, rng_len, enum_len, b3__law_folded, eq, eq2, hl, eix]
      refine ⟨mulR (by omega), hN _ ⟨fun y hy => hx y (List.mem_cons_of_mem _ hy), fs.set k.toNat ((q + q2 * 16807) % 2147483647), _, _, by simp [hl], by rw [List.map_set]⟩⟩
    · rintro δ ⟨-, fs, a, b, hl, rfl⟩
      refine ⟨gdOk_nil, ?_⟩
      simp [wpFn, startD, lockOf, outs, wipe, back, bindT, bindTs, peek, peeks, ats, setAll, light, lightAll, qI, rng_len, enum_len]
      exact h fs hl
  · obtain ⟨k, d, rfl, k0, _, hd⟩ := mem_enum hx
    obtain ⟨c, rfl, _⟩ := mem_ints hd
    exact ⟨k, c, rfl, k0⟩
theorem use_draw {m : List (L2.Key × M)} {s top : Int} {K : M → List M → Prop} {X : Exn → List M → Prop} (hm : mOk s m) (hs : s < 2 ^ 40) (t0 : 0 < top) (t1 : top < 2 ^ 63)
    (h : ∀ r m', 0 ≤ r → r < top → mOk (s + 1) m' → K (.p (.int r)) [.dc m', .p (.int top)]) : sp__law_draw [.dc m, .p (.int top)] K X := ⟨m, s, top, rfl, hm, hs, t0, t1, h⟩
theorem mOk.mono {s t : Int} {m : List (L2.Key × M)} (h : mOk s m) (hl : s ≤ t) : mOk t m := by
  obtain ⟨a, b, c, e, h1, h2, h3, h4⟩ := h
  exact ⟨a, b, c, e, h1, h2, h3, by omega⟩
def sp__law_begun : Spec := fun ms Kc _ => ∃ ns : List Int, ms = [.p (.list (ns.map .int))] ∧ ns.length ≤ 1000 ∧ ∀ m, mOk 0 m → Kc (.dc m) ms
theorem h__law_begun (ms : List M) (Kc : M → List M → Prop) (h : sp__law_begun ms Kc (fun _ _ => False)) : wpFn [sp__law_folded] 3 c__law_begun ms Kc (fun _ _ => False) := by
  obtain ⟨ns, rfl, hn, h⟩ := h
  have lz : (ns.length : Int) ≤ sizeLine := by have : sizeLine = 16777216 := sizeLine_eq; omega
  have l3 : 3 < sizeLine := by decide
  have hz : ns.length ≤ sizeLine := by omega
  simp [wpFn, startD, lockOf, outs, wipe, back, bindT, bindTs, peek, peeks, ats, setAll, light, lightAll, qI, rng_len, enum_len, c__law_begun, lz, hz, l3]
  refine ⟨ns, rfl, hn, fun cells hc => ?_⟩
  simp [wpFn, startD, lockOf, outs, wipe, back, bindT, bindTs, peek, peeks, ats, setAll, light, lightAll, qI, rng_len, enum_len, hz, l3]
  refine compLoop_inv (fun xs ds δ => (∀ x ∈ xs, ∃ i, x = .int i) ∧ ∃ gs : List Int, ds = gs.map .int ∧ (∀ g ∈ gs, 0 ≤ g) ∧ δ = [some (M.p (.list (ns.map .int))), some (.dc [(.inr "cells", .l (cells.map .int)), (.inr "great", .l []), (.inr "spot", .p (.int 0))]), none]) ?_ _ [] _ _ ⟨fun x hx => (mem_ints hx).imp fun i h => h.1, [], rfl, by simp, rfl⟩ ?_
  · rintro x xs ds δ k ⟨hx, gs, rfl, hg, rfl⟩ hk
    obtain ⟨i, rfl⟩ := hx x (List.mem_cons_self ..)
    refine ⟨gdOk_nil, ?_⟩
    by_cases hi : 1000000000000000000 ≤ i
    · simp [wpFn, startD, lockOf, outs, wipe, back, bindT, bindTs, peek, peeks, ats, setAll, light, lightAll, qI, rng_len, enum_len, e1__law_begun, hi]
      refine hk _ _ ⟨fun y hy => hx y (List.mem_cons_of_mem _ hy), gs ++ [i], by simp, ?_, by simp [wipe]⟩
      intro g hg'
      rcases List.mem_append.mp hg' with z | z
      · exact hg g z
      · rw [List.mem_singleton] at z; omega
    · simp [wpFn, startD, lockOf, outs, wipe, back, bindT, bindTs, peek, peeks, ats, setAll, light, lightAll, qI, rng_len, enum_len, e1__law_begun, hi]
      refine hk _ _ ⟨fun y hy => hx y (List.mem_cons_of_mem _ hy), gs ++ [0], by simp, ?_, by simp [wipe]⟩
      intro g hg'
      rcases List.mem_append.mp hg' with z | z
      · exact hg g z
      · rw [List.mem_singleton] at z; omega
  rintro ds δ ⟨-, gs, e, hg, rfl⟩
  simp at e
  subst e
  refine ⟨gdOk_nil, ?_⟩
  simp [wpFn, startD, lockOf, outs, wipe, back, bindT, bindTs, peek, peeks, ats, setAll, light, lightAll, qI, rng_len, enum_len, kp2, l3]
  exact h _ ⟨cells, gs, 0, rfl, hc, hg, by omega, by omega⟩
def asc (z : Str) : Prop := ∀ c ∈ z.cps.toList, c < 128
theorem asc_ok {z : Str} (h : asc z) : PyData.strOk z = true := by
  unfold PyData.strOk
  rw [← Array.all_toList, List.all_eq_true]
  intro c hc
  have := h c hc
  exact decide_eq_true (by omega)
theorem asc_append {a b : Str} (ha : asc a) (hb : asc b) : asc (a ++ b) := by
  intro c hc
  have e : (a ++ b).cps.toList = a.cps.toList ++ b.cps.toList := Array.toList_append
  rw [e] at hc
  exact (List.mem_append.mp hc).elim (ha c) (hb c)
theorem asc_cut {a : Str} (ha : asc a) (lo hi : Option Int) : asc (L2.cutS a lo hi) := by
  intro c hc
  have e : (L2.cutS a lo hi).cps.toList = (a.cps.toList.drop (HT.sIx a.length 0 lo)).take (HT.sIx a.length a.length hi - HT.sIx a.length 0 lo) := by unfold L2.cutS; rfl
  rw [e] at hc
  exact ha c (List.mem_of_mem_drop (List.mem_of_mem_take hc))
theorem asc_join : ∀ {zs : List Str}, (∀ z ∈ zs, asc z) → asc (Str.join (Str.ofString "") zs)
  | [], _ => fun c hc => by cases hc
  | [x], h => h x (List.mem_cons_self ..)
  | x :: y :: r, h => by
    show asc (x ++ Str.ofString "" ++ Str.join (Str.ofString "") (y :: r))
    refine asc_append (asc_append (h x (List.mem_cons_self ..)) fun c hc => ?_) (asc_join fun z hz => h z (List.mem_cons_of_mem _ hz))
    have e : (Str.ofString "").cps.toList = [] := by decide +kernel
    rw [e] at hc; cases hc
theorem at_strM {z : Str} {i : Int} (h0 : 0 ≤ i) (h : i < z.length) (ha : asc z) : ∃ c, L2.atI z.cps.toList i = some c ∧ asc ⟨#[c]⟩ := by
  have hl : i.toNat < z.cps.toList.length := by
    rw [Array.length_toList]; show i.toNat < z.length; omega
  refine ⟨_, atI_ok h0 (List.getElem?_eq_getElem hl), fun c hc => ?_⟩
  have hc' : c = z.cps.toList[i.toNat] := by simpa using hc
  rw [hc']
  exact ha _ (List.getElem_mem hl)
theorem at_str {z : Str} {i : Int} (h0 : 0 ≤ i) (h : i < z.length) : ∃ c, L2.atI z.cps.toList i = some c := by
  have hl : i.toNat < z.cps.toList.length := by
    rw [Array.length_toList]; show i.toNat < z.length; omega
  exact ⟨_, atI_ok h0 (List.getElem?_eq_getElem hl)⟩
def okD (d : PyData) : Prop := ∀ z, d = .str z → z.length ≤ 100 ∧ asc z
def letters : Str := Str.ofString "abcdefghijklmnopqrstuvwxyz"
def inL (c : Nat) : Bool := !(Builtin.Str.occurrences letters ⟨#[c]⟩ 0 letters.length 1).isEmpty
def nameB : PyData → Bool
  | .str z => decide (1 ≤ (z.length : Int)) && (decide ((z.length : Int) ≤ 8) && z.cps.toList.all inL)
  | _ => false
def sp_is_name : Spec := fun ms Kc _ => ∃ d, ms = [.p d] ∧ okD d ∧ Kc (.p (.bool (nameB d))) ms
theorem allB {bs : List Bool} {K : M → Prop} : K (.p (.bool (bs.all id))) → biM .all [.l (bs.map .bool)] K := fun h => ⟨_, bs, rfl, boolL_map bs, h⟩
theorem h_is_name (ms : List M) (Kc : M → List M → Prop) (h : sp_is_name ms Kc (fun _ _ => False)) : wpFn [] 2 c_is_name ms Kc (fun _ _ => False) := by
  obtain ⟨d, rfl, ok, h⟩ := h
  cases d with
  | str z =>
    have hz := (ok z rfl).1
    have lz : z.length ≤ sizeLine := by have : sizeLine = 16777216 := sizeLine_eq; omega
    have l1 : z.cps.size ≤ sizeLine := lz
    simp [wpFn, startD, lockOf, outs, wipe, back, bindT, bindTs, peek, peeks, ats, setAll, light, lightAll, qI, rng_len, enum_len, c_is_name, isiM, isiS, M.kn, lz, l1]
    have key : ∀ Kd : List PyData → De → Prop, (∀ δ, Kd ((z.cps.toList.map inL).map .bool) δ) → compLoop [1] [] (fun x δ2 k => ∃ δ3, (1 < List.length δ2 ∧ List.set δ2 1 (some (M.p x)) = δ3) ∧ wpE [] (fun e δ => False) e1_is_name δ3 fun y δ5 => frz y δ5 fun d δ6 => k (some d) δ6)
          (List.map (fun c => PyData.str { cps := #[c] }) z.cps.toList) [some (M.p (PyData.str z)), none] Kd := by
      intro Kd hKd
      refine compLoop_inv (fun xs ds δ => ∃ (cs : List Nat) (bs : List Bool), xs = cs.map (fun c => PyData.str { cps := #[c] }) ∧ ds = bs.map .bool ∧ bs ++ cs.map inL = z.cps.toList.map inL ∧ δ = [some (M.p (.str z)), none]) ?_ _ [] _ _ ⟨z.cps.toList, [], rfl, rfl, rfl, rfl⟩ ?_
      · rintro x xs ds δ k ⟨cs, bs, e, rfl, eb, rfl⟩ hk
        cases cs with
        | nil => cases e
        | cons c cs =>
          cases e
          refine ⟨gdOk_nil, _, ⟨by simp, rfl⟩, ?_⟩
          simp [wpFn, startD, lockOf, outs, wipe, back, bindT, bindTs, peek, peeks, ats, setAll, light, lightAll, qI, rng_len, enum_len, e1_is_name, cS3]
          exact hk _ _ ⟨cs, bs ++ [inL c], rfl, by simp [inL, letters], by simpa using eb, by simp [wipe]⟩
      · rintro ds δ ⟨cs, bs, e, e2, eb, rfl⟩
        cases cs with
        | cons _ _ => cases e
        | nil =>
          simp at eb e2
          subst eb
          subst e2
          exact ⟨gdOk_nil, by simpa using hKd _⟩
    by_cases c1 : 1 ≤ (z.length : Int)
    · rw [if_pos c1]
      by_cases c2 : (z.length : Int) ≤ 8
      · refine .inr ⟨c2, key _ fun δ => allB ?_⟩
        have : nameB (.str z) = (z.cps.toList.map inL).all id := by
          simp only [nameB, decide_eq_true c1, decide_eq_true c2, Bool.true_and]
          rw [List.all_map]; rfl
        rw [← this]; exact h
      · refine .inl ⟨by omega, ?_⟩
        have : nameB (.str z) = false := by simp only [nameB, decide_eq_false c2, Bool.false_and, Bool.and_false]
        rw [← this]; exact h
    · rw [if_neg c1]
      have : nameB (.str z) = false := by simp only [nameB, decide_eq_false c1, Bool.false_and]
      rw [← this]; exact h
  | _ => simp [wpFn, startD, lockOf, outs, wipe, back, bindT, bindTs, peek, peeks, ats, setAll, light, lightAll, qI, rng_len, enum_len, c_is_name, isiM, isiS, M.kn, nameB] at h ⊢ <;> exact h
end Q.S
set_option Elab.async false
set_option linter.all false
set_option maxRecDepth 100000
set_option maxHeartbeats 2000000
/-! SC: helpers: sequences as arguments, texts in lists, data that is shown. -/
namespace Q
open PySem PySem.Spec PyProof.Rows L2
/-- a tuple or a list, own or not -/
def isSeq (m : M) (ds : List PyData) : Prop := m = .l ds ∨ m = .p (.tuple ds) ∨ m = .p (.list ds)
theorem isSeq.seq {m : M} {ds : List PyData} (h : isSeq m ds) : m.seq = some ds := by rcases h with rfl | rfl | rfl <;> rfl
section
variable {Γ : List Spec} {X : Exn → De → Prop} {δ : De}
theorem wpI_seq {i : Nat} {m : M} {ds : List PyData} {K : Src → De → Prop} (h : (δ[i]?).getD none = some m) (hs : isSeq m ds) (hK : ∀ gd, gdOk gd δ → (∀ g ∈ gd, g.1 = i) → K ⟨ds, gd⟩ δ) : wpI Γ X (.sv (.v i)) δ K := by
  rcases hs with rfl | rfl | rfl
  · simp [h]
    refine hK _ (fun g hg => ?_) (by simp)
    rw [List.mem_singleton.mp hg]
    exact ⟨_, h, rfl⟩
  · simp [h]; exact hK [] gdOk_nil (by simp)
  · simp [h]; exact hK [] gdOk_nil (by simp)
theorem compLoop_g {α : Type} (enc : α → PyData) (f : α → Option PyData) {own : List Nat} {gd : List (Nat × List PyData)} {turn : PyData → De → (Option PyData → De → Prop) → Prop} (hg : gdOk gd δ) (xs : List α) (K : List PyData → De → Prop)
    (st : ∀ x ∈ xs, ∀ k : Option PyData → De → Prop, (∀ δ', wipe δ' own = δ → k (f x) δ') → turn (enc x) δ k) (h : K (xs.filterMap f) δ) : compLoop own gd turn (xs.map enc) δ K := by
  induction xs generalizing K with
  | nil => rw [List.map_nil, compLoop]; exact ⟨hg, h⟩
  | cons x xs ih =>
    rw [List.map_cons, compLoop]
    refine ⟨hg, st x (List.mem_cons_self ..) _ fun δ' e => ?_⟩
    rw [e]
    refine ih _ (fun y hy k hk => st y (List.mem_cons_of_mem _ hy) k hk) ?_
    rw [List.filterMap_cons] at h
    cases hx : f x with
    | none => rw [hx] at h; simpa using h
    | some d => rw [hx] at h; simpa using h
/-- .. with no test -/
theorem compLoop_m {α : Type} (enc f : α → PyData) {own : List Nat} {gd : List (Nat × List PyData)} {turn : PyData → De → (Option PyData → De → Prop) → Prop} (hg : gdOk gd δ) (xs : List α) (K : List PyData → De → Prop)
    (st : ∀ x ∈ xs, ∀ k : Option PyData → De → Prop, (∀ δ', wipe δ' own = δ → k (some (f x)) δ') → turn (enc x) δ k) (h : K (xs.map f) δ) : compLoop own gd turn (xs.map enc) δ K :=
  compLoop_g enc (fun x => some (f x)) hg xs K st (by rw [filterMap_some]; exact h)
/-- .. with a test -/
theorem compLoop_f {α : Type} (enc f : α → PyData) (p : α → Bool) {own : List Nat} {gd : List (Nat × List PyData)} {turn : PyData → De → (Option PyData → De → Prop) → Prop} (hg : gdOk gd δ) (xs : List α) (K : List PyData → De → Prop)
    (st : ∀ x ∈ xs, ∀ k : Option PyData → De → Prop, (∀ δ', wipe δ' own = δ → k (if p x = true then some (f x) else none) δ') → turn (enc x) δ k) (h : K ((xs.filter p).map f) δ) : compLoop own gd turn (xs.map enc) δ K :=
  compLoop_g enc (fun x => if p x = true then some (f x) else none) hg xs K st (by
    have : xs.filterMap (fun x => if p x = true then some (f x) else none) = (xs.filter p).map f := by
      clear st h
      induction xs with
      | nil => rfl
      | cons x xs ih => by_cases hp : p x = true <;> simp [hp, ih]
    rw [this]; exact h)
end
theorem zipWith_range_map {α β : Type} (f : α → β) (c : Nat → β → PyData) (xs : List α) : List.zipWith c (List.range xs.length) (xs.map f) = (xs.zipIdx).map fun p => c p.2 (f p.1) := by
  rw [List.zipWith_map_right, List.zipIdx_eq_zip_range', ← List.range_eq_range', List.zip, List.map_zipWith, List.zipWith_comm]
theorem enumItems_map {α : Type} (f : α → PyData) (xs : List α) : enumItems (xs.map f) = (xs.zipIdx).map fun p => .tuple [.int (p.2 : Int), f p.1] := by
  unfold enumItems
  rw [List.length_map]
  exact zipWith_range_map f (fun (k : Nat) x => PyData.tuple [.int (k : Int), x]) xs
theorem eqv_ss (a b : Str) : PyData.eqv (.str a) (.str b) = decide (a = b) := by
  rw [PyData.eqv]
  by_cases h : a = b
  · simp [h]
  · simp [h]
theorem any_strs (x : Str) (xs : List Str) : ((xs.map PyData.str).any fun z => PyData.eqv z (.str x)) = decide (x ∈ xs) := by
  induction xs with
  | nil => rfl
  | cons y xs ih =>
    rw [List.map_cons, List.any_cons, ih, eqv_ss]
    by_cases h : y = x
    · simp [h]
    · simp [h, Ne.symm h]
theorem flat_strs (xs : List Str) : (xs.map PyData.str).all flatD = true := by rw [List.all_map]; exact List.all_eq_true.mpr fun _ _ => rfl
section
variable {x : Str} {xs : List Str} {K : Bool → Prop}
@[simp] theorem inSL : inM (.p (.str x)) (.l (xs.map .str)) K = K (decide (x ∈ xs)) := by
  refine propext ⟨fun h => ?_, fun h => ?_⟩
  · obtain ⟨d, ds, e1, e2, _, h⟩ := h
    cases e1; cases e2; rw [any_strs] at h; exact h
  · exact ⟨_, _, rfl, rfl, .inl ⟨rfl, flat_strs xs⟩, by rw [any_strs]; exact h⟩
@[simp] theorem inST : inM (.p (.str x)) (.p (.tuple (xs.map .str))) K = K (decide (x ∈ xs)) := by
  refine propext ⟨fun h => ?_, fun h => ?_⟩
  · obtain ⟨d, ds, e1, e2, _, h⟩ := h
    cases e1; cases e2; rw [any_strs] at h; exact h
  · exact ⟨_, _, rfl, rfl, .inl ⟨rfl, flat_strs xs⟩, by rw [any_strs]; exact h⟩
@[simp] theorem cIn {x y : M} : cmpM .isin x y K = inM x y K := by cases x <;> cases y <;> rfl
@[simp] theorem cNin {x y : M} : cmpM .notin x y K = inM x y fun b => K (!b) := by cases x <;> cases y <;> rfl
end
theorem atM {α : Type} (f : α → PyData) {xs : List α} {k : Nat} (d : α) (h : k < xs.length) : L2.atI (xs.map f) (k : Int) = some (f (xs.getD k d)) := by
  refine atI_ok (by omega) ?_
  rw [Int.toNat_natCast, List.getElem?_map, List.getElem?_eq_getElem h, List.getD_eq_getElem?_getD, List.getElem?_eq_getElem h]
  rfl
/-- data that may be shown -/
structure Fine (n w : Nat) (d : PyData) : Prop where
  sh : d.showable = true
  nd : d.hasDict = false
  dp : d.depth ≤ n
  lv : d.leavesShort 40 = true
  wt : d.weight ≤ w
theorem Fine.mono {n w n' w' : Nat} {d : PyData} (h : Fine n w d) (hn : n ≤ n') (hw : w ≤ w') : Fine n' w' d := ⟨h.sh, h.nd, Nat.le_trans h.dp hn, h.lv, Nat.le_trans h.wt hw⟩
theorem fine_int {i : Int} (h : i.natAbs < 10 ^ 30) : Fine 0 100 (.int i) := by
  have hl : i.natAbs ≠ 0 → i.natAbs.log2 < 100 := fun hz => (Nat.log2_lt hz).mpr (Nat.lt_trans h (by decide))
  refine ⟨?_, by simp [PyData.hasDict], by simp [PyData.depth], ?_, ?_⟩
  · simp only [PyData.showable, decide_eq_true_eq]
    by_cases hz : i.natAbs = 0
    · rw [hz]; decide
    · have := hl hz; omega
  · simp only [PyData.leavesShort, decide_eq_true_eq]
    have e := int_text_length_le10 (k := 30) (by decide) h
    show (Str.ofString (toString i)).length ≤ 40
    rw [PySem.ofString_length]; omega
  · simp only [PyData.weight]
    by_cases hz : i = 0
    · simp [hz]
    · have := hl (by omega)
      rw [if_neg (by simpa using hz)]; omega
theorem fine_str {z : Str} (h : z.length ≤ 100) (ha : Q.S.asc z) : Fine 0 100 (.str z) := by
  refine ⟨rfl, rfl, by simp [PyData.depth], ?_, h⟩
  simp only [PyData.leavesShort]
  refine List.all_eq_true.mpr fun c hc => decide_eq_true ?_
  exact Nat.lt_trans (ha c hc) (by decide)
theorem fine_bool (b : Bool) : Fine 0 100 (.bool b) := ⟨rfl, rfl, by simp [PyData.depth], rfl, by simp [PyData.weight]⟩
theorem fine_none : Fine 0 100 .none := ⟨rfl, rfl, by simp [PyData.depth], rfl, by simp [PyData.weight]⟩
theorem fine_all {n w : Nat} : ∀ {ds : List PyData}, (∀ d ∈ ds, Fine n w d) → PyData.showableAll ds = true ∧ PyData.hasDictAll ds = false ∧ PyData.depthAll ds ≤ n ∧ PyData.leavesShortAll 40 ds = true ∧ PyData.weightAll ds ≤ ds.length * (w + 1)
  | [], _ => by simp [PyData.showableAll, PyData.hasDictAll, PyData.depthAll, PyData.leavesShortAll, PyData.weightAll]
  | d :: ds, h => by
    obtain ⟨h1, h2, h3, h4, h5⟩ := fine_all (ds := ds) fun x hx => h x (List.mem_cons_of_mem _ hx)
    have g := h d (List.mem_cons_self ..)
    refine ⟨by simp [PyData.showableAll, g.sh, h1], by simp [PyData.hasDictAll, g.nd, h2], ?_, by simp [PyData.leavesShortAll, g.lv, h4], ?_⟩
    · simp only [PyData.depthAll]; exact Nat.max_le.mpr ⟨g.dp, h3⟩
    · simp only [PyData.weightAll, List.length_cons, Nat.add_mul, Nat.one_mul]; have := g.wt; omega
theorem fine_tuple {n w l : Nat} {ds : List PyData} (hl : ds.length ≤ l) (h : ∀ d ∈ ds, Fine n w d) : Fine (n + 1) (l * (w + 1)) (.tuple ds) := by
  obtain ⟨h1, h2, h3, h4, h5⟩ := fine_all h
  exact ⟨by simpa [PyData.showable] using h1, by simpa [PyData.hasDict] using h2, by simp only [PyData.depth]; omega, by simpa [PyData.leavesShort] using h4, by
    simp only [PyData.weight]; exact Nat.le_trans h5 (Nat.mul_le_mul_right _ hl)⟩
theorem fine_list {n w l : Nat} {ds : List PyData} (hl : ds.length ≤ l) (h : ∀ d ∈ ds, Fine n w d) : Fine (n + 1) (l * (w + 1)) (.list ds) := by
  obtain ⟨h1, h2, h3, h4, h5⟩ := fine_all h
  exact ⟨by simpa [PyData.showable] using h1, by simpa [PyData.hasDict] using h2, by simp only [PyData.depth]; omega, by simpa [PyData.leavesShort] using h4, by
    simp only [PyData.weight]; exact Nat.le_trans h5 (Nat.mul_le_mul_right _ hl)⟩
theorem Fine.len {n w : Nat} {d : PyData} (h : Fine n w d) (hw : w ≤ 390000) : d.shown.length ≤ sizeLine := by
  have h1 := PyData.shown_le 40 (by decide) d h.lv
  have h2 := h.wt
  have : sizeLine = 16777216 := sizeLine_eq
  have h3 : (40 + 2) * d.weight ≤ 42 * 390000 := Nat.mul_le_mul_left _ (Nat.le_trans h2 hw)
  omega
/-- the text that repr gives -/
theorem reprM {n w : Nat} {m : M} {d : PyData} {K : M → Prop} (e : m.data = some d) (h : Fine n w d) (hn : n ≤ 100) (hw : w ≤ 390000) (hK : K (.p (.str d.shown))) : biM .repr [m] K := by
  have : ∃ d, m.data = some d ∧ d.showable = true ∧ d.hasDict = false ∧ d.shown.length ≤ sizeLine ∧ d.depth ≤ 100 ∧ K (.p (.str d.shown)) := ⟨d, e, h.sh, h.nd, h.len hw, Nat.le_trans h.dp hn, hK⟩
  cases m <;> exact this
theorem forLoop_pp {α : Type} (enc : α → PyData) {gd : List (Nat × List PyData)} {turn : PyData → De → EndD → Prop} {D : EndD} (xs : List α) (I : List α → De → Prop)
    (step : ∀ pre x post δ N, xs = pre ++ x :: post → I pre δ → (∀ δ', I (pre ++ [x]) δ' → N δ') → gdOk gd δ ∧ turn (enc x) δ ⟨N, D.rt, D.nx, N⟩)
    (fin : ∀ δ, I xs δ → gdOk gd δ ∧ D.nx δ) {δ : De} (h0 : I [] δ) : forLoop gd turn (xs.map enc) δ D := by
  have : ∀ post pre δ, xs = pre ++ post → I pre δ → forLoop gd turn (post.map enc) δ D := by
    intro post
    induction post with
    | nil => intro pre δ e h; rw [List.map_nil, forLoop]; rw [List.append_nil] at e; subst e; exact fin δ h
    | cons x post ih =>
      intro pre δ e h
      rw [List.map_cons, forLoop]
      exact step pre x post δ _ e h fun δ' h' => ih (pre ++ [x]) δ' (by rw [e, List.append_assoc]; rfl) h'
  exact this xs [] δ rfl h0
theorem forLoop_en {α : Type} (enc : α → PyData) {gd : List (Nat × List PyData)} {turn : PyData → De → EndD → Prop} {D : EndD} (xs : List α) (I : List α → De → Prop)
    (step : ∀ pre x post δ N, xs = pre ++ x :: post → I pre δ → (∀ δ', I (pre ++ [x]) δ' → N δ') → gdOk gd δ ∧ turn (.tuple [.int (pre.length : Int), enc x]) δ ⟨N, D.rt, D.nx, N⟩)
    (fin : ∀ δ, I xs δ → gdOk gd δ ∧ D.nx δ) {δ : De} (h0 : I [] δ) : forLoop gd turn (enumItems (xs.map enc)) δ D := by
  rw [enumItems_map]
  have : ∀ post pre δ, xs = pre ++ post → I pre δ → forLoop gd turn ((post.zipIdx pre.length).map fun p => .tuple [.int (p.2 : Int), enc p.1]) δ D := by
    intro post
    induction post with
    | nil => intro pre δ e h; rw [List.zipIdx_nil, List.map_nil, forLoop]; rw [List.append_nil] at e; subst e; exact fin δ h
    | cons x post ih =>
      intro pre δ e h
      rw [List.zipIdx_cons, List.map_cons, forLoop]
      refine step pre x post δ _ e h fun δ' h' => ?_
      have := ih (pre ++ [x]) δ' (by rw [e, List.append_assoc]; rfl) h'
      rw [List.length_append] at this
      exact this
  exact this xs [] δ rfl h0
@[simp] theorem sumMf {α : Type} {xs : List α} {h : α → Int} {K : M → Prop} : biM .sum [.l (xs.map fun x => .int (h x))] K = K (.p (.int (xs.map h).sum)) := by
  have : (xs.map fun x => PyData.int (h x)) = (xs.map h).map .int := by rw [List.map_map]; rfl
  rw [this, sumM]
@[simp] theorem allMf {α : Type} {xs : List α} {h : α → Bool} {K : M → Prop} : biM .all [.l (xs.map fun x => .bool (h x))] K = K (.p (.bool (xs.all h))) := by
  have : (xs.map fun x => PyData.bool (h x)) = (xs.map h).map .bool := by rw [List.map_map]; rfl
  rw [this, allM, List.all_map]; rfl
@[simp] theorem anyMf {α : Type} {xs : List α} {h : α → Bool} {K : M → Prop} : biM .any [.l (xs.map fun x => .bool (h x))] K = K (.p (.bool (xs.any h))) := by
  have : (xs.map fun x => PyData.bool (h x)) = (xs.map h).map .bool := by rw [List.map_map]; rfl
  rw [this, anyM, List.any_map]; rfl
@[simp] theorem sumT {ns : List Int} {K : M → Prop} : biM .sum [.p (.tuple (ns.map .int))] K = K (.p (.int ns.sum)) := by
  refine propext ⟨fun ⟨ds, ms, e, e2, h⟩ => ?_, fun h => ⟨_, ns, rfl, intL_map ns, h⟩⟩
  cases e; rw [intL_map] at e2; cases e2; exact h
theorem all_tt : ∀ n : Nat, (List.replicate n true).all id = true
  | 0 => rfl
  | n + 1 => by rw [List.replicate_succ, List.all_cons, all_tt n]; rfl
theorem any_ff : ∀ n : Nat, (List.replicate n false).any id = false
  | 0 => rfl
  | n + 1 => by rw [List.replicate_succ, List.any_cons, any_ff n]; rfl
@[simp] theorem allRep {n : Nat} {K : M → Prop} : biM .all [.l (List.replicate n (.bool true))] K = K (.p (.bool true)) := by
  rw [show List.replicate n (PyData.bool true) = (List.replicate n true).map .bool from by rw [List.map_replicate], allM, all_tt]
@[simp] theorem anyRep {n : Nat} {K : M → Prop} : biM .any [.l (List.replicate n (.bool false))] K = K (.p (.bool false)) := by
  rw [show List.replicate n (PyData.bool false) = (List.replicate n false).map .bool from by rw [List.map_replicate], anyM, any_ff]
theorem cut_tail {α : Type} (xs : List α) : cut xs (some 1) none = xs.drop 1 := by
  cases xs with
  | nil => rfl
  | cons x xs =>
    have e1 : HT.sIx (x :: xs).length 0 (some 1) = 1 := by simp [HT.sIx]
    have e2 : HT.sIx (x :: xs).length (x :: xs).length none = xs.length + 1 := by simp [HT.sIx]
    unfold cut
    rw [e1, e2, Nat.add_sub_cancel, List.drop_succ_cons, List.drop_zero, List.take_length]
theorem zip_lt : ∀ {l : List Nat}, l.Pairwise (· < ·) → ∀ p ∈ l.zip l.tail, p.1 < p.2
  | [], _, p, hp => by simp at hp
  | [a], _, p, hp => by simp at hp
  | a :: b :: r, h, p, hp => by
    have h' := List.pairwise_cons.mp h
    rw [List.tail_cons, List.zip_cons_cons] at hp
    rcases List.mem_cons.mp hp with rfl | hp
    · exact h'.1 b (List.mem_cons_self ..)
    · exact zip_lt h'.2 p hp
/-! ### calls by keyword -/
abbrev gA : List PyData → List PyData → List PyData := fun ds es => [ds.getD 0 .none, es.getD 0 .none]
abbrev gR2 : List PyData → List PyData → List PyData := fun ds es => [es.getD 1 .none, es.getD 0 .none]
abbrev gR1 : List PyData → List PyData → List PyData := fun ds es => [es.getD 0 .none]
abbrev gC (c : PyData) : List PyData → List PyData → List PyData := fun ds es => [ds.getD 0 .none, c]
section
variable {sp : Spec} {a b c : PyData} {K : M → List M → Prop} {X : Exn → List M → Prop}
theorem kwA (h : sp [.p a, .p b] (fun r _ => K r [.p a, .p b]) (fun e _ => X e [.p a, .p b])) : kwSp 1 1 gA sp [.p a, .p b] K X := ⟨[a], [b], rfl, rfl, rfl, h⟩
theorem kwR2 (h : sp [.p b, .p a] (fun r _ => K r [.p a, .p b]) (fun e _ => X e [.p a, .p b])) : kwSp 0 2 gR2 sp [.p a, .p b] K X := ⟨[], [a, b], rfl, rfl, rfl, h⟩
theorem kwR1 (h : sp [.p a] (fun r _ => K r [.p a]) (fun e _ => X e [.p a])) : kwSp 0 1 gR1 sp [.p a] K X := ⟨[], [a], rfl, rfl, rfl, h⟩
theorem kwC (h : sp [.p a, .p c] (fun r _ => K r [.p a]) (fun e _ => X e [.p a])) : kwSp 1 0 (gC c) sp [.p a] K X := ⟨[a], [], rfl, rfl, rfl, h⟩
end
end Q
set_option Elab.async false
set_option linter.all false
set_option maxRecDepth 100000
set_option maxHeartbeats 2000000
/-! SD: deals: what they are, what the program's tests say of good ones. -/
namespace Q.S
open PySem PySem.Spec PyProof.Rows L2 Q
def nmOk (z : Str) : Prop := nameB (.str z) = true ∧ z.length ≤ 8 ∧ asc z
theorem nmOk.okD {z : Str} (h : nmOk z) : okD (.str z) := fun y e => by cases e; exact ⟨by have := h.2.1; omega, h.2.2⟩
structure Good where
  nm : Str
  gv : Str
  tk : Str
  cost : Int
  worth : Int
def noGood : Good := ⟨Str.ofString "", Str.ofString "", Str.ofString "", 0, 0⟩
def Good.d (g : Good) : PyData := .tuple [.str g.nm, .str g.gv, .str g.tk, .int g.cost, .int g.worth]
def pd (p : Str × Int) : PyData := .tuple [.str p.1, .int p.2]
def nI (k : Nat) : PyData := .int (k : Int)
structure Deal where
  ps : List (Str × Int)
  gs : List Good
  sh : List Int
def Deal.d (D : Deal) : PyData := .tuple [.tuple (D.ps.map pd), .tuple (D.gs.map Good.d), .tuple (D.sh.map .int)]
structure Stand where
  left : List Nat
  due : List Int
def Stand.d (s : Stand) : PyData := .tuple [.tuple (s.left.map nI), .tuple (s.due.map .int)]
def Deal.g (D : Deal) (k : Nat) : Good := D.gs.getD k noGood
section
variable {D : Deal} {g : Good} {p : Str × Int} {s : Stand} {Kd : PyData → Prop} {K : M → Prop} {Kb : Bool → Prop} {k : Nat}
@[simp] theorem ixD0 : ixM (.p D.d) (.int 0) Kd = Kd (.tuple (D.ps.map pd)) := by simp [Deal.d]
@[simp] theorem ixD1 : ixM (.p D.d) (.int 1) Kd = Kd (.tuple (D.gs.map Good.d)) := by simp [Deal.d]
@[simp] theorem ixD2 : ixM (.p D.d) (.int 2) Kd = Kd (.tuple (D.sh.map .int)) := by simp [Deal.d]
@[simp] theorem lenD : biM .len [.p D.d] K = K (.p (.int 3)) := by simp [Deal.d]
@[simp] theorem isiD : isiM (.p D.d) "tuple" Kb = Kb true := by simp [isiM, Deal.d, M.kn, isiS]
@[simp] theorem ixS0 : ixM (.p s.d) (.int 0) Kd = Kd (.tuple (s.left.map nI)) := by simp [Stand.d]
@[simp] theorem ixS1 : ixM (.p s.d) (.int 1) Kd = Kd (.tuple (s.due.map .int)) := by simp [Stand.d]
@[simp] theorem lenS : biM .len [.p s.d] K = K (.p (.int 2)) := by simp [Stand.d]
@[simp] theorem isiSt : isiM (.p s.d) "tuple" Kb = Kb true := by simp [isiM, Stand.d, M.kn, isiS]
@[simp] theorem ixG0 : ixM (.p g.d) (.int 0) Kd = Kd (.str g.nm) := by simp [Good.d]
@[simp] theorem ixG1 : ixM (.p g.d) (.int 1) Kd = Kd (.str g.gv) := by simp [Good.d]
@[simp] theorem ixG2 : ixM (.p g.d) (.int 2) Kd = Kd (.str g.tk) := by simp [Good.d]
@[simp] theorem ixG3 : ixM (.p g.d) (.int 3) Kd = Kd (.int g.cost) := by simp [Good.d]
@[simp] theorem ixG4 : ixM (.p g.d) (.int 4) Kd = Kd (.int g.worth) := by simp [Good.d]
@[simp] theorem lenG : biM .len [.p g.d] K = K (.p (.int 5)) := by simp [Good.d]
@[simp] theorem isiG : isiM (.p g.d) "tuple" Kb = Kb true := by simp [isiM, Good.d, M.kn, isiS]
@[simp] theorem ixP0 : ixM (.p (pd p)) (.int 0) Kd = Kd (.str p.1) := by simp [pd]
@[simp] theorem ixP1 : ixM (.p (pd p)) (.int 1) Kd = Kd (.int p.2) := by simp [pd]
@[simp] theorem lenP : biM .len [.p (pd p)] K = K (.p (.int 2)) := by simp [pd]
@[simp] theorem isiP : isiM (.p (pd p)) "tuple" Kb = Kb true := by simp [isiM, pd, M.kn, isiS]
@[simp] theorem isiT {ds : List PyData} : isiM (.p (.tuple ds)) "tuple" Kb = Kb true := by simp [isiM, M.kn, isiS]
@[simp] theorem bindP {lk : List Nat} {a as : Tg} {δ : De} : bindT lk (.tc a as) (pd p) δ = bindT lk (.tc a as) (.tuple [.str p.1, .int p.2]) δ := rfl
@[simp] theorem bindG {lk : List Nat} {a as : Tg} {δ : De} : bindT lk (.tc a as) g.d δ = bindT lk (.tc a as) (.tuple [.str g.nm, .str g.gv, .str g.tk, .int g.cost, .int g.worth]) δ := rfl
theorem ixGs (h : k < D.gs.length) : ixM (.p (.tuple (D.gs.map Good.d))) (.int (k : Int)) Kd = Kd (D.g k).d := by
  rw [xT1, atM Good.d noGood h]; simp [Deal.g]
theorem ixGsI (h : k < D.gs.length) : ixM (.p (.tuple (D.gs.map Good.d))) (nI k) Kd = Kd (D.g k).d := ixGs h
end
def Good.ok (ns : List Str) (g : Good) : Prop := nmOk g.nm ∧ nmOk g.gv ∧ nmOk g.tk ∧ g.gv ≠ g.tk ∧ g.gv ∈ ns ∧ g.tk ∈ ns ∧ 0 ≤ g.cost ∧ 0 ≤ g.worth
def Deal.ns (D : Deal) : List Str := D.ps.map (·.1)
structure psOk (ps : List (Str × Int)) : Prop where
  lo : 2 ≤ ps.length
  hi : ps.length ≤ 6
  nm : ∀ p ∈ ps, nmOk p.1
  bd : ∀ p ∈ ps, 0 ≤ p.2
  un : (ps.map (·.1)).Nodup
structure gsOk (ns : List Str) (gs : List Good) : Prop where
  hi : gs.length ≤ 60
  ok : ∀ g ∈ gs, g.ok ns
  un : (gs.map (·.nm)).Nodup
structure Deal.pg (D : Deal) : Prop where
  p : psOk D.ps
  g : gsOk D.ns D.gs
structure Deal.ok (D : Deal) : Prop extends D.pg where
  sl : D.sh.length = D.ps.length
  ss : D.sh.sum = 0
def leftOk (D : Deal) (left : List Nat) : Prop := (∀ k ∈ left, k < D.gs.length) ∧ left.Pairwise (· < ·)
structure standOk (D : Deal) (s : Stand) : Prop where
  l : leftOk D s.left
  n : s.due.length = D.ps.length
  z : s.due.sum = 0
/-! ### tests -/
def sp_is_party : Spec := fun ms Kc _ => ∃ p, ms = [.p (pd p)] ∧ nmOk p.1 ∧ 0 ≤ p.2 ∧ Kc (.p (.bool true)) ms
theorem h_is_party (ms : List M) (Kc : M → List M → Prop) (h : sp_is_party ms Kc (fun _ _ => False)) : wpFn [sp_is_name, kwSp 1 0 (gC (.int 0)) sp_is_coins] 1 c_is_party ms Kc (fun _ _ => False) := by
  obtain ⟨p, rfl, h1, h2, h⟩ := h
  simp [wpFn, startD, lockOf, outs, wipe, back, bindT, bindTs, peek, peeks, ats, setAll, light, lightAll, qI, rng_len, enum_len, c_is_party, sp_is_name, h1.okD, h1.1]
  exact kwC ⟨_, _, rfl, by simpa [wpFn, startD, lockOf, outs, wipe, back, bindT, bindTs, peek, peeks, ats, setAll, light, lightAll, qI, rng_len, enum_len, coinsB, h2] using h⟩
def sp_is_good : Spec := fun ms Kc _ => ∃ g ns, ms = [.p (Good.d g)] ∧ g.ok ns ∧ Kc (.p (.bool true)) ms
theorem h_is_good (ms : List M) (Kc : M → List M → Prop) (h : sp_is_good ms Kc (fun _ _ => False)) : wpFn [sp_is_name, kwSp 1 0 (gC (.int 0)) sp_is_coins] 2 c_is_good ms Kc (fun _ _ => False) := by
  obtain ⟨g, ns, rfl, ⟨n1, n2, n3, n4, n5, n6, n7, n8⟩, h⟩ := h
  have l3 : 3 ≤ sizeLine := by decide
  have e : slM (.p g.d) none (some 3) = fun K => K (.p (.tuple [.str g.nm, .str g.gv, .str g.tk])) := by
    funext K; simp [Good.d, slM, cut, HT.sIx]
  simp [wpFn, startD, lockOf, outs, wipe, back, bindT, bindTs, peek, peeks, ats, setAll, light, lightAll, qI, rng_len, enum_len, c_is_good, optI, e, l3]
  refine compLoop_m PyData.str (fun _ => PyData.bool true) gdOk_nil [g.nm, g.gv, g.tk] _ ?_ ?_
  · intro x hx k hk
    have hx' : nmOk x := by simp at hx; rcases hx with rfl | rfl | rfl <;> assumption
    simp [wpFn, startD, lockOf, outs, wipe, back, bindT, bindTs, peek, peeks, ats, setAll, light, lightAll, qI, rng_len, enum_len, e1_is_good, sp_is_name, hx'.okD, hx'.1]
    exact hk _ (by simp [wpFn, startD, lockOf, outs, wipe, back, bindT, bindTs, peek, peeks, ats, setAll, light, lightAll, qI, rng_len, enum_len])
  · refine ⟨[.bool true, .bool true, .bool true], [true, true, true], rfl, rfl, ?_⟩
    simp [wpFn, startD, lockOf, outs, wipe, back, bindT, bindTs, peek, peeks, ats, setAll, light, lightAll, qI, rng_len, enum_len, n4]
    refine kwC ⟨_, _, rfl, ?_⟩
    simp [wpFn, startD, lockOf, outs, wipe, back, bindT, bindTs, peek, peeks, ats, setAll, light, lightAll, qI, rng_len, enum_len, coinsB, n7]
    refine kwC ⟨_, _, rfl, ?_⟩
    simpa [wpFn, startD, lockOf, outs, wipe, back, bindT, bindTs, peek, peeks, ats, setAll, light, lightAll, qI, rng_len, enum_len, coinsB, n8] using h
def sp_need_parties : Spec := fun ms Kc _ => ∃ ps, ms = [.p (.tuple (ps.map pd))] ∧ psOk ps ∧ Kc (.p .none) ms
theorem h_need_parties (ms : List M) (Kc : M → List M → Prop) (h : sp_need_parties ms Kc (fun _ _ => False)) : wpFn [sp_is_party] 4 c_need_parties ms Kc (fun _ _ => False) := by
  obtain ⟨ps, rfl, ok, h⟩ := h
  have l1 : (2 : Int) ≤ ps.length := by have := ok.lo; omega
  have l2 : (ps.length : Int) ≤ 6 := by have := ok.hi; omega
  have lz : ps.length < sizeLine := by have : sizeLine = 16777216 := sizeLine_eq; have := ok.hi; omega
  simp [wpFn, startD, lockOf, outs, wipe, back, bindT, bindTs, peek, peeks, ats, setAll, light, lightAll, qI, rng_len, enum_len, c_need_parties, l1, l2]
  refine forLoop_en pd ps (fun pre δ => ∃ a b, δ = [some (M.p (.tuple (ps.map pd))), some (.l ((pre.map (·.1)).map .str)), a, b]) ?_ ?_ ⟨_, _, rfl⟩
  · rintro pre p post δ N e ⟨a, b, rfl⟩ hN
    have hp : p ∈ ps := by rw [e]; simp
    have hl : pre.length < sizeLine := by have : ps.length = _ := congrArg List.length e; simp at this; omega
    have hn : p.1 ∉ pre.map (·.1) := by
      have := ok.un; rw [e, List.map_append, List.nodup_append] at this
      intro hx; exact this.2.2 _ hx _ (by simp) rfl
    refine ⟨gdOk_nil, ?_⟩
    simp [wpFn, startD, lockOf, outs, wipe, back, bindT, bindTs, peek, peeks, ats, setAll, light, lightAll, qI, rng_len, enum_len, b1_need_parties]
    refine ⟨p, rfl, ok.nm p hp, ok.bd p hp, ?_⟩
    simp [wpFn, startD, lockOf, outs, wipe, back, bindT, bindTs, peek, peeks, ats, setAll, light, lightAll, qI, rng_len, enum_len] at hn ⊢
    rw [← List.map_map, inSL]
    simp [wpFn, startD, lockOf, outs, wipe, back, bindT, bindTs, peek, peeks, ats, setAll, light, lightAll, qI, rng_len, enum_len, hn, muM, hl]
    exact hN _ (by simp)
  · rintro δ ⟨a, b, rfl⟩
    refine ⟨gdOk_nil, ?_⟩
    simpa [wpFn, startD, lockOf, outs, wipe, back, bindT, bindTs, peek, peeks, ats, setAll, light, lightAll, qI, rng_len, enum_len] using h
end Q.S
set_option Elab.async false
set_option linter.all false
set_option maxRecDepth 100000
set_option maxHeartbeats 2000000
/-! SE: the program's tests of goods, shares, deals, stands. -/
namespace Q.S
open PySem PySem.Spec PyProof.Rows L2 Q
theorem small {n m : Nat} (h : n ≤ m) (hm : m ≤ 16777215) : n < sizeLine := by have : sizeLine = 16777216 := sizeLine_eq; omega
def sp_need_goods : Spec := fun ms Kc _ => ∃ ps gs, ms = [.p (.tuple (ps.map pd)), .p (.tuple (gs.map Good.d))] ∧ psOk ps ∧ gsOk (ps.map (·.1)) gs ∧ Kc (.p .none) ms
theorem h_need_goods (ms : List M) (Kc : M → List M → Prop) (h : sp_need_goods ms Kc (fun _ _ => False)) : wpFn [sp_is_good] 7 c_need_goods ms Kc (fun _ _ => False) := by
  obtain ⟨ps, gs, rfl, pok, ok, h⟩ := h
  have l2 : (gs.length : Int) ≤ 60 := by have := ok.hi; omega
  have lz : ps.length ≤ sizeLine := Nat.le_of_lt (small pok.hi (by decide))
  simp [wpFn, startD, lockOf, outs, wipe, back, bindT, bindTs, peek, peeks, ats, setAll, light, lightAll, qI, rng_len, enum_len, c_need_goods, l2, lz]
  refine compLoop_m (pd) (fun p => .str p.1) gdOk_nil ps _ (fun p hp k hk => ?_) ?_
  · simp [wpFn, startD, lockOf, outs, wipe, back, bindT, bindTs, peek, peeks, ats, setAll, light, lightAll, qI, rng_len, enum_len, e1_need_goods]
    exact hk _ (by simp [wpFn, startD, lockOf, outs, wipe, back, bindT, bindTs, peek, peeks, ats, setAll, light, lightAll, qI, rng_len, enum_len])
  have enm : (ps.map fun p => PyData.str p.1) = (ps.map (·.1)).map .str := by rw [List.map_map]; rfl
  simp only [enm]
  simp [wpFn, startD, lockOf, outs, wipe, back, bindT, bindTs, peek, peeks, ats, setAll, light, lightAll, qI, rng_len, enum_len]
  refine forLoop_en Good.d gs (fun pre δ => ∃ a b c, δ = [some (M.p (.tuple (ps.map pd))), some (M.p (.tuple (gs.map Good.d))), some (.l ((ps.map (·.1)).map .str)), some (.l ((pre.map (·.nm)).map .str)), a, b, c]) ?_ ?_ ⟨none, none, none, by simp⟩
  · rintro pre g post δ N e ⟨a, b, c, rfl⟩ hN
    have hg : g ∈ gs := by rw [e]; simp
    obtain ⟨n1, n2, n3, n4, n5, n6, n7, n8⟩ := ok.ok g hg
    have hl : pre.length < sizeLine := by have : gs.length = _ := congrArg List.length e; simp at this; exact small (m := 60) (by have := ok.hi; omega) (by decide)
    have hn : g.nm ∉ pre.map (·.nm) := by
      have := ok.un; rw [e, List.map_append, List.nodup_append] at this
      intro hx; exact this.2.2 _ hx _ (by simp) rfl
    refine ⟨gdOk_nil, ?_⟩
    generalize hns : ps.map (·.1) = ns at n5 n6 ⊢
    generalize hpn : pre.map (·.nm) = pn at hn ⊢
    simp [wpFn, startD, lockOf, outs, wipe, back, bindT, bindTs, peek, peeks, ats, setAll, light, lightAll, qI, rng_len, enum_len, b2_need_goods]
    refine ⟨g, ns, rfl, ⟨n1, n2, n3, n4, n5, n6, n7, n8⟩, ?_⟩
    have hpl : pn.length = pre.length := by rw [← hpn, List.length_map]
    simp [wpFn, startD, lockOf, outs, wipe, back, bindT, bindTs, peek, peeks, ats, setAll, light, lightAll, qI, rng_len, enum_len, hn, n5, n6, muM, hpl, hl]
    exact hN _ (by simp [hpn, ← hns])
  · rintro δ ⟨a, b, c, rfl⟩
    refine ⟨gdOk_nil, ?_⟩
    simpa [wpFn, startD, lockOf, outs, wipe, back, bindT, bindTs, peek, peeks, ats, setAll, light, lightAll, qI, rng_len, enum_len] using h
def sp_need_shares : Spec := fun ms Kc _ => ∃ (ps : List (Str × Int)) (sh : List Int), ms = [.p (.tuple (ps.map pd)), .p (.tuple (sh.map .int))] ∧ sh.length = ps.length ∧ sh.sum = 0 ∧ Kc (.p .none) ms
theorem h_need_shares (ms : List M) (Kc : M → List M → Prop) (h : sp_need_shares ms Kc (fun _ _ => False)) : wpFn [sp_is_number] 4 c_need_shares ms Kc (fun _ _ => False) := by
  obtain ⟨ps, sh, rfl, l1, l2, h⟩ := h
  simp [wpFn, startD, lockOf, outs, wipe, back, bindT, bindTs, peek, peeks, ats, setAll, light, lightAll, qI, rng_len, enum_len, c_need_shares, l1]
  refine forLoop_en PyData.int sh (fun pre δ => ∃ a b, δ = [some (M.p (.tuple (ps.map pd))), some (M.p (.tuple (sh.map .int))), a, b]) ?_ ?_ ⟨_, _, rfl⟩
  · rintro pre i post δ N e ⟨a, b, rfl⟩ hN
    refine ⟨gdOk_nil, ?_⟩
    simp [wpFn, startD, lockOf, outs, wipe, back, bindT, bindTs, peek, peeks, ats, setAll, light, lightAll, qI, rng_len, enum_len, b1_need_shares, sp_is_number, isInt]
    exact hN _ ⟨_, _, rfl⟩
  · rintro δ ⟨a, b, rfl⟩
    refine ⟨gdOk_nil, ?_⟩
    simpa [wpFn, startD, lockOf, outs, wipe, back, bindT, bindTs, peek, peeks, ats, setAll, light, lightAll, qI, rng_len, enum_len, l2] using h
def sp_need_deal : Spec := fun ms Kc _ => ∃ D : Deal, ms = [.p D.d] ∧ D.ok ∧ Kc (.p .none) ms
theorem h_need_deal (ms : List M) (Kc : M → List M → Prop) (h : sp_need_deal ms Kc (fun _ _ => False)) : wpFn [sp_need_parties, sp_need_goods, sp_need_shares] 1 c_need_deal ms Kc (fun _ _ => False) := by
  obtain ⟨D, rfl, ok, h⟩ := h
  simp [wpFn, startD, lockOf, outs, wipe, back, bindT, bindTs, peek, peeks, ats, setAll, light, lightAll, qI, rng_len, enum_len, c_need_deal]
  refine ⟨D.ps, rfl, ok.p, ?_⟩
  simp [wpFn, startD, lockOf, outs, wipe, back, bindT, bindTs, peek, peeks, ats, setAll, light, lightAll, qI, rng_len, enum_len]
  refine ⟨D.ps, D.gs, rfl, ok.p, ok.g, ?_⟩
  simp [wpFn, startD, lockOf, outs, wipe, back, bindT, bindTs, peek, peeks, ats, setAll, light, lightAll, qI, rng_len, enum_len]
  refine ⟨D.ps, D.sh, rfl, ok.sl, ok.ss, ?_⟩
  simpa [wpFn, startD, lockOf, outs, wipe, back, bindT, bindTs, peek, peeks, ats, setAll, light, lightAll, qI, rng_len, enum_len] using h
def sp_need_numbers : Spec := fun ms Kc _ => ∃ (D : Deal) (left : List Nat), ms = [.p D.d, .p (.tuple (left.map nI))] ∧ D.gs.length ≤ 60 ∧ leftOk D left ∧ Kc (.p .none) ms
theorem asc_len : ∀ {l : List Nat} {a n : Nat}, l.Pairwise (· < ·) → (∀ k ∈ l, a ≤ k ∧ k < n) → l.length ≤ n - a
  | [], _, _, _, _ => Nat.zero_le _
  | k :: r, a, n, h, hk => by
    have h' := List.pairwise_cons.mp h
    have h1 := hk k (List.mem_cons_self ..)
    have := asc_len (a := k + 1) (n := n) h'.2 fun j hj => ⟨h'.1 j hj, (hk j (List.mem_cons_of_mem _ hj)).2⟩
    rw [List.length_cons]; omega
theorem leftOk.len {D : Deal} {left : List Nat} (h : leftOk D left) : left.length ≤ D.gs.length := by
  have := asc_len (a := 0) h.2 fun k hk => ⟨Nat.zero_le _, h.1 k hk⟩
  omega
theorem h_need_numbers (ms : List M) (Kc : M → List M → Prop) (h : sp_need_numbers ms Kc (fun _ _ => False)) : wpFn [kwSp 1 1 gA sp_is_among] 4 c_need_numbers ms Kc (fun _ _ => False) := by
  obtain ⟨D, left, rfl, hl, ok, h⟩ := h
  have lz : left.length ≤ sizeLine := Nat.le_of_lt (small (m := 60) (by have := ok.len; omega) (by decide))
  simp [wpFn, startD, lockOf, outs, wipe, back, bindT, bindTs, peek, peeks, ats, setAll, light, lightAll, qI, rng_len, enum_len, c_need_numbers, lz]
  refine compLoop_m nI (fun _ => .bool true) gdOk_nil left _ (fun p hp k hk => ?_) ?_
  · simp [wpFn, startD, lockOf, outs, wipe, back, bindT, bindTs, peek, peeks, ats, setAll, light, lightAll, qI, rng_len, enum_len, e1_need_numbers]
    refine kwA ⟨_, _, rfl, ?_⟩
    have h1 := ok.1 p hp
    have h2 : (p : Int) < D.gs.length := by omega
    simp [wpFn, startD, lockOf, outs, wipe, back, bindT, bindTs, peek, peeks, ats, setAll, light, lightAll, qI, rng_len, enum_len, amongB, nI, h2]
    exact hk _ (by simp [wpFn, startD, lockOf, outs, wipe, back, bindT, bindTs, peek, peeks, ats, setAll, light, lightAll, qI, rng_len, enum_len])
  have es : ∀ K, slM (.p (.tuple (left.map nI))) (some 1) none K = K (.p (.tuple ((left.drop 1).map nI))) := by
    intro K; simp only [slM, cut_tail, List.map_drop]
  simp [wpFn, startD, lockOf, outs, wipe, back, bindT, bindTs, peek, peeks, ats, setAll, light, lightAll, qI, rng_len, enum_len, optI, es]
  rw [← List.map_tail, zipItems_map]
  refine ⟨by simp; omega, compLoop_m _ (fun _ => .bool false) gdOk_nil _ _ (fun p hp k hk => ?_) ?_⟩
  · have : p.1 < p.2 := zip_lt ok.2 p hp
    simp [wpFn, startD, lockOf, outs, wipe, back, bindT, bindTs, peek, peeks, ats, setAll, light, lightAll, qI, rng_len, enum_len, e2_need_numbers, nI, Nat.not_le_of_lt this]
    exact hk _ (by simp [wpFn, startD, lockOf, outs, wipe, back, bindT, bindTs, peek, peeks, ats, setAll, light, lightAll, qI, rng_len, enum_len])
  · simpa [wpFn, startD, lockOf, outs, wipe, back, bindT, bindTs, peek, peeks, ats, setAll, light, lightAll, qI, rng_len, enum_len] using h
def sp_need_left : Spec := fun ms Kc _ => ∃ (D : Deal) (left : List Nat), ms = [.p D.d, .p (.tuple (left.map nI))] ∧ D.ok ∧ leftOk D left ∧ Kc (.p .none) ms
theorem h_need_left (ms : List M) (Kc : M → List M → Prop) (h : sp_need_left ms Kc (fun _ _ => False)) : wpFn [sp_need_deal, sp_need_numbers] 2 c_need_left ms Kc (fun _ _ => False) := by
  obtain ⟨D, left, rfl, ok, lok, h⟩ := h
  simp [wpFn, startD, lockOf, outs, wipe, back, bindT, bindTs, peek, peeks, ats, setAll, light, lightAll, qI, rng_len, enum_len, c_need_left]
  refine ⟨D, rfl, ok, ?_⟩
  simp [wpFn, startD, lockOf, outs, wipe, back, bindT, bindTs, peek, peeks, ats, setAll, light, lightAll, qI, rng_len, enum_len]
  refine ⟨D, left, rfl, ok.g.hi, lok, ?_⟩
  simpa [wpFn, startD, lockOf, outs, wipe, back, bindT, bindTs, peek, peeks, ats, setAll, light, lightAll, qI, rng_len, enum_len] using h
def sp_need_stand : Spec := fun ms Kc _ => ∃ (D : Deal) (s : Stand), ms = [.p D.d, .p s.d] ∧ D.ok ∧ standOk D s ∧ Kc (.p .none) ms
theorem h_need_stand (ms : List M) (Kc : M → List M → Prop) (h : sp_need_stand ms Kc (fun _ _ => False)) : wpFn [sp_need_deal, sp_need_numbers, sp_is_number] 4 c_need_stand ms Kc (fun _ _ => False) := by
  obtain ⟨D, s, rfl, ok, sok, h⟩ := h
  have lz : s.due.length ≤ sizeLine := Nat.le_of_lt (small (m := 6) (by have := sok.n; have := ok.p.hi; omega) (by decide))
  have ly : D.ps.length ≤ sizeLine := by rw [← sok.n]; exact lz
  simp [wpFn, startD, lockOf, outs, wipe, back, bindT, bindTs, peek, peeks, ats, setAll, light, lightAll, qI, rng_len, enum_len, c_need_stand]
  refine ⟨D, rfl, ok, ?_⟩
  simp [wpFn, startD, lockOf, outs, wipe, back, bindT, bindTs, peek, peeks, ats, setAll, light, lightAll, qI, rng_len, enum_len]
  refine ⟨D, s.left, rfl, ok.g.hi, sok.l, ?_⟩
  simp [wpFn, startD, lockOf, outs, wipe, back, bindT, bindTs, peek, peeks, ats, setAll, light, lightAll, qI, rng_len, enum_len, sok.n, ly]
  refine compLoop_m .int (fun _ => .bool true) gdOk_nil s.due _ (fun p hp k hk => ?_) ?_
  · simp [wpFn, startD, lockOf, outs, wipe, back, bindT, bindTs, peek, peeks, ats, setAll, light, lightAll, qI, rng_len, enum_len, e1_need_stand, sp_is_number, isInt]
    exact hk _ (by simp [wpFn, startD, lockOf, outs, wipe, back, bindT, bindTs, peek, peeks, ats, setAll, light, lightAll, qI, rng_len, enum_len])
  · simpa [wpFn, startD, lockOf, outs, wipe, back, bindT, bindTs, peek, peeks, ats, setAll, light, lightAll, qI, rng_len, enum_len, sok.z] using h
end Q.S
set_option Elab.async false
set_option linter.all false
set_option maxRecDepth 100000
set_option maxHeartbeats 2000000
/-! SF: what the program reckons of a deal. -/
namespace Q.S
open PySem PySem.Spec PyProof.Rows L2 Q
def Deal.gain (D : Deal) (left : List Nat) : Int := (left.map fun k => (D.g k).worth - (D.g k).cost).sum
def Deal.bonds (D : Deal) : Int := (D.ps.map (·.2)).sum
def Deal.own (D : Deal) (left : List Nat) (x : Str) : Int := ((left.filter fun k => decide ((D.g k).tk = x)).map fun k => (D.g k).worth).sum - ((left.filter fun k => decide ((D.g k).gv = x)).map fun k => (D.g k).cost).sum
def Deal.owns (D : Deal) (left : List Nat) : List Int := D.ps.map fun p => D.own left p.1
def Deal.come (D : Deal) (s : Stand) : List Int := ((D.owns s.left).zip s.due).map fun p => p.1 + p.2
def Deal.gone (D : Deal) (s : Stand) : List Str := ((D.ps.zip (D.come s)).filter fun p => decide (p.2 + p.1.2 < 0)).map (·.1.1)
theorem gd_at {δ : De} {i : Nat} {ds : List PyData} (h : (δ[i]?).getD none = some (.l ds)) : gdOk [(i, ds)] δ := fun g hg => by rw [List.mem_singleton.mp hg]; exact ⟨_, h, rfl⟩
/-! sums of goods' gains -/
def sp_gain_there : Spec := fun ms Kc _ => ∃ (D : Deal) (left : List Nat) (m : M), ms = [.p D.d, m] ∧ isSeq m (left.map nI) ∧ left.length ≤ 1000 ∧ (∀ k ∈ left, k < D.gs.length) ∧ Kc (.p (.int (D.gain left))) ms
theorem h_gain_there (ms : List M) (Kc : M → List M → Prop) (h : sp_gain_there ms Kc (fun _ _ => False)) : wpFn [] 3 c_gain_there ms Kc (fun _ _ => False) := by
  obtain ⟨D, left, m, rfl, hs, hl, lk, h⟩ := h
  have lz : left.length ≤ sizeLine := Nat.le_of_lt (small hl (by decide))
  have key : ∀ gd (K : List PyData → De → Prop), gdOk gd [some (M.p D.d), some m, none] → K (left.map fun k => .int ((D.g k).worth - (D.g k).cost)) [some (M.p D.d), some m, none] →
      compLoop [2] gd (fun x δ2 k => ∃ δ3, (2 < δ2.length ∧ δ2.set 2 (some (M.p x)) = δ3) ∧ wpE [] (fun _ _ => False) e1_gain_there δ3 fun y δ5 => frz y δ5 fun d δ6 => k (some d) δ6) (left.map nI) [some (M.p D.d), some m, none] K := by
    intro gd K hg hK
    refine compLoop_m nI (fun k => .int ((D.g k).worth - (D.g k).cost)) hg left K (fun p hp k hk => ?_) hK
    simp [wpFn, startD, lockOf, outs, wipe, back, bindT, bindTs, peek, peeks, ats, setAll, light, lightAll, qI, rng_len, enum_len, e1_gain_there, ixGsI (lk p hp)]
    exact hk _ (by simp [wpFn, startD, lockOf, outs, wipe, back, bindT, bindTs, peek, peeks, ats, setAll, light, lightAll, qI, rng_len, enum_len])
  rcases hs with rfl | rfl | rfl
  · simp [wpFn, startD, lockOf, outs, wipe, back, bindT, bindTs, peek, peeks, ats, setAll, light, lightAll, qI, rng_len, enum_len, c_gain_there, lz]
    refine key _ _ (gd_at rfl) ?_
    simpa [wpFn, startD, lockOf, outs, wipe, back, bindT, bindTs, peek, peeks, ats, setAll, light, lightAll, qI, rng_len, enum_len, Deal.gain] using h
  · simp [wpFn, startD, lockOf, outs, wipe, back, bindT, bindTs, peek, peeks, ats, setAll, light, lightAll, qI, rng_len, enum_len, c_gain_there, lz]
    refine key _ _ gdOk_nil ?_
    simpa [wpFn, startD, lockOf, outs, wipe, back, bindT, bindTs, peek, peeks, ats, setAll, light, lightAll, qI, rng_len, enum_len, Deal.gain] using h
  · simp [wpFn, startD, lockOf, outs, wipe, back, bindT, bindTs, peek, peeks, ats, setAll, light, lightAll, qI, rng_len, enum_len, c_gain_there, lz]
    refine key _ _ gdOk_nil ?_
    simpa [wpFn, startD, lockOf, outs, wipe, back, bindT, bindTs, peek, peeks, ats, setAll, light, lightAll, qI, rng_len, enum_len, Deal.gain] using h
def sp__law_gain : Spec := sp_gain_there
theorem h__law_gain (ms : List M) (Kc : M → List M → Prop) (h : sp__law_gain ms Kc (fun _ _ => False)) : wpFn [] 3 c__law_gain ms Kc (fun _ _ => False) := h_gain_there ms Kc h
def sp_gain_of : Spec := fun ms Kc _ => ∃ (D : Deal) (left : List Nat), ms = [.p D.d, .p (.tuple (left.map nI))] ∧ D.ok ∧ leftOk D left ∧ Kc (.p (.int (D.gain left))) ms
theorem leftOk.le {D : Deal} {left : List Nat} (h : leftOk D left) (h60 : D.gs.length ≤ 60) : left.length ≤ 1000 := by have := h.len; omega
theorem h_gain_of (ms : List M) (Kc : M → List M → Prop) (h : sp_gain_of ms Kc (fun _ _ => False)) : wpFn [sp_need_deal, sp_need_left, sp_gain_there] 2 c_gain_of ms Kc (fun _ _ => False) := by
  obtain ⟨D, left, rfl, ok, lok, h⟩ := h
  simp [wpFn, startD, lockOf, outs, wipe, back, bindT, bindTs, peek, peeks, ats, setAll, light, lightAll, qI, rng_len, enum_len, c_gain_of]
  refine ⟨D, rfl, ok, ?_⟩
  simp [wpFn, startD, lockOf, outs, wipe, back, bindT, bindTs, peek, peeks, ats, setAll, light, lightAll, qI, rng_len, enum_len]
  refine ⟨D, left, rfl, ok, lok, ?_⟩
  simp [wpFn, startD, lockOf, outs, wipe, back, bindT, bindTs, peek, peeks, ats, setAll, light, lightAll, qI, rng_len, enum_len]
  refine ⟨D, left, _, rfl, .inr (.inl rfl), lok.le ok.g.hi, lok.1, ?_⟩
  simpa [wpFn, startD, lockOf, outs, wipe, back, bindT, bindTs, peek, peeks, ats, setAll, light, lightAll, qI, rng_len, enum_len] using h
def sp_trust_there : Spec := fun ms Kc _ => ∃ D : Deal, ms = [.p D.d] ∧ D.ps.length ≤ 6 ∧ Kc (.p (.int D.bonds)) ms
theorem h_trust_there (ms : List M) (Kc : M → List M → Prop) (h : sp_trust_there ms Kc (fun _ _ => False)) : wpFn [] 2 c_trust_there ms Kc (fun _ _ => False) := by
  obtain ⟨D, rfl, hl, h⟩ := h
  have lz : D.ps.length ≤ sizeLine := Nat.le_of_lt (small hl (by decide))
  simp [wpFn, startD, lockOf, outs, wipe, back, bindT, bindTs, peek, peeks, ats, setAll, light, lightAll, qI, rng_len, enum_len, c_trust_there, lz]
  refine compLoop_m pd (fun p => .int p.2) gdOk_nil D.ps _ (fun p hp k hk => ?_) ?_
  · simp [wpFn, startD, lockOf, outs, wipe, back, bindT, bindTs, peek, peeks, ats, setAll, light, lightAll, qI, rng_len, enum_len, e1_trust_there]
    exact hk _ (by simp [wpFn, startD, lockOf, outs, wipe, back, bindT, bindTs, peek, peeks, ats, setAll, light, lightAll, qI, rng_len, enum_len])
  · simpa [wpFn, startD, lockOf, outs, wipe, back, bindT, bindTs, peek, peeks, ats, setAll, light, lightAll, qI, rng_len, enum_len, Deal.bonds] using h
def sp__law_bonds : Spec := sp_trust_there
theorem h__law_bonds (ms : List M) (Kc : M → List M → Prop) (h : sp__law_bonds ms Kc (fun _ _ => False)) : wpFn [] 2 c__law_bonds ms Kc (fun _ _ => False) := h_trust_there ms Kc h
def sp_trust_of : Spec := fun ms Kc _ => ∃ D : Deal, ms = [.p D.d] ∧ D.ok ∧ Kc (.p (.int D.bonds)) ms
theorem h_trust_of (ms : List M) (Kc : M → List M → Prop) (h : sp_trust_of ms Kc (fun _ _ => False)) : wpFn [sp_need_deal, sp_trust_there] 1 c_trust_of ms Kc (fun _ _ => False) := by
  obtain ⟨D, rfl, ok, h⟩ := h
  simp [wpFn, startD, lockOf, outs, wipe, back, bindT, bindTs, peek, peeks, ats, setAll, light, lightAll, qI, rng_len, enum_len, c_trust_of]
  refine ⟨D, rfl, ok, ?_⟩
  simp [wpFn, startD, lockOf, outs, wipe, back, bindT, bindTs, peek, peeks, ats, setAll, light, lightAll, qI, rng_len, enum_len]
  refine ⟨D, rfl, ok.p.hi, ?_⟩
  simpa [wpFn, startD, lockOf, outs, wipe, back, bindT, bindTs, peek, peeks, ats, setAll, light, lightAll, qI, rng_len, enum_len] using h
/-! a dict of the parties' numbers -/
def kv (ps : List (Str × Int)) (f : Str → Int) : List (L2.Key × M) := ps.map fun p => (.inr p.1, .p (.int (f p.1)))
theorem kget_kv {x : Str} {f : Str → Int} : ∀ {ps : List (Str × Int)}, x ∈ ps.map (·.1) → kget (kv ps f) (.inr x) = some (.p (.int (f x)))
  | [], h => by simp at h
  | p :: ps, h => by
    by_cases hx : p.1 = x
    · simp [kv, kget, hx]
    · have : x ∈ ps.map (·.1) := by rw [List.map_cons] at h; exact (List.mem_cons.mp h).resolve_left fun e => hx e.symm
      have := kget_kv (f := f) this
      simp [kv, kget, hx] at this ⊢
      exact this
theorem kput_kv {x : Str} {f : Str → Int} {z : Int} : ∀ {ps : List (Str × Int)}, (ps.map (·.1)).Nodup → x ∈ ps.map (·.1) → kput (kv ps f) (.inr x) (.p (.int z)) = kv ps fun y => if y = x then z else f y
  | [], _, h => by simp at h
  | p :: ps, u, h => by
    rw [List.map_cons, List.nodup_cons] at u
    by_cases hx : p.1 = x
    · have hn : ∀ q ∈ ps, q.1 ≠ x := fun q hq e => u.1 (by rw [hx, ← e]; exact List.mem_map_of_mem hq)
      simp only [kv, List.map_cons, kput, hx]
      simp
      intro a b hq e
      exact absurd e (hn (a, b) hq)
    · have : x ∈ ps.map (·.1) := by rw [List.map_cons] at h; exact (List.mem_cons.mp h).resolve_left fun e => hx e.symm
      have := kput_kv (f := f) (z := z) u.2 this
      simp [kv, kput, hx] at this ⊢
      exact this
theorem kv_len {ps : List (Str × Int)} {f : Str → Int} : (kv ps f).length = ps.length := List.length_map ..
theorem kput_new {x : Str} {m : M} : ∀ {kvs : List (L2.Key × M)}, (∀ q ∈ kvs, q.1 ≠ .inr x) → kput kvs (.inr x) m = kvs ++ [(.inr x, m)]
  | [], _ => rfl
  | q :: kvs, h => by
    rw [kput, if_neg (h q (List.mem_cons_self ..)), kput_new fun r hr => h r (List.mem_cons_of_mem _ hr)]; rfl
theorem dcOf_kv : ∀ (pre ps : List (Str × Int)), ((pre ++ ps).map (·.1)).Nodup → dcOf (kv pre fun _ => 0) (ps.map fun p => .tuple [.str p.1, .int 0]) = kv (pre ++ ps) fun _ => 0
  | pre, [], _ => by rw [List.append_nil]; rfl
  | pre, p :: ps, u => by
    have e : dcAdd (kv pre fun _ => 0) (.tuple [.str p.1, .int 0]) = kv (pre ++ [p]) fun _ => 0 := by
      show kput (kv pre fun _ => 0) (.inr p.1) (.p (.int 0)) = _
      rw [kput_new]
      · simp [kv]
      · intro q hq e
        obtain ⟨r, hr, rfl⟩ := List.mem_map.mp hq
        have e' : r.1 = p.1 := by simpa using e
        rw [List.map_append, List.nodup_append] at u
        exact u.2.2 _ (List.mem_map_of_mem hr) _ (by rw [List.map_cons]; exact List.mem_cons_self ..) e'
    rw [List.map_cons, dcOf, e, dcOf_kv (pre ++ [p]) ps (by rw [List.append_assoc]; exact u), List.append_assoc]; rfl
end Q.S
set_option Elab.async false
set_option linter.all false
set_option maxRecDepth 100000
set_option maxHeartbeats 2000000
/-! SG: own gains, what comes, who leaves. -/
namespace Q.S
open PySem PySem.Spec PyProof.Rows L2 Q
theorem own_snoc (D : Deal) (pre : List Nat) (k : Nat) (x : Str) : D.own (pre ++ [k]) x = D.own pre x + (if (D.g k).tk = x then (D.g k).worth else 0) - (if (D.g k).gv = x then (D.g k).cost else 0) := by
  unfold Deal.own
  rw [List.filter_append, List.filter_append, List.map_append, List.map_append, List.sum_append, List.sum_append]
  by_cases h1 : (D.g k).tk = x <;> by_cases h2 : (D.g k).gv = x <;> simp [h1, h2] <;> omega
theorem own_step {D : Deal} {pre : List Nat} {k : Nat} (n4 : (D.g k).gv ≠ (D.g k).tk) :
    (fun y => if y = (D.g k).tk then (if (D.g k).tk = (D.g k).gv then D.own pre (D.g k).gv - (D.g k).cost else D.own pre (D.g k).tk) + (D.g k).worth else if y = (D.g k).gv then D.own pre (D.g k).gv - (D.g k).cost else D.own pre y) = D.own (pre ++ [k]) := by
  funext y
  rw [own_snoc]
  by_cases h1 : y = (D.g k).tk
  · subst h1; simp [n4, n4.symm]
  · by_cases h2 : y = (D.g k).gv
    · subst h2; simp [n4, n4.symm]
    · simp [h1, h2, Ne.symm h1, Ne.symm h2]
theorem Deal.gk {D : Deal} {k : Nat} (h : k < D.gs.length) : D.g k ∈ D.gs := by
  unfold Deal.g
  rw [List.getD_eq_getElem?_getD, List.getElem?_eq_getElem h]
  exact List.getElem_mem h
def sp_own_gains : Spec := fun ms Kc _ => ∃ (D : Deal) (left : List Nat) (m : M), ms = [.p D.d, m] ∧ isSeq m (left.map nI) ∧ D.pg ∧ left.length ≤ 1000 ∧ (∀ k ∈ left, k < D.gs.length) ∧ Kc (.l ((D.owns left).map .int)) ms
theorem h_own_gains (ms : List M) (Kc : M → List M → Prop) (h : sp_own_gains ms Kc (fun _ _ => False)) : wpFn [] 10 c_own_gains ms Kc (fun _ _ => False) := by
  obtain ⟨D, left, m, rfl, hs, ok, hl, lk, h⟩ := h
  have lz : D.ps.length ≤ sizeLine := Nat.le_of_lt (small ok.p.hi (by decide))
  have ly : D.ps.length < sizeLine := small ok.p.hi (by decide)
  have e0 : dcOf [] (D.ps.map fun p => .tuple [.str p.1, .int 0]) = kv D.ps fun _ => 0 := dcOf_kv [] D.ps ok.p.un
  have eo : (D.ps.map fun p => PyData.int (D.own left p.1)) = (D.owns left).map .int := by unfold Deal.owns; rw [List.map_map]; rfl
  rcases hs with rfl | rfl | rfl
  all_goals
    simp [wpFn, startD, lockOf, outs, wipe, back, bindT, bindTs, peek, peeks, ats, setAll, light, lightAll, qI, rng_len, enum_len, c_own_gains, lz]
    refine compLoop_m pd (fun p => .tuple [.str p.1, .int 0]) gdOk_nil D.ps _ (fun p hp k hk => ?_) ?_
    · simp [wpFn, startD, lockOf, outs, wipe, back, bindT, bindTs, peek, peeks, ats, setAll, light, lightAll, qI, rng_len, enum_len, e1_own_gains, e2_own_gains, keyOf]
      exact hk _ (by simp [wpFn, startD, lockOf, outs, wipe, back, bindT, bindTs, peek, peeks, ats, setAll, light, lightAll, qI, rng_len, enum_len])
    simp [wpFn, startD, lockOf, outs, wipe, back, bindT, bindTs, peek, peeks, ats, setAll, light, lightAll, qI, rng_len, enum_len, e0]
    refine forLoop_pp nI left (fun pre δ => ∃ a b c d e f, δ = [some (M.p D.d), some _, some (.dc (kv D.ps (D.own pre))), none, a, b, c, d, e, f]) ?_ ?_ ⟨_, _, _, _, _, _, rfl⟩
    · rintro pre k post δ N el ⟨a, b, c, d, e, f, rfl⟩ hN
      have hk : k < D.gs.length := lk k (by rw [el]; simp)
      obtain ⟨n1, n2, n3, n4, n5, n6, n7, n8⟩ := ok.g.ok _ (Deal.gk hk)
      refine ⟨by first | exact gdOk_nil | exact gd_at rfl, ?_⟩
      simp [wpFn, startD, lockOf, outs, wipe, back, bindT, bindTs, peek, peeks, ats, setAll, light, lightAll, qI, rng_len, enum_len, b3_own_gains, ixGsI hk, kget_kv n5, kget_kv n6, kput_kv ok.p.un n5, kput_kv ok.p.un n6, kv_len, ly, M.isP]
      refine hN _ ⟨_, _, _, _, _, _, by rw [own_step n4]⟩
    · rintro δ ⟨a, b, c, d, e, f, rfl⟩
      refine ⟨by first | exact gdOk_nil | exact gd_at rfl, ?_⟩
      simp [wpFn, startD, lockOf, outs, wipe, back, bindT, bindTs, peek, peeks, ats, setAll, light, lightAll, qI, rng_len, enum_len, lz]
      refine compLoop_m pd (fun p => .int (D.own left p.1)) gdOk_nil D.ps _ (fun p hp k hk => ?_) ?_
      · simp [wpFn, startD, lockOf, outs, wipe, back, bindT, bindTs, peek, peeks, ats, setAll, light, lightAll, qI, rng_len, enum_len, e4_own_gains, kget_kv (List.mem_map_of_mem (f := (·.1)) hp)]
        exact hk _ (by simp [wpFn, startD, lockOf, outs, wipe, back, bindT, bindTs, peek, peeks, ats, setAll, light, lightAll, qI, rng_len, enum_len])
      · simpa [wpFn, startD, lockOf, outs, wipe, back, bindT, bindTs, peek, peeks, ats, setAll, light, lightAll, qI, rng_len, enum_len, eo] using h
theorem come_eq (D : Deal) (s : Stand) : (((D.owns s.left).zip s.due).map fun p => PyData.int (p.1 + p.2)) = (D.come s).map .int := by unfold Deal.come; rw [List.map_map]; rfl
theorem owns_len (D : Deal) (left : List Nat) : (D.owns left).length = D.ps.length := List.length_map ..
theorem come_len {D : Deal} {s : Stand} (h : s.due.length = D.ps.length) : (D.come s).length = D.ps.length := by unfold Deal.come; rw [List.length_map, List.length_zip, owns_len, h]; exact Nat.min_self _
def sp_come_there : Spec := fun ms Kc _ => ∃ (D : Deal) (s : Stand), ms = [.p D.d, .p s.d] ∧ D.pg ∧ s.left.length ≤ 1000 ∧ (∀ k ∈ s.left, k < D.gs.length) ∧ s.due.length = D.ps.length ∧ Kc (.p (.tuple ((D.come s).map .int))) ms
theorem h_come_there (ms : List M) (Kc : M → List M → Prop) (h : sp_come_there ms Kc (fun _ _ => False)) : wpFn [sp_own_gains] 4 c_come_there ms Kc (fun _ _ => False) := by
  obtain ⟨D, s, rfl, ok, l1, l2, l3, h⟩ := h
  have lz : D.ps.length ≤ sizeLine := Nat.le_of_lt (small ok.p.hi (by decide))
  simp [wpFn, startD, lockOf, outs, wipe, back, bindT, bindTs, peek, peeks, ats, setAll, light, lightAll, qI, rng_len, enum_len, c_come_there]
  refine ⟨D, s.left, _, rfl, .inr (.inl rfl), ok, l1, l2, ?_⟩
  simp [wpFn, startD, lockOf, outs, wipe, back, bindT, bindTs, peek, peeks, ats, setAll, light, lightAll, qI, rng_len, enum_len, owns_len, l3, zipItems_map, lz]
  refine compLoop_m _ (fun p => .int (p.1 + p.2)) gdOk_nil _ _ (fun p hp k hk => ?_) ?_
  · simp [wpFn, startD, lockOf, outs, wipe, back, bindT, bindTs, peek, peeks, ats, setAll, light, lightAll, qI, rng_len, enum_len, e1_come_there]
    exact hk _ (by simp [wpFn, startD, lockOf, outs, wipe, back, bindT, bindTs, peek, peeks, ats, setAll, light, lightAll, qI, rng_len, enum_len])
  · rw [come_eq]
    simpa [wpFn, startD, lockOf, outs, wipe, back, bindT, bindTs, peek, peeks, ats, setAll, light, lightAll, qI, rng_len, enum_len] using h
def sp_to_come : Spec := fun ms Kc _ => ∃ (D : Deal) (s : Stand), ms = [.p D.d, .p s.d] ∧ D.ok ∧ standOk D s ∧ Kc (.p (.tuple ((D.come s).map .int))) ms
theorem h_to_come (ms : List M) (Kc : M → List M → Prop) (h : sp_to_come ms Kc (fun _ _ => False)) : wpFn [sp_need_stand, sp_come_there] 2 c_to_come ms Kc (fun _ _ => False) := by
  obtain ⟨D, s, rfl, ok, sok, h⟩ := h
  simp [wpFn, startD, lockOf, outs, wipe, back, bindT, bindTs, peek, peeks, ats, setAll, light, lightAll, qI, rng_len, enum_len, c_to_come]
  refine ⟨D, s, rfl, ok, sok, ?_⟩
  simp [wpFn, startD, lockOf, outs, wipe, back, bindT, bindTs, peek, peeks, ats, setAll, light, lightAll, qI, rng_len, enum_len]
  refine ⟨D, s, rfl, ok.topg, sok.l.le ok.g.hi, sok.l.1, sok.n, ?_⟩
  simpa [wpFn, startD, lockOf, outs, wipe, back, bindT, bindTs, peek, peeks, ats, setAll, light, lightAll, qI, rng_len, enum_len] using h
theorem gone_eq (D : Deal) (s : Stand) : (((D.ps.zip (D.come s)).filter fun p => decide (p.2 + p.1.2 < 0)).map fun p => PyData.str p.1.1) = (D.gone s).map .str := by unfold Deal.gone; rw [List.map_map]; rfl
def sp_leaving_there : Spec := fun ms Kc _ => ∃ (D : Deal) (s : Stand), ms = [.p D.d, .p s.d] ∧ D.pg ∧ s.left.length ≤ 1000 ∧ (∀ k ∈ s.left, k < D.gs.length) ∧ s.due.length = D.ps.length ∧ Kc (.p (.tuple ((D.gone s).map .str))) ms
theorem h_leaving_there (ms : List M) (Kc : M → List M → Prop) (h : sp_leaving_there ms Kc (fun _ _ => False)) : wpFn [sp_come_there] 5 c_leaving_there ms Kc (fun _ _ => False) := by
  obtain ⟨D, s, rfl, ok, l1, l2, l3, h⟩ := h
  have lz : D.ps.length ≤ sizeLine := Nat.le_of_lt (small ok.p.hi (by decide))
  have cl := come_len l3
  simp [wpFn, startD, lockOf, outs, wipe, back, bindT, bindTs, peek, peeks, ats, setAll, light, lightAll, qI, rng_len, enum_len, c_leaving_there]
  refine ⟨D, s, rfl, ok, l1, l2, l3, ?_⟩
  simp [wpFn, startD, lockOf, outs, wipe, back, bindT, bindTs, peek, peeks, ats, setAll, light, lightAll, qI, rng_len, enum_len, cl, zipItems_map, lz]
  refine compLoop_f _ (fun p => .str p.1.1) (fun p => decide (p.2 + p.1.2 < 0)) gdOk_nil _ _ (fun p hp k hk => ?_) ?_
  · by_cases hc : p.2 + p.1.2 < 0
    · simp [hc] at hk
      simp [wpFn, startD, lockOf, outs, wipe, back, bindT, bindTs, peek, peeks, ats, setAll, light, lightAll, qI, rng_len, enum_len, i1_leaving_there, e2_leaving_there, hc]
      exact hk _ (by simp [wpFn, startD, lockOf, outs, wipe, back, bindT, bindTs, peek, peeks, ats, setAll, light, lightAll, qI, rng_len, enum_len])
    · simp [hc] at hk
      simp [wpFn, startD, lockOf, outs, wipe, back, bindT, bindTs, peek, peeks, ats, setAll, light, lightAll, qI, rng_len, enum_len, i1_leaving_there, e2_leaving_there, hc]
      exact hk _ (by simp [wpFn, startD, lockOf, outs, wipe, back, bindT, bindTs, peek, peeks, ats, setAll, light, lightAll, qI, rng_len, enum_len])
  · rw [gone_eq]
    simpa [wpFn, startD, lockOf, outs, wipe, back, bindT, bindTs, peek, peeks, ats, setAll, light, lightAll, qI, rng_len, enum_len] using h
def sp_leaving : Spec := fun ms Kc _ => ∃ (D : Deal) (s : Stand), ms = [.p D.d, .p s.d] ∧ D.ok ∧ standOk D s ∧ Kc (.p (.tuple ((D.gone s).map .str))) ms
theorem h_leaving (ms : List M) (Kc : M → List M → Prop) (h : sp_leaving ms Kc (fun _ _ => False)) : wpFn [sp_need_stand, sp_leaving_there] 2 c_leaving ms Kc (fun _ _ => False) := by
  obtain ⟨D, s, rfl, ok, sok, h⟩ := h
  simp [wpFn, startD, lockOf, outs, wipe, back, bindT, bindTs, peek, peeks, ats, setAll, light, lightAll, qI, rng_len, enum_len, c_leaving]
  refine ⟨D, s, rfl, ok, sok, ?_⟩
  simp [wpFn, startD, lockOf, outs, wipe, back, bindT, bindTs, peek, peeks, ats, setAll, light, lightAll, qI, rng_len, enum_len]
  refine ⟨D, s, rfl, ok.topg, sok.l.le ok.g.hi, sok.l.1, sok.n, ?_⟩
  simpa [wpFn, startD, lockOf, outs, wipe, back, bindT, bindTs, peek, peeks, ats, setAll, light, lightAll, qI, rng_len, enum_len] using h
def sp_is_safe : Spec := fun ms Kc _ => ∃ (D : Deal) (s : Stand), ms = [.p D.d, .p s.d] ∧ D.ok ∧ standOk D s ∧ Kc (.p (.bool (D.gone s).isEmpty)) ms
end Q.S
set_option Elab.async false
set_option linter.all false
set_option maxRecDepth 100000
set_option maxHeartbeats 2000000
/-! SGB: who leaves, the law's own. -/
namespace Q.S
open PySem PySem.Spec PyProof.Rows L2 Q
theorem strs_lay : ∀ {xs : List Str}, (∀ z ∈ xs, asc z) → PyData.canLayAll0 (xs.map .str) = true ∧ PyData.depthAll (xs.map .str) ≤ 0
  | [], _ => ⟨rfl, Nat.le_refl _⟩
  | z :: xs, h => by
    obtain ⟨h1, h2⟩ := strs_lay fun y hy => h y (List.mem_cons_of_mem _ hy)
    exact ⟨by simp [PyData.canLayAll0, PyData.canLay0, asc_ok (h z (List.mem_cons_self ..)), h1], by simp only [List.map_cons, PyData.depthAll, PyData.depth]; omega⟩
theorem eq_empty {xs : List Str} {K : Bool → Prop} (hl : ∀ z ∈ xs, asc z) (h : K xs.isEmpty) : cmpM .eq (.p (.tuple (xs.map .str))) (.p (.tuple [])) K := by
  obtain ⟨h1, h2⟩ := strs_lay hl
  refine ⟨_, _, rfl, rfl, ?_, by decide +kernel, ?_⟩
  · simp only [SeqAt.shaped, PyData.canLay0, PyData.depth, Bool.and_eq_true, decide_eq_true_eq]
    have h3 : PyData.depthAll (xs.map .str) = 0 := Nat.le_zero.mp h2
    exact ⟨h1, decide_eq_true (by show PyData.depthAll _ + 1 ≤ 64; omega)⟩
  · cases xs with
    | nil => simpa [PyData.eqv, PyData.eqvAll] using h
    | cons x xs => simpa [PyData.eqv, PyData.eqvAll] using h
theorem gone_mem {D : Deal} {s : Stand} {z : Str} (h : z ∈ D.gone s) : z ∈ D.ns := by
  unfold Deal.gone at h
  obtain ⟨p, hp, rfl⟩ := List.mem_map.mp h
  exact List.mem_map_of_mem (List.of_mem_zip (List.mem_filter.mp hp).1).1
theorem gone_asc {D : Deal} {s : Stand} (ok : D.pg) : ∀ z ∈ D.gone s, asc z := fun z hz => by
  obtain ⟨p, hp, rfl⟩ := List.mem_map.mp (gone_mem hz)
  exact (ok.p.nm p hp).2.2
theorem h_is_safe (ms : List M) (Kc : M → List M → Prop) (h : sp_is_safe ms Kc (fun _ _ => False)) : wpFn [sp_leaving] 2 c_is_safe ms Kc (fun _ _ => False) := by
  obtain ⟨D, s, rfl, ok, sok, h⟩ := h
  simp [wpFn, startD, lockOf, outs, wipe, back, bindT, bindTs, peek, peeks, ats, setAll, light, lightAll, qI, rng_len, enum_len, c_is_safe]
  refine ⟨D, s, rfl, ok, sok, ?_⟩
  simp [wpFn, startD, lockOf, outs, wipe, back, bindT, bindTs, peek, peeks, ats, setAll, light, lightAll, qI, rng_len, enum_len]
  exact eq_empty (gone_asc ok.topg) h
/-! ### the law's own -/
def sp__law_own_gains : Spec := fun ms Kc _ => ∃ (D : Deal) (left : List Nat) (m : M), ms = [.p D.d, m] ∧ isSeq m (left.map nI) ∧ D.ps.length ≤ 100 ∧ left.length ≤ 1000 ∧ (∀ k ∈ left, k < D.gs.length) ∧ Kc (.l ((D.owns left).map .int)) ms
theorem h__law_own_gains (ms : List M) (Kc : M → List M → Prop) (h : sp__law_own_gains ms Kc (fun _ _ => False)) : wpFn [] 7 c__law_own_gains ms Kc (fun _ _ => False) := by
  obtain ⟨D, left, m, rfl, hs, hp, hl, lk, h⟩ := h
  have lz : left.length ≤ sizeLine := Nat.le_of_lt (small hl (by decide))
  have eo : (D.ps.map fun p => PyData.int (D.own left p.1)) = (D.owns left).map .int := by unfold Deal.owns; rw [List.map_map]; rfl
  rcases hs with rfl | rfl | rfl
  all_goals
    simp [wpFn, startD, lockOf, outs, wipe, back, bindT, bindTs, peek, peeks, ats, setAll, light, lightAll, qI, rng_len, enum_len, c__law_own_gains]
    refine forLoop_pp pd D.ps (fun pre δ => ∃ a b c, δ = [some (M.p D.d), some _, some (.l (pre.map fun p => .int (D.own left p.1))), a, b, c, none]) ?_ ?_ ⟨none, none, none, rfl⟩
    · rintro pre p post δ N el ⟨a, b, c, rfl⟩ hN
      have ly : pre.length < sizeLine := by have : D.ps.length = _ := congrArg List.length el; simp at this; exact small (m := 100) (by omega) (by decide)
      refine ⟨gdOk_nil, ?_⟩
      simp [wpFn, startD, lockOf, outs, wipe, back, bindT, bindTs, peek, peeks, ats, setAll, light, lightAll, qI, rng_len, enum_len, b5__law_own_gains, lz]
      refine compLoop_f nI (fun k => .int (D.g k).worth) (fun k => decide ((D.g k).tk = p.1)) (by first | exact gdOk_nil | exact gd_at rfl) left _ (fun k hk kk hkk => ?_) ?_
      · by_cases hc : (D.g k).tk = p.1
        · simp [hc] at hkk
          simp [wpFn, startD, lockOf, outs, wipe, back, bindT, bindTs, peek, peeks, ats, setAll, light, lightAll, qI, rng_len, enum_len, i1__law_own_gains, e2__law_own_gains, ixGsI (lk k hk), hc]
          exact hkk _ (by simp [wpFn, startD, lockOf, outs, wipe, back, bindT, bindTs, peek, peeks, ats, setAll, light, lightAll, qI, rng_len, enum_len])
        · simp [hc] at hkk
          simp [wpFn, startD, lockOf, outs, wipe, back, bindT, bindTs, peek, peeks, ats, setAll, light, lightAll, qI, rng_len, enum_len, i1__law_own_gains, e2__law_own_gains, ixGsI (lk k hk), hc]
          exact hkk _ (by simp [wpFn, startD, lockOf, outs, wipe, back, bindT, bindTs, peek, peeks, ats, setAll, light, lightAll, qI, rng_len, enum_len])
      simp [wpFn, startD, lockOf, outs, wipe, back, bindT, bindTs, peek, peeks, ats, setAll, light, lightAll, qI, rng_len, enum_len, lz]
      refine compLoop_f nI (fun k => .int (D.g k).cost) (fun k => decide ((D.g k).gv = p.1)) (by first | exact gdOk_nil | exact gd_at rfl) left _ (fun k hk kk hkk => ?_) ?_
      · by_cases hc : (D.g k).gv = p.1
        · simp [hc] at hkk
          simp [wpFn, startD, lockOf, outs, wipe, back, bindT, bindTs, peek, peeks, ats, setAll, light, lightAll, qI, rng_len, enum_len, i3__law_own_gains, e4__law_own_gains, ixGsI (lk k hk), hc]
          exact hkk _ (by simp [wpFn, startD, lockOf, outs, wipe, back, bindT, bindTs, peek, peeks, ats, setAll, light, lightAll, qI, rng_len, enum_len])
        · simp [hc] at hkk
          simp [wpFn, startD, lockOf, outs, wipe, back, bindT, bindTs, peek, peeks, ats, setAll, light, lightAll, qI, rng_len, enum_len, i3__law_own_gains, e4__law_own_gains, ixGsI (lk k hk), hc]
          exact hkk _ (by simp [wpFn, startD, lockOf, outs, wipe, back, bindT, bindTs, peek, peeks, ats, setAll, light, lightAll, qI, rng_len, enum_len])
      simp [wpFn, startD, lockOf, outs, wipe, back, bindT, bindTs, peek, peeks, ats, setAll, light, lightAll, qI, rng_len, enum_len, muM, ly]
      exact hN _ ⟨_, _, _, by simp [Deal.own]; exact ⟨rfl, rfl, rfl⟩⟩
    · rintro δ ⟨a, b, c, rfl⟩
      refine ⟨gdOk_nil, ?_⟩
      simpa [wpFn, startD, lockOf, outs, wipe, back, bindT, bindTs, peek, peeks, ats, setAll, light, lightAll, qI, rng_len, enum_len, eo] using h
def sp__law_come : Spec := fun ms Kc _ => ∃ (D : Deal) (s : Stand), ms = [.p D.d, .p s.d] ∧ D.ps.length ≤ 100 ∧ s.left.length ≤ 1000 ∧ (∀ k ∈ s.left, k < D.gs.length) ∧ Kc (.l ((D.come s).map .int)) ms
theorem h__law_come (ms : List M) (Kc : M → List M → Prop) (h : sp__law_come ms Kc (fun _ _ => False)) : wpFn [sp__law_own_gains] 4 c__law_come ms Kc (fun _ _ => False) := by
  obtain ⟨D, s, rfl, hp, l1, l2, h⟩ := h
  have lz : ((D.owns s.left).zip s.due).length ≤ sizeLine := by rw [List.length_zip, owns_len]; exact Nat.le_trans (Nat.min_le_left _ _) (Nat.le_of_lt (small hp (by decide)))
  simp [wpFn, startD, lockOf, outs, wipe, back, bindT, bindTs, peek, peeks, ats, setAll, light, lightAll, qI, rng_len, enum_len, c__law_come]
  refine ⟨D, s.left, _, rfl, .inr (.inl rfl), hp, l1, l2, ?_⟩
  simp [wpFn, startD, lockOf, outs, wipe, back, bindT, bindTs, peek, peeks, ats, setAll, light, lightAll, qI, rng_len, enum_len, zipItems_map] at lz ⊢
  refine ⟨lz, compLoop_m _ (fun p => .int (p.1 + p.2)) gdOk_nil _ _ (fun p hp k hk => ?_) ?_⟩
  · simp [wpFn, startD, lockOf, outs, wipe, back, bindT, bindTs, peek, peeks, ats, setAll, light, lightAll, qI, rng_len, enum_len, e1__law_come]
    exact hk _ (by simp [wpFn, startD, lockOf, outs, wipe, back, bindT, bindTs, peek, peeks, ats, setAll, light, lightAll, qI, rng_len, enum_len])
  · rw [come_eq]
    simpa [wpFn, startD, lockOf, outs, wipe, back, bindT, bindTs, peek, peeks, ats, setAll, light, lightAll, qI, rng_len, enum_len] using h
def sp__law_leavers : Spec := fun ms Kc _ => ∃ (D : Deal) (s : Stand), ms = [.p D.d, .p s.d] ∧ D.ps.length ≤ 100 ∧ s.left.length ≤ 1000 ∧ (∀ k ∈ s.left, k < D.gs.length) ∧ Kc (.p (.tuple ((D.gone s).map .str))) ms
theorem h__law_leavers (ms : List M) (Kc : M → List M → Prop) (h : sp__law_leavers ms Kc (fun _ _ => False)) : wpFn [sp__law_come] 4 c__law_leavers ms Kc (fun _ _ => False) := by
  obtain ⟨D, s, rfl, hp, l1, l2, h⟩ := h
  have lz : (D.ps.zip (D.come s)).length ≤ sizeLine := by rw [List.length_zip]; exact Nat.le_trans (Nat.min_le_left _ _) (Nat.le_of_lt (small hp (by decide)))
  simp [wpFn, startD, lockOf, outs, wipe, back, bindT, bindTs, peek, peeks, ats, setAll, light, lightAll, qI, rng_len, enum_len, c__law_leavers]
  refine ⟨D, s, rfl, hp, l1, l2, ?_⟩
  simp [wpFn, startD, lockOf, outs, wipe, back, bindT, bindTs, peek, peeks, ats, setAll, light, lightAll, qI, rng_len, enum_len, zipItems_map] at lz ⊢
  refine ⟨lz, compLoop_f _ (fun p => .str p.1.1) (fun p => decide (p.2 + p.1.2 < 0)) gdOk_nil _ _ (fun p hp k hk => ?_) ?_⟩
  · by_cases hc : p.2 + p.1.2 < 0
    · simp [hc] at hk
      simp [wpFn, startD, lockOf, outs, wipe, back, bindT, bindTs, peek, peeks, ats, setAll, light, lightAll, qI, rng_len, enum_len, i1__law_leavers, e2__law_leavers, hc]
      exact hk _ (by simp [wpFn, startD, lockOf, outs, wipe, back, bindT, bindTs, peek, peeks, ats, setAll, light, lightAll, qI, rng_len, enum_len])
    · simp [hc] at hk
      simp [wpFn, startD, lockOf, outs, wipe, back, bindT, bindTs, peek, peeks, ats, setAll, light, lightAll, qI, rng_len, enum_len, i1__law_leavers, e2__law_leavers, hc]
      exact hk _ (by simp [wpFn, startD, lockOf, outs, wipe, back, bindT, bindTs, peek, peeks, ats, setAll, light, lightAll, qI, rng_len, enum_len])
  · rw [gone_eq]
    simpa [wpFn, startD, lockOf, outs, wipe, back, bindT, bindTs, peek, peeks, ats, setAll, light, lightAll, qI, rng_len, enum_len] using h
end Q.S
set_option Elab.async false
set_option linter.all false
set_option maxRecDepth 100000
set_option maxHeartbeats 2000000
/-! SH: words, amounts, parts of a sum that are drawn. -/
namespace Q.S
open PySem PySem.Spec PyProof.Rows L2 Q
/-! ### texts of small letters -/
def lowz (z : Str) : Prop := ∀ c ∈ z.cps.toList, 97 ≤ c ∧ c < 123
theorem inL_low : ∀ c : Nat, 97 ≤ c → c < 123 → inL c = true := by
  have h : (List.range 26).all (fun i => inL (97 + i)) = true := by decide +kernel
  intro c h1 h2
  have := List.all_eq_true.mp h (c - 97) (List.mem_range.mpr (by omega))
  rwa [show 97 + (c - 97) = c from by omega] at this
theorem lowz.nm {z : Str} (h : lowz z) (h1 : 1 ≤ z.length) (h8 : z.length ≤ 8) : nmOk z := by
  refine ⟨?_, h8, fun c hc => by have := h c hc; omega⟩
  simp only [nameB, Bool.and_eq_true, decide_eq_true_eq, List.all_eq_true]
  exact ⟨by omega, by omega, fun c hc => inL_low c (h c hc).1 (h c hc).2⟩
theorem letters_list : letters.cps.toList = (List.range 26).map (97 + ·) := by decide +kernel
theorem letters_len : letters.length = 26 := by decide +kernel
theorem lett {i : Int} (h0 : 0 ≤ i) (h : i < 26) : L2.atI letters.cps.toList i = some (97 + i.toNat) := by
  refine atI_ok h0 ?_
  rw [letters_list, List.getElem?_map, List.getElem?_range (by omega)]
  rfl
theorem app_list (a b : Str) : (a ++ b).cps.toList = a.cps.toList ++ b.cps.toList := Array.toList_append
theorem str_len (z : Str) : z.length = z.cps.toList.length := by rw [Array.length_toList]; rfl
theorem lowz.app {a b : Str} (ha : lowz a) (hb : lowz b) : lowz (a ++ b) := fun c hc => by
  rw [app_list] at hc
  exact (List.mem_append.mp hc).elim (ha c) (hb c)
theorem low1 {i : Nat} (h : i < 26) : lowz ⟨#[97 + i]⟩ := fun c hc => by
  have : c = 97 + i := by simpa using hc
  omega
theorem e_list : (Str.ofString "").cps.toList = [] := by decide +kernel
theorem join_low : ∀ {zs : List Str}, (∀ z ∈ zs, z.length = 1 ∧ lowz z) → lowz (Str.join (Str.ofString "") zs) ∧ (Str.join (Str.ofString "") zs).length = zs.length
  | [], _ => ⟨(fun c hc => by cases hc), rfl⟩
  | [x], h => ⟨(h x (List.mem_cons_self ..)).2, (h x (List.mem_cons_self ..)).1⟩
  | x :: y :: r, h => by
    have h1 := h x (List.mem_cons_self ..)
    have h2 := join_low (zs := y :: r) fun z hz => h z (List.mem_cons_of_mem _ hz)
    have e : (Str.join (Str.ofString "") (x :: y :: r)).cps.toList = x.cps.toList ++ (Str.join (Str.ofString "") (y :: r)).cps.toList := by
      show (x ++ Str.ofString "" ++ Str.join (Str.ofString "") (y :: r)).cps.toList = _
      rw [app_list, app_list, e_list, List.append_nil]
    refine ⟨fun c hc => ?_, ?_⟩
    · rw [e] at hc
      exact (List.mem_append.mp hc).elim (h1.2 c) (h2.1 c)
    · have h3 := h1.1
      have h4 := h2.2
      rw [str_len] at h3 h4 ⊢
      rw [e, List.length_append, h3, h4, List.length_cons (a := x)]; omega
theorem mjoin {zs : List Str} {K : M → Prop} (h : ∀ z ∈ zs, z.length = 1 ∧ lowz z) (hl : zs.length ≤ 1000) (hK : ∀ z, lowz z → z.length = zs.length → K (.p (.str z))) : meM .join (.p (.str (Str.ofString ""))) [.l (zs.map .str)] K := by
  have e : ∀ zs : List Str, strL (zs.map .str) = some zs := by
    intro zs
    induction zs with
    | nil => rfl
    | cons z zs ih => rw [List.map_cons, strL, ih]; rfl
  have s1 : ∀ zs : List Str, (∀ z ∈ zs, z.length = 1 ∧ lowz z) → (zs.map (·.length)).sum = zs.length := by
    intro zs
    induction zs with
    | nil => intro _; rfl
    | cons z zs ih => intro h; rw [List.map_cons, List.sum_cons, ih fun y hy => h y (List.mem_cons_of_mem _ hy), (h z (List.mem_cons_self ..)).1, List.length_cons]; omega
  have e0 : (Str.ofString "").length = 0 := by decide +kernel
  refine ⟨zs.map .str, zs, rfl, e zs, by rw [s1 zs h, e0]; omega, ?_⟩
  have := join_low h
  unfold Txt.join
  rw [StrLaws.glued_eq_join]
  exact hK _ this.1 this.2
/-! ### words -/
structure wsOk (n : Nat) (ws : List Str) : Prop where
  len : ws.length = n
  nm : ∀ w ∈ ws, nmOk w
  un : ws.Nodup
/-- letters drawn, one after the other -/
theorem drawn_letters {e : C} (he : e = .ix (.v 2) (.call 0 (.cons (.v 0) (.cons (.k (.int 26)) .nil)) .nil)) {own : Nat} {Γ : List Spec} {X : Exn → De → Prop} {rest : De} {n : Int} {s : Int} {m : List (L2.Key × M)} {K : List PyData → De → Prop}
    (ho : 3 ≤ own) (hol : own < 12) (hr : rest.length = 9) (hn : rest[own - 3]? = some none) (h0 : 0 ≤ n) (hn10 : n ≤ 10) (hm : mOk s m) (hs : s < 2 ^ 39) {x1 : Option M}
    (hK : ∀ (zs : List Str) (m' : List (L2.Key × M)), (∀ z ∈ zs, z.length = 1 ∧ lowz z) → zs.length = n.toNat → mOk (s + 10) m' → K (zs.map .str) (some (.dc m') :: x1 :: some (.p (.str letters)) :: rest)) :
    compLoop [own] [] (fun x δ2 k => ∃ δ3, (own < δ2.length ∧ δ2.set own (some (M.p x)) = δ3) ∧ wpE (sp__law_draw :: Γ) X e δ3 fun y δ5 => frz y δ5 fun d δ6 => k (some d) δ6) (rngItems 0 n) (some (.dc m) :: x1 :: some (.p (.str letters)) :: rest) K := by
  subst he
  have hw : ∀ d : Option M, (rest.set (own - 3) d).set (own - 3) none = rest := fun d => by
    rw [List.set_set]
    refine List.ext_getElem? fun i => ?_
    rw [List.getElem?_set]
    by_cases hi : own - 3 = i
    · subst hi; rw [if_pos rfl, hn, if_pos (by omega)]
    · rw [if_neg hi]
  obtain ⟨o, rfl⟩ : ∃ o, own = o + 3 := ⟨own - 3, by omega⟩
  simp at hw hn
  refine compLoop_inv (fun xs ds δ => ∃ zs : List Str, ds = zs.map .str ∧ (∀ z ∈ zs, z.length = 1 ∧ lowz z) ∧ zs.length + xs.length = n.toNat ∧ ∃ m', mOk (s + zs.length) m' ∧ δ = some (.dc m') :: x1 :: some (.p (.str letters)) :: rest) ?_ (rngItems 0 n) [] _ _ ⟨[], rfl, by simp, by simp [rng_len], m, by simpa using hm, rfl⟩ ?_
  · rintro x xs ds δ k ⟨zs, rfl, hz, hl, m', hm', rfl⟩ hk
    refine ⟨gdOk_nil, ?_⟩
    simp at hl
    refine ⟨some (.dc m') :: x1 :: some (.p (.str letters)) :: rest.set o (some (M.p x)), ⟨by simp; omega, rfl⟩, ?_⟩
    simp [wpFn, startD, lockOf, outs, wipe, back, bindT, bindTs, peek, peeks, ats, setAll, light, lightAll, qI, rng_len, enum_len]
    refine use_draw hm' (by omega) (by omega) (by omega) fun r2 m2 a2 b2 h2 => ?_
    simp [wpFn, startD, lockOf, outs, wipe, back, bindT, bindTs, peek, peeks, ats, setAll, light, lightAll, qI, rng_len, enum_len, lett a2 b2, letters_len]
    refine ⟨by decide, hk _ _ ⟨zs ++ [⟨#[97 + r2.toNat]⟩], by simp, ?_, by simp; omega, m2, ?_, by simp [wipe, hw]⟩⟩
    · intro z hz'
      rcases List.mem_append.mp hz' with q | q
      · exact hz z q
      · rw [List.mem_singleton] at q; subst q; exact ⟨rfl, low1 (by omega)⟩
    · have : s + ((zs ++ [⟨#[97 + r2.toNat]⟩] : List Str).length : Int) = s + zs.length + 1 := by simp; omega
      rw [this]; exact h2
  · rintro ds δ ⟨zs, e, hz, hl, m', hm', rfl⟩
    simp at e hl
    subst e
    exact ⟨gdOk_nil, hK zs m' hz hl (hm'.mono (by omega))⟩
theorem mod_apart {a s : Int} {i j : Nat} (hs : s = 1 ∨ s = 3 ∨ s = 5 ∨ s = 7 ∨ s = 9 ∨ s = 11) (hij : i < j) (hj : j < 600) (h : (a + s * i) % 676 = (a + s * j) % 676) : False := by
  rcases hs with rfl | rfl | rfl | rfl | rfl | rfl <;> omega
def wordAt (a : Nat) (t : Int) (w : Str) : Prop := nmOk w ∧ w.cps.toList[a]? = some (97 + (t / 26).toNat) ∧ w.cps.toList[a + 1]? = some (97 + (t % 26).toNat)
theorem word_of {A E : Str} {t : Int} (h0 : 0 ≤ t) (h : t < 676) (hA : lowz A) (hE : lowz E) (la : A.length ≤ 3) (le : E.length ≤ 2) : wordAt A.length t (A ++ ⟨#[97 + (t / 26).toNat]⟩ ++ ⟨#[97 + (t % 26).toNat]⟩ ++ E) := by
  have l1 : lowz ⟨#[97 + (t / 26).toNat]⟩ := low1 (by omega)
  have l2 : lowz ⟨#[97 + (t % 26).toNat]⟩ := low1 (by omega)
  have el : (A ++ ⟨#[97 + (t / 26).toNat]⟩ ++ ⟨#[97 + (t % 26).toNat]⟩ ++ E).cps.toList = A.cps.toList ++ (97 + (t / 26).toNat) :: (97 + (t % 26).toNat) :: E.cps.toList := by
    rw [app_list, app_list, app_list]; simp
  have len : (A ++ ⟨#[97 + (t / 26).toNat]⟩ ++ ⟨#[97 + (t % 26).toNat]⟩ ++ E).length = A.length + 2 + E.length := by
    rw [str_len, el, str_len A, str_len E]; simp; omega
  refine ⟨(((hA.app l1).app l2).app hE).nm (by omega) (by omega), ?_, ?_⟩
  · rw [el, str_len A]; simp
  · rw [el, str_len A, List.getElem?_append_right (by omega)]; simp
theorem words_apart {a : Nat} {t u : Int} {w : Str} (ht : 0 ≤ t) (hu : 0 ≤ u) (h1 : wordAt a t w) (h2 : wordAt a u w) : t = u := by
  have e1 := h1.2.1.symm.trans h2.2.1
  have e2 := h1.2.2.symm.trans h2.2.2
  simp only [Option.some.injEq] at e1 e2
  omega
end Q.S
set_option Elab.async false
set_option linter.all false
set_option maxRecDepth 100000
set_option maxHeartbeats 4000000
/-! SI: amounts, parts of a sum, goods that are drawn. -/
namespace Q.S
open PySem PySem.Spec PyProof.Rows L2 Q
def takeS : Nat → S → S
  | 0, _ => .nil
  | n + 1, .cons a as => .cons a (takeS n as)
  | _, c => c
def dropS : Nat → S → S
  | 0, c => c
  | n + 1, .cons _ as => dropS n as
  | _, _ => .nil
theorem wpS_at {Γ : List Spec} {X : Exn → De → Prop} {lk : List Nat} : ∀ (n : Nat) (c : S) (δ : De) (D : EndD), wpS Γ X lk c δ D = wpS Γ X lk (takeS n c) δ ⟨fun δ' => wpS Γ X lk (dropS n c) δ' D, D.rt, D.bk, D.ct⟩
  | 0, c, δ, D => by simp only [takeS, dropS, ww53]
  | n + 1, c, δ, D => by
    cases c with
    | cons a as =>
      simp only [takeS, dropS, ww54]
      have : (fun δ' => wpS Γ X lk as δ' D) = fun δ' => wpS Γ X lk (takeS n as) δ' ⟨fun δ'' => wpS Γ X lk (dropS n as) δ'' D, D.rt, D.bk, D.ct⟩ := by
        funext δ'; exact wpS_at n as δ' D
      rw [this]
    | _ => simp only [takeS, dropS, ww53]
def amt : Int := 1000000000008
def sp__law_amount : Spec := fun ms Kc _ => ∃ m s, ms = [.dc m] ∧ mOk s m ∧ s < 2 ^ 39 ∧ ∀ r m', 0 ≤ r → r ≤ amt → mOk (s + 5) m' → Kc (.p (.int r)) [.dc m']
theorem h__law_amount (ms : List M) (Kc : M → List M → Prop) (h : sp__law_amount ms Kc (fun _ _ => False)) : wpFn [sp__law_draw] 2 c__law_amount ms Kc (fun _ _ => False) := by
  obtain ⟨m, s, rfl, hm, hs, h⟩ := h
  have l12 : 12 ≤ sizeLine := by decide
  have l6 : 6 ≤ sizeLine := by decide
  simp [wpFn, startD, lockOf, outs, wipe, back, bindT, bindTs, peek, peeks, ats, setAll, light, lightAll, qI, rng_len, enum_len, c__law_amount, l12, l6]
  refine use_draw hm (by omega) (by omega) (by omega) fun r1 m1 a1 b1 h1 => ?_
  simp [wpFn, startD, lockOf, outs, wipe, back, bindT, bindTs, peek, peeks, ats, setAll, light, lightAll, qI, rng_len, enum_len, l12, l6]
  refine use_draw h1 (by omega) (by omega) (by omega) fun r2 m2 a2 b2 h2 => ?_
  simp [wpFn, startD, lockOf, outs, wipe, back, bindT, bindTs, peek, peeks, ats, setAll, light, lightAll, qI, rng_len, enum_len, l12, l6]
  refine use_draw h2 (by omega) (by omega) (by omega) fun r3 m3 a3 b3 h3 => ?_
  simp [wpFn, startD, lockOf, outs, wipe, back, bindT, bindTs, peek, peeks, ats, setAll, light, lightAll, qI, rng_len, enum_len, l12, l6]
  refine use_draw h3 (by omega) (by omega) (by omega) fun r4 m4 a4 b4 h4 => ?_
  simp [wpFn, startD, lockOf, outs, wipe, back, bindT, bindTs, peek, peeks, ats, setAll, light, lightAll, qI, rng_len, enum_len, l12, l6]
  refine use_draw h4 (by omega) (by omega) (by omega) fun r5 m5 a5 b5 h5 => ?_
  obtain ⟨c, hc, ec⟩ := atI_int (ns := [0, 0, 0, 1, 1, 1, 1, 2, 2, 3, 4, 5]) (i := r5) a5 (by simpa using b5)
  have hc6 : 0 ≤ c ∧ c < 6 := by simp at hc; omega
  obtain ⟨v, hv, ev⟩ := atI_int (ns := [r1, r2, r3, 0, 1, 1000000000000 + r4]) (i := c) hc6.1 (by simpa using hc6.2)
  have hv2 : 0 ≤ v ∧ v ≤ amt := by simp at hv; unfold amt; omega
  simp at ec ev
  simp [wpFn, startD, lockOf, outs, wipe, back, bindT, bindTs, peek, peeks, ats, setAll, light, lightAll, qI, rng_len, enum_len, ec, ev]
  exact h v m5 hv2.1 hv2.2 (h5.mono (by omega))
theorem at_last {α : Type} {xs : List α} {x : α} : L2.atI (xs ++ [x]) (-1) = some x := by
  unfold L2.atI L2.ixN
  have e : (-1 + ((xs.length : Int) + 1)).toNat = xs.length := by omega
  simp
  rw [if_pos (by omega), e]
  simp
def sp__law_split : Spec := fun ms Kc _ => ∃ m s t p, ms = [.dc m, .p (.int t), .p (.int p)] ∧ mOk s m ∧ s < 2 ^ 38 ∧ 0 ≤ t ∧ t < 2 ^ 62 ∧ 1 ≤ p ∧ p ≤ 10 ∧
  ∀ (xs : List Int) m', xs.length = p.toNat → (∀ x ∈ xs, 0 ≤ x ∧ x ≤ t) → xs.sum = t → mOk (s + 30) m' → Kc (.l (xs.map .int)) [.dc m', .p (.int t), .p (.int p)]
theorem h__law_split (ms : List M) (Kc : M → List M → Prop) (h : sp__law_split ms Kc (fun _ _ => False)) : wpFn [sp__law_draw] 6 c__law_split ms Kc (fun _ _ => False) := by
  obtain ⟨m, s, t, p, rfl, hm, hs, t0, t1, p0, p1, h⟩ := h
  have l4 : 4 ≤ sizeLine := by decide
  simp [wpFn, startD, lockOf, outs, wipe, back, bindT, bindTs, peek, peeks, ats, setAll, light, lightAll, qI, rng_len, enum_len, c__law_split]
  refine ⟨by omega, forLoop_inv (fun xs δ => (∀ x ∈ xs, ∃ i, x = .int i) ∧ ∃ (fs : List Int) (rem : Int) (m' : List (L2.Key × M)) (a : Option M), fs.length + xs.length = (p - 1).toNat ∧ 0 ≤ rem ∧ rem ≤ t ∧ fs.sum + rem = t ∧ (∀ x ∈ fs, 0 ≤ x ∧ x ≤ t) ∧ mOk (s + 2 * fs.length) m' ∧
    δ = [some (.dc m'), some (.p (.int rem)), some (.p (.int p)), some (.l (fs.map .int)), a, none]) ?_ ?_ _ _ ⟨fun x hx => (mem_rng hx).imp fun i h => h.1, [], t, m, none, by simp [rng_len], t0, by omega, by simp, by simp, by simpa using hm, rfl⟩⟩
  · rintro x xs δ N ⟨hx, fs, rem, m1, a, hl, r0, r1, hsum, hf, h1, rfl⟩ hN
    obtain ⟨i, rfl⟩ := hx x (List.mem_cons_self ..)
    refine ⟨gdOk_nil, ?_⟩
    simp at hl
    have lf : fs.length < sizeLine := small (m := 100) (by omega) (by decide)
    have l2 : Nat.log2 2 < 9000 := by decide
    simp [wpFn, startD, lockOf, outs, wipe, back, bindT, bindTs, peek, peeks, ats, setAll, light, lightAll, qI, rng_len, enum_len, b1__law_split, l4, l2]
    refine use_draw h1 (by omega) (by omega) (by omega) fun q1 m2 a1 b1 h2 => ?_
    simp [wpFn, startD, lockOf, outs, wipe, back, bindT, bindTs, peek, peeks, ats, setAll, light, lightAll, qI, rng_len, enum_len, l4]
    refine use_draw h2 (by omega) (by omega) (by omega) fun q2 m3 a2 b2 h3 => ?_
    obtain ⟨c, hc, ec⟩ := atI_int (ns := [0, rem, rem / 2, q1]) (i := q2) a2 (by simpa using b2)
    have hc2 : 0 ≤ c ∧ c ≤ rem := by simp at hc; omega
    simp at ec
    simp [wpFn, startD, lockOf, outs, wipe, back, bindT, bindTs, peek, peeks, ats, setAll, light, lightAll, qI, rng_len, enum_len, ec, muM, lf, at_last, l2]
    refine hN _ ⟨fun y hy => hx y (List.mem_cons_of_mem _ hy), fs ++ [c], rem - c, m3, _, by simp; omega, by omega, by omega, by simp; omega, ?_, h3.mono (by simp; omega), by simp; rfl⟩
    intro y hy
    rcases List.mem_append.mp hy with z | z
    · exact hf y z
    · rw [List.mem_singleton] at z; omega
  · rintro δ ⟨-, fs, rem, m1, a, hl, r0, r1, hsum, hf, h1, rfl⟩
    refine ⟨gdOk_nil, ?_⟩
    simp at hl
    have lf : fs.length < sizeLine := small (m := 100) (by omega) (by decide)
    simp [wpFn, startD, lockOf, outs, wipe, back, bindT, bindTs, peek, peeks, ats, setAll, light, lightAll, qI, rng_len, enum_len]
    refine use_draw h1 (by omega) (by omega) (by omega) fun q1 m2 a1 b1 h2 => ?_
    simp [wpFn, startD, lockOf, outs, wipe, back, bindT, bindTs, peek, peeks, ats, setAll, light, lightAll, qI, rng_len, enum_len, muM, lf, a1]
    refine ⟨by omega, ?_⟩
    have e : List.take q1.toNat (fs.map PyData.int) ++ PyData.int rem :: List.drop q1.toNat (fs.map PyData.int) = (fs.take q1.toNat ++ rem :: fs.drop q1.toNat).map .int := by
      rw [List.map_append, List.map_cons, List.map_take, List.map_drop]
    have hs2 : (fs.take q1.toNat).sum + (fs.drop q1.toNat).sum = fs.sum := by rw [← List.sum_append, List.take_append_drop]
    simp only [← List.map_take, ← List.map_drop] at e ⊢
    rw [e]
    refine h _ m2 ?_ ?_ ?_ (h2.mono (by omega))
    · simp; omega
    · intro x hx
      rcases List.mem_append.mp hx with z | z
      · exact hf x (List.mem_of_mem_take z)
      · rcases List.mem_cons.mp z with rfl | z
        · exact ⟨r0, r1⟩
        · exact hf x (List.mem_of_mem_drop z)
    · rw [List.sum_append, List.sum_cons]; omega
end Q.S
set_option Elab.async false
set_option linter.all false
set_option maxRecDepth 100000
set_option maxHeartbeats 4000000
/-! SJ: words that are drawn. -/
namespace Q.S
open PySem PySem.Spec PyProof.Rows L2 Q
theorem range_at {n : Nat} {pre post : List Nat} {x : Nat} (h : List.range n = pre ++ x :: post) : x = pre.length ∧ pre.length < n := by
  have h1 : (List.range n)[pre.length]? = some x := by rw [h]; simp
  have h2 : pre.length < n := by have := congrArg List.length h; simp at this; omega
  rw [List.getElem?_range h2] at h1
  exact ⟨(Option.some.inj h1).symm, h2⟩
theorem rng_nat (top : Int) : rngItems 0 top = (List.range top.toNat).map nI := by
  unfold rngItems nI
  simp
def sp__law_called : Spec := fun ms Kc _ => ∃ m s top, ms = [.dc m, .p (.int top)] ∧ mOk s m ∧ s < 2 ^ 30 ∧ 0 ≤ top ∧ top ≤ 100 ∧ ∀ ws m', wsOk top.toNat ws → mOk (s + 3000) m' → Kc (.l (ws.map .str)) [.dc m', .p (.int top)]
theorem h__law_called (ms : List M) (Kc : M → List M → Prop) (h : sp__law_called ms Kc (fun _ _ => False)) : wpFn [sp__law_draw] 12 c__law_called ms Kc (fun _ _ => False) := by
  obtain ⟨m, s, top, rfl, hm, hs, t0, t1, h⟩ := h
  have sz : sizeLine = 16777216 := sizeLine_eq
  have hlt : Str.ofString "abcdefghijklmnopqrstuvwxyz" = letters := rfl
  have m2 : ∀ r : Int, mulOk 2 r := fun r => mulL (by omega)
  simp [wpFn, startD, lockOf, outs, wipe, back, bindT, bindTs, peek, peeks, ats, setAll, light, lightAll, qI, rng_len, enum_len, c__law_called, hlt, m2]
  refine use_draw hm (by omega) (by omega) (by omega) fun r1 m1 a1 b1 h1 => ?_
  simp [wpFn, startD, lockOf, outs, wipe, back, bindT, bindTs, peek, peeks, ats, setAll, light, lightAll, qI, rng_len, enum_len, m2]
  refine use_draw h1 (by omega) (by omega) (by omega) fun r2 m2' a2 b2 h2 => ?_
  simp [wpFn, startD, lockOf, outs, wipe, back, bindT, bindTs, peek, peeks, ats, setAll, light, lightAll, qI, rng_len, enum_len, m2, meTy]
  refine use_draw h2 (by omega) (by omega) (by omega) fun r3 m3 a3 b3 h3 => ?_
  simp [wpFn, startD, lockOf, outs, wipe, back, bindT, bindTs, peek, peeks, ats, setAll, light, lightAll, qI, rng_len, enum_len, m2, meTy]
  refine ⟨by omega, by omega, drawn_letters (e := e1__law_called) rfl (by omega) (by omega) rfl rfl a3 (by omega) h3 (by omega) fun zs m4 hz hl h4 => ?_⟩
  refine mjoin hz (by omega) fun A hA lA => ?_
  simp [wpFn, startD, lockOf, outs, wipe, back, bindT, bindTs, peek, peeks, ats, setAll, light, lightAll, qI, rng_len, enum_len, m2, meTy]
  refine use_draw h4 (by omega) (by omega) (by omega) fun way m5 a5 b5 h5 => ?_
  simp [wpFn, startD, lockOf, outs, wipe, back, bindT, bindTs, peek, peeks, ats, setAll, light, lightAll, qI, rng_len, enum_len, rng_nat]
  refine ⟨by omega, forLoop_pp nI (List.range top.toNat) (fun pre δ => ∃ (ws : List Str) (m' : List (L2.Key × M)) (a b c : Option M), ws.length = pre.length ∧ (∀ (i : Nat) (w : Str), ws[i]? = some w → wordAt A.length ((r1 + (1 + 2 * r2) * (i : Int)) % 676) w) ∧ mOk (s + 20 + 20 * pre.length) m' ∧
    δ = [some (.dc m'), some (.p (.int top)), some (.p (.str letters)), some (.l (ws.map .str)), some (.p (.int r1)), some (.p (.int (1 + 2 * r2))), some (.p (.str A)), a, some (.p (.int way)), b, c, none]) ?_ ?_ ⟨[], m5, none, none, none, rfl, by simp, h5.mono (by simp; omega), rfl⟩⟩
  · rintro pre k post δ N e ⟨ws, m', a, b, c, hl2, hw, hm', rfl⟩ hN
    obtain ⟨rfl, hk⟩ := range_at e
    refine ⟨gdOk_nil, ?_⟩
    have hpl : pre.length < 100 := by omega
    have hy1 : mulOk (1 + 2 * r2) (pre.length : Int) := mulL (by omega)
    simp [wpFn, startD, lockOf, outs, wipe, back, bindT, bindTs, peek, peeks, ats, setAll, light, lightAll, qI, rng_len, enum_len, b3__law_called, nI, hy1, meTy]
    refine use_draw hm' (by omega) (by omega) (by omega) fun q1 m6 a6 b6 h6 => ?_
    have hy2 : mulOk q1 way := mulL (by omega)
    have hq : 0 ≤ q1 * way ∧ q1 * way ≤ 2 := by
      have : way = 0 ∨ way = 1 := by omega
      rcases this with rfl | rfl <;> omega
    simp [wpFn, startD, lockOf, outs, wipe, back, bindT, bindTs, peek, peeks, ats, setAll, light, lightAll, qI, rng_len, enum_len, hy2, meTy]
    refine ⟨by omega, by omega, drawn_letters (e := e2__law_called) rfl (by omega) (by omega) rfl rfl hq.1 (by omega) h6 (by omega) fun ys m7 hy hyl h7 => ?_⟩
    refine mjoin hy (by omega) fun E hE lE => ?_
    have ht0 : 0 ≤ (r1 + (1 + 2 * r2) * (pre.length : Int)) % 676 := Int.emod_nonneg _ (by omega)
    have ht1 : (r1 + (1 + 2 * r2) * (pre.length : Int)) % 676 < 676 := Int.emod_lt_of_pos _ (by omega)
    generalize htt : (r1 + (1 + 2 * r2) * (pre.length : Int)) % 676 = t at ht0 ht1
    have hwd := word_of ht0 ht1 hA hE (by omega) (by omega)
    have w1 : ∀ c : Nat, (⟨#[c]⟩ : Str).length = 1 := fun _ => rfl
    have g1 := lett (i := t / 26) (by omega) (by omega)
    have g2 := lett (i := t % 26) (by omega) (by omega)
    have l26 : Nat.log2 26 < 9000 := by decide
    have lw : ws.length < sizeLine := by omega
    simp [wpFn, startD, lockOf, outs, wipe, back, bindT, bindTs, peek, peeks, ats, setAll, light, lightAll, qI, rng_len, enum_len, htt, g1, g2, letters_len, l26, Str.length_append, w1, muM, lw]
    refine ⟨by omega, by omega, by omega, by omega, by omega, hN _ ⟨ws ++ [A ++ ⟨#[97 + (t / 26).toNat]⟩ ++ ⟨#[97 + (t % 26).toNat]⟩ ++ E], m7, some (M.p (.int pre.length)), some (M.p (.int t)), some (M.p (.str E)), by simp [hl2], ?_, h7.mono (by simp; omega), by simp⟩⟩
    intro i w hi
    by_cases hil : i < ws.length
    · rw [List.getElem?_append_left hil] at hi
      exact hw i w hi
    · rw [List.getElem?_append_right (by omega)] at hi
      have : i - ws.length = 0 := by
        by_cases h0 : i - ws.length = 0
        · exact h0
        · rw [List.getElem?_eq_none (by simp; omega)] at hi; cases hi
      rw [this] at hi
      have e1 : i = pre.length := by omega
      simp at hi
      subst hi
      rw [e1, htt]
      exact hwd
  · rintro δ ⟨ws, m', a, b, c, hl2, hw, hm', rfl⟩
    refine ⟨gdOk_nil, ?_⟩
    rw [List.length_range] at hl2 hm'
    simp [wpFn, startD, lockOf, outs, wipe, back, bindT, bindTs, peek, peeks, ats, setAll, light, lightAll, qI, rng_len, enum_len]
    refine h ws m' ⟨hl2, fun w hw' => ?_, ?_⟩ (hm'.mono (by omega))
    · obtain ⟨i, hi, rfl⟩ := List.getElem_of_mem hw'
      exact (hw i _ (List.getElem?_eq_getElem hi)).1
    · refine List.pairwise_iff_getElem.mpr fun i j hi hj hij hee => ?_
      have hi' := hw i _ (List.getElem?_eq_getElem hi)
      have hj' := hw j _ (List.getElem?_eq_getElem hj)
      rw [hee] at hi'
      have := words_apart (Int.emod_nonneg _ (by omega)) (Int.emod_nonneg _ (by omega)) hi' hj'
      refine mod_apart (a := r1) (s := 1 + 2 * r2) ?_ hij (by omega) this
      have : r2 = 0 ∨ r2 = 1 ∨ r2 = 2 ∨ r2 = 3 ∨ r2 = 4 ∨ r2 = 5 := by omega
      rcases this with rfl | rfl | rfl | rfl | rfl | rfl <;> simp
end Q.S
set_option Elab.async false
set_option linter.all false
set_option maxRecDepth 100000
set_option maxHeartbeats 4000000
/-! SK: goods that are drawn. -/
namespace Q.S
open PySem PySem.Spec PyProof.Rows L2 Q
theorem nodup_at {α : Type} {l : List α} (h : l.Nodup) {i j : Nat} {x : α} (hi : l[i]? = some x) (hj : l[j]? = some x) : i = j := by
  have li : i < l.length := by
    by_cases q : i < l.length
    · exact q
    · rw [List.getElem?_eq_none (by omega)] at hi; cases hi
  have lj : j < l.length := by
    by_cases q : j < l.length
    · exact q
    · rw [List.getElem?_eq_none (by omega)] at hj; cases hj
  have h' := List.pairwise_iff_getElem.mp h
  rw [List.getElem?_eq_getElem li] at hi
  rw [List.getElem?_eq_getElem lj] at hj
  rcases Nat.lt_trichotomy i j with q | q | q
  · exact absurd ((Option.some.inj hi).trans (Option.some.inj hj).symm) (h' i j li lj q)
  · exact q
  · exact absurd ((Option.some.inj hj).trans (Option.some.inj hi).symm) (h' j i lj li q)
theorem at_strs {zs : List Str} {i : Int} (h0 : 0 ≤ i) (h : i < zs.length) : ∃ z, zs[i.toNat]? = some z ∧ z ∈ zs ∧ L2.atI (zs.map PyData.str) i = some (.str z) := by
  have hl : i.toNat < zs.length := by omega
  refine ⟨zs[i.toNat], List.getElem?_eq_getElem hl, List.getElem_mem hl, atI_ok h0 ?_⟩
  rw [List.getElem?_map, List.getElem?_eq_getElem hl]; rfl
/-- the names of the first k goods -/
def named (ws : List Str) (k : Nat) (gs : List Good) : Prop := gs.length = k ∧ (∀ g ∈ gs, ∃ q, ws[q]? = some g.nm ∧ (q = 0 ∨ 6 ≤ q ∧ q < 6 + k)) ∧ (gs.map (·.nm)).Nodup
theorem named_snoc {ws : List Str} {k : Nat} {gs : List Good} {g : Good} (h : named ws k gs) (un : ws.Nodup) {q : Nat} (hq : ws[q]? = some g.nm) (hk : q = 6 + k ∨ q = 0 ∧ k = 0) : named ws (k + 1) (gs ++ [g]) := by
  obtain ⟨h1, h2, h3⟩ := h
  refine ⟨by simp [h1], fun x hx => ?_, ?_⟩
  · rcases List.mem_append.mp hx with z | z
    · obtain ⟨p, e, hp⟩ := h2 x z
      exact ⟨p, e, by omega⟩
    · rw [List.mem_singleton] at z; subst z
      exact ⟨q, hq, by omega⟩
  · rw [List.map_append, List.nodup_append]
    refine ⟨h3, by simp, fun a ha b hb e => ?_⟩
    simp at hb
    subst hb
    obtain ⟨x, hx, ex⟩ := List.mem_map.mp ha
    obtain ⟨p, e1, hp⟩ := h2 x hx
    have ep : p = q := nodup_at un (x := g.nm) (by rw [e1, ex, e]) hq
    rcases hk with hk | ⟨hk, k0⟩
    · omega
    · rw [k0] at h1
      rw [List.eq_nil_of_length_eq_zero h1] at hx
      cases hx
theorem far_ok {n i r : Int} (i0 : 0 ≤ i) (i1 : i < n) (r0 : 0 ≤ r) (r1 : r < n - 1) : 0 ≤ (i + 1 + r) % n ∧ (i + 1 + r) % n < n ∧ i ≠ (i + 1 + r) % n := by
  refine ⟨Int.emod_nonneg _ (by omega), Int.emod_lt_of_pos _ (by omega), ?_⟩
  by_cases h : i + 1 + r < n
  · rw [Int.emod_eq_of_lt (by omega) h]; omega
  · have e : i + 1 + r = (i + 1 + r - n) + n := by omega
    rw [e, Int.add_emod_right, Int.emod_eq_of_lt (by omega) (by omega)]; omega
def gsmall (gs : List Good) : Prop := ∀ g ∈ gs, g.cost ≤ amt ∧ g.worth ≤ amt
abbrev ΓG : List Spec := [sp__law_draw, sp__law_amount]
abbrev gst (m : List (L2.Key × M)) (ws who : List Str) (top : Int) (fs : List Good) (ow : Bool) (kind : Int) (k : Nat) (r : De) : De :=
  some (.dc m) :: some (.l (ws.map .str)) :: some (.l (who.map .str)) :: some (.p (.int top)) :: some (.l (fs.map Good.d)) :: some (.p (.bool ow)) :: some (.p (.int kind)) :: some (.p (.int k)) :: r
theorem goods_t2 {m : List (L2.Key × M)} {s : Int} {ws who : List Str} {top : Int} {fs : List Good} {ow : Bool} {kind : Int} {k : Nat} {i j c w : Int} {a : Option M} {N : De → Prop} {D : EndD} (hm : mOk s m) (hs : s < 2 ^ 39) (lw : 6 + k < ws.length) (lf : fs.length ≤ 60)
    (i0 : 0 ≤ i) (i1 : i < who.length) (j0 : 0 ≤ j) (j1 : j < who.length) (hij : i ≠ j) (un : who.Nodup)
    (hN : ∀ g m' a, g.gv ∈ who → g.tk ∈ who → g.gv ≠ g.tk → g.cost = c → g.worth = w → (∃ q, ws[q]? = some g.nm ∧ (q = 6 + k ∨ q = 0 ∧ k = 0)) → mOk (s + 1) m' → N (gst m' ws who top (fs ++ [g]) ow kind k [some (.p (.int i)), some (.p (.int j)), some (.p (.int c)), some (.p (.int w)), a])) :
    wpS ΓG (fun _ _ => False) [0, 1, 2] (dropS 4 b1__law_goods) (gst m ws who top fs ow kind k [some (.p (.int i)), some (.p (.int j)), some (.p (.int c)), some (.p (.int w)), a]) ⟨N, D.rt, D.bk, D.ct⟩ := by
  obtain ⟨y, ey, hy, ay⟩ := at_strs i0 i1
  obtain ⟨z, ez, hz, az⟩ := at_strs j0 j1
  have hyz : y ≠ z := fun e => by
    subst e
    have := nodup_at un ey ez
    omega
  obtain ⟨n6, e6, _, a6⟩ := at_strs (zs := ws) (i := 6 + (k : Int)) (by omega) (by omega)
  obtain ⟨n0, e0, _, a0⟩ := at_strs (zs := ws) (i := 0) (by omega) (by omega)
  have e6' : ws[6 + k]? = some n6 := by rw [← e6]; congr 1 <;> omega
  have sf : fs.length < sizeLine := small lf (by decide)
  have l5 : 5 ≤ sizeLine := by decide
  simp [wpFn, startD, lockOf, outs, wipe, back, bindT, bindTs, peek, peeks, ats, setAll, light, lightAll, qI, rng_len, enum_len, dropS, b1__law_goods]
  refine use_draw hm (by omega) (by omega) (by omega) fun r m1 b0 b1 h1 => ?_
  by_cases hr : 0 < r
  · simp [wpFn, startD, lockOf, outs, wipe, back, bindT, bindTs, peek, peeks, ats, setAll, light, lightAll, qI, rng_len, enum_len, hr, a6, ay, az, muM, sf, l5]
    have := hN ⟨n6, y, z, c, w⟩ m1 (some (.p (.str n6))) hy hz hyz rfl rfl ⟨_, e6', .inl rfl⟩ h1
    simpa [Good.d, gst] using this
  · by_cases hk : 0 < k
    · simp [wpFn, startD, lockOf, outs, wipe, back, bindT, bindTs, peek, peeks, ats, setAll, light, lightAll, qI, rng_len, enum_len, hr, hk, a6, ay, az, muM, sf, l5]
      have := hN ⟨n6, y, z, c, w⟩ m1 (some (.p (.str n6))) hy hz hyz rfl rfl ⟨_, e6', .inl rfl⟩ h1
      simpa [Good.d, gst] using this
    · simp [wpFn, startD, lockOf, outs, wipe, back, bindT, bindTs, peek, peeks, ats, setAll, light, lightAll, qI, rng_len, enum_len, hr, hk, a0, ay, az, muM, sf, l5]
      have := hN ⟨n0, y, z, c, w⟩ m1 (some (.p (.str n0))) hy hz hyz rfl rfl ⟨0, e0, .inr ⟨rfl, by omega⟩⟩ h1
      simpa [Good.d, gst] using this
theorem goods_t1 {m : List (L2.Key × M)} {s : Int} {ws who : List Str} {top : Int} {fs : List Good} {ow : Bool} {kind : Int} {k : Nat} {i j : Int} {a b c : Option M} {N : De → Prop} {D : EndD} (hm : mOk s m) (hs : s < 2 ^ 38) (lw : 6 + k < ws.length) (lf : fs.length ≤ 60)
    (i0 : 0 ≤ i) (i1 : i < who.length) (j0 : 0 ≤ j) (j1 : j < who.length) (hij : i ≠ j) (un : who.Nodup)
    (hN : ∀ g m' r, g.gv ∈ who → g.tk ∈ who → g.gv ≠ g.tk → 0 ≤ g.cost → g.cost ≤ amt → 0 ≤ g.worth → g.worth ≤ amt → (∃ q, ws[q]? = some g.nm ∧ (q = 6 + k ∨ q = 0 ∧ k = 0)) → mOk (s + 11) m' → r.length = 5 → N (gst m' ws who top (fs ++ [g]) ow kind k r)) :
    wpS ΓG (fun _ _ => False) [0, 1, 2] (dropS 2 b1__law_goods) (gst m ws who top fs ow kind k [some (.p (.int i)), some (.p (.int j)), a, b, c]) ⟨N, D.rt, D.bk, D.ct⟩ := by
  rw [wpS_at 2]
  have tail : ∀ (m' : List (L2.Key × M)) (c w : Int) (a : Option M), mOk (s + 10) m' → 0 ≤ c → c ≤ amt → 0 ≤ w → w ≤ amt → wpS ΓG (fun _ _ => False) [0, 1, 2] (dropS 2 (dropS 2 b1__law_goods)) (gst m' ws who top fs ow kind k [some (.p (.int i)), some (.p (.int j)), some (.p (.int c)), some (.p (.int w)), a]) ⟨N, D.rt, D.bk, D.ct⟩ :=
    fun m' c w a h1 c0 c1 w0 w1 => goods_t2 (s := s + 10) (D := D) h1 (by omega) lw lf i0 i1 j0 j1 hij un fun g m2 a2 g1 g2 g3 g4 g5 g6 g7 => hN g m2 _ g1 g2 g3 (by omega) (by omega) (by omega) (by omega) g6 (by rw [show s + 11 = s + 10 + 1 from by omega]; exact g7) rfl
  generalize dropS 2 (dropS 2 b1__law_goods) = R at tail ⊢
  simp [wpFn, startD, lockOf, outs, wipe, back, bindT, bindTs, peek, peeks, ats, setAll, light, lightAll, qI, rng_len, enum_len, dropS, takeS, b1__law_goods]
  refine ⟨_, _, rfl, hm, by omega, fun c m1 c0 c1 h1 => ?_⟩
  simp [wpFn, startD, lockOf, outs, wipe, back, bindT, bindTs, peek, peeks, ats, setAll, light, lightAll, qI, rng_len, enum_len]
  refine ⟨_, _, rfl, h1, by omega, fun w m2 w0 w1 h2 => ?_⟩
  have h2' := h2.mono (t := s + 10) (by omega)
  by_cases k1 : kind = 1
  · by_cases q1 : w < c
    · simp [wpFn, startD, lockOf, outs, wipe, back, bindT, bindTs, peek, peeks, ats, setAll, light, lightAll, qI, rng_len, enum_len, k1, q1]
      simpa [k1] using tail m2 w c _ h2' w0 w1 c0 c1
    · have k2 : ¬ kind = 2 := by omega
      simp [wpFn, startD, lockOf, outs, wipe, back, bindT, bindTs, peek, peeks, ats, setAll, light, lightAll, qI, rng_len, enum_len, k1, q1]
      simpa [k1] using tail m2 c w _ h2' c0 c1 w0 w1
  · by_cases k2 : kind = 2
    · by_cases q1 : c < w
      · simp [wpFn, startD, lockOf, outs, wipe, back, bindT, bindTs, peek, peeks, ats, setAll, light, lightAll, qI, rng_len, enum_len, k2, q1]
        simpa [k2] using tail m2 w c _ h2' w0 w1 c0 c1
      · simp [wpFn, startD, lockOf, outs, wipe, back, bindT, bindTs, peek, peeks, ats, setAll, light, lightAll, qI, rng_len, enum_len, k2, q1]
        simpa [k2] using tail m2 c w _ h2' c0 c1 w0 w1
    · simp [wpFn, startD, lockOf, outs, wipe, back, bindT, bindTs, peek, peeks, ats, setAll, light, lightAll, qI, rng_len, enum_len, k1, k2]
      exact tail m2 c w _ h2' c0 c1 w0 w1
def sp__law_goods : Spec := fun ms Kc _ => ∃ m s ws who top, ms = [.dc m, .l (ws.map .str), .l (who.map .str), .p (.int top)] ∧ mOk s m ∧ s < 2 ^ 36 ∧ (∃ n, wsOk n ws) ∧ 0 ≤ top ∧ top ≤ 60 ∧ 6 + top.toNat ≤ ws.length ∧ 2 ≤ who.length ∧ who.length ≤ 6 ∧ (∀ z ∈ who, nmOk z) ∧ who.Nodup ∧
  ∀ gs m', gs.length ≤ top.toNat → gsOk who gs → gsmall gs → mOk (s + 20 + 20 * top) m' → Kc (.p (.tuple (gs.map Good.d))) [.dc m', .l (ws.map .str), .l (who.map .str), .p (.int top)]
theorem h__law_goods (ms : List M) (Kc : M → List M → Prop) (h : sp__law_goods ms Kc (fun _ _ => False)) : wpFn ΓG 13 c__law_goods ms Kc (fun _ _ => False) := by
  obtain ⟨m, s, ws, who, top, rfl, hm, hs, ⟨wn, wok⟩, t0, t1, lw, p0, p1, wm, wun, h⟩ := h
  have sz : sizeLine = 16777216 := sizeLine_eq
  simp [wpFn, startD, lockOf, outs, wipe, back, bindT, bindTs, peek, peeks, ats, setAll, light, lightAll, qI, rng_len, enum_len, c__law_goods]
  refine use_draw hm (by omega) (by omega) (by omega) fun r1 m1 a1 b1 h1 => ?_
  simp [wpFn, startD, lockOf, outs, wipe, back, bindT, bindTs, peek, peeks, ats, setAll, light, lightAll, qI, rng_len, enum_len]
  refine use_draw h1 (by omega) (by omega) (by omega) fun kind m2 a2 b2 h2 => ?_
  simp [wpFn, startD, lockOf, outs, wipe, back, bindT, bindTs, peek, peeks, ats, setAll, light, lightAll, qI, rng_len, enum_len]
  refine use_draw h2 (by omega) (by omega) (by omega) fun n m3 a3 b3 h3 => ?_
  simp [wpFn, startD, lockOf, outs, wipe, back, bindT, bindTs, peek, peeks, ats, setAll, light, lightAll, qI, rng_len, enum_len, rng_nat]
  generalize decide (r1 = 0) = ow
  refine ⟨by omega, forLoop_pp nI (List.range n.toNat) (fun pre δ => ∃ (fs : List Good) (m' : List (L2.Key × M)) (kk : Nat) (r : De) (x7 : Option M), named ws pre.length fs ∧ (∀ g ∈ fs, g.gv ∈ who ∧ g.tk ∈ who ∧ g.gv ≠ g.tk ∧ 0 ≤ g.cost ∧ g.cost ≤ amt ∧ 0 ≤ g.worth ∧ g.worth ≤ amt) ∧ mOk (s + 20 + 20 * pre.length) m' ∧ r.length = 5 ∧
    δ = some (.dc m') :: some (.l (ws.map .str)) :: some (.l (who.map .str)) :: some (.p (.int top)) :: some (.l (fs.map Good.d)) :: some (.p (.bool ow)) :: some (.p (.int kind)) :: x7 :: r) ?_ ?_ ⟨[], m3, 0, [none, none, none, none, none], none, ⟨rfl, by simp, by simp⟩, by simp, h3.mono (by simp; omega), rfl, rfl⟩⟩
  · rintro pre k post δ N e ⟨fs, m', kk, r, x7, hn, hf, hm', lr, rfl⟩ hN
    obtain ⟨rfl, hk⟩ := range_at e
    refine ⟨gdOk_nil, ?_⟩
    match r, lr with
    | [ra, rb, rc, rd, re], _ =>
    have hlen := hn.1
    have fin : ∀ (rt : Val → De → Prop) (bk : De → Prop) (i j : Int) (m1 : List (L2.Key × M)), mOk (s + 20 + 20 * pre.length + 2) m1 → 0 ≤ i → i < who.length → 0 ≤ j → j < who.length → i ≠ j →
        wpS ΓG (fun _ _ => False) [0, 1, 2] (dropS 2 b1__law_goods) (gst m1 ws who top fs ow kind pre.length [some (.p (.int i)), some (.p (.int j)), rc, rd, re]) ⟨N, rt, bk, N⟩ := by
      intro rt bk i j m1 hm1 i0 i1 j0 j1 hij
      refine goods_t1 (D := ⟨N, rt, bk, N⟩) hm1 (by omega) (by omega) (by omega) i0 i1 j0 j1 hij wun fun g m2 r2 g1 g2 g3 g4 g5 g6 g7 g8 hm2 lr2 => ?_
      obtain ⟨q, hq, hqk⟩ := g8
      refine hN _ ⟨fs ++ [g], m2, 0, r2, _, by rw [List.length_append]; exact named_snoc hn wok.un hq hqk, fun x hx => ?_, hm2.mono (by simp; omega), lr2, rfl⟩
      rcases List.mem_append.mp hx with z | z
      · exact hf x z
      · rw [List.mem_singleton] at z; subst z; exact ⟨g1, g2, g3, g4, g5, g6, g7⟩
    have hm3 := hm'.mono (t := s + 20 + 20 * pre.length + 2) (by omega)
    refine ⟨gst m' ws who top fs ow kind pre.length [ra, rb, rc, rd, re], ⟨by simp, by simp [gst, nI]⟩, ?_⟩
    rw [wpS_at 2]
    generalize dropS 2 b1__law_goods = R at fin ⊢
    cases ow with
    | true =>
      simp [wpFn, startD, lockOf, outs, wipe, back, bindT, bindTs, peek, peeks, ats, setAll, light, lightAll, qI, rng_len, enum_len, gst, takeS, b1__law_goods]
      exact fin _ _ 0 1 m' hm3 (by omega) (by omega) (by omega) (by omega) (by omega)
    | false =>
      simp [wpFn, startD, lockOf, outs, wipe, back, bindT, bindTs, peek, peeks, ats, setAll, light, lightAll, qI, rng_len, enum_len, gst, takeS, b1__law_goods]
      refine use_draw hm' (by omega) (by omega) (by omega) fun i m4 i0 i1 h4 => ?_
      simp [wpFn, startD, lockOf, outs, wipe, back, bindT, bindTs, peek, peeks, ats, setAll, light, lightAll, qI, rng_len, enum_len]
      refine use_draw h4 (by omega) (by omega) (by omega) fun q m5 q0 q1 h5 => ?_
      obtain ⟨f1, f2, f3⟩ := far_ok (n := who.length) i0 i1 q0 q1
      have hw0 : (0 : Int) < who.length := by omega
      simp [wpFn, startD, lockOf, outs, wipe, back, bindT, bindTs, peek, peeks, ats, setAll, light, lightAll, qI, rng_len, enum_len, hw0]
      exact ⟨by omega, fin _ _ _ _ m5 (h5.mono (by omega)) i0 i1 f1 f2 f3⟩
  · rintro δ ⟨fs, m', kk, r, x7, hn, hf, hm', lr, rfl⟩
    refine ⟨gdOk_nil, ?_⟩
    obtain ⟨n1, n2, n3⟩ := hn
    rw [List.length_range] at n1 hm'
    simp [wpFn, startD, lockOf, outs, wipe, back, bindT, bindTs, peek, peeks, ats, setAll, light, lightAll, qI, rng_len, enum_len]
    refine h fs m' (by omega) ⟨by omega, fun g hg => ?_, n3⟩ (fun g hg => ?_) (hm'.mono (by omega))
    · obtain ⟨g1, g2, g3, g4, g5, g6, g7⟩ := hf g hg
      obtain ⟨q, hq, _⟩ := n2 g hg
      exact ⟨wok.nm _ (List.mem_of_getElem? hq), wm _ g1, wm _ g2, g3, g1, g2, g4, g6⟩
    · obtain ⟨g1, g2, g3, g4, g5, g6, g7⟩ := hf g hg
      exact ⟨g5, g7⟩
end Q.S
set_option Elab.async false
set_option linter.all false
set_option maxRecDepth 100000
set_option maxHeartbeats 4000000
/-! SL: the order of goods, what is needed. -/
namespace Q.S
open PySem PySem.Spec PyProof.Rows L2 Q
def Deal.keyC (D : Deal) (k : Nat) : PyData := .tuple [.int (D.g k).worth, .str (D.g k).nm, nI k]
def Deal.keyO (D : Deal) (k : Nat) : PyData := .tuple [.int (-(D.g k).cost), .str (D.g k).nm, nI k]
def sortBy (key : Nat → PyData) (xs : List Nat) : List Nat := xs.mergeSort fun a b => PySem.W.dataLe false id (key a) (key b)
theorem sortBy_map (key : Nat → PyData) (xs : List Nat) : (xs.map key).mergeSort (PySem.W.dataLe false id) = (sortBy key xs).map key :=
  (List.map_mergeSort (f := key) (r := fun a b => PySem.W.dataLe false id (key a) (key b)) (s := PySem.W.dataLe false id) fun a _ b _ => rfl).symm
theorem mem_sortBy {key : Nat → PyData} {xs : List Nat} {k : Nat} : k ∈ sortBy key xs ↔ k ∈ xs := List.mem_mergeSort
theorem len_sortBy (key : Nat → PyData) (xs : List Nat) : (sortBy key xs).length = xs.length := List.length_mergeSort xs
def key3 (d : PyData) : Prop := ∃ i z j, d = .tuple [.int i, .str z, .int j]
theorem keyC_3 (D : Deal) (k : Nat) : key3 (D.keyC k) := ⟨_, _, _, rfl⟩
theorem keyO_3 (D : Deal) (k : Nat) : key3 (D.keyO k) := ⟨_, _, _, rfl⟩
theorem sortedM {key : Nat → PyData} (h3 : ∀ k, key3 (key k)) {xs : List Nat} {K : M → Prop} (hK : K (.l ((sortBy key xs).map key))) : biM .sorted [.l (xs.map key)] K := by
  refine ⟨xs.map key, rfl, ?_, .inl ?_, ?_, ?_, by rw [sortBy_map]; exact hK⟩
  · intro d hd e he
    obtain ⟨a, _, rfl⟩ := List.mem_map.mp hd
    obtain ⟨b, _, rfl⟩ := List.mem_map.mp he
    obtain ⟨i, z, j, e1⟩ := h3 a
    obtain ⟨i2, z2, j2, e2⟩ := h3 b
    rw [e1, e2]
    simp [PySem.W.alike, PySem.W.alikeAll]
  · intro d hd
    obtain ⟨a, _, rfl⟩ := List.mem_map.mp hd
    obtain ⟨i, z, j, e1⟩ := h3 a
    exact ⟨_, _, e1⟩
  · clear hK
    induction xs with
    | nil => simp [PyData.hasDictAll]
    | cons x xs ih =>
      obtain ⟨i, z, j, e1⟩ := h3 x
      rw [List.map_cons, PyData.hasDictAll, ih, e1]
      simp [PyData.hasDict, PyData.hasDictAll]
  · intro d hd
    obtain ⟨a, _, rfl⟩ := List.mem_map.mp hd
    obtain ⟨i, z, j, e1⟩ := h3 a
    rw [e1]
    simp [PyData.depth, PyData.depthAll]
def Deal.costly (D : Deal) (left : List Nat) : List Nat := left.filter fun k => decide ((D.g k).worth < (D.g k).cost)
def Deal.cheap (D : Deal) (left : List Nat) : List Nat := left.filter fun k => decide ((D.g k).cost ≤ (D.g k).worth)
def Deal.lsorted (D : Deal) (left : List Nat) : List Nat := sortBy D.keyC (D.costly left) ++ sortBy D.keyO (D.cheap left)
theorem mem_lsorted {D : Deal} {left : List Nat} {k : Nat} (h : k ∈ D.lsorted left) : k ∈ left := by
  rcases List.mem_append.mp h with h | h
  · exact (List.mem_filter.mp (mem_sortBy.mp h)).1
  · exact (List.mem_filter.mp (mem_sortBy.mp h)).1
theorem len_filter2 {p q : Nat → Bool} (hpq : ∀ k, p k = !q k) : ∀ xs : List Nat, (xs.filter p).length + (xs.filter q).length = xs.length
  | [] => rfl
  | x :: xs => by
    have := len_filter2 hpq xs
    cases hq : q x <;> simp [hpq, hq] at this ⊢ <;> omega
theorem len_lsorted (D : Deal) (left : List Nat) : (D.lsorted left).length = left.length := by
  unfold Deal.lsorted
  rw [List.length_append, len_sortBy, len_sortBy]
  refine len_filter2 (fun k => ?_) left
  by_cases h : (D.g k).worth < (D.g k).cost
  · simp [h, Int.not_le.mpr h]
  · simp [h, Int.not_lt.mp h]
section
variable {D : Deal} {k : Nat} {Kd : PyData → Prop}
theorem ixC2 : ixM (.p (D.keyC k)) (.int 2) Kd = Kd (nI k) := by simp [Deal.keyC]
theorem ixO2 : ixM (.p (D.keyO k)) (.int 2) Kd = Kd (nI k) := by simp [Deal.keyO]
end
def sp__law_sorted : Spec := fun ms Kc _ => ∃ (D : Deal) (left : List Nat) (m : M), ms = [.p D.d, m] ∧ isSeq m (left.map nI) ∧ left.length ≤ 1000 ∧ (∀ k ∈ left, k < D.gs.length) ∧ Kc (.l ((D.lsorted left).map nI)) ms
theorem h__law_sorted (ms : List M) (Kc : M → List M → Prop) (h : sp__law_sorted ms Kc (fun _ _ => False)) : wpFn [] 6 c__law_sorted ms Kc (fun _ _ => False) := by
  obtain ⟨D, left, m, rfl, hs, hl, lk, h⟩ := h
  have lz : left.length ≤ sizeLine := Nat.le_of_lt (small hl (by decide))
  have l3 : 3 ≤ sizeLine := by decide
  have lc : (D.costly left).length ≤ sizeLine := Nat.le_trans (List.length_filter_le ..) lz
  have lo : (D.cheap left).length ≤ sizeLine := Nat.le_trans (List.length_filter_le ..) lz
  have sum : (sortBy D.keyC (D.costly left)).length + (sortBy D.keyO (D.cheap left)).length ≤ sizeLine := by
    have := len_lsorted D left
    unfold Deal.lsorted at this
    rw [List.length_append] at this
    omega
  rcases hs with rfl | rfl | rfl
  all_goals
    simp [wpFn, startD, lockOf, outs, wipe, back, bindT, bindTs, peek, peeks, ats, setAll, light, lightAll, qI, rng_len, enum_len, c__law_sorted, lz]
    refine compLoop_f nI nI (fun k => decide ((D.g k).worth < (D.g k).cost)) (by first | exact gdOk_nil | exact gd_at rfl) left _ (fun k hk kk hkk => ?_) ?_
    · by_cases hc : (D.g k).worth < (D.g k).cost
      · simp [hc] at hkk
        simp [wpFn, startD, lockOf, outs, wipe, back, bindT, bindTs, peek, peeks, ats, setAll, light, lightAll, qI, rng_len, enum_len, i1__law_sorted, e2__law_sorted, ixGsI (lk k hk), hc]
        exact hkk _ (by simp [wpFn, startD, lockOf, outs, wipe, back, bindT, bindTs, peek, peeks, ats, setAll, light, lightAll, qI, rng_len, enum_len])
      · simp [hc] at hkk
        simp [wpFn, startD, lockOf, outs, wipe, back, bindT, bindTs, peek, peeks, ats, setAll, light, lightAll, qI, rng_len, enum_len, i1__law_sorted, e2__law_sorted, ixGsI (lk k hk), hc]
        exact hkk _ (by simp [wpFn, startD, lockOf, outs, wipe, back, bindT, bindTs, peek, peeks, ats, setAll, light, lightAll, qI, rng_len, enum_len])
    change _ at lc
    rw [show left.filter (fun k => decide ((D.g k).worth < (D.g k).cost)) = D.costly left from rfl]
    simp [wpFn, startD, lockOf, outs, wipe, back, bindT, bindTs, peek, peeks, ats, setAll, light, lightAll, qI, rng_len, enum_len, lz]
    refine compLoop_f nI nI (fun k => decide ((D.g k).cost ≤ (D.g k).worth)) (by first | exact gdOk_nil | exact gd_at rfl) left _ (fun k hk kk hkk => ?_) ?_
    · by_cases hc : (D.g k).cost ≤ (D.g k).worth
      · simp [hc] at hkk
        simp [wpFn, startD, lockOf, outs, wipe, back, bindT, bindTs, peek, peeks, ats, setAll, light, lightAll, qI, rng_len, enum_len, i3__law_sorted, e4__law_sorted, ixGsI (lk k hk), hc]
        exact hkk _ (by simp [wpFn, startD, lockOf, outs, wipe, back, bindT, bindTs, peek, peeks, ats, setAll, light, lightAll, qI, rng_len, enum_len])
      · simp [hc] at hkk
        simp [wpFn, startD, lockOf, outs, wipe, back, bindT, bindTs, peek, peeks, ats, setAll, light, lightAll, qI, rng_len, enum_len, i3__law_sorted, e4__law_sorted, ixGsI (lk k hk), hc]
        exact hkk _ (by simp [wpFn, startD, lockOf, outs, wipe, back, bindT, bindTs, peek, peeks, ats, setAll, light, lightAll, qI, rng_len, enum_len])
    rw [show left.filter (fun k => decide ((D.g k).cost ≤ (D.g k).worth)) = D.cheap left from rfl]
    simp [wpFn, startD, lockOf, outs, wipe, back, bindT, bindTs, peek, peeks, ats, setAll, light, lightAll, qI, rng_len, enum_len, lc]
    refine compLoop_m nI D.keyC (gd_at rfl) (D.costly left) _ (fun k hk kk hkk => ?_) ?_
    · simp [wpFn, startD, lockOf, outs, wipe, back, bindT, bindTs, peek, peeks, ats, setAll, light, lightAll, qI, rng_len, enum_len, e5__law_sorted, ixGsI (lk k (List.mem_filter.mp hk).1), l3]
      exact hkk _ (by simp [wpFn, startD, lockOf, outs, wipe, back, bindT, bindTs, peek, peeks, ats, setAll, light, lightAll, qI, rng_len, enum_len])
    refine sortedM (keyC_3 D) ?_
    simp [wpFn, startD, lockOf, outs, wipe, back, bindT, bindTs, peek, peeks, ats, setAll, light, lightAll, qI, rng_len, enum_len, len_sortBy, lc]
    refine compLoop_m D.keyC nI gdOk_nil _ _ (fun k hk kk hkk => ?_) ?_
    · simp [wpFn, startD, lockOf, outs, wipe, back, bindT, bindTs, peek, peeks, ats, setAll, light, lightAll, qI, rng_len, enum_len, e6__law_sorted, ixC2]
      exact hkk _ (by simp [wpFn, startD, lockOf, outs, wipe, back, bindT, bindTs, peek, peeks, ats, setAll, light, lightAll, qI, rng_len, enum_len])
    simp [wpFn, startD, lockOf, outs, wipe, back, bindT, bindTs, peek, peeks, ats, setAll, light, lightAll, qI, rng_len, enum_len, lo]
    refine compLoop_m nI D.keyO (gd_at rfl) (D.cheap left) _ (fun k hk kk hkk => ?_) ?_
    · simp [wpFn, startD, lockOf, outs, wipe, back, bindT, bindTs, peek, peeks, ats, setAll, light, lightAll, qI, rng_len, enum_len, e7__law_sorted, ixGsI (lk k (List.mem_filter.mp hk).1), l3]
      exact hkk _ (by simp [wpFn, startD, lockOf, outs, wipe, back, bindT, bindTs, peek, peeks, ats, setAll, light, lightAll, qI, rng_len, enum_len])
    refine sortedM (keyO_3 D) ?_
    simp [wpFn, startD, lockOf, outs, wipe, back, bindT, bindTs, peek, peeks, ats, setAll, light, lightAll, qI, rng_len, enum_len, len_sortBy, lo]
    refine compLoop_m D.keyO nI gdOk_nil _ _ (fun k hk kk hkk => ?_) ?_
    · simp [wpFn, startD, lockOf, outs, wipe, back, bindT, bindTs, peek, peeks, ats, setAll, light, lightAll, qI, rng_len, enum_len, e8__law_sorted, ixO2]
      exact hkk _ (by simp [wpFn, startD, lockOf, outs, wipe, back, bindT, bindTs, peek, peeks, ats, setAll, light, lightAll, qI, rng_len, enum_len])
    rw [Deal.lsorted, List.map_append] at h
    simpa [wpFn, startD, lockOf, outs, wipe, back, bindT, bindTs, peek, peeks, ats, setAll, light, lightAll, qI, rng_len, enum_len, sum] using h
end Q.S
set_option Elab.async false
set_option linter.all false
set_option maxRecDepth 100000
set_option maxHeartbeats 4000000
/-! SM: what is needed; sums. -/
namespace Q.S
open PySem PySem.Spec PyProof.Rows L2 Q
def Deal.needs (D : Deal) : Int → List Nat → List Int
  | _, [] => []
  | g, k :: r => ((D.g k).worth - g) :: D.needs (g - (D.g k).worth + (D.g k).cost) r
def sp__law_needed : Spec := fun ms Kc _ => ∃ (D : Deal) (row : List Nat), ms = [.p D.d, .l (row.map nI)] ∧ row.length ≤ 1000 ∧ (∀ k ∈ row, k < D.gs.length) ∧ Kc (.p (mxOf true .none (D.needs (D.gain row) row))) ms
theorem h__law_needed (ms : List M) (Kc : M → List M → Prop) (h : sp__law_needed ms Kc (fun _ _ => False)) : wpFn [sp__law_gain] 5 c__law_needed ms Kc (fun _ _ => False) := by
  obtain ⟨D, row, rfl, hl, lk, h⟩ := h
  simp [wpFn, startD, lockOf, outs, wipe, back, bindT, bindTs, peek, peeks, ats, setAll, light, lightAll, qI, rng_len, enum_len, c__law_needed]
  refine ⟨D, row, _, rfl, .inl rfl, hl, lk, ?_⟩
  simp [wpFn, startD, lockOf, outs, wipe, back, bindT, bindTs, peek, peeks, ats, setAll, light, lightAll, qI, rng_len, enum_len]
  refine forLoop_of nI (fun rem δ => ∃ (acc : List Int) (g : Int) (a : Option M), acc ++ D.needs g rem = D.needs (D.gain row) row ∧ acc.length + rem.length = row.length ∧ (∀ k ∈ rem, k < D.gs.length) ∧ δ = [some (M.p D.d), some (.l (row.map nI)), some (.l (acc.map .int)), some (.p (.int g)), a]) ?_ ?_ row _ ⟨[], D.gain row, none, rfl, by simp, lk, rfl⟩
  · rintro k rem δ N ⟨acc, g, a, e, hl2, hk, rfl⟩ hN
    have hk1 := hk k (List.mem_cons_self ..)
    rw [List.length_cons] at hl2
    have la : acc.length < sizeLine := small (m := 1000) (by omega) (by decide)
    refine ⟨gd_at rfl, ?_⟩
    simp [wpFn, startD, lockOf, outs, wipe, back, bindT, bindTs, peek, peeks, ats, setAll, light, lightAll, qI, rng_len, enum_len, b1__law_needed, ixGsI hk1, muM, la]
    exact hN _ ⟨acc ++ [(D.g k).worth - g], g - (D.g k).worth + (D.g k).cost, some (.p (nI k)), by rw [← e, Deal.needs, List.append_assoc]; rfl, by rw [List.length_append, List.length_singleton]; omega, fun j hj => hk j (List.mem_cons_of_mem _ hj), by simp⟩
  · rintro δ ⟨acc, g, a, e, hl2, hk, rfl⟩
    refine ⟨gd_at rfl, ?_⟩
    rw [Deal.needs, List.append_nil] at e
    simp [wpFn, startD, lockOf, outs, wipe, back, bindT, bindTs, peek, peeks, ats, setAll, light, lightAll, qI, rng_len, enum_len, M.lst, intL_map, e]
    exact h
def Deal.need (D : Deal) (left : List Nat) : Int := match D.needs (D.gain (D.lsorted left)) (D.lsorted left) with
  | [] => 0
  | n :: r => r.foldl max n
def sp__law_need_of : Spec := fun ms Kc _ => ∃ (D : Deal) (left : List Nat) (m : M), ms = [.p D.d, m] ∧ isSeq m (left.map nI) ∧ left.length ≤ 1000 ∧ (∀ k ∈ left, k < D.gs.length) ∧ Kc (.p (.int (D.need left))) ms
theorem h__law_need_of (ms : List M) (Kc : M → List M → Prop) (h : sp__law_need_of ms Kc (fun _ _ => False)) : wpFn [sp__law_needed, sp__law_sorted] 3 c__law_need_of ms Kc (fun _ _ => False) := by
  obtain ⟨D, left, m, rfl, hs, hl, lk, h⟩ := h
  have hs' := hs
  unfold Deal.need at h
  rcases hs with rfl | rfl | rfl
  all_goals
    simp [wpFn, startD, lockOf, outs, wipe, back, bindT, bindTs, peek, peeks, ats, setAll, light, lightAll, qI, rng_len, enum_len, c__law_need_of]
    refine ⟨D, left, _, rfl, hs', hl, lk, ?_⟩
    simp [wpFn, startD, lockOf, outs, wipe, back, bindT, bindTs, peek, peeks, ats, setAll, light, lightAll, qI, rng_len, enum_len]
    refine ⟨D, D.lsorted left, rfl, by rw [len_lsorted]; exact hl, fun k hk => lk k (mem_lsorted hk), ?_⟩
    generalize D.needs (D.gain (D.lsorted left)) (D.lsorted left) = ns at h ⊢
    cases ns with
    | nil => simpa [wpFn, startD, lockOf, outs, wipe, back, bindT, bindTs, peek, peeks, ats, setAll, light, lightAll, qI, rng_len, enum_len, mxOf, cmpM, isM] using h
    | cons n ns => simpa [wpFn, startD, lockOf, outs, wipe, back, bindT, bindTs, peek, peeks, ats, setAll, light, lightAll, qI, rng_len, enum_len, mxOf, cmpM, isM] using h
theorem needs_bd {D : Deal} (hg : gsmall D.gs) (h0 : ∀ g ∈ D.gs, 0 ≤ g.cost ∧ 0 ≤ g.worth) : ∀ (row : List Nat) (g B : Int), (∀ k ∈ row, k < D.gs.length) → -B ≤ g → g ≤ B → ∀ x ∈ D.needs g row, -(B + amt * (row.length + 1)) ≤ x ∧ x ≤ B + amt * (row.length + 1)
  | [], _, _, _, _, _, x, hx => by simp [Deal.needs] at hx
  | k :: r, g, B, hk, b0, b1, x, hx => by
    have hm := Deal.gk (hk k (List.mem_cons_self ..))
    have h1 := hg _ hm
    have h2 := h0 _ hm
    rw [Deal.needs] at hx
    rcases List.mem_cons.mp hx with rfl | hx
    · have : 0 ≤ amt * (((k :: r).length : Int)) := Int.mul_nonneg (by decide) (by omega)
      rw [Int.mul_add]
      constructor <;> omega
    · have := needs_bd hg h0 r (g - (D.g k).worth + (D.g k).cost) (B + amt) (fun j hj => hk j (List.mem_cons_of_mem _ hj)) (by omega) (by omega) x hx
      rw [List.length_cons]
      rw [Int.mul_add] at this ⊢
      have e : amt * ((r.length + 1 : Nat) : Int) = amt * (r.length : Int) + amt := by rw [Int.natCast_add, Int.mul_add]; simp
      constructor <;> omega
theorem gain_bd {D : Deal} (hg : gsmall D.gs) (h0 : ∀ g ∈ D.gs, 0 ≤ g.cost ∧ 0 ≤ g.worth) : ∀ row : List Nat, (∀ k ∈ row, k < D.gs.length) → -(amt * row.length) ≤ D.gain row ∧ D.gain row ≤ amt * row.length
  | [], _ => by simp [Deal.gain]
  | k :: r, hk => by
    have hm := Deal.gk (hk k (List.mem_cons_self ..))
    have h1 := hg _ hm
    have h2 := h0 _ hm
    have := gain_bd hg h0 r fun j hj => hk j (List.mem_cons_of_mem _ hj)
    have e : amt * (((k :: r).length : Nat) : Int) = amt * (r.length : Int) + amt := by rw [List.length_cons, Int.natCast_add, Int.mul_add]; simp
    have e2 : D.gain (k :: r) = ((D.g k).worth - (D.g k).cost) + D.gain r := by unfold Deal.gain; rw [List.map_cons, List.sum_cons]
    rw [e, e2]
    constructor <;> omega
theorem foldl_max_mem : ∀ (r : List Int) (n : Int), r.foldl max n ∈ n :: r
  | [], n => List.mem_cons_self ..
  | a :: r, n => by
    rw [List.foldl_cons]
    have := foldl_max_mem r (max n a)
    rcases List.mem_cons.mp this with e | e
    · rw [e]
      by_cases h : n ≤ a
      · rw [Int.max_eq_right h]; simp
      · rw [Int.max_eq_left (by omega)]; simp
    · exact List.mem_cons_of_mem _ (List.mem_cons_of_mem _ e)
theorem need_bd {D : Deal} (hg : gsmall D.gs) (h0 : ∀ g ∈ D.gs, 0 ≤ g.cost ∧ 0 ≤ g.worth) {left : List Nat} (hk : ∀ k ∈ left, k < D.gs.length) (hl : left.length ≤ 60) : -200000000000000 ≤ D.need left ∧ D.need left ≤ 200000000000000 := by
  have hk' : ∀ k ∈ D.lsorted left, k < D.gs.length := fun k h => hk k (mem_lsorted h)
  have hl' := len_lsorted D left
  have b1 := gain_bd hg h0 _ hk'
  have b2 := needs_bd hg h0 (D.lsorted left) _ _ hk' b1.1 b1.2
  rw [hl'] at b2
  unfold Deal.need
  generalize D.needs (D.gain (D.lsorted left)) (D.lsorted left) = ns at b2
  cases ns with
  | nil => simp
  | cons n r =>
    have := b2 _ (foldl_max_mem r n)
    unfold amt at this
    show -200000000000000 ≤ r.foldl max n ∧ r.foldl max n ≤ 200000000000000
    omega
/-! ### sums over the parties -/
theorem ite_sum {x : Str} {w : Int} : ∀ {ps : List (Str × Int)}, (ps.map (·.1)).Nodup → x ∈ ps.map (·.1) → (ps.map fun p => if x = p.1 then w else 0).sum = w
  | [], _, h => by simp at h
  | p :: ps, u, h => by
    rw [List.map_cons, List.nodup_cons] at u
    rw [List.map_cons, List.sum_cons]
    by_cases e : x = p.1
    · rw [if_pos e]
      have : (ps.map fun q => if x = q.1 then w else 0).sum = 0 := by
        have hz : ∀ qs : List (Str × Int), (∀ q ∈ qs, x ≠ q.1) → (qs.map fun q => if x = q.1 then w else 0).sum = 0 := by
          intro qs
          induction qs with
          | nil => intro _; rfl
          | cons q qs ih => intro hq; rw [List.map_cons, List.sum_cons, if_neg (hq q (List.mem_cons_self ..)), ih fun r hr => hq r (List.mem_cons_of_mem _ hr)]; rfl
        exact hz ps fun q hq e2 => u.1 (by rw [← e, e2]; exact List.mem_map_of_mem hq)
      omega
    · rw [if_neg e, ite_sum u.2 ((List.mem_cons.mp h).resolve_left e)]; omega
theorem sum_map3 {α : Type} (f g h : α → Int) : ∀ xs : List α, (xs.map fun x => f x + g x - h x).sum = (xs.map f).sum + (xs.map g).sum - (xs.map h).sum
  | [] => rfl
  | x :: xs => by simp only [List.map_cons, List.sum_cons, sum_map3 f g h xs]; omega
theorem own_nil (D : Deal) (x : Str) : D.own [] x = 0 := rfl
theorem owns_sum {D : Deal} (ok : D.pg) : ∀ (pre : List Nat) (post : List Nat), (∀ k ∈ pre ++ post, k < D.gs.length) → (D.owns (pre ++ post)).sum = (D.owns pre).sum + D.gain post
  | pre, [], _ => by rw [List.append_nil]; simp [Deal.gain]
  | pre, k :: post, hk => by
    have hm := ok.g.ok _ (Deal.gk (hk k (by simp)))
    obtain ⟨n1, n2, n3, n4, n5, n6, n7, n8⟩ := hm
    have e : pre ++ k :: post = (pre ++ [k]) ++ post := by rw [List.append_assoc]; rfl
    have e2 : D.gain (k :: post) = ((D.g k).worth - (D.g k).cost) + D.gain post := by unfold Deal.gain; rw [List.map_cons, List.sum_cons]
    have e3 : (D.owns (pre ++ [k])).sum = (D.owns pre).sum + ((D.g k).worth - (D.g k).cost) := by
      unfold Deal.owns
      have : (D.ps.map fun p => D.own (pre ++ [k]) p.1) = D.ps.map fun p => D.own pre p.1 + (if (D.g k).tk = p.1 then (D.g k).worth else 0) - (if (D.g k).gv = p.1 then (D.g k).cost else 0) :=
        List.map_congr_left fun p _ => own_snoc D pre k p.1
      rw [this, sum_map3, ite_sum ok.p.un n6, ite_sum ok.p.un n5]; omega
    rw [e, owns_sum ok (pre ++ [k]) post (by rw [← e]; exact hk), e2, e3]; omega
theorem owns_all {D : Deal} (ok : D.pg) {left : List Nat} (hk : ∀ k ∈ left, k < D.gs.length) : (D.owns left).sum = D.gain left := by
  have := owns_sum ok [] left (by simpa using hk)
  rw [List.nil_append] at this
  rw [this]
  have : (D.owns []).sum = 0 := by
    unfold Deal.owns
    induction D.ps with
    | nil => rfl
    | cons p ps ih => rw [List.map_cons, List.sum_cons, own_nil, ih]; rfl
  omega
theorem own_bd {D : Deal} (hg : gsmall D.gs) (h0 : ∀ g ∈ D.gs, 0 ≤ g.cost ∧ 0 ≤ g.worth) (x : Str) : ∀ (pre post : List Nat) (B : Int), (∀ k ∈ post, k < D.gs.length) → -B ≤ D.own pre x → D.own pre x ≤ B → -(B + amt * post.length) ≤ D.own (pre ++ post) x ∧ D.own (pre ++ post) x ≤ B + amt * post.length
  | pre, [], B, _, b0, b1 => by rw [List.append_nil]; simp; omega
  | pre, k :: post, B, hk, b0, b1 => by
    have hm := Deal.gk (hk k (List.mem_cons_self ..))
    have h1 := hg _ hm
    have h2 := h0 _ hm
    have e : pre ++ k :: post = (pre ++ [k]) ++ post := by rw [List.append_assoc]; rfl
    have es := own_snoc D pre k x
    have b2 : -(B + amt) ≤ D.own (pre ++ [k]) x ∧ D.own (pre ++ [k]) x ≤ B + amt := by
      rw [es]
      by_cases q1 : (D.g k).tk = x <;> by_cases q2 : (D.g k).gv = x <;> simp only [q1, q2, if_true, if_false] <;> constructor <;> omega
    have := own_bd hg h0 x (pre ++ [k]) post (B + amt) (fun j hj => hk j (List.mem_cons_of_mem _ hj)) b2.1 b2.2
    have ee : amt * (((k :: post).length : Nat) : Int) = amt * (post.length : Int) + amt := by rw [List.length_cons, Int.natCast_add, Int.mul_add]; simp
    rw [e, ee]
    constructor <;> omega
end Q.S
set_option Elab.async false
set_option linter.all false
set_option maxRecDepth 100000
set_option maxHeartbeats 4000000
/-! SN: dues, deals that are drawn. -/
namespace Q.S
open PySem PySem.Spec PyProof.Rows L2 Q
def big : Int := 10 ^ 16
structure Deal.sm (D : Deal) : Prop where
  g : gsmall D.gs
  b : ∀ p ∈ D.ps, p.2 ≤ big
theorem gsOk.nn {ns : List Str} {gs : List Good} (h : gsOk ns gs) : ∀ g ∈ gs, 0 ≤ g.cost ∧ 0 ≤ g.worth := fun g hg => ⟨(h.ok g hg).2.2.2.2.2.2.1, (h.ok g hg).2.2.2.2.2.2.2⟩
theorem bonds_bd {ps : List (Str × Int)} (h0 : ∀ p ∈ ps, 0 ≤ p.2) (h1 : ∀ p ∈ ps, p.2 ≤ big) : 0 ≤ (ps.map (·.2)).sum ∧ (ps.map (·.2)).sum ≤ big * ps.length := by
  induction ps with
  | nil => simp
  | cons p ps ih =>
    have h := ih (fun q hq => h0 q (List.mem_cons_of_mem _ hq)) fun q hq => h1 q (List.mem_cons_of_mem _ hq)
    have a0 := h0 p (List.mem_cons_self ..)
    have a1 := h1 p (List.mem_cons_self ..)
    have e : big * (((p :: ps).length : Nat) : Int) = big * (ps.length : Int) + big := by rw [List.length_cons, Int.natCast_add, Int.mul_add]; simp
    rw [List.map_cons, List.sum_cons, e]
    constructor <;> omega
theorem sum_set {xs : List Int} {d : Int} (h : 0 < xs.length) : (xs.set 0 (xs.getD 0 0 + d)).sum = xs.sum + d := by
  cases xs with
  | nil => simp at h
  | cons x xs => simp; omega
theorem zip3_sum : ∀ (xs : List Int) (ps : List (Str × Int)) (os : List Int), xs.length = ps.length → os.length = ps.length → ((xs.zip (ps.zip os)).map fun p => p.1 - p.2.1.2 - p.2.2).sum = xs.sum - (ps.map (·.2)).sum - os.sum
  | [], [], [], _, _ => rfl
  | x :: xs, p :: ps, o :: os, h1, h2 => by
    have := zip3_sum xs ps os (Nat.succ.inj h1) (Nat.succ.inj h2)
    simp only [List.zip_cons_cons, List.map_cons, List.sum_cons, this]; omega
  | [], _ :: _, _, h, _ => by simp at h
  | _ :: _, [], _, h, _ => by simp at h
  | [], [], _ :: _, _, h => by simp at h
  | _ :: _, _ :: _, [], _, h => by simp at h
def dueBd : Int := 10 ^ 20
def sp__law_dues : Spec := fun ms Kc _ => ∃ (m : List (L2.Key × M)) (s : Int) (D : Deal) (left : List Nat) (mm : M), ms = [.dc m, .p D.d, mm] ∧ isSeq mm (left.map nI) ∧ mOk s m ∧ s < 2 ^ 37 ∧ D.pg ∧ D.sm ∧ left.length ≤ 60 ∧ (∀ k ∈ left, k < D.gs.length) ∧
  ∀ (xs : List Int) m', xs.length = D.ps.length → xs.sum = 0 → (∀ x ∈ xs, -dueBd ≤ x ∧ x ≤ dueBd) → mOk (s + 30) m' → Kc (.p (.tuple (xs.map .int))) [.dc m', .p D.d, mm]
theorem h__law_dues (ms : List M) (Kc : M → List M → Prop) (h : sp__law_dues ms Kc (fun _ _ => False)) : wpFn [sp__law_gain, sp__law_bonds, sp__law_split, sp__law_own_gains] 9 c__law_dues ms Kc (fun _ _ => False) := by
  obtain ⟨m, s, D, left, mm, rfl, hs, hm, s0, ok, sm, hl, lk, h⟩ := h
  have hs' := hs
  have sz : sizeLine = 16777216 := sizeLine_eq
  have hp := ok.p.hi
  have hp2 := ok.p.lo
  have g1 := gain_bd sm.g ok.g.nn left lk
  have b1 := bonds_bd ok.p.bd sm.b
  have g2 : -100000000000000 ≤ D.gain left ∧ D.gain left ≤ 100000000000000 := by unfold amt at g1; omega
  have b2 : 0 ≤ D.bonds ∧ D.bonds ≤ 60000000000000000 := by unfold big at b1; unfold Deal.bonds; omega
  have hroom : -100000000000000 ≤ D.gain left + D.bonds ∧ D.gain left + D.bonds ≤ 61000000000000000 := by omega
  have fin : ∀ (xs : List Int) (m' : List (L2.Key × M)), xs.length = D.ps.length → (∀ x ∈ xs, -100000000000000 ≤ x ∧ x ≤ 61000000000000000) → xs.sum = D.gain left + D.bonds → mOk (s + 30) m' →
      Kc (.p (.tuple ((xs.zip (D.ps.zip (D.owns left))).map fun p => .int (p.1 - p.2.1.2 - p.2.2)))) [.dc m', .p D.d, mm] := by
    intro xs m' l1 bx hsum hm'
    have e : ((xs.zip (D.ps.zip (D.owns left))).map fun p => PyData.int (p.1 - p.2.1.2 - p.2.2)) = ((xs.zip (D.ps.zip (D.owns left))).map fun p => p.1 - p.2.1.2 - p.2.2).map .int := by rw [List.map_map]; rfl
    rw [e]
    refine h _ m' (by simp [l1, owns_len]) ?_ (fun x hx => ?_) hm'
    · rw [zip3_sum _ _ _ l1 (owns_len D left), hsum, owns_all ok lk]; unfold Deal.bonds; omega
    · obtain ⟨⟨px, ⟨pn, pb⟩, po⟩, hp, rfl⟩ := List.mem_map.mp hx
      have q1 := List.of_mem_zip hp
      have q2 := List.of_mem_zip q1.2
      have c1 := bx _ q1.1
      have c2 : 0 ≤ pb := ok.p.bd _ q2.1
      have c3 : pb ≤ big := sm.b _ q2.1
      obtain ⟨pp, _, epp⟩ := List.mem_map.mp q2.2
      have c4 := own_bd sm.g ok.g.nn pp.1 [] left 0 lk (by rw [own_nil]; omega) (by rw [own_nil]; omega)
      rw [List.nil_append, epp] at c4
      unfold amt at c4; unfold big at c3; unfold dueBd
      show -(10 ^ 20) ≤ px - pb - po ∧ px - pb - po ≤ 10 ^ 20
      omega
  rcases hs with rfl | rfl | rfl
  all_goals
    simp [wpFn, startD, lockOf, outs, wipe, back, bindT, bindTs, peek, peeks, ats, setAll, light, lightAll, qI, rng_len, enum_len, c__law_dues]
    refine ⟨D, left, _, rfl, hs', by omega, lk, ?_⟩
    simp [wpFn, startD, lockOf, outs, wipe, back, bindT, bindTs, peek, peeks, ats, setAll, light, lightAll, qI, rng_len, enum_len]
    refine ⟨D, rfl, hp, ?_⟩
    simp [wpFn, startD, lockOf, outs, wipe, back, bindT, bindTs, peek, peeks, ats, setAll, light, lightAll, qI, rng_len, enum_len]
    refine ⟨m, s, _, _, rfl, hm, by omega, (by split <;> omega : (0 : Int) ≤ _), by split <;> omega, by omega, by omega, fun xs m' lx bx sx hm' => ?_⟩
    rw [Int.toNat_natCast] at lx
    obtain ⟨x0, ex, _, ax⟩ : ∃ x0, xs.getD 0 0 = x0 ∧ x0 ∈ xs ∧ L2.atI (xs.map PyData.int) 0 = some (.int x0) := by
      cases xs with
      | nil => simp at lx; omega
      | cons x xs => exact ⟨x, rfl, by simp, by simp⟩
    have ix0 : L2.ixN xs.length 0 = some 0 := ixN_ok (by omega) (by omega)
    have es := sum_set (xs := xs) (d := if D.gain left + D.bonds < 0 then D.gain left + D.bonds else 0) (by omega)
    rw [ex] at es
    obtain ⟨ys, eys⟩ : ∃ ys, ys = xs.set 0 (x0 + if D.gain left + D.bonds < 0 then D.gain left + D.bonds else 0) := ⟨_, rfl⟩
    have em : (xs.map PyData.int).set 0 (PyData.int (x0 + if D.gain left + D.bonds < 0 then D.gain left + D.bonds else 0)) = ys.map .int := by rw [eys, List.map_set]
    rw [← eys] at es
    have ly : ys.length = D.ps.length := by rw [eys, List.length_set]; exact lx
    have sy : ys.sum = D.gain left + D.bonds := by rw [es, sx]; split <;> split <;> omega
    have bx0 := bx x0 ‹_›
    have by' : ∀ z ∈ ys, -100000000000000 ≤ z ∧ z ≤ 61000000000000000 := by
      intro z hz
      rw [eys] at hz
      rcases List.mem_or_eq_of_mem_set hz with q | q
      · have := bx z q
        split at this <;> omega
      · rw [q]
        split at bx0 <;> split <;> omega
    simp [wpFn, startD, lockOf, outs, wipe, back, bindT, bindTs, peek, peeks, ats, setAll, light, lightAll, qI, rng_len, enum_len, ax, ix0, em]
    refine ⟨D, left, _, rfl, hs', by omega, by omega, lk, ?_⟩
    simp [wpFn, startD, lockOf, outs, wipe, back, bindT, bindTs, peek, peeks, ats, setAll, light, lightAll, qI, rng_len, enum_len, zip3Items_map]
    refine ⟨by omega, compLoop_m _ (fun p => .int (p.1 - p.2.1.2 - p.2.2)) (fun g hg => by simp at hg; rcases hg with rfl | rfl <;> exact ⟨_, rfl, rfl⟩) _ _ (fun p hp k hk => ?_) ?_⟩
    · simp [wpFn, startD, lockOf, outs, wipe, back, bindT, bindTs, peek, peeks, ats, setAll, light, lightAll, qI, rng_len, enum_len, e1__law_dues]
      exact hk _ (by simp [wpFn, startD, lockOf, outs, wipe, back, bindT, bindTs, peek, peeks, ats, setAll, light, lightAll, qI, rng_len, enum_len])
    · simp [wpFn, startD, lockOf, outs, wipe, back, bindT, bindTs, peek, peeks, ats, setAll, light, lightAll, qI, rng_len, enum_len]
      exact fin ys m' ly by' sy hm'
end Q.S
set_option Elab.async false
set_option linter.all false
set_option maxRecDepth 100000
set_option maxHeartbeats 4000000
/-! SO: deals that are drawn. -/
namespace Q.S
open PySem PySem.Spec PyProof.Rows L2 Q
theorem slD {D : Deal} {K : M → Prop} : slM (.p D.d) none (some 2) K = K (.p (.tuple [.tuple (D.ps.map pd), .tuple (D.gs.map Good.d)])) := by
  simp [Deal.d, slM, cut, HT.sIx]
theorem cut_take {α : Type} (xs : List α) {i : Int} (h : 0 ≤ i) : cut xs none (some i) = xs.take i.toNat := by
  have e : HT.sIx xs.length xs.length (some i) = min i.toNat xs.length := by
    unfold HT.sIx
    simp only
    rw [if_neg (by omega)]
  unfold cut
  rw [e]
  simp [HT.sIx]
structure whoOk (who : List Str) : Prop where
  lo : 2 ≤ who.length
  hi : who.length ≤ 6
  nm : ∀ z ∈ who, nmOk z
  un : who.Nodup
theorem fst_zip : ∀ (who : List Str) (xs : List Int), xs.length = who.length → (who.zip xs).map (·.1) = who
  | [], _, _ => rfl
  | z :: who, [], h => by simp at h
  | z :: who, x :: xs, h => by rw [List.zip_cons_cons, List.map_cons, fst_zip who xs (Nat.succ.inj h)]
def Deal.shB (D : Deal) : Prop := ∀ x ∈ D.sh, -dueBd ≤ x ∧ x ≤ dueBd
def sp__law_deal_of : Spec := fun ms Kc _ => ∃ (m : List (L2.Key × M)) (s : Int) (who : List Str) (gs : List Good), ms = [.dc m, .l (who.map .str), .p (.tuple (gs.map Good.d))] ∧ mOk s m ∧ s < 2 ^ 35 ∧ whoOk who ∧ gsOk who gs ∧ gsmall gs ∧
  ∀ (D : Deal) m', D.ok → D.sm → D.shB → D.gs = gs → D.ns = who → mOk (s + 100) m' → Kc (.p D.d) [.dc m', .l (who.map .str), .p (.tuple (gs.map Good.d))]
theorem h__law_deal_of (ms : List M) (Kc : M → List M → Prop) (h : sp__law_deal_of ms Kc (fun _ _ => False)) : wpFn [sp__law_need_of, sp__law_draw, sp__law_split, sp__law_dues] 10 c__law_deal_of ms Kc (fun _ _ => False) := by
  obtain ⟨m, s, who, gs, rfl, hm, s0, wk, gk, gsm, h⟩ := h
  have sz : sizeLine = 16777216 := sizeLine_eq
  have hlo := wk.lo
  have hhi := wk.hi
  have hg := gk.hi
  have lw : who.length ≤ sizeLine := by omega
  have lg : gs.length ≤ sizeLine := by omega
  have l2 : 2 ≤ sizeLine := by decide
  have l3 : 3 ≤ sizeLine := by decide
  have l6 : 6 ≤ sizeLine := by decide
  have l1 : 1 ≤ sizeLine := by decide
  have lgi : (gs.length : Int) < 4611686018427387904 := by omega
  obtain ⟨B, hB⟩ : ∃ B : Deal, B = ⟨who.map fun z => (z, 0), gs, []⟩ := ⟨_, rfl⟩
  have eB : PyData.tuple [.tuple (who.map fun z => pd (z, 0)), .tuple (gs.map Good.d), .tuple []] = B.d := by
    rw [hB]; unfold Deal.d; simp only [List.map_map]; rfl
  have lr : ∀ k ∈ List.range gs.length, k < gs.length := fun k hk => List.mem_range.mp hk
  simp [wpFn, startD, lockOf, outs, wipe, back, bindT, bindTs, peek, peeks, ats, setAll, light, lightAll, qI, rng_len, enum_len, c__law_deal_of, lw]
  refine compLoop_m PyData.str (fun z => pd (z, 0)) (gd_at rfl) who _ (fun z hz k hk => ?_) ?_
  · simp [wpFn, startD, lockOf, outs, wipe, back, bindT, bindTs, peek, peeks, ats, setAll, light, lightAll, qI, rng_len, enum_len, e1__law_deal_of, l2]
    exact hk _ (by simp [wpFn, startD, lockOf, outs, wipe, back, bindT, bindTs, peek, peeks, ats, setAll, light, lightAll, qI, rng_len, enum_len])
  simp [wpFn, startD, lockOf, outs, wipe, back, bindT, bindTs, peek, peeks, ats, setAll, light, lightAll, qI, rng_len, enum_len, l3, rng_nat, eB, lg, lgi]
  have nb := need_bd (D := B) (by rw [hB]; exact gsm) (by rw [hB]; exact gk.nn) (left := List.range gs.length) (by rw [hB]; exact lr) (by simp; exact hg)
  refine ⟨B, List.range gs.length, _, rfl, .inl rfl, by simp; omega, by rw [hB]; exact lr, ?_⟩
  generalize B.need (List.range gs.length) = nd at nb
  simp [wpFn, startD, lockOf, outs, wipe, back, bindT, bindTs, peek, peeks, ats, setAll, light, lightAll, qI, rng_len, enum_len, l6]
  refine use_draw hm (by omega) (by omega) (by omega) fun r1 m1 a1 b1 h1 => ?_
  simp [wpFn, startD, lockOf, outs, wipe, back, bindT, bindTs, peek, peeks, ats, setAll, light, lightAll, qI, rng_len, enum_len, l6]
  refine use_draw h1 (by omega) (by omega) (by omega) fun r2 m2 a2 b2 h2 => ?_
  simp [wpFn, startD, lockOf, outs, wipe, back, bindT, bindTs, peek, peeks, ats, setAll, light, lightAll, qI, rng_len, enum_len, l6]
  refine use_draw h2 (by omega) (by omega) (by omega) fun r3 m3 a3 b3 h3 => ?_
  obtain ⟨v, hv, ev⟩ := atI_int (ns := [0, 0, -1, 1, r1, r2 - 25]) (i := r3) a3 (by simpa using b3)
  have hv2 : -25 ≤ v ∧ v ≤ 50 := by simp at hv; omega
  simp at ev
  simp [wpFn, startD, lockOf, outs, wipe, back, bindT, bindTs, peek, peeks, ats, setAll, light, lightAll, qI, rng_len, enum_len, ev]
  obtain ⟨t, et⟩ : ∃ t, t = (if 0 < nd + v then nd + v else 0) := ⟨_, rfl⟩
  have ht : 0 ≤ t ∧ t ≤ 200000000000050 := by rw [et]; split <;> omega
  rw [← et]
  refine ⟨m3, s + 1 + 1 + 1, t, who.length, rfl, h3, by omega, ht.1, by omega, by omega, by omega, fun xs m4 lx bx sx h4 => ?_⟩
  rw [Int.toNat_natCast] at lx
  obtain ⟨D0, hD0⟩ : ∃ D0 : Deal, D0 = ⟨who.zip xs, gs, []⟩ := ⟨_, rfl⟩
  have eD : PyData.tuple [.tuple ((who.zip xs).map fun p => pd p), .tuple (gs.map Good.d), .tuple []] = D0.d := by rw [hD0]; rfl
  have lz : (who.zip xs).length = who.length := by rw [List.length_zip, lx, Nat.min_self]
  have hn := fst_zip who xs lx
  have pgk : psOk (who.zip xs) := ⟨by rw [lz]; exact hlo, by rw [lz]; exact hhi, fun p hp => wk.nm _ (List.of_mem_zip hp).1, fun p hp => (bx _ (List.of_mem_zip hp).2).1, by rw [hn]; exact wk.un⟩
  have hbig : ∀ p ∈ who.zip xs, p.2 ≤ big := fun p hp => by have := (bx _ (List.of_mem_zip hp).2).2; unfold big; omega
  simp [wpFn, startD, lockOf, outs, wipe, back, bindT, bindTs, peek, peeks, ats, setAll, light, lightAll, qI, rng_len, enum_len, zipItems_map, lx]
  refine ⟨lw, compLoop_m (fun p => .tuple [.str p.1, .int p.2]) (fun p => pd p) (fun g hg => by simp at hg; rcases hg with rfl | rfl <;> exact ⟨_, rfl, rfl⟩) _ _ (fun p hp k hk => ?_) ?_⟩
  · simp [wpFn, startD, lockOf, outs, wipe, back, bindT, bindTs, peek, peeks, ats, setAll, light, lightAll, qI, rng_len, enum_len, e2__law_deal_of, l2]
    exact hk _ (by simp [wpFn, startD, lockOf, outs, wipe, back, bindT, bindTs, peek, peeks, ats, setAll, light, lightAll, qI, rng_len, enum_len])
  simp [wpFn, startD, lockOf, outs, wipe, back, bindT, bindTs, peek, peeks, ats, setAll, light, lightAll, qI, rng_len, enum_len, l3, eD, optI, slD, rng_nat, lg, lgi, l1]
  have pg0 : D0.pg := by rw [hD0]; exact ⟨pgk, by show gsOk ((who.zip xs).map (·.1)) gs; rw [hn]; exact gk⟩
  have sm0 : D0.sm := by rw [hD0]; exact ⟨gsm, hbig⟩
  refine ⟨m4, s + 1 + 1 + 1 + 30, D0, List.range gs.length, _, rfl, .inl rfl, h4, by omega, pg0, sm0, by simp; exact hg, by rw [hD0]; exact lr, fun ys m5 ly sy by' h5 => ?_⟩
  simp [wpFn, startD, lockOf, outs, wipe, back, bindT, bindTs, peek, peeks, ats, setAll, light, lightAll, qI, rng_len, enum_len, l1, l3]
  have := h ⟨who.zip xs, gs, ys⟩ m5 ⟨⟨pgk, by show gsOk ((who.zip xs).map (·.1)) gs; rw [hn]; exact gk⟩, by rw [ly, hD0], sy⟩ ⟨gsm, hbig⟩ by' rfl hn (h5.mono (by omega))
  rw [hD0]
  exact this
def sp__law_any : Spec := fun ms Kc _ => ∃ (m : List (L2.Key × M)) (s : Int) (ws : List Str) (most top : Int), ms = [.dc m, .l (ws.map .str), .p (.int most), .p (.int top)] ∧ mOk s m ∧ s < 2 ^ 34 ∧ (∃ n, wsOk n ws) ∧ 2 ≤ most ∧ most ≤ 6 ∧ 0 ≤ top ∧ top ≤ 60 ∧ 6 + top.toNat ≤ ws.length ∧
  ∀ (D : Deal) m', D.ok → D.sm → D.shB → D.gs.length ≤ top.toNat → D.ps.length ≤ most.toNat → mOk (s + 130 + 20 * top) m' → Kc (.p D.d) [.dc m', .l (ws.map .str), .p (.int most), .p (.int top)]
theorem h__law_any (ms : List M) (Kc : M → List M → Prop) (h : sp__law_any ms Kc (fun _ _ => False)) : wpFn [sp__law_draw, sp__law_deal_of, sp__law_goods] 5 c__law_any ms Kc (fun _ _ => False) := by
  obtain ⟨m, s, ws, most, top, rfl, hm, s0, ⟨wn, wok⟩, p0, p1, t0, t1, lw, h⟩ := h
  simp [wpFn, startD, lockOf, outs, wipe, back, bindT, bindTs, peek, peeks, ats, setAll, light, lightAll, qI, rng_len, enum_len, c__law_any, optI]
  refine use_draw hm (by omega) (by omega) (by omega) fun r m1 a1 b1 h1 => ?_
  have es : ∀ K, slM (.l (ws.map PyData.str)) none (some (2 + r)) K = K (.l ((ws.take (2 + r).toNat).map .str)) := by
    intro K
    simp only [slM, M.lst, Option.some.injEq, exists_eq_left', cut_take _ (show 0 ≤ 2 + r by omega), List.map_take]
  simp [wpFn, startD, lockOf, outs, wipe, back, bindT, bindTs, peek, peeks, ats, setAll, light, lightAll, qI, rng_len, enum_len, optI, es, M.lst, cut_take (ws.map PyData.str) (show 0 ≤ 2 + r by omega), ← List.map_take]
  obtain ⟨who, ew⟩ : ∃ who, who = ws.take (2 + r).toNat := ⟨_, rfl⟩
  have lwho : who.length = (2 + r).toNat := by rw [ew, List.length_take]; omega
  have wk : whoOk who := ⟨by omega, by omega, fun z hz => wok.nm z (by rw [ew] at hz; exact List.mem_of_mem_take hz), by rw [ew]; exact wok.un.sublist (List.take_sublist ..)⟩
  rw [← ew]
  refine ⟨m1, s + 1, ws, who, top, rfl, h1, by omega, ⟨wn, wok⟩, t0, t1, lw, wk.lo, wk.hi, wk.nm, wk.un, fun gs m2 lg gk gsm h2 => ?_⟩
  simp [wpFn, startD, lockOf, outs, wipe, back, bindT, bindTs, peek, peeks, ats, setAll, light, lightAll, qI, rng_len, enum_len]
  refine ⟨m2, _, who, gs, rfl, h2, by omega, wk, gk, gsm, fun D m3 ok sm sb eg en h3 => ?_⟩
  simp [wpFn, startD, lockOf, outs, wipe, back, bindT, bindTs, peek, peeks, ats, setAll, light, lightAll, qI, rng_len, enum_len]
  refine h D m3 ok sm sb (by rw [eg]; exact lg) ?_ (h3.mono (by omega))
  have : D.ps.length = who.length := by rw [← en]; unfold Deal.ns; rw [List.length_map]
  omega
end Q.S
set_option Elab.async false
set_option linter.all false
set_option maxRecDepth 100000
set_option maxHeartbeats 4000000
/-! SP: stands that are drawn. -/
namespace Q.S
open PySem PySem.Spec PyProof.Rows L2 Q
def sp__law_rest : Spec := fun ms Kc _ => ∃ (m : List (L2.Key × M)) (s : Int) (D : Deal), ms = [.dc m, .p D.d] ∧ mOk s m ∧ s < 2 ^ 37 ∧ D.gs.length ≤ 60 ∧ ∀ left m', leftOk D left → mOk (s + 61) m' → Kc (.p (.tuple (left.map nI))) [.dc m', .p D.d]
theorem h__law_rest (ms : List M) (Kc : M → List M → Prop) (h : sp__law_rest ms Kc (fun _ _ => False)) : wpFn [sp__law_draw] 4 c__law_rest ms Kc (fun _ _ => False) := by
  obtain ⟨m, s, D, rfl, hm, hs, hl, h⟩ := h
  have sz : sizeLine = 16777216 := sizeLine_eq
  simp [wpFn, startD, lockOf, outs, wipe, back, bindT, bindTs, peek, peeks, ats, setAll, light, lightAll, qI, rng_len, enum_len, c__law_rest]
  refine use_draw hm (by omega) (by omega) (by omega) fun way m1 a1 b1 h1 => ?_
  simp [wpFn, startD, lockOf, outs, wipe, back, bindT, bindTs, peek, peeks, ats, setAll, light, lightAll, qI, rng_len, enum_len, rng_nat]
  refine ⟨by omega, by omega, compLoop_inv (fun xs ds δ => ∃ (i : Nat) (left : List Nat) (m' : List (L2.Key × M)), i + xs.length = D.gs.length ∧ xs = (List.range' i xs.length).map nI ∧ ds = left.map nI ∧ (∀ k ∈ left, k < i) ∧ left.Pairwise (· < ·) ∧ mOk (s + 1 + i) m' ∧ δ = [some (.dc m'), some (.p D.d), some (.p (.int way)), none]) ?_ _ [] _ _ ⟨0, [], m1, by simp, by simp [List.range_eq_range'], rfl, by simp, by simp, by simpa using h1, rfl⟩ ?_⟩
  · rintro x xs ds δ k ⟨i, left, m', hi, hx, rfl, hk, hp, hm', rfl⟩ hK
    refine ⟨gdOk_nil, ?_⟩
    rw [List.length_cons, List.range'_succ, List.map_cons] at hx
    injection hx with hx1 hx2
    subst hx1
    rw [List.length_cons] at hi
    have yes : ∀ m2, mOk (s + 1 + i + 1) m2 → k (some (nI i)) [some (.dc m2), some (.p D.d), some (.p (.int way)), some (.p (nI i))] := fun m2 h2 =>
      hK _ _ ⟨i + 1, left ++ [i], m2, by omega, hx2, by simp, fun j hj => by
        rcases List.mem_append.mp hj with z | z
        · have := hk j z; omega
        · rw [List.mem_singleton] at z; omega, List.pairwise_append.mpr ⟨hp, by simp, fun a ha b hb => by rw [List.mem_singleton] at hb; subst hb; exact hk a ha⟩, h2.mono (by omega), by simp [wpFn, startD, lockOf, outs, wipe, back, bindT, bindTs, peek, peeks, ats, setAll, light, lightAll, qI, rng_len, enum_len]⟩
    have no : ∀ m2, mOk (s + 1 + i + 1) m2 → k none [some (.dc m2), some (.p D.d), some (.p (.int way)), some (.p (nI i))] := fun m2 h2 =>
      hK _ _ ⟨i + 1, left, m2, by omega, hx2, by simp, fun j hj => by have := hk j hj; omega, hp, h2.mono (by omega), by simp [wpFn, startD, lockOf, outs, wipe, back, bindT, bindTs, peek, peeks, ats, setAll, light, lightAll, qI, rng_len, enum_len]⟩
    by_cases w0 : way = 0
    · simp [wpFn, startD, lockOf, outs, wipe, back, bindT, bindTs, peek, peeks, ats, setAll, light, lightAll, qI, rng_len, enum_len, i1__law_rest, e2__law_rest, w0]
      subst w0
      exact yes m' (hm'.mono (by omega))
    · simp [wpFn, startD, lockOf, outs, wipe, back, bindT, bindTs, peek, peeks, ats, setAll, light, lightAll, qI, rng_len, enum_len, i1__law_rest, e2__law_rest, w0]
      refine use_draw hm' (by omega) (by omega) (by omega) fun r m2 a2 b2 h2 => ?_
      by_cases hr : 0 < r
      · simp [wpFn, startD, lockOf, outs, wipe, back, bindT, bindTs, peek, peeks, ats, setAll, light, lightAll, qI, rng_len, enum_len, hr]
        exact yes m2 h2
      · simp [wpFn, startD, lockOf, outs, wipe, back, bindT, bindTs, peek, peeks, ats, setAll, light, lightAll, qI, rng_len, enum_len, hr]
        exact no m2 h2
  · rintro ds δ ⟨i, left, m', hi, hx, e, hk, hp, hm', rfl⟩
    refine ⟨gdOk_nil, ?_⟩
    simp at e hi
    subst e
    simp [wpFn, startD, lockOf, outs, wipe, back, bindT, bindTs, peek, peeks, ats, setAll, light, lightAll, qI, rng_len, enum_len]
    exact h left m' ⟨fun k hk' => by have := hk k hk'; omega, hp⟩ (hm'.mono (by omega))
def Stand.sm (s : Stand) : Prop := ∀ x ∈ s.due, -(10 ^ 21) ≤ x ∧ x ≤ 10 ^ 21
def sp__law_spot : Spec := fun ms Kc _ => ∃ (m : List (L2.Key × M)) (s : Int) (D : Deal), ms = [.dc m, .p D.d] ∧ mOk s m ∧ s < 2 ^ 36 ∧ D.pg ∧ D.sm ∧ ∀ (st : Stand) m', standOk D st → st.sm → mOk (s + 100) m' → Kc (.p st.d) [.dc m', .p D.d]
theorem h__law_spot (ms : List M) (Kc : M → List M → Prop) (h : sp__law_spot ms Kc (fun _ _ => False)) : wpFn [sp__law_rest, sp__law_dues, sp__law_draw, sp__law_amount] 5 c__law_spot ms Kc (fun _ _ => False) := by
  obtain ⟨m, s, D, rfl, hm, hs, ok, sm, h⟩ := h
  have hp := ok.p.hi
  have hp2 := ok.p.lo
  have l2 : 2 ≤ sizeLine := by decide
  simp [wpFn, startD, lockOf, outs, wipe, back, bindT, bindTs, peek, peeks, ats, setAll, light, lightAll, qI, rng_len, enum_len, c__law_spot]
  refine ⟨m, s, D, rfl, hm, by omega, ok.g.hi, fun left m1 lok h1 => ?_⟩
  have ll := lok.len
  have lh := ok.g.hi
  simp [wpFn, startD, lockOf, outs, wipe, back, bindT, bindTs, peek, peeks, ats, setAll, light, lightAll, qI, rng_len, enum_len]
  refine ⟨m1, s + 61, D, left, _, rfl, .inr (.inl rfl), h1, by omega, ok, sm, by omega, lok.1, fun xs m2 lx sx bx h2 => ?_⟩
  simp [wpFn, startD, lockOf, outs, wipe, back, bindT, bindTs, peek, peeks, ats, setAll, light, lightAll, qI, rng_len, enum_len]
  refine use_draw h2 (by omega) (by omega) (by omega) fun r m3 a3 b3 h3 => ?_
  by_cases hr : r = 0
  · simp [wpFn, startD, lockOf, outs, wipe, back, bindT, bindTs, peek, peeks, ats, setAll, light, lightAll, qI, rng_len, enum_len, hr]
    refine ⟨_, _, rfl, h3, by omega, fun more m4 c0 c1 h4 => ?_⟩
    obtain ⟨x, ys, y, rfl⟩ : ∃ x ys y, xs = x :: (ys ++ [y]) := by
      cases xs with
      | nil => simp at lx; omega
      | cons x xs =>
        rcases List.eq_nil_or_concat xs with rfl | ⟨ys, y, rfl⟩
        · simp at lx; omega
        · exact ⟨x, ys, y, by simp⟩
    have i1 : L2.ixN (ys.length + 1 + 1) (-1) = some (ys.length + 1) := by
      unfold L2.ixN; simp; omega
    have i0 : L2.ixN (ys.length + 1 + 1) 0 = some 0 := ixN_ok (by omega) (by omega)
    have la : L2.atI (PyData.int x :: (ys.map PyData.int ++ [PyData.int y])) (-1) = some (.int y) := at_last (xs := PyData.int x :: ys.map PyData.int)
    simp [wpFn, startD, lockOf, outs, wipe, back, bindT, bindTs, peek, peeks, ats, setAll, light, lightAll, qI, rng_len, enum_len, la, i0, i1, l2]
    have := h ⟨left, (x + (1 + more)) :: (ys ++ [y - (1 + more)])⟩ m4 ⟨lok, by simpa using lx, by simp at sx ⊢; omega⟩ (fun z hz => by
      unfold amt at c1
      unfold dueBd at bx
      rcases List.mem_cons.mp hz with rfl | hz
      · have := bx x (by simp); omega
      · rcases List.mem_append.mp hz with hz | hz
        · have := bx z (by simp [hz]); omega
        · rw [List.mem_singleton] at hz; subst hz
          have := bx y (by simp); omega) (h4.mono (by omega))
    simpa [Stand.d] using this
  · simp [wpFn, startD, lockOf, outs, wipe, back, bindT, bindTs, peek, peeks, ats, setAll, light, lightAll, qI, rng_len, enum_len, hr, l2]
    exact h ⟨left, xs⟩ m3 ⟨lok, lx, sx⟩ (fun z hz => by have := bx z hz; unfold dueBd at this; omega) (h3.mono (by omega))
end Q.S
set_option Elab.async false
set_option linter.all false
set_option maxRecDepth 100000
set_option maxHeartbeats 4000000
/-! SQ: deals and stands that may be shown; who leaves. -/
namespace Q.S
open PySem PySem.Spec PyProof.Rows L2 Q
theorem fine_i {x : Int} (h0 : -(10 ^ 22) ≤ x) (h1 : x ≤ 10 ^ 22) : Fine 0 100 (.int x) := fine_int (by omega)
theorem fine_nI {k : Nat} (h : k ≤ 1000) : Fine 0 100 (nI k) := fine_i (by omega) (by omega)
theorem fine_nm {z : Str} (h : nmOk z) : Fine 0 100 (.str z) := fine_str (by have := h.2.1; omega) h.2.2
theorem fine_ints {l : Nat} {xs : List Int} (hl : xs.length ≤ l) (h : ∀ x ∈ xs, -(10 ^ 22) ≤ x ∧ x ≤ 10 ^ 22) : Fine 1 (l * 101) (.tuple (xs.map .int)) :=
  fine_tuple (by simpa using hl) fun d hd => by
    obtain ⟨x, hx, rfl⟩ := List.mem_map.mp hd
    exact fine_i (h x hx).1 (h x hx).2
theorem fine_strs {l : Nat} {xs : List Str} (hl : xs.length ≤ l) (h : ∀ x ∈ xs, nmOk x) : Fine 1 (l * 101) (.tuple (xs.map .str)) :=
  fine_tuple (by simpa using hl) fun d hd => by
    obtain ⟨x, hx, rfl⟩ := List.mem_map.mp hd
    exact fine_nm (h x hx)
theorem fine_good {ns : List Str} {g : Good} (h : g.ok ns) (h1 : g.cost ≤ amt ∧ g.worth ≤ amt) : Fine 1 505 g.d := by
  obtain ⟨n1, n2, n3, n4, n5, n6, n7, n8⟩ := h
  unfold amt at h1
  refine fine_tuple (l := 5) (w := 100) (by simp) fun d hd => ?_
  simp at hd
  rcases hd with rfl | rfl | rfl | rfl | rfl
  · exact fine_nm n1
  · exact fine_nm n2
  · exact fine_nm n3
  · exact fine_i (by omega) (by omega)
  · exact fine_i (by omega) (by omega)
theorem fine_pd {p : Str × Int} (h : nmOk p.1) (h0 : 0 ≤ p.2) (h1 : p.2 ≤ big) : Fine 1 202 (pd p) := by
  unfold big at h1
  refine fine_tuple (l := 2) (w := 100) (by simp) fun d hd => ?_
  simp at hd
  rcases hd with rfl | rfl
  · exact fine_nm h
  · exact fine_i (by omega) (by omega)
theorem fine_deal {D : Deal} (ok : D.pg) (sm : D.sm) (sb : D.shB) (sl : D.sh.length ≤ 6) : Fine 3 91083 D.d := by
  refine fine_tuple (l := 3) (w := 30360) (by simp) fun d hd => ?_
  simp at hd
  rcases hd with rfl | rfl | rfl
  · refine (fine_tuple (l := 6) (n := 1) (w := 202) (by simpa using ok.p.hi) fun d hd => ?_).mono (by omega) (by omega)
    obtain ⟨p, hp, rfl⟩ := List.mem_map.mp hd
    exact fine_pd (ok.p.nm p hp) (ok.p.bd p hp) (sm.b p hp)
  · refine (fine_tuple (l := 60) (n := 1) (w := 505) (by simpa using ok.g.hi) fun d hd => ?_).mono (by omega) (by omega)
    obtain ⟨g, hg, rfl⟩ := List.mem_map.mp hd
    exact fine_good (ok.g.ok g hg) (sm.g g hg)
  · exact (fine_ints sl fun x hx => by have := sb x hx; unfold dueBd at this; omega).mono (by omega) (by omega)
theorem fine_stand {D : Deal} {s : Stand} (ok : D.pg) (sok : standOk D s) (sm : s.sm) : Fine 2 12122 s.d := by
  have h1 := sok.l.len
  have h2 := ok.g.hi
  refine fine_tuple (l := 2) (w := 6060) (by simp) fun d hd => ?_
  simp at hd
  rcases hd with rfl | rfl
  · refine fine_tuple (l := 60) (n := 0) (w := 100) (by simp; omega) fun d hd => ?_
    obtain ⟨k, hk, rfl⟩ := List.mem_map.mp hd
    exact fine_nI (by have := sok.l.1 k hk; omega)
  · exact (fine_ints (l := 6) (by rw [sok.n]; exact ok.p.hi) fun x hx => by have := sm x hx; omega).mono (by omega) (by omega)
theorem fine_two {n w : Nat} {a b : PyData} (ha : Fine n w a) (hb : Fine n w b) : Fine (n + 1) (2 * (w + 1)) (.list [a, b]) :=
  fine_list (l := 2) (by simp) fun d hd => by
    simp at hd
    rcases hd with rfl | rfl
    · exact ha
    · exact hb
theorem own_bd2 {D : Deal} (ok : D.pg) (sm : D.sm) {left : List Nat} (lok : leftOk D left) (x : Str) : -100000000000000 ≤ D.own left x ∧ D.own left x ≤ 100000000000000 := by
  have h1 := lok.len
  have h2 := ok.g.hi
  have c4 := own_bd sm.g ok.g.nn x [] left 0 lok.1 (by rw [own_nil]; omega) (by rw [own_nil]; omega)
  rw [List.nil_append] at c4
  unfold amt at c4
  omega
theorem come_bd {D : Deal} {s : Stand} (ok : D.pg) (sm : D.sm) (sok : standOk D s) (ss : s.sm) : ∀ x ∈ D.come s, -(10 ^ 22) ≤ x ∧ x ≤ 10 ^ 22 := by
  intro x hx
  obtain ⟨⟨o, d⟩, hp, rfl⟩ := List.mem_map.mp hx
  have q := List.of_mem_zip hp
  obtain ⟨pp, _, epp⟩ := List.mem_map.mp q.1
  have h1 := own_bd2 ok sm sok.l pp.1
  have h2 := ss d q.2
  rw [epp] at h1
  show -(10 ^ 22) ≤ o + d ∧ o + d ≤ 10 ^ 22
  omega
theorem gain_bd2 {D : Deal} (ok : D.pg) (sm : D.sm) {left : List Nat} (lok : leftOk D left) : -100000000000000 ≤ D.gain left ∧ D.gain left ≤ 100000000000000 := by
  have h1 := lok.len
  have h2 := ok.g.hi
  have := gain_bd sm.g ok.g.nn left lok.1
  unfold amt at this
  omega
theorem bonds_bd2 {D : Deal} (ok : D.pg) (sm : D.sm) : 0 ≤ D.bonds ∧ D.bonds ≤ 60000000000000000 := by
  have h2 := ok.p.hi
  have := bonds_bd ok.p.bd sm.b
  unfold big at this
  unfold Deal.bonds
  omega
theorem gone_len (D : Deal) (s : Stand) : (D.gone s).length ≤ D.ps.length := by
  unfold Deal.gone
  rw [List.length_map]
  refine Nat.le_trans (List.length_filter_le ..) ?_
  rw [List.length_zip]
  exact Nat.min_le_left _ _
theorem gone_nm {D : Deal} {s : Stand} (ok : D.pg) : ∀ z ∈ D.gone s, nmOk z := fun z hz => by
  obtain ⟨p, hp, rfl⟩ := List.mem_map.mp (gone_mem hz)
  exact ok.p.nm p hp
/-- who leaves, party by party -/
theorem gone_at {D : Deal} {s : Stand} (ok : D.pg) (hn : s.due.length = D.ps.length) {i : Nat} {p : Str × Int} {d : Int} (hp : D.ps[i]? = some p) (hd : s.due[i]? = some d) : (p.1 ∈ D.gone s) ↔ D.own s.left p.1 + d + p.2 < 0 := by
  have hc : (D.come s)[i]? = some (D.own s.left p.1 + d) := by
    unfold Deal.come Deal.owns
    simp [List.getElem?_map, List.zip, List.getElem?_zipWith, hp, hd]
  constructor
  · intro h
    unfold Deal.gone at h
    obtain ⟨q, hq, e⟩ := List.mem_map.mp h
    obtain ⟨hz, ht⟩ := List.mem_filter.mp hq
    obtain ⟨j, hj⟩ := List.getElem?_of_mem hz
    rw [List.zip, List.getElem?_zipWith] at hj
    cases h1 : D.ps[j]? with
    | none => simp [h1] at hj
    | some pj =>
      cases h2 : (D.come s)[j]? with
      | none => simp [h1, h2] at hj
      | some cj =>
        simp [h1, h2] at hj
        subst hj
        have en : (D.ps.map (·.1))[j]? = some p.1 := by rw [List.getElem?_map, h1]; exact congrArg some e
        have ei : (D.ps.map (·.1))[i]? = some p.1 := by rw [List.getElem?_map, hp]; rfl
        have : j = i := nodup_at ok.p.un en ei
        subst this
        rw [hp] at h1
        cases h1
        rw [hc] at h2
        cases h2
        exact of_decide_eq_true ht
  · intro h
    refine List.mem_map.mpr ⟨(p, D.own s.left p.1 + d), List.mem_filter.mpr ⟨?_, decide_eq_true h⟩, rfl⟩
    refine List.mem_of_getElem? (i := i) ?_
    rw [List.zip, List.getElem?_zipWith, hp, hc]
end Q.S
set_option Elab.async false
set_option linter.all false
set_option maxRecDepth 100000
set_option maxHeartbeats 0
/-! SR: calls by keyword, bound. -/
namespace Q
open PySem PySem.Spec PyProof.Rows L2
/-- a call whose arguments all are written, some by name -/
theorem kb0 {K : PySem.W.Frag} {x qual : Str} {params : Arguments} {body : List Stmt} {scope : Scope} {kws : List (Str × V)} {f : Addr} {fd : FuncData} {ps : List Str} (F : FunD K x qual params body scope [] kws f fd) (n : Nat) (ks : List Str) (g : {α : Type} → List α → List α → List α)
    (h : ∀ (kV doc pm : Value) (an : Option Addr) (cdv ct : Value) (us ws : List Value), us.length = n → ws.length = ks.length → bindArgs (PySem.W.fnOf x qual params body scope .none kV doc pm an cdv ct) ⟨us, ks.zip ws⟩ = pure (ps.zip (g us ws)))
    (hrel : ∀ {vs : List V} {us : List Value} {zs : List V} {ws : List Value}, Vals vs us → Vals zs ws → Vals (g vs zs) (g us ws)) : KBn K fd ps n ks (fun us ws => g us ws) (fun vs zs => g vs zs) := by
  obtain ⟨oc, od, dV, kV, doc, pm, an, cdv, ct, osl, rfl, lk, hcd, hD, hK⟩ := F.ex
  rcases hD with ⟨_, rfl⟩ | ⟨e, _⟩
  · exact ⟨fun s us ws _ l1 l2 => .of_eq (h kV doc pm an cdv ct us ws l1 l2), fun r1 r2 => hrel r1 r2⟩
  · exact absurd rfl e
theorem Vals.app {vs : List V} {us : List Value} : ∀ {zs : List V} {ws : List Value}, Vals vs us → Vals zs ws → Vals (vs ++ zs) (us ++ ws) := fun r1 r2 => r1.append r2
theorem RPs.rev {K : PySem.W.Frag} {H : Hp} {vs : List V} {ds : List PyData} (h : RPs K H vs ds) : RPs K H vs.reverse ds.reverse := h.reverse
/-- some of a list's items, in an order -/
def pick {α : Type} (ix : List Nat) (xs : List α) : List α := ix.filterMap fun i => xs[i]?
theorem valsPick {vs : List V} {us : List Value} (h : Vals vs us) : ∀ ix : List Nat, Vals (pick ix vs) (pick ix us)
  | [] => .nil
  | i :: ix => by
    have ih := valsPick h ix
    unfold pick at ih ⊢
    rw [List.filterMap_cons, List.filterMap_cons]
    cases e : vs[i]? with
    | none =>
      have e2 : us[i]? = none := by
        rw [List.getElem?_eq_none_iff] at e ⊢
        rw [← h.length]; exact e
      rw [e2]; exact ih
    | some x =>
      obtain ⟨u, e2, r⟩ := h.get e
      rw [e2]; exact .cons r ih
theorem rpsPick {K : PySem.W.Frag} {H : Hp} {vs : List V} {ds : List PyData} (h : RPs K H vs ds) : ∀ ix : List Nat, RPs K H (pick ix vs) (pick ix ds)
  | [] => .nil
  | i :: ix => by
    have ih := rpsPick h ix
    unfold pick at ih ⊢
    rw [List.filterMap_cons, List.filterMap_cons]
    cases e : vs[i]? with
    | none =>
      have e2 : ds[i]? = none := by
        rw [List.getElem?_eq_none_iff] at e ⊢
        rw [← h.length]; exact e
      rw [e2]; exact ih
    | some x =>
      have hl : i < ds.length := by
        rw [← h.length]
        exact (List.getElem?_eq_some_iff.mp e).1
      obtain ⟨v, d, e1, e2, r⟩ := h.lt hl
      rw [e] at e1; cases e1
      rw [e2]; exact .cons r ih
end Q
set_option Elab.async false
set_option linter.all false
set_option maxRecDepth 100000
set_option maxHeartbeats 2000000
/-! SAB: more codes that many laws share. -/
namespace Q.S
open PySem PySem.Spec PyProof.Rows L2 Q
def e1_numbers_by : C := (.ix (.ix (.ix (.v 0) (.k (.int 1))) (.v 2)) (.k (.int 0)))
def e2_numbers_by : C := (.v 2)
def c_numbers_by : S := (.cons (.ret (.dcm [2] (.n 2) (.sv (.v 1)) .nil e1_numbers_by e2_numbers_by))
  .nil)
def c_trust_asked : S := (.cons (.ife (.tv (.cmp .is (.v 1) (.k .none))) (.cons (.ret (.call 0 (.cons (.v 0) .nil) .nil))
  .nil) .nil)
  (.cons (.ife (.not (.tv (.call 1 (.cons (.v 1) .nil) .nil))) (.cons .stop
  .nil) .nil)
  (.cons (.ret (.v 1))
  .nil)))
def c_times_wanted : S := (.cons (.ife (.tv (.cmp .gt (.v 1) (.k (.int 0)))) (.cons (.ret (.bi .max (.cons (.k (.int 1)) (.cons (.bin .sub (.k (.int 0)) (.bin .fdiv (.bin .sub (.k (.int 0)) (.v 0)) (.v 1))) .nil))))
  .nil) .nil)
  (.cons (.ret (.ite (.and (.cons (.tv (.cmp .eq (.v 0) (.k (.int 0)))) (.cons (.tv (.cmp .eq (.v 1) (.k (.int 0)))) .nil))) (.k (.int 1)) (.k .none)))
  .nil))
def c_most_of : S := (.cons (.ret (.ite (.tv (.cmp .isin (.k .none) (.v 0))) (.k .none) (.bi .max (.cons (.v 0) .nil))))
  .nil)
def c_pieces_there : S := (.cons (.par [4, 5] (.cons (.bin .add (.call 0 (.cons (.v 0) (.cons (.v 1) .nil)) .nil) (.v 3)) (.cons (.ix (.ix (.v 0) (.k (.int 1))) (.v 2)) .nil)))
  (.cons (.ret (.call 1 (.cons (.lst (.cons (.call 2 (.cons (.ix (.v 5) (.k (.int 4))) (.cons (.v 4) .nil)) .nil) (.cons (.call 2 (.cons (.ix (.v 5) (.k (.int 3))) (.cons (.bin .add (.bin .sub (.v 4) (.ix (.v 5) (.k (.int 4)))) (.ix (.v 5) (.k (.int 3)))) .nil)) .nil) .nil))) .nil) .nil))
  .nil))
def c_pieces : S := (.cons (.ex (.call 0 (.cons (.v 0) .nil) .nil))
  (.cons (.ex (.call 1 (.cons (.v 0) (.cons (.v 1) .nil)) .nil))
  (.cons (.set 4 (.call 2 (.cons (.v 0) (.cons (.v 1) .nil)) .nil))
  (.cons (.ife (.or (.cons (.not (.tv (.isi (.v 2) "str"))) (.cons (.tv (.cmp .notin (.v 2) (.v 4))) .nil))) (.cons .stop
  .nil) .nil)
  (.cons (.ret (.call 3 (.cons (.v 0) (.cons (.v 1) (.cons (.ix (.v 4) (.v 2)) (.cons (.call 4 (.cons (.v 0) (.cons (.v 3) .nil)) .nil) .nil)))) .nil))
  .nil)))))
end Q.S
set_option Elab.async false
set_option linter.all false
set_option maxRecDepth 100000
set_option maxHeartbeats 4000000
/-! ST: numbers by name, trust that is asked, pieces. -/
namespace Q.S
open PySem PySem.Spec PyProof.Rows L2 Q
def optD : Option Int → PyData
  | none => .none
  | some i => .int i
/-- the goods' numbers by their names -/
def Deal.nums (D : Deal) (left : List Nat) : List (L2.Key × M) := left.map fun k => (.inr (D.g k).nm, .p (nI k))
theorem dcOf_nums (D : Deal) : ∀ (pre left : List Nat), ((pre ++ left).map fun k => (D.g k).nm).Nodup → dcOf (D.nums pre) (left.map fun k => .tuple [.str (D.g k).nm, nI k]) = D.nums (pre ++ left)
  | pre, [], _ => by rw [List.append_nil]; rfl
  | pre, k :: left, u => by
    have e : dcAdd (D.nums pre) (.tuple [.str (D.g k).nm, nI k]) = D.nums (pre ++ [k]) := by
      show kput (D.nums pre) (.inr (D.g k).nm) (.p (nI k)) = _
      rw [kput_new]
      · simp [Deal.nums]
      · intro q hq e
        obtain ⟨r, hr, rfl⟩ := List.mem_map.mp hq
        have e' : (D.g r).nm = (D.g k).nm := by simpa using e
        rw [List.map_append, List.nodup_append] at u
        exact u.2.2 _ (List.mem_map_of_mem hr) _ (by rw [List.map_cons]; exact List.mem_cons_self ..) e'
    rw [List.map_cons, dcOf, e, dcOf_nums D (pre ++ [k]) left (by rw [List.append_assoc]; exact u), List.append_assoc]; rfl
theorem kget_nums {D : Deal} {k : Nat} : ∀ {left : List Nat}, (left.map fun k => (D.g k).nm).Nodup → k ∈ left → kget (D.nums left) (.inr (D.g k).nm) = some (.p (nI k))
  | [], _, h => by simp at h
  | j :: left, u, h => by
    rw [List.map_cons, List.nodup_cons] at u
    by_cases hx : (D.g j).nm = (D.g k).nm
    · have : k = j := by
        rcases List.mem_cons.mp h with e | h
        · exact e
        · exact absurd (by rw [hx]; exact List.mem_map_of_mem (f := fun k => (D.g k).nm) h) u.1
      subst this
      simp [Deal.nums, kget]
    · have h' : k ∈ left := (List.mem_cons.mp h).resolve_left fun e => hx (by rw [e])
      have := kget_nums u.2 h'
      simp [Deal.nums, kget, hx] at this ⊢
      exact this
/-- names of goods that are not gone are unlike -/
theorem nms_un {D : Deal} (ok : D.pg) {left : List Nat} (lok : leftOk D left) : (left.map fun k => (D.g k).nm).Nodup := by
  refine List.pairwise_map.mpr (lok.2.imp_of_mem fun {a b} ha hb hab e => ?_)
  have ga := lok.1 a ha
  have gb := lok.1 b hb
  have e1 : (D.gs.map (·.nm))[a]? = some (D.g a).nm := by
    rw [List.getElem?_map, List.getElem?_eq_getElem ga]; unfold Deal.g; rw [List.getD_eq_getElem?_getD, List.getElem?_eq_getElem ga]; rfl
  have e2 : (D.gs.map (·.nm))[b]? = some (D.g a).nm := by
    rw [e, List.getElem?_map, List.getElem?_eq_getElem gb]; unfold Deal.g; rw [List.getD_eq_getElem?_getD, List.getElem?_eq_getElem gb]; rfl
  have := nodup_at ok.g.un e1 e2
  omega
def sp_numbers_by : Spec := fun ms Kc _ => ∃ (D : Deal) (left : List Nat) (m : M), ms = [.p D.d, m] ∧ isSeq m (left.map nI) ∧ D.pg ∧ leftOk D left ∧ Kc (.dc (D.nums left)) ms
theorem h_numbers_by (ms : List M) (Kc : M → List M → Prop) (h : sp_numbers_by ms Kc (fun _ _ => False)) : wpFn [] 3 c_numbers_by ms Kc (fun _ _ => False) := by
  obtain ⟨D, left, m, rfl, hs, ok, lok, h⟩ := h
  have lz : left.length ≤ sizeLine := Nat.le_of_lt (small (lok.le ok.g.hi) (by decide))
  have e0 : dcOf [] (left.map fun k => .tuple [.str (D.g k).nm, nI k]) = D.nums left := dcOf_nums D [] left (nms_un ok lok)
  rcases hs with rfl | rfl | rfl
  all_goals
    simp [wpFn, startD, lockOf, outs, wipe, back, bindT, bindTs, peek, peeks, ats, setAll, light, lightAll, qI, rng_len, enum_len, c_numbers_by, lz]
    refine compLoop_m nI (fun k => .tuple [.str (D.g k).nm, nI k]) (by first | exact gdOk_nil | exact gd_at rfl) left _ (fun k hk kk hkk => ?_) ?_
    · simp [wpFn, startD, lockOf, outs, wipe, back, bindT, bindTs, peek, peeks, ats, setAll, light, lightAll, qI, rng_len, enum_len, e1_numbers_by, e2_numbers_by, ixGsI (lok.1 k hk), keyOf]
      exact hkk _ (by simp [wpFn, startD, lockOf, outs, wipe, back, bindT, bindTs, peek, peeks, ats, setAll, light, lightAll, qI, rng_len, enum_len])
    · simp [wpFn, startD, lockOf, outs, wipe, back, bindT, bindTs, peek, peeks, ats, setAll, light, lightAll, qI, rng_len, enum_len, e0]
      exact h
def Deal.lent (D : Deal) : Option Int → Int
  | none => D.bonds
  | some t => t
def sp_trust_asked : Spec := fun ms Kc _ => ∃ (D : Deal) (o : Option Int), ms = [.p D.d, .p (optD o)] ∧ D.ps.length ≤ 6 ∧ Kc (.p (.int (D.lent o))) ms
theorem h_trust_asked (ms : List M) (Kc : M → List M → Prop) (h : sp_trust_asked ms Kc (fun _ _ => False)) : wpFn [sp_trust_there, sp_is_number] 2 c_trust_asked ms Kc (fun _ _ => False) := by
  obtain ⟨D, o, rfl, hp, h⟩ := h
  cases o with
  | none =>
    simp [wpFn, startD, lockOf, outs, wipe, back, bindT, bindTs, peek, peeks, ats, setAll, light, lightAll, qI, rng_len, enum_len, c_trust_asked, optD, cmpM, isM] at h ⊢
    exact ⟨D, rfl, hp, h⟩
  | some t =>
    simp [wpFn, startD, lockOf, outs, wipe, back, bindT, bindTs, peek, peeks, ats, setAll, light, lightAll, qI, rng_len, enum_len, c_trust_asked, optD, cmpM, isM, sp_is_number, isInt] at h ⊢
    exact h
def tw (w p : Int) : Option Int := if 0 < p then some (if 1 < -(-w / p) then -(-w / p) else 1) else if w = 0 ∧ p = 0 then some 1 else none
def sp_times_wanted : Spec := fun ms Kc _ => ∃ w p : Int, ms = [.p (.int w), .p (.int p)] ∧ p < 2 ^ 63 ∧ Kc (.p (optD (tw w p))) ms
theorem h_times_wanted (ms : List M) (Kc : M → List M → Prop) (h : sp_times_wanted ms Kc (fun _ _ => False)) : wpFn [] 2 c_times_wanted ms Kc (fun _ _ => False) := by
  obtain ⟨w, p, rfl, hp, h⟩ := h
  unfold tw at h
  by_cases h0 : 0 < p
  · simp [h0, optD] at h
    simp [wpFn, startD, lockOf, outs, wipe, back, bindT, bindTs, peek, peeks, ats, setAll, light, lightAll, qI, rng_len, enum_len, c_times_wanted, h0, log_ok h0 hp]
    exact h
  · by_cases h1 : w = 0
    · by_cases h2 : p = 0
      · simp [h0, h1, h2, optD] at h
        simp [wpFn, startD, lockOf, outs, wipe, back, bindT, bindTs, peek, peeks, ats, setAll, light, lightAll, qI, rng_len, enum_len, c_times_wanted, h0, h1, h2]
        exact h
      · simp [h0, h1, h2, optD] at h
        simp [wpFn, startD, lockOf, outs, wipe, back, bindT, bindTs, peek, peeks, ats, setAll, light, lightAll, qI, rng_len, enum_len, c_times_wanted, h0, h1, h2]
        exact h
    · simp [h0, h1, optD] at h
      simp [wpFn, startD, lockOf, outs, wipe, back, bindT, bindTs, peek, peeks, ats, setAll, light, lightAll, qI, rng_len, enum_len, c_times_wanted, h0, h1]
      exact h
def most2 : Option Int → Option Int → Option Int
  | some a, some b => some (max a b)
  | _, _ => none
theorem eqv_nn : PyData.eqv .none .none = true := by simp only [PyData.eqv]
theorem eqv_in (i : Int) : PyData.eqv (.int i) .none = false := by simp only [PyData.eqv]
def sp_most_of : Spec := fun ms Kc _ => ∃ a b : Option Int, (ms = [.l [optD a, optD b]]) ∧ Kc (.p (optD (most2 a b))) ms
theorem h_most_of (ms : List M) (Kc : M → List M → Prop) (h : sp_most_of ms Kc (fun _ _ => False)) : wpFn [] 1 c_most_of ms Kc (fun _ _ => False) := by
  obtain ⟨a, b, rfl, h⟩ := h
  cases a with
  | none =>
    cases b <;> (simp [wpFn, startD, lockOf, outs, wipe, back, bindT, bindTs, peek, peeks, ats, setAll, light, lightAll, qI, rng_len, enum_len, c_most_of, inM, M.seq, optD, flatD, eqv_nn, eqv_in, most2] at h ⊢; exact h)
  | some a =>
    cases b with
    | none => simp [wpFn, startD, lockOf, outs, wipe, back, bindT, bindTs, peek, peeks, ats, setAll, light, lightAll, qI, rng_len, enum_len, c_most_of, inM, M.seq, optD, flatD, eqv_nn, eqv_in, most2] at h ⊢; exact h
    | some b =>
      simp [wpFn, startD, lockOf, outs, wipe, back, bindT, bindTs, peek, peeks, ats, setAll, light, lightAll, qI, rng_len, enum_len, c_most_of, inM, M.seq, optD, flatD, eqv_nn, eqv_in, most2] at h ⊢
      refine ⟨[.int a, .int b], [a, b], rfl, rfl, by simp, fun z hz hm => ?_⟩
      have h1 := hm a (by simp)
      have h2 := hm b (by simp)
      have : z = max a b := by
        simp at hz
        rcases hz with rfl | rfl
        · rw [Int.max_eq_left h2]
        · rw [Int.max_eq_right h1]
      rw [this]
      exact h
/-- in how many pieces a good goes -/
def Deal.pcs (D : Deal) (left : List Nat) (k : Nat) (t : Int) : Option Int := most2 (tw (D.g k).worth (D.gain left + t)) (tw (D.g k).cost (D.gain left + t - (D.g k).worth + (D.g k).cost))
def sp_pieces_there : Spec := fun ms Kc _ => ∃ (D : Deal) (left : List Nat) (m : M) (k : Nat) (t : Int), ms = [.p D.d, m, .p (nI k), .p (.int t)] ∧ isSeq m (left.map nI) ∧ left.length ≤ 1000 ∧ (∀ k ∈ left, k < D.gs.length) ∧ k < D.gs.length ∧
  D.gain left + t < 2 ^ 62 ∧ D.gain left + t - (D.g k).worth + (D.g k).cost < 2 ^ 62 ∧ Kc (.p (optD (D.pcs left k t))) ms
theorem h_pieces_there (ms : List M) (Kc : M → List M → Prop) (h : sp_pieces_there ms Kc (fun _ _ => False)) : wpFn [sp_gain_there, sp_most_of, sp_times_wanted] 6 c_pieces_there ms Kc (fun _ _ => False) := by
  obtain ⟨D, left, m, k, t, rfl, hs, hl, lk, hk, b1, b2, h⟩ := h
  have hs' := hs
  have l2 : 2 ≤ sizeLine := by decide
  unfold Deal.pcs at h
  rcases hs with rfl | rfl | rfl
  all_goals
    simp [wpFn, startD, lockOf, outs, wipe, back, bindT, bindTs, peek, peeks, ats, setAll, light, lightAll, qI, rng_len, enum_len, c_pieces_there]
    refine ⟨D, left, _, rfl, hs', hl, lk, ?_⟩
    simp [wpFn, startD, lockOf, outs, wipe, back, bindT, bindTs, peek, peeks, ats, setAll, light, lightAll, qI, rng_len, enum_len, ixGsI hk]
    refine ⟨_, _, rfl, by omega, ?_⟩
    simp [wpFn, startD, lockOf, outs, wipe, back, bindT, bindTs, peek, peeks, ats, setAll, light, lightAll, qI, rng_len, enum_len, l2]
    refine ⟨_, _, rfl, by omega, ?_⟩
    simp [wpFn, startD, lockOf, outs, wipe, back, bindT, bindTs, peek, peeks, ats, setAll, light, lightAll, qI, rng_len, enum_len, l2]
    refine ⟨_, _, rfl, ?_⟩
    simpa [wpFn, startD, lockOf, outs, wipe, back, bindT, bindTs, peek, peeks, ats, setAll, light, lightAll, qI, rng_len, enum_len, nI] using h
def sp_pieces : Spec := fun ms Kc _ => ∃ (D : Deal) (left : List Nat) (k : Nat) (o : Option Int), ms = [.p D.d, .p (.tuple (left.map nI)), .p (.str (D.g k).nm), .p (optD o)] ∧ D.ok ∧ leftOk D left ∧ k ∈ left ∧
  D.gain left + D.lent o < 2 ^ 62 ∧ D.gain left + D.lent o - (D.g k).worth + (D.g k).cost < 2 ^ 62 ∧ Kc (.p (optD (D.pcs left k (D.lent o)))) ms
theorem h_pieces (ms : List M) (Kc : M → List M → Prop) (h : sp_pieces ms Kc (fun _ _ => False)) : wpFn [sp_need_deal, sp_need_left, sp_numbers_by, sp_pieces_there, sp_trust_asked] 5 c_pieces ms Kc (fun _ _ => False) := by
  obtain ⟨D, left, k, o, rfl, ok, lok, hk, b1, b2, h⟩ := h
  have kg := kget_nums (nms_un ok.topg lok) hk
  simp [wpFn, startD, lockOf, outs, wipe, back, bindT, bindTs, peek, peeks, ats, setAll, light, lightAll, qI, rng_len, enum_len, c_pieces]
  refine ⟨D, rfl, ok, ?_⟩
  simp [wpFn, startD, lockOf, outs, wipe, back, bindT, bindTs, peek, peeks, ats, setAll, light, lightAll, qI, rng_len, enum_len]
  refine ⟨D, left, rfl, ok, lok, ?_⟩
  simp [wpFn, startD, lockOf, outs, wipe, back, bindT, bindTs, peek, peeks, ats, setAll, light, lightAll, qI, rng_len, enum_len]
  refine ⟨D, left, _, rfl, .inr (.inl rfl), ok.topg, lok, ?_⟩
  simp [wpFn, startD, lockOf, outs, wipe, back, bindT, bindTs, peek, peeks, ats, setAll, light, lightAll, qI, rng_len, enum_len, isiM, isiS, M.kn, inM, keyOf, kg]
  refine ⟨D, o, rfl, ok.p.hi, ?_⟩
  simp [wpFn, startD, lockOf, outs, wipe, back, bindT, bindTs, peek, peeks, ats, setAll, light, lightAll, qI, rng_len, enum_len, kg]
  refine ⟨D, left, _, k, _, rfl, .inr (.inl rfl), lok.le ok.g.hi, lok.1, lok.1 k hk, b1, b2, ?_⟩
  simpa [wpFn, startD, lockOf, outs, wipe, back, bindT, bindTs, peek, peeks, ats, setAll, light, lightAll, qI, rng_len, enum_len] using h
end Q.S
set_option Elab.async false
set_option linter.all false
set_option maxRecDepth 100000
set_option maxHeartbeats 2000000
/-! K50A: the law's scopes, and that the codes stand for its text. -/
namespace Q.K50
open PySem PySem.Spec PyProof.Rows L2 Q Q.S
def top (i : Nat) : Stmt := PySem.Challenge.pw_staybonds_k50_pieces_walked.main.body.getD i (.Pass ⟨0, 0, 0, 0⟩)
def N_is_number : List Str := ["thing"]
def E_is_number : SE := ⟨N_is_number, [], []⟩
theorem k_is_number : chkB E_is_number c_is_number (defScope (top 10)) (defBody (top 10)) = true := by decide +kernel
theorem f_is_number : FnScope N_is_number ["thing"] (defScope (top 10)) := ⟨rfl, rfl, rfl, by decide +kernel, rfl, by decide +kernel, by decide +kernel⟩
def N_is_coins : List Str := ["thing", "least"]
def E_is_coins : SE := ⟨N_is_coins, [("is_number", 1, [])], []⟩
theorem k_is_coins : chkB E_is_coins c_is_coins (defScope (top 11)) (defBody (top 11)) = true := by decide +kernel
theorem f_is_coins : FnScope N_is_coins ["thing", "least"] (defScope (top 11)) := ⟨rfl, rfl, rfl, by decide +kernel, rfl, by decide +kernel, by decide +kernel⟩
def N_is_among : List Str := ["thing", "many"]
def E_is_among : SE := ⟨N_is_among, [("is_number", 1, [])], []⟩
theorem k_is_among : chkB E_is_among c_is_among (defScope (top 12)) (defBody (top 12)) = true := by decide +kernel
theorem f_is_among : FnScope N_is_among ["thing", "many"] (defScope (top 12)) := ⟨rfl, rfl, rfl, by decide +kernel, rfl, by decide +kernel, by decide +kernel⟩
def N_is_name : List Str := ["thing", "sign"]
def E_is_name : SE := ⟨N_is_name, [], [("MOST_SIGNS", (.int 8)), ("LETTERS", (.str "abcdefghijklmnopqrstuvwxyz"))]⟩
theorem k_is_name : chkB E_is_name c_is_name (defScope (top 13)) (defBody (top 13)) = true := by decide +kernel
theorem f_is_name : FnScope N_is_name ["thing"] (defScope (top 13)) := ⟨rfl, rfl, rfl, by decide +kernel, rfl, by decide +kernel, by decide +kernel⟩
def N_is_party : List Str := ["thing"]
def E_is_party : SE := ⟨N_is_party, [("is_name", 1, []), ("is_coins", 1, [])], []⟩
theorem k_is_party : chkB E_is_party c_is_party (defScope (top 18)) (defBody (top 18)) = true := by decide +kernel
theorem f_is_party : FnScope N_is_party ["thing"] (defScope (top 18)) := ⟨rfl, rfl, rfl, by decide +kernel, rfl, by decide +kernel, by decide +kernel⟩
def N_is_good : List Str := ["thing", "one"]
def E_is_good : SE := ⟨N_is_good, [("is_name", 1, []), ("is_coins", 1, [])], []⟩
theorem k_is_good : chkB E_is_good c_is_good (defScope (top 19)) (defBody (top 19)) = true := by decide +kernel
theorem f_is_good : FnScope N_is_good ["thing"] (defScope (top 19)) := ⟨rfl, rfl, rfl, by decide +kernel, rfl, by decide +kernel, by decide +kernel⟩
def N_need_parties : List Str := ["thing", "ahead", "number", "one"]
def E_need_parties : SE := ⟨N_need_parties, [("is_party", 1, [])], [("LEAST_PARTIES", (.int 2)), ("MOST_PARTIES", (.int 6))]⟩
theorem k_need_parties : chkB E_need_parties c_need_parties (defScope (top 20)) (defBody (top 20)) = true := by decide +kernel
theorem f_need_parties : FnScope N_need_parties ["thing"] (defScope (top 20)) := ⟨rfl, rfl, rfl, by decide +kernel, rfl, by decide +kernel, by decide +kernel⟩
def N_need_goods : List Str := ["parties", "thing", "names", "ahead", "party", "number", "one"]
def E_need_goods : SE := ⟨N_need_goods, [("is_good", 1, [])], [("MOST_GOODS", (.int 60))]⟩
theorem k_need_goods : chkB E_need_goods c_need_goods (defScope (top 21)) (defBody (top 21)) = true := by decide +kernel
theorem f_need_goods : FnScope N_need_goods ["parties", "thing"] (defScope (top 21)) := ⟨rfl, rfl, rfl, by decide +kernel, rfl, by decide +kernel, by decide +kernel⟩
def N_need_shares : List Str := ["parties", "thing", "number", "one"]
def E_need_shares : SE := ⟨N_need_shares, [("is_number", 1, [])], []⟩
theorem k_need_shares : chkB E_need_shares c_need_shares (defScope (top 22)) (defBody (top 22)) = true := by decide +kernel
theorem f_need_shares : FnScope N_need_shares ["parties", "thing"] (defScope (top 22)) := ⟨rfl, rfl, rfl, by decide +kernel, rfl, by decide +kernel, by decide +kernel⟩
def N_need_deal : List Str := ["deal"]
def E_need_deal : SE := ⟨N_need_deal, [("need_parties", 1, []), ("need_goods", 2, []), ("need_shares", 2, [])], []⟩
theorem k_need_deal : chkB E_need_deal c_need_deal (defScope (top 23)) (defBody (top 23)) = true := by decide +kernel
theorem f_need_deal : FnScope N_need_deal ["deal"] (defScope (top 23)) := ⟨rfl, rfl, rfl, by decide +kernel, rfl, by decide +kernel, by decide +kernel⟩
def N_need_numbers : List Str := ["deal", "left", "one", "other"]
def E_need_numbers : SE := ⟨N_need_numbers, [("is_among", 1, ["many"])], []⟩
theorem k_need_numbers : chkB E_need_numbers c_need_numbers (defScope (top 24)) (defBody (top 24)) = true := by decide +kernel
theorem f_need_numbers : FnScope N_need_numbers ["deal", "left"] (defScope (top 24)) := ⟨rfl, rfl, rfl, by decide +kernel, rfl, by decide +kernel, by decide +kernel⟩
def N_need_left : List Str := ["deal", "left"]
def E_need_left : SE := ⟨N_need_left, [("need_deal", 1, []), ("need_numbers", 2, [])], []⟩
theorem k_need_left : chkB E_need_left c_need_left (defScope (top 25)) (defBody (top 25)) = true := by decide +kernel
theorem f_need_left : FnScope N_need_left ["deal", "left"] (defScope (top 25)) := ⟨rfl, rfl, rfl, by decide +kernel, rfl, by decide +kernel, by decide +kernel⟩
def N_gain_there : List Str := ["deal", "left", "number"]
def E_gain_there : SE := ⟨N_gain_there, [], []⟩
theorem k_gain_there : chkB E_gain_there c_gain_there (defScope (top 26)) (defBody (top 26)) = true := by decide +kernel
theorem f_gain_there : FnScope N_gain_there ["deal", "left"] (defScope (top 26)) := ⟨rfl, rfl, rfl, by decide +kernel, rfl, by decide +kernel, by decide +kernel⟩
def N_trust_there : List Str := ["deal", "party"]
def E_trust_there : SE := ⟨N_trust_there, [], []⟩
theorem k_trust_there : chkB E_trust_there c_trust_there (defScope (top 27)) (defBody (top 27)) = true := by decide +kernel
theorem f_trust_there : FnScope N_trust_there ["deal"] (defScope (top 27)) := ⟨rfl, rfl, rfl, by decide +kernel, rfl, by decide +kernel, by decide +kernel⟩
def N_numbers_by : List Str := ["deal", "left", "number"]
def E_numbers_by : SE := ⟨N_numbers_by, [], []⟩
theorem k_numbers_by : chkB E_numbers_by c_numbers_by (defScope (top 29)) (defBody (top 29)) = true := by decide +kernel
theorem f_numbers_by : FnScope N_numbers_by ["deal", "left"] (defScope (top 29)) := ⟨rfl, rfl, rfl, by decide +kernel, rfl, by decide +kernel, by decide +kernel⟩
def N_trust_asked : List Str := ["deal", "trust"]
def E_trust_asked : SE := ⟨N_trust_asked, [("trust_there", 1, []), ("is_number", 1, [])], []⟩
theorem k_trust_asked : chkB E_trust_asked c_trust_asked (defScope (top 31)) (defBody (top 31)) = true := by decide +kernel
theorem f_trust_asked : FnScope N_trust_asked ["deal", "trust"] (defScope (top 31)) := ⟨rfl, rfl, rfl, by decide +kernel, rfl, by decide +kernel, by decide +kernel⟩
def N_times_wanted : List Str := ["whole", "part"]
def E_times_wanted : SE := ⟨N_times_wanted, [], []⟩
theorem k_times_wanted : chkB E_times_wanted c_times_wanted (defScope (top 33)) (defBody (top 33)) = true := by decide +kernel
theorem f_times_wanted : FnScope N_times_wanted ["whole", "part"] (defScope (top 33)) := ⟨rfl, rfl, rfl, by decide +kernel, rfl, by decide +kernel, by decide +kernel⟩
def N_most_of : List Str := ["numbers"]
def E_most_of : SE := ⟨N_most_of, [], []⟩
theorem k_most_of : chkB E_most_of c_most_of (defScope (top 34)) (defBody (top 34)) = true := by decide +kernel
theorem f_most_of : FnScope N_most_of ["numbers"] (defScope (top 34)) := ⟨rfl, rfl, rfl, by decide +kernel, rfl, by decide +kernel, by decide +kernel⟩
def N_pieces_there : List Str := ["deal", "left", "number", "trust", "room", "good"]
def E_pieces_there : SE := ⟨N_pieces_there, [("gain_there", 2, []), ("most_of", 1, []), ("times_wanted", 2, [])], []⟩
theorem k_pieces_there : chkB E_pieces_there c_pieces_there (defScope (top 35)) (defBody (top 35)) = true := by decide +kernel
theorem f_pieces_there : FnScope N_pieces_there ["deal", "left", "number", "trust"] (defScope (top 35)) := ⟨rfl, rfl, rfl, by decide +kernel, rfl, by decide +kernel, by decide +kernel⟩
def N_pieces : List Str := ["deal", "left", "name", "trust", "known"]
def E_pieces : SE := ⟨N_pieces, [("need_deal", 1, []), ("need_left", 2, []), ("numbers_by", 2, []), ("pieces_there", 4, []), ("trust_asked", 2, [])], []⟩
theorem k_pieces : chkB E_pieces c_pieces (defScope (top 36)) (defBody (top 36)) = true := by decide +kernel
theorem f_pieces : FnScope N_pieces ["deal", "left", "name", "trust"] (defScope (top 36)) := ⟨rfl, rfl, rfl, by decide +kernel, rfl, by decide +kernel, by decide +kernel⟩
def N__law_mixed : List Str := ["_law_cell", "_law_k", "_law_turned"]
def E__law_mixed : SE := ⟨N__law_mixed, [], []⟩
theorem k__law_mixed : chkB E__law_mixed c__law_mixed (defScope (top 38)) (defBody (top 38)) = true := by decide +kernel
theorem f__law_mixed : FnScope N__law_mixed ["_law_cell", "_law_k"] (defScope (top 38)) := ⟨rfl, rfl, rfl, by decide +kernel, rfl, by decide +kernel, by decide +kernel⟩
def N__law_folded : List Str := ["_law_script", "_law_found", "_law_k", "_law_cell"]
def E__law_folded : SE := ⟨N__law_folded, [], []⟩
theorem k__law_folded : chkB E__law_folded c__law_folded (defScope (top 39)) (defBody (top 39)) = true := by decide +kernel
theorem f__law_folded : FnScope N__law_folded ["_law_script"] (defScope (top 39)) := ⟨rfl, rfl, rfl, by decide +kernel, rfl, by decide +kernel, by decide +kernel⟩
def N__law_draw : List Str := ["_law_m", "_law_top", "_law_k", "_law_at", "_law_cell"]
def E__law_draw : SE := ⟨N__law_draw, [("_law_mixed", 2, [])], []⟩
theorem k__law_draw : chkB E__law_draw c__law_draw (defScope (top 40)) (defBody (top 40)) = true := by decide +kernel
theorem f__law_draw : FnScope N__law_draw ["_law_m", "_law_top"] (defScope (top 40)) := ⟨rfl, rfl, rfl, by decide +kernel, rfl, by decide +kernel, by decide +kernel⟩
def N__law_begun : List Str := ["_law_script", "_law_m", "_law_cell"]
def E__law_begun : SE := ⟨N__law_begun, [("_law_folded", 1, [])], []⟩
theorem k__law_begun : chkB E__law_begun c__law_begun (defScope (top 41)) (defBody (top 41)) = true := by decide +kernel
theorem f__law_begun : FnScope N__law_begun ["_law_script"] (defScope (top 41)) := ⟨rfl, rfl, rfl, by decide +kernel, rfl, by decide +kernel, by decide +kernel⟩
def N__law_called : List Str := ["_law_m", "_law_top", "_law_letters", "_law_found", "_law_shift", "_law_stride", "_law_ahead", "_law_k", "_law_way", "_law_at", "_law_ending", "_law_j"]
def E__law_called : SE := ⟨N__law_called, [("_law_draw", 2, [])], []⟩
theorem k__law_called : chkB E__law_called c__law_called (defScope (top 42)) (defBody (top 42)) = true := by decide +kernel
theorem f__law_called : FnScope N__law_called ["_law_m", "_law_top"] (defScope (top 42)) := ⟨rfl, rfl, rfl, by decide +kernel, rfl, by decide +kernel, by decide +kernel⟩
def N__law_amount : List Str := ["_law_m", "_law_some"]
def E__law_amount : SE := ⟨N__law_amount, [("_law_draw", 2, [])], []⟩
theorem k__law_amount : chkB E__law_amount c__law_amount (defScope (top 43)) (defBody (top 43)) = true := by decide +kernel
theorem f__law_amount : FnScope N__law_amount ["_law_m"] (defScope (top 43)) := ⟨rfl, rfl, rfl, by decide +kernel, rfl, by decide +kernel, by decide +kernel⟩
def N__law_split : List Str := ["_law_m", "_law_total", "_law_parts", "_law_found", "_law_k", "_law_at"]
def E__law_split : SE := ⟨N__law_split, [("_law_draw", 2, [])], []⟩
theorem k__law_split : chkB E__law_split c__law_split (defScope (top 44)) (defBody (top 44)) = true := by decide +kernel
theorem f__law_split : FnScope N__law_split ["_law_m", "_law_total", "_law_parts"] (defScope (top 44)) := ⟨rfl, rfl, rfl, by decide +kernel, rfl, by decide +kernel, by decide +kernel⟩
def N__law_goods : List Str := ["_law_m", "_law_w", "_law_who", "_law_top", "_law_found", "_law_one_way", "_law_kind", "_law_k", "_law_at", "_law_far", "_law_cost", "_law_worth", "_law_called_here"]
def E__law_goods : SE := ⟨N__law_goods, [("_law_draw", 2, []), ("_law_amount", 1, [])], []⟩
theorem k__law_goods : chkB E__law_goods c__law_goods (defScope (top 45)) (defBody (top 45)) = true := by decide +kernel
theorem f__law_goods : FnScope N__law_goods ["_law_m", "_law_w", "_law_who", "_law_top"] (defScope (top 45)) := ⟨rfl, rfl, rfl, by decide +kernel, rfl, by decide +kernel, by decide +kernel⟩
def N__law_gain : List Str := ["_law_own", "_law_rest_here", "_law_k"]
def E__law_gain : SE := ⟨N__law_gain, [], []⟩
theorem k__law_gain : chkB E__law_gain c__law_gain (defScope (top 46)) (defBody (top 46)) = true := by decide +kernel
theorem f__law_gain : FnScope N__law_gain ["_law_own", "_law_rest_here"] (defScope (top 46)) := ⟨rfl, rfl, rfl, by decide +kernel, rfl, by decide +kernel, by decide +kernel⟩
def N__law_bonds : List Str := ["_law_own", "_law_one"]
def E__law_bonds : SE := ⟨N__law_bonds, [], []⟩
theorem k__law_bonds : chkB E__law_bonds c__law_bonds (defScope (top 47)) (defBody (top 47)) = true := by decide +kernel
theorem f__law_bonds : FnScope N__law_bonds ["_law_own"] (defScope (top 47)) := ⟨rfl, rfl, rfl, by decide +kernel, rfl, by decide +kernel, by decide +kernel⟩
def N__law_own_gains : List Str := ["_law_own", "_law_rest_here", "_law_found", "_law_called_here", "_law_bond", "_law_took", "_law_k"]
def E__law_own_gains : SE := ⟨N__law_own_gains, [], []⟩
theorem k__law_own_gains : chkB E__law_own_gains c__law_own_gains (defScope (top 48)) (defBody (top 48)) = true := by decide +kernel
theorem f__law_own_gains : FnScope N__law_own_gains ["_law_own", "_law_rest_here"] (defScope (top 48)) := ⟨rfl, rfl, rfl, by decide +kernel, rfl, by decide +kernel, by decide +kernel⟩
def N__law_sorted : List Str := ["_law_own", "_law_rest_here", "_law_costly", "_law_k", "_law_others", "_law_row"]
def E__law_sorted : SE := ⟨N__law_sorted, [], []⟩
theorem k__law_sorted : chkB E__law_sorted c__law_sorted (defScope (top 49)) (defBody (top 49)) = true := by decide +kernel
theorem f__law_sorted : FnScope N__law_sorted ["_law_own", "_law_rest_here"] (defScope (top 49)) := ⟨rfl, rfl, rfl, by decide +kernel, rfl, by decide +kernel, by decide +kernel⟩
def N__law_needed : List Str := ["_law_own", "_law_row", "_law_found", "_law_gain_here", "_law_k"]
def E__law_needed : SE := ⟨N__law_needed, [("_law_gain", 2, [])], []⟩
theorem k__law_needed : chkB E__law_needed c__law_needed (defScope (top 50)) (defBody (top 50)) = true := by decide +kernel
theorem f__law_needed : FnScope N__law_needed ["_law_own", "_law_row"] (defScope (top 50)) := ⟨rfl, rfl, rfl, by decide +kernel, rfl, by decide +kernel, by decide +kernel⟩
def N__law_need_of : List Str := ["_law_own", "_law_rest_here", "_law_found"]
def E__law_need_of : SE := ⟨N__law_need_of, [("_law_needed", 2, []), ("_law_sorted", 2, [])], []⟩
theorem k__law_need_of : chkB E__law_need_of c__law_need_of (defScope (top 51)) (defBody (top 51)) = true := by decide +kernel
theorem f__law_need_of : FnScope N__law_need_of ["_law_own", "_law_rest_here"] (defScope (top 51)) := ⟨rfl, rfl, rfl, by decide +kernel, rfl, by decide +kernel, by decide +kernel⟩
def N__law_dues : List Str := ["_law_m", "_law_own", "_law_rest_here", "_law_room", "_law_parts", "_law_gains", "_law_part", "_law_one", "_law_gain_here"]
def E__law_dues : SE := ⟨N__law_dues, [("_law_gain", 2, []), ("_law_bonds", 1, []), ("_law_split", 3, []), ("_law_own_gains", 2, [])], []⟩
theorem k__law_dues : chkB E__law_dues c__law_dues (defScope (top 52)) (defBody (top 52)) = true := by decide +kernel
theorem f__law_dues : FnScope N__law_dues ["_law_m", "_law_own", "_law_rest_here"] (defScope (top 52)) := ⟨rfl, rfl, rfl, by decide +kernel, rfl, by decide +kernel, by decide +kernel⟩
def N__law_deal_of : List Str := ["_law_m", "_law_who", "_law_goods_here", "_law_bare", "_law_one", "_law_due", "_law_total", "_law_bonds_there", "_law_own", "_law_bond"]
def E__law_deal_of : SE := ⟨N__law_deal_of, [("_law_need_of", 2, []), ("_law_draw", 2, []), ("_law_split", 3, []), ("_law_dues", 3, [])], []⟩
theorem k__law_deal_of : chkB E__law_deal_of c__law_deal_of (defScope (top 53)) (defBody (top 53)) = true := by decide +kernel
theorem f__law_deal_of : FnScope N__law_deal_of ["_law_m", "_law_who", "_law_goods_here"] (defScope (top 53)) := ⟨rfl, rfl, rfl, by decide +kernel, rfl, by decide +kernel, by decide +kernel⟩
def N__law_any : List Str := ["_law_m", "_law_w", "_law_most", "_law_top", "_law_who"]
def E__law_any : SE := ⟨N__law_any, [("_law_draw", 2, []), ("_law_deal_of", 3, []), ("_law_goods", 4, [])], []⟩
theorem k__law_any : chkB E__law_any c__law_any (defScope (top 54)) (defBody (top 54)) = true := by decide +kernel
theorem f__law_any : FnScope N__law_any ["_law_m", "_law_w", "_law_most", "_law_top"] (defScope (top 54)) := ⟨rfl, rfl, rfl, by decide +kernel, rfl, by decide +kernel, by decide +kernel⟩
def N__law_rest : List Str := ["_law_m", "_law_own", "_law_way", "_law_k"]
def E__law_rest : SE := ⟨N__law_rest, [("_law_draw", 2, [])], []⟩
theorem k__law_rest : chkB E__law_rest c__law_rest (defScope (top 55)) (defBody (top 55)) = true := by decide +kernel
theorem f__law_rest : FnScope N__law_rest ["_law_m", "_law_own"] (defScope (top 55)) := ⟨rfl, rfl, rfl, by decide +kernel, rfl, by decide +kernel, by decide +kernel⟩
def N__law_walked : List Str := ["_law_own", "_law_rest_here", "_law_k", "_law_by", "_law_top", "_law_cost", "_law_worth", "_law_room", "_law_turn"]
def E__law_walked : SE := ⟨N__law_walked, [("_law_gain", 2, [])], []⟩
def b1__law_walked : S := (.cons (.ife (.tv (.cmp .gt (.v 6) (.v 7))) (.cons (.ret (.k (.bool false)))
  .nil) .nil)
  (.cons (.set 7 (.bin .add (.bin .sub (.v 7) (.v 6)) (.v 5)))
  .nil))
def c__law_walked : S := (.cons (.par [5, 6] (.cons (.ix (.ix (.ix (.v 0) (.k (.int 1))) (.v 2)) (.k (.int 3))) (.cons (.ix (.ix (.ix (.v 0) (.k (.int 1))) (.v 2)) (.k (.int 4))) .nil)))
  (.cons (.set 7 (.bin .mul (.bin .add (.call 0 (.cons (.v 0) (.cons (.v 1) .nil)) .nil) (.v 3)) (.v 4)))
  (.cons (.forS (.n 8) (.rng (.cons (.v 4) .nil)) b1__law_walked)
  (.cons (.ret (.k (.bool true)))
  .nil))))
theorem k__law_walked : chkB E__law_walked c__law_walked (defScope (top 56)) (defBody (top 56)) = true := by decide +kernel
theorem f__law_walked : FnScope N__law_walked ["_law_own", "_law_rest_here", "_law_k", "_law_by", "_law_top"] (defScope (top 56)) := ⟨rfl, rfl, rfl, by decide +kernel, rfl, by decide +kernel, by decide +kernel⟩
def N__law_ends : List Str := ["_law_own", "_law_rest_here", "_law_k", "_law_by", "_law_top", "_law_cost", "_law_worth", "_law_room"]
def E__law_ends : SE := ⟨N__law_ends, [("_law_gain", 2, [])], []⟩
def c__law_ends : S := (.cons (.par [5, 6] (.cons (.ix (.ix (.ix (.v 0) (.k (.int 1))) (.v 2)) (.k (.int 3))) (.cons (.ix (.ix (.ix (.v 0) (.k (.int 1))) (.v 2)) (.k (.int 4))) .nil)))
  (.cons (.set 7 (.bin .mul (.bin .add (.call 0 (.cons (.v 0) (.cons (.v 1) .nil)) .nil) (.v 3)) (.v 4)))
  (.cons (.ret (.and (.cons (.cmp .le (.v 6) (.v 7)) (.cons (.cmp .le (.v 6) (.bin .sub (.v 7) (.bin .mul (.bin .sub (.v 6) (.v 5)) (.bin .sub (.v 4) (.k (.int 1)))))) .nil))))
  .nil)))
theorem k__law_ends : chkB E__law_ends c__law_ends (defScope (top 57)) (defBody (top 57)) = true := by decide +kernel
theorem f__law_ends : FnScope N__law_ends ["_law_own", "_law_rest_here", "_law_k", "_law_by", "_law_top"] (defScope (top 57)) := ⟨rfl, rfl, rfl, by decide +kernel, rfl, by decide +kernel, by decide +kernel⟩
def N__law_few : List Str := ["_law_own", "_law_rest_here", "_law_k", "_law_by", "_law_top"]
def E__law_few : SE := ⟨N__law_few, [("_law_walked", 5, [])], []⟩
def b1__law_few : S := (.cons (.ife (.tv (.call 0 (.cons (.v 0) (.cons (.v 1) (.cons (.v 2) (.cons (.v 3) (.cons (.v 4) .nil))))) .nil)) (.cons (.ret (.v 4))
  .nil) .nil)
  .nil)
def c__law_few : S := (.cons (.forS (.n 4) (.rng (.cons (.k (.int 1)) (.cons (.k (.int 61)) .nil))) b1__law_few)
  (.cons (.ret (.k (.int 0)))
  .nil))
theorem k__law_few : chkB E__law_few c__law_few (defScope (top 58)) (defBody (top 58)) = true := by decide +kernel
theorem f__law_few : FnScope N__law_few ["_law_own", "_law_rest_here", "_law_k", "_law_by"] (defScope (top 58)) := ⟨rfl, rfl, rfl, by decide +kernel, rfl, by decide +kernel, by decide +kernel⟩
def N__law_trusts : List Str := ["_law_m", "_law_own", "_law_rest_here", "_law_k", "_law_cost", "_law_worth", "_law_gain_here", "_law_lean", "_law_found"]
def E__law_trusts : SE := ⟨N__law_trusts, [("_law_gain", 2, []), ("_law_draw", 2, [])], []⟩
def c__law_trusts : S := (.cons (.par [4, 5, 6] (.cons (.ix (.ix (.ix (.v 1) (.k (.int 1))) (.v 3)) (.k (.int 3))) (.cons (.ix (.ix (.ix (.v 1) (.k (.int 1))) (.v 3)) (.k (.int 4))) (.cons (.call 0 (.cons (.v 1) (.cons (.v 2) .nil)) .nil) .nil))))
  (.cons (.set 7 (.ix (.lst (.cons (.k (.int 0)) (.cons (.k (.int 1)) (.cons (.bin .add (.k (.int 1)) (.call 1 (.cons (.v 0) (.cons (.k (.int 9)) .nil)) .nil)) (.cons (.bin .fdiv (.bi .max (.cons (.v 4) (.cons (.v 5) .nil))) (.bin .add (.k (.int 1)) (.call 1 (.cons (.v 0) (.cons (.k (.int 70)) .nil)) .nil))) (.cons (.v 5) (.cons (.v 4) .nil))))))) (.call 1 (.cons (.v 0) (.cons (.k (.int 6)) .nil)) .nil)))
  (.cons (.set 8 (.lst (.cons (.k .none) (.cons (.bin .sub (.v 7) (.v 6)) (.cons (.bin .sub (.bin .add (.bin .sub (.v 7) (.v 6)) (.v 5)) (.v 4)) (.cons (.bin .sub (.v 5) (.v 6)) (.cons (.bin .sub (.bin .sub (.v 5) (.v 6)) (.k (.int 1))) (.cons (.bin .pow (.k (.int 10)) (.k (.int 13))) (.cons (.bin .sub (.k (.int 0)) (.bin .pow (.k (.int 10)) (.k (.int 13)))) .nil)))))))))
  (.cons (.ret (.bin .add (.v 8) (.lst (.cons (.bin .add (.bin .sub (.v 7) (.v 6)) (.ix (.lst (.cons (.k (.int 1)) (.cons (.bin .sub (.k (.int 0)) (.k (.int 1))) .nil))) (.call 1 (.cons (.v 0) (.cons (.k (.int 2)) .nil)) .nil))) (.cons (.bin .sub (.bin .fdiv (.v 5) (.bin .add (.k (.int 1)) (.call 1 (.cons (.v 0) (.cons (.k (.int 70)) .nil)) .nil))) (.v 6)) .nil)))))
  .nil))))
theorem k__law_trusts : chkB E__law_trusts c__law_trusts (defScope (top 59)) (defBody (top 59)) = true := by decide +kernel
theorem f__law_trusts : FnScope N__law_trusts ["_law_m", "_law_own", "_law_rest_here", "_law_k"] (defScope (top 59)) := ⟨rfl, rfl, rfl, by decide +kernel, rfl, by decide +kernel, by decide +kernel⟩
def N__law_right : List Str := ["_law_own", "_law_rest_here", "_law_k", "_law_by", "_law_called_here", "_law_lent", "_law_told", "_law_first", "_law_due"]
def E__law_right : SE := ⟨N__law_right, [("_law_bonds", 1, []), ("pieces", 3, ["trust"]), ("pieces", 0, ["name", "left", "trust", "deal"]), ("pieces", 3, []), ("_law_few", 4, []), ("_law_ends", 5, [])], []⟩
def c__law_right : S := (.cons (.par [4, 5] (.cons (.ix (.ix (.ix (.v 0) (.k (.int 1))) (.v 2)) (.k (.int 0))) (.cons (.ite (.tv (.cmp .is (.v 3) (.k .none))) (.call 0 (.cons (.v 0) .nil) .nil) (.v 3)) .nil)))
  (.cons (.set 6 (.lst (.cons (.call 1 (.cons (.v 0) (.cons (.v 1) (.cons (.v 4) .nil))) (.cons (.v 3) .nil)) (.cons (.call 2 .nil (.cons (.v 4) (.cons (.v 1) (.cons (.v 3) (.cons (.v 0) .nil))))) .nil))))
  (.cons (.ex (.mu .append 6 (.cons (.ite (.tv (.cmp .is (.v 3) (.k .none))) (.call 3 (.cons (.v 0) (.cons (.v 1) (.cons (.v 4) .nil))) .nil) (.call 1 (.cons (.v 0) (.cons (.v 1) (.cons (.v 4) .nil))) (.cons (.v 5) .nil))) .nil)))
  (.cons (.par [7, 8] (.cons (.ix (.v 6) (.k (.int 0))) (.cons (.call 4 (.cons (.v 0) (.cons (.v 1) (.cons (.v 2) (.cons (.v 5) .nil)))) .nil) .nil)))
  (.cons (.ife (.tv (.cmp .ne (.bi .repr (.cons (.v 6) .nil)) (.bi .repr (.cons (.bin .mul (.lst (.cons (.v 7) .nil)) (.k (.int 3))) .nil)))) (.cons (.ret (.k (.bool false)))
  .nil) .nil)
  (.cons (.ife (.tv (.cmp .gt (.v 8) (.k (.int 0)))) (.cons (.ret (.cmp .eq (.bi .repr (.cons (.v 7) .nil)) (.bi .repr (.cons (.v 8) .nil))))
  .nil) .nil)
  (.cons (.ife (.tv (.cmp .is (.v 7) (.k .none))) (.cons (.ret (.not (.call 5 (.cons (.v 0) (.cons (.v 1) (.cons (.v 2) (.cons (.v 5) (.cons (.bin .pow (.k (.int 10)) (.k (.int 40))) .nil))))) .nil)))
  .nil) .nil)
  (.cons (.ife (.or (.cons (.tv (.isi (.v 7) "bool")) (.cons (.not (.tv (.isi (.v 7) "int"))) (.cons (.tv (.cmp .lt (.v 7) (.k (.int 61)))) .nil)))) (.cons (.ret (.k (.bool false)))
  .nil) .nil)
  (.cons (.ret (.and (.cons (.call 5 (.cons (.v 0) (.cons (.v 1) (.cons (.v 2) (.cons (.v 5) (.cons (.v 7) .nil))))) .nil) (.cons (.not (.call 5 (.cons (.v 0) (.cons (.v 1) (.cons (.v 2) (.cons (.v 5) (.cons (.bin .sub (.v 7) (.k (.int 1))) .nil))))) .nil)) .nil))))
  .nil)))))))))
theorem k__law_right : chkB E__law_right c__law_right (defScope (top 60)) (defBody (top 60)) = true := by decide +kernel
theorem f__law_right : FnScope N__law_right ["_law_own", "_law_rest_here", "_law_k", "_law_by"] (defScope (top 60)) := ⟨rfl, rfl, rfl, by decide +kernel, rfl, by decide +kernel, by decide +kernel⟩
def N_law : List Str := ["_law_script", "_law_m", "_law_turn", "_law_w", "_law_own", "_law_rest_here", "_law_k", "_law_by"]
def E_law : SE := ⟨N_law, [("_law_begun", 1, []), ("_law_called", 2, []), ("_law_any", 4, []), ("_law_draw", 2, []), ("_law_rest", 2, []), ("_law_trusts", 4, []), ("_law_right", 4, [])], []⟩
def b1_law : S := (.cons (.ife (.not (.tv (.call 6 (.cons (.v 4) (.cons (.v 5) (.cons (.v 6) (.cons (.v 7) .nil)))) .nil))) (.cons (.ret (.k (.bool false)))
  .nil) .nil)
  .nil)
def b2_law : S := (.cons (.forS (.n 7) (.sv (.call 5 (.cons (.v 1) (.cons (.v 4) (.cons (.v 5) (.cons (.v 6) .nil)))) .nil)) b1_law)
  .nil)
def b3_law : S := (.cons (.set 3 (.call 1 (.cons (.v 1) (.cons (.k (.int 70)) .nil)) .nil))
  (.cons (.set 4 (.call 2 (.cons (.v 1) (.cons (.v 3) (.cons (.k (.int 4)) (.cons (.ite (.tv (.cmp .eq (.call 3 (.cons (.v 1) (.cons (.k (.int 6)) .nil)) .nil) (.k (.int 0)))) (.k (.int 60)) (.k (.int 5))) .nil)))) .nil))
  (.cons (.set 5 (.call 4 (.cons (.v 1) (.cons (.v 4) .nil)) .nil))
  (.cons (.forS (.n 6) (.sv (.ite (.tv (.cmp .lt (.bi .len (.cons (.v 5) .nil)) (.k (.int 6)))) (.v 5) (.bin .add (.sl (.v 5) .nil (.cons (.k (.int 2)) .nil)) (.sl (.v 5) (.cons (.neg (.k (.int 2))) .nil) .nil)))) b2_law)
  .nil))))
def c_law : S := (.cons (.set 1 (.call 0 (.cons (.v 0) .nil) .nil))
  (.cons (.forS (.n 2) (.rng (.cons (.bin .add (.k (.int 1)) (.bi .min (.cons (.k (.int 5)) (.cons (.bi .len (.cons (.v 0) .nil)) .nil)))) .nil)) b3_law)
  (.cons (.ret (.k (.bool true)))
  .nil)))
theorem k_law : chkB E_law c_law (defScope (top 61)) (defBody (top 61)) = true := by decide +kernel
theorem f_law : FnScope N_law ["_law_script"] (defScope (top 61)) := ⟨rfl, rfl, rfl, by decide +kernel, rfl, by decide +kernel, by decide +kernel⟩
end Q.K50
set_option Elab.async false
set_option linter.all false
set_option maxRecDepth 100000
set_option maxHeartbeats 4000000
/-! K50B: the law's walk over pieces. -/
namespace Q.K50
open PySem PySem.Spec PyProof.Rows L2 Q Q.S
/-- a good goes in n pieces: the first and the last of them -/
def endsB (w c r n : Int) : Bool := decide (w ≤ r * n) && decide (w ≤ r * n - (w - c) * (n - 1))
theorem ends_iff {w c r n : Int} : endsB w c r n = true ↔ w ≤ r * n ∧ w ≤ r * n - (w - c) * (n - 1) := by
  simp [endsB]
theorem ends_mid {w c r n i : Int} (h : endsB w c r n = true) (i0 : 0 ≤ i) (i1 : i ≤ n - 1) : w ≤ r * n - i * (w - c) := by
  obtain ⟨h1, h2⟩ := ends_iff.mp h
  rcases Int.le_total 0 (w - c) with q | q
  · have := Int.mul_le_mul_of_nonneg_right i1 q
    rw [Int.mul_comm (w - c) (n - 1)] at h2
    omega
  · have := Int.mul_nonpos_of_nonneg_of_nonpos i0 q
    omega
theorem tw_iff {w p n : Int} (w0 : 0 ≤ w) (n1 : 1 ≤ n) : w ≤ p * n ↔ ∃ q, tw w p = some q ∧ q ≤ n := by
  unfold tw
  by_cases hp : 0 < p
  · have e : -n ≤ -w / p ↔ -n * p ≤ -w := Int.le_ediv_iff_mul_le hp
    have e2 : -n * p = -(p * n) := by rw [Int.neg_mul, Int.mul_comm]
    rw [if_pos hp]
    constructor
    · intro h
      refine ⟨_, rfl, ?_⟩
      have := e.mpr (by omega)
      split <;> omega
    · rintro ⟨q, hq, hn⟩
      cases hq
      have : -n ≤ -w / p := by
        split at hn <;> omega
      have := e.mp this
      omega
  · rw [if_neg hp]
    by_cases h : w = 0 ∧ p = 0
    · obtain ⟨rfl, rfl⟩ := h
      simp
      exact n1
    · rw [if_neg h]
      constructor
      · intro h2
        exfalso
        have : p * n ≤ 0 := Int.mul_nonpos_of_nonpos_of_nonneg (by omega) (by omega)
        have hw : w = 0 := by omega
        have hpn : p * n = 0 := by omega
        rcases Int.mul_eq_zero.mp hpn with q | q
        · exact h ⟨hw, q⟩
        · omega
      · rintro ⟨q, hq, _⟩
        cases hq
theorem tw_pos {w p q : Int} (h : tw w p = some q) : 1 ≤ q := by
  unfold tw at h
  split at h
  · cases h
    split <;> omega
  · split at h
    · cases h; omega
    · cases h
theorem pcs_iff {w c r n : Int} (w0 : 0 ≤ w) (c0 : 0 ≤ c) (n1 : 1 ≤ n) : endsB w c r n = true ↔ ∃ q, most2 (tw w r) (tw c (r - w + c)) = some q ∧ q ≤ n := by
  rw [ends_iff, tw_iff w0 n1]
  have e : w ≤ r * n - (w - c) * (n - 1) ↔ c ≤ (r - w + c) * n := by
    have e1 : (w - c) * (n - 1) = (w - c) * n - (w - c) := by rw [Int.mul_sub, Int.mul_one]
    have e2 : (r - w + c) * n = r * n - (w - c) * n := by rw [← Int.sub_mul]; congr 1; omega
    omega
  rw [e, tw_iff c0 n1]
  constructor
  · rintro ⟨⟨a, ha, la⟩, b, hb, lb⟩
    refine ⟨max a b, by rw [ha, hb]; rfl, by omega⟩
  · rintro ⟨q, hq, hn⟩
    cases h1 : tw w r with
    | none => rw [h1] at hq; cases hq
    | some a =>
      cases h2 : tw c (r - w + c) with
      | none => rw [h1, h2] at hq; cases hq
      | some b =>
        rw [h1, h2] at hq
        cases hq
        exact ⟨⟨a, rfl, by omega⟩, b, rfl, by omega⟩
theorem pcs_pos {w c r q : Int} (h : most2 (tw w r) (tw c (r - w + c)) = some q) : 1 ≤ q := by
  cases h1 : tw w r with
  | none => rw [h1] at h; cases h
  | some a =>
    cases h2 : tw c (r - w + c) with
    | none => rw [h1, h2] at h; cases h
    | some b =>
      rw [h1, h2] at h
      cases h
      have := tw_pos h1
      omega
/-- what the walks tell -/
def Few (w c r d : Int) : Prop := (1 ≤ d ∧ d ≤ 60 ∧ endsB w c r d = true ∧ ∀ j, 1 ≤ j → j < d → endsB w c r j = false) ∨ (d = 0 ∧ ∀ j, 1 ≤ j → j ≤ 60 → endsB w c r j = false)
theorem few_some {w c r d : Int} (w0 : 0 ≤ w) (c0 : 0 ≤ c) (h : Few w c r d) (hd : 0 < d) : most2 (tw w r) (tw c (r - w + c)) = some d := by
  rcases h with ⟨d1, d2, he, hm⟩ | ⟨e, _⟩
  · obtain ⟨q, hq, hn⟩ := (pcs_iff w0 c0 d1).mp he
    have q1 := pcs_pos hq
    have : ¬ q < d := fun hlt => by
      have := hm q q1 hlt
      rw [(pcs_iff w0 c0 q1).mpr ⟨q, hq, Int.le_refl _⟩] at this
      cases this
    rw [hq]
    congr 1
    omega
  · omega
theorem few_none {w c r d : Int} (w0 : 0 ≤ w) (c0 : 0 ≤ c) (h : Few w c r d) (hd : ¬ 0 < d) {q : Int} (hq : most2 (tw w r) (tw c (r - w + c)) = some q) : 61 ≤ q ∧ endsB w c r q = true ∧ endsB w c r (q - 1) = false := by
  have q1 := pcs_pos hq
  have hqe := (pcs_iff w0 c0 q1).mpr ⟨q, hq, Int.le_refl _⟩
  rcases h with ⟨d1, _⟩ | ⟨_, hm⟩
  · omega
  · have h61 : 61 ≤ q := by
      refine Int.not_lt.mp fun hlt => ?_
      rw [hm q q1 (by omega)] at hqe
      cases hqe
    refine ⟨h61, hqe, ?_⟩
    refine Bool.eq_false_iff.mpr fun he => ?_
    obtain ⟨q', hq', hn⟩ := (pcs_iff w0 c0 (by omega)).mp he
    rw [hq] at hq'
    cases hq'
    omega
theorem ends_never {w c r n : Int} (w0 : 0 ≤ w) (c0 : 0 ≤ c) (n1 : 1 ≤ n) (hq : most2 (tw w r) (tw c (r - w + c)) = none) : endsB w c r n = false := by
  refine Bool.eq_false_iff.mpr fun he => ?_
  obtain ⟨q', hq', _⟩ := (pcs_iff w0 c0 n1).mp he
  rw [hq] at hq'
  cases hq'
/-! ### the walks -/
abbrev wk (D : Deal) (left : List Nat) (k : Nat) (t n : Int) : List M := [.p D.d, .p (.tuple (left.map nI)), .p (nI k), .p (.int t), .p (.int n)]
def Deal.eB (D : Deal) (left : List Nat) (k : Nat) (t n : Int) : Bool := endsB (D.g k).worth (D.g k).cost (D.gain left + t) n
def sp__law_walked : Spec := fun ms Kc _ => ∃ (D : Deal) (left : List Nat) (k : Nat) (t n : Int), ms = wk D left k t n ∧ left.length ≤ 1000 ∧ (∀ k ∈ left, k < D.gs.length) ∧ k < D.gs.length ∧ 1 ≤ n ∧ n ≤ 100 ∧ Kc (.p (.bool (Deal.eB D left k t n))) ms
theorem h__law_walked (ms : List M) (Kc : M → List M → Prop) (h : sp__law_walked ms Kc (fun _ _ => False)) : wpFn [sp__law_gain] 9 c__law_walked ms Kc (fun _ _ => False) := by
  obtain ⟨D, left, k, t, n, rfl, hl, lk, hk, n1, n2, h⟩ := h
  have mk : mulOk (D.gain left + t) n := mulR (by omega)
  simp [wpFn, startD, lockOf, outs, wipe, back, bindT, bindTs, peek, peeks, ats, setAll, light, lightAll, qI, rng_len, enum_len, c__law_walked, ixGsI hk]
  refine ⟨D, left, _, rfl, .inr (.inl rfl), hl, lk, ?_⟩
  simp [wpFn, startD, lockOf, outs, wipe, back, bindT, bindTs, peek, peeks, ats, setAll, light, lightAll, qI, rng_len, enum_len, mk, rng_nat]
  refine ⟨by omega, forLoop_pp nI (List.range n.toNat) (fun pre δ => (∀ i : Int, 0 ≤ i → i < pre.length → (D.g k).worth ≤ (D.gain left + t) * n - i * ((D.g k).worth - (D.g k).cost)) ∧ ∃ a, δ = [some (M.p D.d), some (.p (.tuple (left.map nI))), some (.p (nI k)), some (.p (.int t)), some (.p (.int n)), some (.p (.int (D.g k).cost)), some (.p (.int (D.g k).worth)), some (.p (.int ((D.gain left + t) * n - pre.length * ((D.g k).worth - (D.g k).cost)))), a]) ?_ ?_ ⟨fun i i0 i1 => by simp at i1; omega, none, by simp⟩⟩
  · rintro pre j post δ N e ⟨hi, a, rfl⟩ hN
    obtain ⟨rfl, hj⟩ := range_at e
    refine ⟨gdOk_nil, ?_⟩
    by_cases hw : (D.g k).worth ≤ (D.gain left + t) * n - pre.length * ((D.g k).worth - (D.g k).cost)
    · have hw' : ¬ (D.gain left + t) * n - pre.length * ((D.g k).worth - (D.g k).cost) < (D.g k).worth := by omega
      simp [wpFn, startD, lockOf, outs, wipe, back, bindT, bindTs, peek, peeks, ats, setAll, light, lightAll, qI, rng_len, enum_len, b1__law_walked, hw']
      refine hN _ ⟨fun i i0 i1 => ?_, some (.p (nI pre.length)), ?_⟩
      · rw [List.length_append, List.length_singleton] at i1
        by_cases q : i = pre.length
        · rw [q]; exact hw
        · exact hi i i0 (by omega)
      · have : (D.gain left + t) * n - pre.length * ((D.g k).worth - (D.g k).cost) - (D.g k).worth + (D.g k).cost = (D.gain left + t) * n - ((pre ++ [pre.length]).length : Nat) * ((D.g k).worth - (D.g k).cost) := by
          have e9 : (((pre ++ [pre.length]).length : Nat) : Int) = pre.length + 1 := by simp
          rw [e9, Int.add_mul (pre.length : Int) 1, Int.one_mul]; omega
        rw [this]
    · have hw' : (D.gain left + t) * n - pre.length * ((D.g k).worth - (D.g k).cost) < (D.g k).worth := by omega
      simp [wpFn, startD, lockOf, outs, wipe, back, bindT, bindTs, peek, peeks, ats, setAll, light, lightAll, qI, rng_len, enum_len, b1__law_walked, hw']
      have : Deal.eB D left k t n = false := Bool.eq_false_iff.mpr fun he => hw (ends_mid he (by omega) (by omega))
      rw [this] at h
      exact h
  · rintro δ ⟨hi, a, rfl⟩
    refine ⟨gdOk_nil, ?_⟩
    rw [List.length_range] at hi
    have : Deal.eB D left k t n = true := by
      refine ends_iff.mpr ⟨?_, ?_⟩
      · have := hi 0 (by omega) (by omega); simpa using this
      · have := hi (n - 1) (by omega) (by omega)
        rw [Int.mul_comm ((D.g k).worth - (D.g k).cost) (n - 1)]
        exact this
    rw [this] at h
    simpa [wpFn, startD, lockOf, outs, wipe, back, bindT, bindTs, peek, peeks, ats, setAll, light, lightAll, qI, rng_len, enum_len] using h
def sp__law_ends : Spec := fun ms Kc _ => ∃ (D : Deal) (left : List Nat) (k : Nat) (t n : Int), ms = wk D left k t n ∧ left.length ≤ 1000 ∧ (∀ k ∈ left, k < D.gs.length) ∧ k < D.gs.length ∧ -(2 ^ 63) ≤ D.gain left + t ∧ D.gain left + t ≤ 2 ^ 63 ∧ -(2 ^ 63) ≤ (D.g k).worth - (D.g k).cost ∧ (D.g k).worth - (D.g k).cost ≤ 2 ^ 63 ∧ Kc (.p (.bool (Deal.eB D left k t n))) ms
theorem h__law_ends (ms : List M) (Kc : M → List M → Prop) (h : sp__law_ends ms Kc (fun _ _ => False)) : wpFn [sp__law_gain] 8 c__law_ends ms Kc (fun _ _ => False) := by
  obtain ⟨D, left, k, t, n, rfl, hl, lk, hk, t0, t1, w0, w1, h⟩ := h
  have mk : mulOk (D.gain left + t) n := mulL (by omega)
  have mk2 : mulOk ((D.g k).worth - (D.g k).cost) (n - 1) := mulL (by omega)
  simp [wpFn, startD, lockOf, outs, wipe, back, bindT, bindTs, peek, peeks, ats, setAll, light, lightAll, qI, rng_len, enum_len, c__law_ends, ixGsI hk]
  refine ⟨D, left, _, rfl, .inr (.inl rfl), hl, lk, ?_⟩
  unfold Deal.eB endsB at h
  by_cases q : (D.g k).worth ≤ (D.gain left + t) * n
  · simp [wpFn, startD, lockOf, outs, wipe, back, bindT, bindTs, peek, peeks, ats, setAll, light, lightAll, qI, rng_len, enum_len, mk, mk2, q] at h ⊢
    exact h
  · simp [wpFn, startD, lockOf, outs, wipe, back, bindT, bindTs, peek, peeks, ats, setAll, light, lightAll, qI, rng_len, enum_len, mk, mk2, q] at h ⊢
    exact h
def sp__law_few : Spec := fun ms Kc _ => ∃ (D : Deal) (left : List Nat) (k : Nat) (t : Int), ms = [.p D.d, .p (.tuple (left.map nI)), .p (nI k), .p (.int t)] ∧ left.length ≤ 1000 ∧ (∀ k ∈ left, k < D.gs.length) ∧ k < D.gs.length ∧ ∀ d, Few (D.g k).worth (D.g k).cost (D.gain left + t) d → Kc (.p (.int d)) ms
theorem h__law_few (ms : List M) (Kc : M → List M → Prop) (h : sp__law_few ms Kc (fun _ _ => False)) : wpFn [sp__law_walked] 5 c__law_few ms Kc (fun _ _ => False) := by
  obtain ⟨D, left, k, t, rfl, hl, lk, hk, h⟩ := h
  have er : rngItems 1 61 = (List.range 60).map fun i : Nat => PyData.int (1 + (i : Int)) := rfl
  simp [wpFn, startD, lockOf, outs, wipe, back, bindT, bindTs, peek, peeks, ats, setAll, light, lightAll, qI, rng_len, enum_len, c__law_few, er]
  refine forLoop_pp (fun i : Nat => PyData.int (1 + (i : Int))) (List.range 60) (fun pre δ => (∀ j : Int, 1 ≤ j → j ≤ pre.length → Deal.eB D left k t j = false) ∧ ∃ a, δ = [some (M.p D.d), some (.p (.tuple (left.map nI))), some (.p (nI k)), some (.p (.int t)), a]) ?_ ?_ ⟨fun j j0 j1 => by simp at j1; omega, none, rfl⟩
  · rintro pre j post δ N e ⟨hi, a, rfl⟩ hN
    obtain ⟨rfl, hj⟩ := range_at e
    refine ⟨gdOk_nil, ?_⟩
    simp [wpFn, startD, lockOf, outs, wipe, back, bindT, bindTs, peek, peeks, ats, setAll, light, lightAll, qI, rng_len, enum_len, b1__law_few]
    refine ⟨D, left, k, t, _, rfl, hl, lk, hk, by omega, by omega, ?_⟩
    cases he : Deal.eB D left k t (1 + (pre.length : Int)) with
    | true =>
      simp [wpFn, startD, lockOf, outs, wipe, back, bindT, bindTs, peek, peeks, ats, setAll, light, lightAll, qI, rng_len, enum_len]
      exact h _ (.inl ⟨by omega, by omega, he, fun j j0 j1 => hi j j0 (by omega)⟩)
    | false =>
      simp [wpFn, startD, lockOf, outs, wipe, back, bindT, bindTs, peek, peeks, ats, setAll, light, lightAll, qI, rng_len, enum_len]
      refine hN _ ⟨fun j j0 j1 => ?_, _, rfl⟩
      rw [List.length_append, List.length_singleton] at j1
      by_cases q : j = 1 + pre.length
      · rw [q]; exact he
      · exact hi j j0 (by omega)
  · rintro δ ⟨hi, a, rfl⟩
    refine ⟨gdOk_nil, ?_⟩
    rw [List.length_range] at hi
    simp [wpFn, startD, lockOf, outs, wipe, back, bindT, bindTs, peek, peeks, ats, setAll, light, lightAll, qI, rng_len, enum_len]
    exact h 0 (.inr ⟨rfl, fun j j0 j1 => hi j j0 (by omega)⟩)
end Q.K50
set_option Elab.async false
set_option linter.all false
set_option maxRecDepth 100000
set_option maxHeartbeats 4000000
/-! K50C: trusts that are drawn, the law's question, the law. -/
namespace Q.K50
open PySem PySem.Spec PyProof.Rows L2 Q Q.S
theorem log_ok2 {j : Int} (h0 : 0 < j) (h : j < 1000) : j.natAbs.log2 < 9000 := log_ok h0 (by omega)
theorem div_bd {a b : Int} (a0 : 0 ≤ a) (b1 : 1 ≤ b) : 0 ≤ a / b ∧ a / b ≤ a := ⟨Int.ediv_nonneg a0 (by omega), Int.ediv_le_self _ a0⟩
def lentOk (o : Option Int) : Prop := ∀ t, o = some t → -(10 ^ 15) ≤ t ∧ t ≤ 10 ^ 15
def sp__law_trusts : Spec := fun ms Kc _ => ∃ (m : List (L2.Key × M)) (s : Int) (D : Deal) (left : List Nat) (k : Nat), ms = [.dc m, .p D.d, .p (.tuple (left.map nI)), .p (nI k)] ∧ mOk s m ∧ s < 2 ^ 36 ∧ D.pg ∧ D.sm ∧ leftOk D left ∧ k < D.gs.length ∧
  ∀ (os : List (Option Int)) m', os.length = 9 → (∀ o ∈ os, lentOk o) → mOk (s + 10) m' → Kc (.l (os.map optD)) [.dc m', .p D.d, .p (.tuple (left.map nI)), .p (nI k)]
theorem h__law_trusts (ms : List M) (Kc : M → List M → Prop) (h : sp__law_trusts ms Kc (fun _ _ => False)) : wpFn [sp__law_gain, sp__law_draw] 9 c__law_trusts ms Kc (fun _ _ => False) := by
  obtain ⟨m, s, D, left, k, rfl, hm, hs, ok, sm, lok, hk, h⟩ := h
  have gb := gain_bd2 ok sm lok
  have gm := Deal.gk hk
  have nn := ok.g.nn _ gm
  have gs := sm.g _ gm
  unfold amt at gs
  have l6 : 6 ≤ sizeLine := by decide
  have l7 : 7 ≤ sizeLine := by decide
  have l2 : 2 ≤ sizeLine := by decide
  have l9 : 9 ≤ sizeLine := by decide
  simp [wpFn, startD, lockOf, outs, wipe, back, bindT, bindTs, peek, peeks, ats, setAll, light, lightAll, qI, rng_len, enum_len, c__law_trusts, ixGsI hk]
  refine ⟨D, left, _, rfl, .inr (.inl rfl), lok.le ok.g.hi, lok.1, ?_⟩
  obtain ⟨w, ew⟩ : ∃ w, w = (D.g k).worth := ⟨_, rfl⟩
  obtain ⟨c, ec⟩ : ∃ c, c = (D.g k).cost := ⟨_, rfl⟩
  obtain ⟨g, eg⟩ : ∃ g, g = D.gain left := ⟨_, rfl⟩
  rw [← ew, ← ec] at nn gs
  rw [← eg] at gb
  simp [wpFn, startD, lockOf, outs, wipe, back, bindT, bindTs, peek, peeks, ats, setAll, light, lightAll, qI, rng_len, enum_len, ← ew, ← ec, ← eg]
  refine use_draw hm (by omega) (by omega) (by omega) fun r1 m1 a1 b1 h1 => ?_
  simp [wpFn, startD, lockOf, outs, wipe, back, bindT, bindTs, peek, peeks, ats, setAll, light, lightAll, qI, rng_len, enum_len]
  refine use_draw h1 (by omega) (by omega) (by omega) fun r2 m2 a2 b2 h2 => ?_
  have lg2 := log_ok2 (j := 1 + r2) (by omega) (by omega)
  have p2 : 0 < 1 + r2 := by omega
  simp [wpFn, startD, lockOf, outs, wipe, back, bindT, bindTs, peek, peeks, ats, setAll, light, lightAll, qI, rng_len, enum_len, l6, l7, l2, lg2, p2]
  refine use_draw h2 (by omega) (by omega) (by omega) fun r3 m3 a3 b3 h3 => ?_
  obtain ⟨mx, emx⟩ : ∃ mx, mx = (if c < w then w else c) := ⟨_, rfl⟩
  have mx0 : 0 ≤ mx ∧ mx ≤ 1000000000008 := by rw [emx]; split <;> omega
  have dv := div_bd (a := mx) (b := 1 + r2) mx0.1 (by omega)
  obtain ⟨lean, hv, ev⟩ := atI_int (ns := [0, 1, 1 + r1, mx / (1 + r2), w, c]) (i := r3) a3 (by simpa using b3)
  have lb : 0 ≤ lean ∧ lean ≤ 1000000000008 := by simp at hv; omega
  rw [emx] at ev
  simp at ev
  simp [wpFn, startD, lockOf, outs, wipe, back, bindT, bindTs, peek, peeks, ats, setAll, light, lightAll, qI, rng_len, enum_len, ev, l6, l7, l2]
  refine use_draw h3 (by omega) (by omega) (by omega) fun r4 m4 a4 b4 h4 => ?_
  obtain ⟨one, ho, eo⟩ := atI_int (ns := [1, -1]) (i := r4) a4 (by simpa using b4)
  have ob : -1 ≤ one ∧ one ≤ 1 := by simp at ho; omega
  simp at eo
  simp [wpFn, startD, lockOf, outs, wipe, back, bindT, bindTs, peek, peeks, ats, setAll, light, lightAll, qI, rng_len, enum_len, eo, l6, l7, l2]
  refine use_draw h4 (by omega) (by omega) (by omega) fun r5 m5 a5 b5 h5 => ?_
  have lg5 := log_ok2 (j := 1 + r5) (by omega) (by omega)
  have p5 : 0 < 1 + r5 := by omega
  have dw := div_bd (a := w) (b := 1 + r5) nn.2 (by omega)
  simp [wpFn, startD, lockOf, outs, wipe, back, bindT, bindTs, peek, peeks, ats, setAll, light, lightAll, qI, rng_len, enum_len, l6, l7, l2, l9, lg5, p5]
  refine h [none, some (lean - g), some (lean - g + w - c), some (w - g), some (w - g - 1), some 10000000000000, some (-10000000000000), some (lean - g + one), some (w / (1 + r5) - g)] m5 rfl ?_ (h5.mono (by omega))
  intro o ho t ht
  subst ht
  simp at ho
  omega
def sp__law_right : Spec := fun ms Kc _ => ∃ (D : Deal) (left : List Nat) (k : Nat) (o : Option Int), ms = [.p D.d, .p (.tuple (left.map nI)), .p (nI k), .p (optD o)] ∧ D.ok ∧ D.sm ∧ leftOk D left ∧ k ∈ left ∧ lentOk o ∧ Kc (.p (.bool true)) ms
abbrev gT3 : List PyData → List PyData → List PyData := fun ds es => [ds.getD 0 .none, ds.getD 1 .none, ds.getD 2 .none, es.getD 0 .none]
abbrev gP4 : List PyData → List PyData → List PyData := fun ds es => [es.getD 3 .none, es.getD 1 .none, es.getD 0 .none, es.getD 2 .none]
abbrev gN3 : List PyData → List PyData → List PyData := fun ds es => [ds.getD 0 .none, ds.getD 1 .none, ds.getD 2 .none, .none]
abbrev Γr : List Spec := [sp__law_bonds, kwSp 3 1 gT3 sp_pieces, kwSp 0 4 gP4 sp_pieces, kwSp 3 0 gN3 sp_pieces, sp__law_few, sp__law_ends]
section
variable {sp : Spec} {a b c d : PyData} {K : M → List M → Prop} {X : Exn → List M → Prop}
theorem kT3 (h : sp [.p a, .p b, .p c, .p d] (fun r _ => K r [.p a, .p b, .p c, .p d]) (fun e _ => X e [.p a, .p b, .p c, .p d])) : kwSp 3 1 gT3 sp [.p a, .p b, .p c, .p d] K X := ⟨[a, b, c], [d], rfl, rfl, rfl, h⟩
theorem kP4 (h : sp [.p d, .p b, .p a, .p c] (fun r _ => K r [.p a, .p b, .p c, .p d]) (fun e _ => X e [.p a, .p b, .p c, .p d])) : kwSp 0 4 gP4 sp [.p a, .p b, .p c, .p d] K X := ⟨[], [a, b, c, d], rfl, rfl, rfl, h⟩
theorem kN3 (h : sp [.p a, .p b, .p c, .p .none] (fun r _ => K r [.p a, .p b, .p c]) (fun e _ => X e [.p a, .p b, .p c])) : kwSp 3 0 gN3 sp [.p a, .p b, .p c] K X := ⟨[a, b, c], [], rfl, rfl, rfl, h⟩
end
theorem rep3 (d : PyData) : rep 3 [d] = [d, d, d] := rfl
theorem tw_bd {w p q B : Int} (h : tw w p = some q) (w0 : 0 ≤ w) (wB : w ≤ B) (B1 : 1 ≤ B) : 1 ≤ q ∧ q ≤ B := by
  have q1 := tw_pos h
  refine ⟨q1, ?_⟩
  unfold tw at h
  split at h
  · rename_i hp
    cases h
    have : -w ≤ -w / p := by
      rw [Int.le_ediv_iff_mul_le hp]
      have := Int.mul_le_mul_of_nonneg_left (show (1 : Int) ≤ p from hp) w0
      rw [Int.neg_mul]
      omega
    split <;> omega
  · split at h
    · cases h; exact B1
    · cases h
theorem h__law_right (ms : List M) (Kc : M → List M → Prop) (h : sp__law_right ms Kc (fun _ _ => False)) : wpFn Γr 9 c__law_right ms Kc (fun _ _ => False) := by
  obtain ⟨D, left, k, o, rfl, ok, sm, lok, hkl, lo, h⟩ := h
  have hk := lok.1 k hkl
  have gb := gain_bd2 ok.topg sm lok
  have bb := bonds_bd2 ok.topg sm
  have gm := Deal.gk hk
  have nn := ok.g.nn _ gm
  have gs := sm.g _ gm
  unfold amt at gs
  have ll := lok.le ok.g.hi
  have l2 : 2 ≤ sizeLine := by decide
  have l1 : 1 ≤ sizeLine := by decide
  have l3 : 3 ≤ sizeLine := by decide
  have lt2 : 2 < sizeLine := by decide
  have lent : -(10 ^ 17) ≤ D.lent o ∧ D.lent o ≤ 10 ^ 17 := by
    cases o with
    | none => show -(10 ^ 17) ≤ D.bonds ∧ D.bonds ≤ 10 ^ 17; omega
    | some t => have := lo t rfl; show -(10 ^ 17) ≤ t ∧ t ≤ 10 ^ 17; omega
  have b1 : D.gain left + D.lent o < 2 ^ 62 := by omega
  have b2 : D.gain left + D.lent o - (D.g k).worth + (D.g k).cost < 2 ^ 62 := by omega
  obtain ⟨P, eP⟩ : ∃ P, P = D.pcs left k (D.lent o) := ⟨_, rfl⟩
  have fP : Fine 0 100 (optD P) := by
    cases hP : P with
    | none => exact fine_none
    | some q =>
      rw [eP] at hP
      unfold Deal.pcs at hP
      cases h1 : tw (D.g k).worth (D.gain left + D.lent o) with
      | none => rw [h1] at hP; cases hP
      | some a =>
        cases h2 : tw (D.g k).cost (D.gain left + D.lent o - (D.g k).worth + (D.g k).cost) with
        | none => rw [h1, h2] at hP; cases hP
        | some b =>
          rw [h1, h2] at hP
          cases hP
          have t1 := tw_bd h1 nn.2 (B := 1000000000008) (by omega) (by omega)
          have t2 := tw_bd h2 nn.1 (B := 1000000000008) (by omega) (by omega)
          exact fine_i (by omega) (by omega)
  have fPP : Fine 1 303 (.list [optD P, optD P, optD P]) := fine_list (l := 3) (w := 100) (by simp) fun d hd => by
    simp at hd
    rw [hd]; exact fP
  have fin : ∀ d, Few (D.g k).worth (D.g k).cost (D.gain left + D.lent o) d → (0 < d → P = some d) ∧ (¬ 0 < d → ∀ q, P = some q → 61 ≤ q ∧ Deal.eB D left k (D.lent o) q = true ∧ Deal.eB D left k (D.lent o) (q - 1) = false) := by
    intro d hd
    rw [eP]
    exact ⟨few_some nn.2 nn.1 hd, fun h0 q hq => few_none nn.2 nn.1 hd h0 hq⟩
  have never : P = none → Deal.eB D left k (D.lent o) 10000000000000000000000000000000000000000 = false := fun hn => by
    rw [eP] at hn
    exact ends_never nn.2 nn.1 (by decide) hn
  have pc : ∀ (K : M → List M → Prop) (X : Exn → List M → Prop), K (.p (optD P)) [.p D.d, .p (.tuple (left.map nI)), .p (.str (D.g k).nm), .p (optD o)] → sp_pieces [.p D.d, .p (.tuple (left.map nI)), .p (.str (D.g k).nm), .p (optD o)] K X := fun K X hK =>
    ⟨D, left, k, o, rfl, ok, lok, hkl, b1, b2, by rw [← eP]; exact hK⟩
  have eisN : ∀ d : PyData, d ≠ .none → ∀ K : Bool → Prop, cmpM .is (.p d) (.p .none) K = K false := fun d hd K => by
    cases d <;> first | rfl | exact absurd rfl hd
  have isP : ∀ K : Bool → Prop, cmpM .is (.p (optD P)) (.p .none) K = K P.isNone := fun K => by cases P <;> rfl
  have iso : ∀ K : Bool → Prop, cmpM .is (.p (optD o)) (.p .none) K = K o.isNone := fun K => by cases o <;> rfl
  have tail : ∀ (a4 : Option M), wpS Γr (fun _ _ => False) [] (dropS 3 c__law_right) [some (M.p D.d), some (.p (.tuple (left.map nI))), some (.p (nI k)), some (.p (optD o)), a4, some (.p (.int (D.lent o))), some (.l [optD P, optD P, optD P]), none, none]
      ⟨fun _ => Kc (.p .none) [.p D.d, .p (.tuple (left.map nI)), .p (nI k), .p (optD o)], fun v δ => retV 4 v δ fun r _ => Kc r [.p D.d, .p (.tuple (left.map nI)), .p (nI k), .p (optD o)], fun _ => False, fun _ => False⟩ := by
    intro a4
    simp [wpFn, startD, lockOf, outs, wipe, back, bindT, bindTs, peek, peeks, ats, setAll, light, lightAll, qI, rng_len, enum_len, dropS, c__law_right]
    refine ⟨D, left, k, D.lent o, rfl, ll, lok.1, hk, fun d hd => ?_⟩
    obtain ⟨f1, f2⟩ := fin d hd
    have d60 : 0 ≤ d ∧ d ≤ 60 := by rcases hd with ⟨q1, q2, _⟩ | ⟨q1, _⟩ <;> omega
    try simp [wpFn, startD, lockOf, outs, wipe, back, bindT, bindTs, peek, peeks, ats, setAll, light, lightAll, qI, rng_len, enum_len]
    refine reprM rfl fPP (by decide) (by decide) ?_
    try simp [wpFn, startD, lockOf, outs, wipe, back, bindT, bindTs, peek, peeks, ats, setAll, light, lightAll, qI, rng_len, enum_len, l1, l3, rep3]
    refine reprM rfl fPP (by decide) (by decide) ?_
    try simp [wpFn, startD, lockOf, outs, wipe, back, bindT, bindTs, peek, peeks, ats, setAll, light, lightAll, qI, rng_len, enum_len]
    by_cases h0 : 0 < d
    · have eP2 := f1 h0
      try simp [wpFn, startD, lockOf, outs, wipe, back, bindT, bindTs, peek, peeks, ats, setAll, light, lightAll, qI, rng_len, enum_len, h0]
      refine reprM rfl fP (by decide) (by decide) ?_
      try simp [wpFn, startD, lockOf, outs, wipe, back, bindT, bindTs, peek, peeks, ats, setAll, light, lightAll, qI, rng_len, enum_len, h0]
      refine reprM rfl (fine_i (x := d) (by omega) (by omega)) (by decide) (by decide) ?_
      rw [eP2]
      try simp [wpFn, startD, lockOf, outs, wipe, back, bindT, bindTs, peek, peeks, ats, setAll, light, lightAll, qI, rng_len, enum_len, optD]
      exact h
    · try simp [wpFn, startD, lockOf, outs, wipe, back, bindT, bindTs, peek, peeks, ats, setAll, light, lightAll, qI, rng_len, enum_len, h0]
      cases hP : P with
      | none =>
        rw [hP] at isP
        simp [wpFn, startD, lockOf, outs, wipe, back, bindT, bindTs, peek, peeks, ats, setAll, light, lightAll, qI, rng_len, enum_len, isP, hP]
        refine ⟨D, left, k, D.lent o, _, rfl, ll, lok.1, hk, by omega, by omega, by omega, by omega, ?_⟩
        rw [never hP]
        simp [wpFn, startD, lockOf, outs, wipe, back, bindT, bindTs, peek, peeks, ats, setAll, light, lightAll, qI, rng_len, enum_len]
        exact h
      | some q =>
        obtain ⟨q1, q2, q3⟩ := f2 h0 q hP
        rw [hP] at isP
        have q61 : ¬ q < 61 := by omega
        simp [wpFn, startD, lockOf, outs, wipe, back, bindT, bindTs, peek, peeks, ats, setAll, light, lightAll, qI, rng_len, enum_len, isP, hP, optD, isiM, isiS, M.kn, q61]
        refine ⟨D, left, k, D.lent o, q, rfl, ll, lok.1, hk, by omega, by omega, by omega, by omega, ?_⟩
        rw [q2]
        simp [wpFn, startD, lockOf, outs, wipe, back, bindT, bindTs, peek, peeks, ats, setAll, light, lightAll, qI, rng_len, enum_len]
        refine ⟨D, left, k, D.lent o, q - 1, rfl, ll, lok.1, hk, by omega, by omega, by omega, by omega, ?_⟩
        rw [q3]
        simp [wpFn, startD, lockOf, outs, wipe, back, bindT, bindTs, peek, peeks, ats, setAll, light, lightAll, qI, rng_len, enum_len]
        exact h
  have hp := ok.p.hi
  rw [wpFn, wpS_at 3]
  generalize dropS 3 c__law_right = R at tail ⊢
  cases o with
  | none =>
    simp [wpFn, startD, lockOf, outs, wipe, back, bindT, bindTs, peek, peeks, ats, setAll, light, lightAll, qI, rng_len, enum_len, takeS, c__law_right, ixGsI hk, optD, cmpM, isM]
    refine ⟨D, rfl, hp, ?_⟩
    simp [wpFn, startD, lockOf, outs, wipe, back, bindT, bindTs, peek, peeks, ats, setAll, light, lightAll, qI, rng_len, enum_len, l2]
    refine kT3 (pc _ _ ?_)
    simp [wpFn, startD, lockOf, outs, wipe, back, bindT, bindTs, peek, peeks, ats, setAll, light, lightAll, qI, rng_len, enum_len, l2]
    refine kP4 (pc _ _ ?_)
    simp [wpFn, startD, lockOf, outs, wipe, back, bindT, bindTs, peek, peeks, ats, setAll, light, lightAll, qI, rng_len, enum_len, l2, optD, cmpM, isM]
    refine kN3 (pc _ _ ?_)
    simp [wpFn, startD, lockOf, outs, wipe, back, bindT, bindTs, peek, peeks, ats, setAll, light, lightAll, qI, rng_len, enum_len, muM, lt2]
    exact tail _
  | some t =>
    simp [wpFn, startD, lockOf, outs, wipe, back, bindT, bindTs, peek, peeks, ats, setAll, light, lightAll, qI, rng_len, enum_len, takeS, c__law_right, ixGsI hk, optD, cmpM, isM]
    refine kT3 (pc _ _ ?_)
    simp [wpFn, startD, lockOf, outs, wipe, back, bindT, bindTs, peek, peeks, ats, setAll, light, lightAll, qI, rng_len, enum_len, l2]
    refine kP4 (pc _ _ ?_)
    simp [wpFn, startD, lockOf, outs, wipe, back, bindT, bindTs, peek, peeks, ats, setAll, light, lightAll, qI, rng_len, enum_len, l2, optD, cmpM, isM]
    refine kT3 (pc _ _ ?_)
    simp [wpFn, startD, lockOf, outs, wipe, back, bindT, bindTs, peek, peeks, ats, setAll, light, lightAll, qI, rng_len, enum_len, muM, lt2]
    exact tail _
def sp_law : Spec := fun ms Kc _ => ∃ ns : List Int, ms = [.p (.list (ns.map .int))] ∧ ns.length ≤ 1000 ∧ ∀ os, Kc (.p (.bool true)) os
end Q.K50
set_option Elab.async false
set_option linter.all false
set_option maxRecDepth 100000
set_option maxHeartbeats 4000000
/-! K50D: the law. -/
namespace Q.K50
open PySem PySem.Spec PyProof.Rows L2 Q Q.S
theorem cut_last2 (xs : List Nat) (h : 2 ≤ xs.length) : cut (xs.map nI) (some (-2)) none = (xs.drop (xs.length - 2)).map nI := by
  have e1 : HT.sIx (xs.map nI).length 0 (some (-2)) = xs.length - 2 := by
    unfold HT.sIx
    simp only [List.length_map]
    rw [if_pos (by omega)]
    omega
  have e2 : HT.sIx (xs.map nI).length (xs.map nI).length none = xs.length := by simp [HT.sIx]
  unfold cut
  rw [e1, e2, List.take_of_length_le (by simp), List.map_drop]
theorem cut_first2 (xs : List Nat) : cut (xs.map nI) none (some 2) = (xs.take 2).map nI := by
  rw [cut_take _ (by omega), List.map_take]; rfl
theorem h_law (ms : List M) (Kc : M → List M → Prop) (h : sp_law ms Kc (fun _ _ => False)) : wpFn [sp__law_begun, sp__law_called, sp__law_any, sp__law_draw, sp__law_rest, sp__law_trusts, sp__law_right] 8 c_law ms Kc (fun _ _ => False) := by
  obtain ⟨ns, rfl, hn, h⟩ := h
  have sz : sizeLine = 16777216 := sizeLine_eq
  simp [wpFn, startD, lockOf, outs, wipe, back, bindT, bindTs, peek, peeks, ats, setAll, light, lightAll, qI, rng_len, enum_len, c_law]
  refine ⟨ns, rfl, hn, fun m hm => ?_⟩
  obtain ⟨tn, etn⟩ : ∃ tn : Int, tn = 1 + (if (ns.length : Int) < 5 then (ns.length : Int) else 5) := ⟨_, rfl⟩
  have htn : 1 ≤ tn ∧ tn ≤ 6 := by rw [etn]; split <;> omega
  simp [wpFn, startD, lockOf, outs, wipe, back, bindT, bindTs, peek, peeks, ats, setAll, light, lightAll, qI, rng_len, enum_len, ← etn]
  refine ⟨by omega, forLoop_inv (fun xs δ => xs.length ≤ 6 ∧ ∃ m' a b c d e f, mOk (50000 - 5000 * xs.length) m' ∧ δ = [some (.p (.list (ns.map .int))), some (.dc m'), a, b, c, d, e, f]) ?_ ?_ _ _ ⟨by simp [rng_len]; omega, m, none, none, none, none, none, none, hm.mono (by simp [rng_len]; omega), rfl⟩⟩
  · rintro x xs δ N ⟨lx, m', a, b, c, d, e, f, hm', rfl⟩ hN
    rw [List.length_cons] at lx hm'
    refine ⟨gdOk_nil, ?_⟩
    refine ⟨[some (.p (.list (ns.map .int))), some (.dc m'), some (.p x), b, c, d, e, f], ⟨by simp, rfl⟩, ?_⟩
    rw [wpS_at 2]
    have rest : ∀ (bk : De → Prop) (ws : List Str) (D : Deal) m3, D.ok → D.sm → mOk (50000 - 5000 * ((xs.length + 1 : Nat) : Int) + 3001 + 130 + 20 * 60) m3 →
        wpS [sp__law_begun, sp__law_called, sp__law_any, sp__law_draw, sp__law_rest, sp__law_trusts, sp__law_right] (fun _ _ => False) [] (dropS 2 b3_law) [some (.p (.list (ns.map .int))), some (.dc m3), some (.p x), some (.l (ws.map .str)), some (.p D.d), d, e, f]
          ⟨N, fun v δ => retV 1 v δ fun r _ => Kc r [.p (.list (ns.map .int))], bk, N⟩ := by
      intro bk ws D m3 ok sm h3
      simp [wpFn, startD, lockOf, outs, wipe, back, bindT, bindTs, peek, peeks, ats, setAll, light, lightAll, qI, rng_len, enum_len, dropS, b3_law]
      refine ⟨m3, _, D, rfl, h3, by omega, ok.g.hi, fun left m4 lok h4 => ?_⟩
      have ll := lok.len
      have lh := ok.g.hi
      have walk : ∀ (sub : List Nat), sub.length ≤ 6 → (∀ k ∈ sub, k ∈ left) → forLoop [] (fun x δ2 D' => ∃ δ3, (6 < List.length δ2 ∧ List.set δ2 6 (some (M.p x)) = δ3) ∧ wpS [sp__law_begun, sp__law_called, sp__law_any, sp__law_draw, sp__law_rest, sp__law_trusts, sp__law_right] (fun _ _ => False) [] b2_law δ3 D') (sub.map nI)
          [some (.p (.list (ns.map .int))), some (.dc m4), some (.p x), some (.l (ws.map .str)), some (.p D.d), some (.p (.tuple (left.map nI))), e, f] ⟨N, fun v δ => retV 1 v δ fun r _ => Kc r [.p (.list (ns.map .int))], bk, N⟩ := by
        intro sub ls hsub
        refine forLoop_pp nI sub (fun pre δ => ∃ m5 e f, mOk (50000 - 5000 * ((xs.length + 1 : Nat) : Int) + 4400 + 20 * pre.length) m5 ∧ δ = [some (.p (.list (ns.map .int))), some (.dc m5), some (.p x), some (.l (ws.map .str)), some (.p D.d), some (.p (.tuple (left.map nI))), e, f]) ?_ ?_ ⟨m4, e, f, h4.mono (by simp; omega), rfl⟩
        · rintro pre k post δ N2 el ⟨m5, e, f, h5, rfl⟩ hN2
          have hk : k ∈ left := hsub k (by rw [el]; simp)
          have lpre : pre.length < 6 := by have := congrArg List.length el; simp at this; omega
          refine ⟨gdOk_nil, ?_⟩
          simp [wpFn, startD, lockOf, outs, wipe, back, bindT, bindTs, peek, peeks, ats, setAll, light, lightAll, qI, rng_len, enum_len, b2_law]
          refine ⟨m5, _, D, left, k, rfl, h5, by omega, ok.topg, sm, lok, lok.1 k hk, fun os m6 lo ho h6 => ?_⟩
          simp [wpFn, startD, lockOf, outs, wipe, back, bindT, bindTs, peek, peeks, ats, setAll, light, lightAll, qI, rng_len, enum_len]
          refine forLoop_pp optD os (fun pr δ => ∃ f, δ = [some (.p (.list (ns.map .int))), some (.dc m6), some (.p x), some (.l (ws.map .str)), some (.p D.d), some (.p (.tuple (left.map nI))), some (.p (nI k)), f]) ?_ ?_ ⟨f, rfl⟩
          · rintro pr o po δ N3 eo ⟨f, rfl⟩ hN3
            refine ⟨gdOk_nil, ?_⟩
            simp [wpFn, startD, lockOf, outs, wipe, back, bindT, bindTs, peek, peeks, ats, setAll, light, lightAll, qI, rng_len, enum_len, b1_law]
            refine ⟨D, left, k, o, rfl, ok, sm, lok, hk, ho o (by rw [eo]; simp), ?_⟩
            simp [wpFn, startD, lockOf, outs, wipe, back, bindT, bindTs, peek, peeks, ats, setAll, light, lightAll, qI, rng_len, enum_len]
            exact hN3 _ ⟨_, rfl⟩
          · rintro δ ⟨f, rfl⟩
            refine ⟨gdOk_nil, ?_⟩
            exact hN2 _ ⟨m6, _, _, h6.mono (by simp; omega), rfl⟩
        · rintro δ ⟨m5, e, f, h5, rfl⟩
          refine ⟨gdOk_nil, ?_⟩
          exact hN _ ⟨by omega, m5, _, _, _, _, _, _, h5.mono (by omega), rfl⟩
      by_cases l6 : (left.length : Int) < 6
      · simp [wpFn, startD, lockOf, outs, wipe, back, bindT, bindTs, peek, peeks, ats, setAll, light, lightAll, qI, rng_len, enum_len, l6]
        exact walk left (by omega) fun k hk => hk
      · simp [wpFn, startD, lockOf, outs, wipe, back, bindT, bindTs, peek, peeks, ats, setAll, light, lightAll, qI, rng_len, enum_len, l6, optI, slM, cut_last2 left (by omega), cut_first2]
        refine ⟨by omega, ?_⟩
        rw [← List.map_take, ← List.map_drop, ← List.map_append]
        exact walk (left.take 2 ++ left.drop (left.length - 2)) (by simp; omega) fun k hk => (List.mem_append.mp hk).elim List.mem_of_mem_take List.mem_of_mem_drop
    generalize dropS 2 b3_law = R at rest ⊢
    simp [wpFn, startD, lockOf, outs, wipe, back, bindT, bindTs, peek, peeks, ats, setAll, light, lightAll, qI, rng_len, enum_len, takeS, b3_law]
    refine ⟨m', _, 70, rfl, hm', by omega, by omega, by omega, fun ws m1 wok h1 => ?_⟩
    simp [wpFn, startD, lockOf, outs, wipe, back, bindT, bindTs, peek, peeks, ats, setAll, light, lightAll, qI, rng_len, enum_len]
    refine use_draw h1 (by omega) (by omega) (by omega) fun r m2 r0 r1 h2 => ?_
    have any : ∀ (tp : Int) (K : M → List M → Prop) (X : Exn → List M → Prop), 0 ≤ tp → tp ≤ 60 → (∀ (D : Deal) m3, D.ok → D.sm → mOk (50000 - 5000 * ((xs.length + 1 : Nat) : Int) + 3001 + 130 + 20 * 60) m3 → K (.p D.d) [.dc m3, .l (ws.map .str), .p (.int 4), .p (.int tp)]) → sp__law_any [.dc m2, .l (ws.map .str), .p (.int 4), .p (.int tp)] K X := fun tp K X t0 t1 hK =>
      ⟨m2, _, ws, 4, tp, rfl, h2, by omega, ⟨_, wok⟩, by omega, by omega, t0, t1, by rw [wok.len]; omega, fun D m3 ok sm sb lg lp h3 => hK D m3 ok sm (h3.mono (by omega))⟩
    by_cases hr : r = 0
    · simp [wpFn, startD, lockOf, outs, wipe, back, bindT, bindTs, peek, peeks, ats, setAll, light, lightAll, qI, rng_len, enum_len, hr]
      refine any 60 _ _ (by omega) (by omega) fun D m3 ok sm h3 => ?_
      simp [wpFn, startD, lockOf, outs, wipe, back, bindT, bindTs, peek, peeks, ats, setAll, light, lightAll, qI, rng_len, enum_len]
      exact rest _ ws D m3 ok sm h3
    · simp [wpFn, startD, lockOf, outs, wipe, back, bindT, bindTs, peek, peeks, ats, setAll, light, lightAll, qI, rng_len, enum_len, hr]
      refine any 5 _ _ (by omega) (by omega) fun D m3 ok sm h3 => ?_
      simp [wpFn, startD, lockOf, outs, wipe, back, bindT, bindTs, peek, peeks, ats, setAll, light, lightAll, qI, rng_len, enum_len]
      exact rest _ ws D m3 ok sm h3
  · rintro δ ⟨lx, m', a, b, c, d, e, f, hm', rfl⟩
    refine ⟨gdOk_nil, ?_⟩
    simp [wpFn, startD, lockOf, outs, wipe, back, bindT, bindTs, peek, peeks, ats, setAll, light, lightAll, qI, rng_len, enum_len]
    exact h _
end Q.K50
set_option Elab.async false
set_option linter.all false
set_option maxRecDepth 100000
set_option maxHeartbeats 0
namespace Q.K50
open PySem PySem.Spec PyProof.Rows L2 Q
def dD (x : Str) (i : Nat) (kwd : List (Str × He.Dv)) : He.DefD := ⟨(x, none), x, x, defArgs (top i), defBody (top i), defScope (top i), [], kwd⟩
def fn : List He.DefD := [dD "is_number" 10 [], dD "is_coins" 11 [("least", .int 0)], dD "is_among" 12 [], dD "is_name" 13 [], dD "is_party" 18 [], dD "is_good" 19 [], dD "need_parties" 20 [], dD "need_goods" 21 [], dD "need_shares" 22 [], dD "need_deal" 23 [], dD "need_numbers" 24 [], dD "need_left" 25 [], dD "gain_there" 26 [], dD "trust_there" 27 [], dD "numbers_by" 29 [], dD "trust_asked" 31 [], dD "times_wanted" 33 [], dD "most_of" 34 [], dD "pieces_there" 35 [], dD "pieces" 36 [("trust", .non)], dD "_law_mixed" 38 [], dD "_law_folded" 39 [], dD "_law_draw" 40 [], dD "_law_begun" 41 [], dD "_law_called" 42 [], dD "_law_amount" 43 [], dD "_law_split" 44 [], dD "_law_goods" 45 [], dD "_law_gain" 46 [], dD "_law_bonds" 47 [], dD "_law_own_gains" 48 [], dD "_law_sorted" 49 [], dD "_law_needed" 50 [], dD "_law_need_of" 51 [], dD "_law_dues" 52 [], dD "_law_deal_of" 53 [], dD "_law_any" 54 [], dD "_law_rest" 55 [], dD "_law_walked" 56 [], dD "_law_ends" 57 [], dD "_law_few" 58 [], dD "_law_trusts" 59 [], dD "_law_right" 60 [], dD "law" 61 []]
def fa : List He.Fa := [.int "MOST_SIGNS" 8, .str "LETTERS" "abcdefghijklmnopqrstuvwxyz", .int "LEAST_PARTIES" 2, .int "MOST_PARTIES" 6, .int "MOST_GOODS" 60] ++ (fn.map fun d => .glo d.name) ++ bltNames.map fun x => .free x
abbrev R : PySem.W.OpenRow := PySem.W.OpenLaw.row PySem.Challenge.rw_staybonds_k50_pieces_walked
abbrev hk : PySem.W.Hook := He.hookD 4 fa fn
def ob (s : PySem.W.SharedT) : He.AlD := He.obsDG 4 fa fn (HandSHeadRun.getT s)
theorem ob_eq (s : PySem.W.SharedT) : ob s = hk.obs s.abs := He.obsDG_eq (HandSHeadRun.getT_eq s)
def loose : List Str := (["is_number", "is_coins", "is_among", "is_name", "is_party", "is_good", "need_parties", "need_goods", "need_shares", "need_deal", "need_numbers", "need_left", "gain_there", "trust_there", "numbers_by", "trust_asked", "times_wanted", "most_of", "pieces_there", "pieces", "_law_mixed", "_law_folded", "_law_draw", "_law_begun", "_law_called", "_law_amount", "_law_split", "_law_goods", "_law_gain", "_law_bonds"] : List Str) ++ (["_law_own_gains", "_law_sorted", "_law_needed", "_law_need_of", "_law_dues", "_law_deal_of", "_law_any", "_law_rest", "_law_walked", "_law_ends", "_law_few", "_law_trusts", "_law_right", "__name__", "LETTERS", "MOST_SIGNS", "LEAST_PARTIES", "MOST_PARTIES", "MOST_GOODS", "BargainError", "BadDeal", "BadStand", "BadNumber", "Lack", "NoSuch"] : List Str)
theorem run (w : World) : HandSHeadRun.RunEq R (PySem.W.view R.prog [61]) hk ob 4000 loose w := by
  intro os
  kernel_rfl
end Q.K50
set_option Elab.async false
set_option linter.all false
set_option maxRecDepth 100000
set_option maxHeartbeats 0
namespace Q.K50
open PySem PySem.Spec PyProof.Rows L2 Q Q.S
theorem valsRev {vs : List V} {us : List Value} (h : Vals vs us) : Vals vs.reverse us.reverse := by
  induction h with
  | nil => exact .nil
  | cons a b ih => rw [List.reverse_cons, List.reverse_cons]; exact ih.append (.cons a .nil)
theorem fa_mem {K : PySem.W.Frag} {f : He.Fa} (c : He.SaysD fa fn K) (h : f ∈ fa) : f.ok K = true := by
  obtain ⟨i, hi⟩ := List.mem_iff_getElem?.mp h
  exact c.fact i hi
theorem facts {P : Program} {w : World} {K : PySem.W.Frag} {h : Heap} {mg : Str → Option Value} {f : Addr} (X : K.In h) (G : h.Ns mainGlobals mg) (hfa : mg ("law" : Str) = some (.ref f)) (c : He.SaysD fa fn K) :
    ∃ fd : FuncData, (∀ (s : Shared) (v : Value), BindsTo s fd ⟨[v], []⟩ [("_law_script", v)]) ∧ ∀ base : Heap, K.In base → base.Ns mainGlobals mg → base.NoDigits → FnOkG P w K mg base 9 f fd ["_law_script"] (liftSp K 1 sp_law) := by
  have blt : ∀ x ∈ bltNames, mg x = none := fun x hx => He.free_ok X G (fa_mem c (List.mem_append_right _ (List.mem_map.mpr ⟨x, hx, rfl⟩)))
  obtain ⟨tc0, gc0⟩ := He.int_ok X G (c.fact 0 (f := .int "MOST_SIGNS" 8) rfl)
  obtain ⟨tc1, gc1⟩ := He.str_ok X G (c.fact 1 (f := .str "LETTERS" "abcdefghijklmnopqrstuvwxyz") rfl)
  obtain ⟨tc2, gc2⟩ := He.int_ok X G (c.fact 2 (f := .int "LEAST_PARTIES" 2) rfl)
  obtain ⟨tc3, gc3⟩ := He.int_ok X G (c.fact 3 (f := .int "MOST_PARTIES" 6) rfl)
  obtain ⟨tc4, gc4⟩ := He.int_ok X G (c.fact 4 (f := .int "MOST_GOODS" 60) rfl)
  obtain ⟨d0, F0⟩ := c.def_ 0 (d := dD "is_number" 10 []) rfl
  have g0 := He.glo_ok X G (c.fact 5 (f := .glo "is_number") rfl)
  have b0 : Binds K d0 ["thing"] [] := F0.bindsN fun _ _ _ _ _ _ us hl => match us, hl with | [_], _ => rfl
  obtain ⟨d1, F1⟩ := c.def_ 1 (d := dD "is_coins" 11 [("least", .int 0)]) rfl
  have g1 := He.glo_ok X G (c.fact 6 (f := .glo "is_coins") rfl)
  obtain ⟨d2, F2⟩ := c.def_ 2 (d := dD "is_among" 12 []) rfl
  have g2 := He.glo_ok X G (c.fact 7 (f := .glo "is_among") rfl)
  obtain ⟨d3, F3⟩ := c.def_ 3 (d := dD "is_name" 13 []) rfl
  have g3 := He.glo_ok X G (c.fact 8 (f := .glo "is_name") rfl)
  have b3 : Binds K d3 ["thing"] [] := F3.bindsN fun _ _ _ _ _ _ us hl => match us, hl with | [_], _ => rfl
  obtain ⟨d4, F4⟩ := c.def_ 4 (d := dD "is_party" 18 []) rfl
  have g4 := He.glo_ok X G (c.fact 9 (f := .glo "is_party") rfl)
  have b4 : Binds K d4 ["thing"] [] := F4.bindsN fun _ _ _ _ _ _ us hl => match us, hl with | [_], _ => rfl
  obtain ⟨d5, F5⟩ := c.def_ 5 (d := dD "is_good" 19 []) rfl
  have g5 := He.glo_ok X G (c.fact 10 (f := .glo "is_good") rfl)
  have b5 : Binds K d5 ["thing"] [] := F5.bindsN fun _ _ _ _ _ _ us hl => match us, hl with | [_], _ => rfl
  obtain ⟨d6, F6⟩ := c.def_ 6 (d := dD "need_parties" 20 []) rfl
  have g6 := He.glo_ok X G (c.fact 11 (f := .glo "need_parties") rfl)
  have b6 : Binds K d6 ["thing"] [] := F6.bindsN fun _ _ _ _ _ _ us hl => match us, hl with | [_], _ => rfl
  obtain ⟨d7, F7⟩ := c.def_ 7 (d := dD "need_goods" 21 []) rfl
  have g7 := He.glo_ok X G (c.fact 12 (f := .glo "need_goods") rfl)
  have b7 : Binds K d7 ["parties", "thing"] [] := F7.bindsN fun _ _ _ _ _ _ us hl => match us, hl with | [_, _], _ => rfl
  obtain ⟨d8, F8⟩ := c.def_ 8 (d := dD "need_shares" 22 []) rfl
  have g8 := He.glo_ok X G (c.fact 13 (f := .glo "need_shares") rfl)
  have b8 : Binds K d8 ["parties", "thing"] [] := F8.bindsN fun _ _ _ _ _ _ us hl => match us, hl with | [_, _], _ => rfl
  obtain ⟨d9, F9⟩ := c.def_ 9 (d := dD "need_deal" 23 []) rfl
  have g9 := He.glo_ok X G (c.fact 14 (f := .glo "need_deal") rfl)
  have b9 : Binds K d9 ["deal"] [] := F9.bindsN fun _ _ _ _ _ _ us hl => match us, hl with | [_], _ => rfl
  obtain ⟨d10, F10⟩ := c.def_ 10 (d := dD "need_numbers" 24 []) rfl
  have g10 := He.glo_ok X G (c.fact 15 (f := .glo "need_numbers") rfl)
  have b10 : Binds K d10 ["deal", "left"] [] := F10.bindsN fun _ _ _ _ _ _ us hl => match us, hl with | [_, _], _ => rfl
  obtain ⟨d11, F11⟩ := c.def_ 11 (d := dD "need_left" 25 []) rfl
  have g11 := He.glo_ok X G (c.fact 16 (f := .glo "need_left") rfl)
  have b11 : Binds K d11 ["deal", "left"] [] := F11.bindsN fun _ _ _ _ _ _ us hl => match us, hl with | [_, _], _ => rfl
  obtain ⟨d12, F12⟩ := c.def_ 12 (d := dD "gain_there" 26 []) rfl
  have g12 := He.glo_ok X G (c.fact 17 (f := .glo "gain_there") rfl)
  have b12 : Binds K d12 ["deal", "left"] [] := F12.bindsN fun _ _ _ _ _ _ us hl => match us, hl with | [_, _], _ => rfl
  obtain ⟨d13, F13⟩ := c.def_ 13 (d := dD "trust_there" 27 []) rfl
  have g13 := He.glo_ok X G (c.fact 18 (f := .glo "trust_there") rfl)
  have b13 : Binds K d13 ["deal"] [] := F13.bindsN fun _ _ _ _ _ _ us hl => match us, hl with | [_], _ => rfl
  obtain ⟨d14, F14⟩ := c.def_ 14 (d := dD "numbers_by" 29 []) rfl
  have g14 := He.glo_ok X G (c.fact 19 (f := .glo "numbers_by") rfl)
  have b14 : Binds K d14 ["deal", "left"] [] := F14.bindsN fun _ _ _ _ _ _ us hl => match us, hl with | [_, _], _ => rfl
  obtain ⟨d15, F15⟩ := c.def_ 15 (d := dD "trust_asked" 31 []) rfl
  have g15 := He.glo_ok X G (c.fact 20 (f := .glo "trust_asked") rfl)
  have b15 : Binds K d15 ["deal", "trust"] [] := F15.bindsN fun _ _ _ _ _ _ us hl => match us, hl with | [_, _], _ => rfl
  obtain ⟨d16, F16⟩ := c.def_ 16 (d := dD "times_wanted" 33 []) rfl
  have g16 := He.glo_ok X G (c.fact 21 (f := .glo "times_wanted") rfl)
  have b16 : Binds K d16 ["whole", "part"] [] := F16.bindsN fun _ _ _ _ _ _ us hl => match us, hl with | [_, _], _ => rfl
  obtain ⟨d17, F17⟩ := c.def_ 17 (d := dD "most_of" 34 []) rfl
  have g17 := He.glo_ok X G (c.fact 22 (f := .glo "most_of") rfl)
  have b17 : Binds K d17 ["numbers"] [] := F17.bindsN fun _ _ _ _ _ _ us hl => match us, hl with | [_], _ => rfl
  obtain ⟨d18, F18⟩ := c.def_ 18 (d := dD "pieces_there" 35 []) rfl
  have g18 := He.glo_ok X G (c.fact 23 (f := .glo "pieces_there") rfl)
  have b18 : Binds K d18 ["deal", "left", "number", "trust"] [] := F18.bindsN fun _ _ _ _ _ _ us hl => match us, hl with | [_, _, _, _], _ => rfl
  obtain ⟨d19, F19⟩ := c.def_ 19 (d := dD "pieces" 36 [("trust", .non)]) rfl
  have g19 := He.glo_ok X G (c.fact 24 (f := .glo "pieces") rfl)
  obtain ⟨d20, F20⟩ := c.def_ 20 (d := dD "_law_mixed" 38 []) rfl
  have g20 := He.glo_ok X G (c.fact 25 (f := .glo "_law_mixed") rfl)
  have b20 : Binds K d20 ["_law_cell", "_law_k"] [] := F20.bindsN fun _ _ _ _ _ _ us hl => match us, hl with | [_, _], _ => rfl
  obtain ⟨d21, F21⟩ := c.def_ 21 (d := dD "_law_folded" 39 []) rfl
  have g21 := He.glo_ok X G (c.fact 26 (f := .glo "_law_folded") rfl)
  have b21 : Binds K d21 ["_law_script"] [] := F21.bindsN fun _ _ _ _ _ _ us hl => match us, hl with | [_], _ => rfl
  obtain ⟨d22, F22⟩ := c.def_ 22 (d := dD "_law_draw" 40 []) rfl
  have g22 := He.glo_ok X G (c.fact 27 (f := .glo "_law_draw") rfl)
  have b22 : Binds K d22 ["_law_m", "_law_top"] [] := F22.bindsN fun _ _ _ _ _ _ us hl => match us, hl with | [_, _], _ => rfl
  obtain ⟨d23, F23⟩ := c.def_ 23 (d := dD "_law_begun" 41 []) rfl
  have g23 := He.glo_ok X G (c.fact 28 (f := .glo "_law_begun") rfl)
  have b23 : Binds K d23 ["_law_script"] [] := F23.bindsN fun _ _ _ _ _ _ us hl => match us, hl with | [_], _ => rfl
  obtain ⟨d24, F24⟩ := c.def_ 24 (d := dD "_law_called" 42 []) rfl
  have g24 := He.glo_ok X G (c.fact 29 (f := .glo "_law_called") rfl)
  have b24 : Binds K d24 ["_law_m", "_law_top"] [] := F24.bindsN fun _ _ _ _ _ _ us hl => match us, hl with | [_, _], _ => rfl
  obtain ⟨d25, F25⟩ := c.def_ 25 (d := dD "_law_amount" 43 []) rfl
  have g25 := He.glo_ok X G (c.fact 30 (f := .glo "_law_amount") rfl)
  have b25 : Binds K d25 ["_law_m"] [] := F25.bindsN fun _ _ _ _ _ _ us hl => match us, hl with | [_], _ => rfl
  obtain ⟨d26, F26⟩ := c.def_ 26 (d := dD "_law_split" 44 []) rfl
  have g26 := He.glo_ok X G (c.fact 31 (f := .glo "_law_split") rfl)
  have b26 : Binds K d26 ["_law_m", "_law_total", "_law_parts"] [] := F26.bindsN fun _ _ _ _ _ _ us hl => match us, hl with | [_, _, _], _ => rfl
  obtain ⟨d27, F27⟩ := c.def_ 27 (d := dD "_law_goods" 45 []) rfl
  have g27 := He.glo_ok X G (c.fact 32 (f := .glo "_law_goods") rfl)
  have b27 : Binds K d27 ["_law_m", "_law_w", "_law_who", "_law_top"] [] := F27.bindsN fun _ _ _ _ _ _ us hl => match us, hl with | [_, _, _, _], _ => rfl
  obtain ⟨d28, F28⟩ := c.def_ 28 (d := dD "_law_gain" 46 []) rfl
  have g28 := He.glo_ok X G (c.fact 33 (f := .glo "_law_gain") rfl)
  have b28 : Binds K d28 ["_law_own", "_law_rest_here"] [] := F28.bindsN fun _ _ _ _ _ _ us hl => match us, hl with | [_, _], _ => rfl
  obtain ⟨d29, F29⟩ := c.def_ 29 (d := dD "_law_bonds" 47 []) rfl
  have g29 := He.glo_ok X G (c.fact 34 (f := .glo "_law_bonds") rfl)
  have b29 : Binds K d29 ["_law_own"] [] := F29.bindsN fun _ _ _ _ _ _ us hl => match us, hl with | [_], _ => rfl
  obtain ⟨d30, F30⟩ := c.def_ 30 (d := dD "_law_own_gains" 48 []) rfl
  have g30 := He.glo_ok X G (c.fact 35 (f := .glo "_law_own_gains") rfl)
  have b30 : Binds K d30 ["_law_own", "_law_rest_here"] [] := F30.bindsN fun _ _ _ _ _ _ us hl => match us, hl with | [_, _], _ => rfl
  obtain ⟨d31, F31⟩ := c.def_ 31 (d := dD "_law_sorted" 49 []) rfl
  have g31 := He.glo_ok X G (c.fact 36 (f := .glo "_law_sorted") rfl)
  have b31 : Binds K d31 ["_law_own", "_law_rest_here"] [] := F31.bindsN fun _ _ _ _ _ _ us hl => match us, hl with | [_, _], _ => rfl
  obtain ⟨d32, F32⟩ := c.def_ 32 (d := dD "_law_needed" 50 []) rfl
  have g32 := He.glo_ok X G (c.fact 37 (f := .glo "_law_needed") rfl)
  have b32 : Binds K d32 ["_law_own", "_law_row"] [] := F32.bindsN fun _ _ _ _ _ _ us hl => match us, hl with | [_, _], _ => rfl
  obtain ⟨d33, F33⟩ := c.def_ 33 (d := dD "_law_need_of" 51 []) rfl
  have g33 := He.glo_ok X G (c.fact 38 (f := .glo "_law_need_of") rfl)
  have b33 : Binds K d33 ["_law_own", "_law_rest_here"] [] := F33.bindsN fun _ _ _ _ _ _ us hl => match us, hl with | [_, _], _ => rfl
  obtain ⟨d34, F34⟩ := c.def_ 34 (d := dD "_law_dues" 52 []) rfl
  have g34 := He.glo_ok X G (c.fact 39 (f := .glo "_law_dues") rfl)
  have b34 : Binds K d34 ["_law_m", "_law_own", "_law_rest_here"] [] := F34.bindsN fun _ _ _ _ _ _ us hl => match us, hl with | [_, _, _], _ => rfl
  obtain ⟨d35, F35⟩ := c.def_ 35 (d := dD "_law_deal_of" 53 []) rfl
  have g35 := He.glo_ok X G (c.fact 40 (f := .glo "_law_deal_of") rfl)
  have b35 : Binds K d35 ["_law_m", "_law_who", "_law_goods_here"] [] := F35.bindsN fun _ _ _ _ _ _ us hl => match us, hl with | [_, _, _], _ => rfl
  obtain ⟨d36, F36⟩ := c.def_ 36 (d := dD "_law_any" 54 []) rfl
  have g36 := He.glo_ok X G (c.fact 41 (f := .glo "_law_any") rfl)
  have b36 : Binds K d36 ["_law_m", "_law_w", "_law_most", "_law_top"] [] := F36.bindsN fun _ _ _ _ _ _ us hl => match us, hl with | [_, _, _, _], _ => rfl
  obtain ⟨d37, F37⟩ := c.def_ 37 (d := dD "_law_rest" 55 []) rfl
  have g37 := He.glo_ok X G (c.fact 42 (f := .glo "_law_rest") rfl)
  have b37 : Binds K d37 ["_law_m", "_law_own"] [] := F37.bindsN fun _ _ _ _ _ _ us hl => match us, hl with | [_, _], _ => rfl
  obtain ⟨d38, F38⟩ := c.def_ 38 (d := dD "_law_walked" 56 []) rfl
  have g38 := He.glo_ok X G (c.fact 43 (f := .glo "_law_walked") rfl)
  have b38 : Binds K d38 ["_law_own", "_law_rest_here", "_law_k", "_law_by", "_law_top"] [] := F38.bindsN fun _ _ _ _ _ _ us hl => match us, hl with | [_, _, _, _, _], _ => rfl
  obtain ⟨d39, F39⟩ := c.def_ 39 (d := dD "_law_ends" 57 []) rfl
  have g39 := He.glo_ok X G (c.fact 44 (f := .glo "_law_ends") rfl)
  have b39 : Binds K d39 ["_law_own", "_law_rest_here", "_law_k", "_law_by", "_law_top"] [] := F39.bindsN fun _ _ _ _ _ _ us hl => match us, hl with | [_, _, _, _, _], _ => rfl
  obtain ⟨d40, F40⟩ := c.def_ 40 (d := dD "_law_few" 58 []) rfl
  have g40 := He.glo_ok X G (c.fact 45 (f := .glo "_law_few") rfl)
  have b40 : Binds K d40 ["_law_own", "_law_rest_here", "_law_k", "_law_by"] [] := F40.bindsN fun _ _ _ _ _ _ us hl => match us, hl with | [_, _, _, _], _ => rfl
  obtain ⟨d41, F41⟩ := c.def_ 41 (d := dD "_law_trusts" 59 []) rfl
  have g41 := He.glo_ok X G (c.fact 46 (f := .glo "_law_trusts") rfl)
  have b41 : Binds K d41 ["_law_m", "_law_own", "_law_rest_here", "_law_k"] [] := F41.bindsN fun _ _ _ _ _ _ us hl => match us, hl with | [_, _, _, _], _ => rfl
  obtain ⟨d42, F42⟩ := c.def_ 42 (d := dD "_law_right" 60 []) rfl
  have g42 := He.glo_ok X G (c.fact 47 (f := .glo "_law_right") rfl)
  have b42 : Binds K d42 ["_law_own", "_law_rest_here", "_law_k", "_law_by"] [] := F42.bindsN fun _ _ _ _ _ _ us hl => match us, hl with | [_, _, _, _], _ => rfl
  obtain ⟨d43, F43⟩ := c.def_ 43 (d := dD "law" 61 []) rfl
  have g43 := He.glo_ok X G (c.fact 48 (f := .glo "law") rfl)
  have b43 : Binds K d43 ["_law_script"] [] := F43.bindsN fun _ _ _ _ _ _ us hl => match us, hl with | [_], _ => rfl
  obtain ⟨mv0, kk0⟩ := F1.kbinds0 (ps := ["thing", "least"]) 1 [] [("least", V.int 0)] (fun us mv ws => us ++ ws ++ mv) (by simp [dD, He.DefD.kws]) (fun q hq => hq) (fun r1 r2 r3 => (r1.append r3).append r2) (fun D doc pm an cdv ct us mv ws l1 l2 l3 => match us, mv, ws, l1, l2, l3 with | [_], [_], [], _, _, _ => ⟨_, _, _, _, _, _, rfl, rfl, rfl⟩)
  have kk1 := kb0 (ps := ["thing", "many"]) F2 1 ["many"] (fun us ws => us ++ ws) (fun _ _ _ _ _ _ us ws l1 l2 => match us, ws, l1, l2 with | [_], [_], _, _ => rfl) (fun r1 r2 => r1.append r2)
  have kk2 := kb0 (ps := ["deal", "left", "name", "trust"]) F19 3 ["trust"] (fun us ws => us ++ ws) (fun _ _ _ _ _ _ us ws l1 l2 => match us, ws, l1, l2 with | [_, _, _], [_], _, _ => rfl) (fun r1 r2 => r1.append r2)
  have kk3 := kb0 (ps := ["deal", "left", "name", "trust"]) F19 0 ["name", "left", "trust", "deal"] (fun us ws => pick [3, 1, 0, 2] (us ++ ws)) (fun _ _ _ _ _ _ us ws l1 l2 => match us, ws, l1, l2 with | [], [_, _, _, _], _, _ => rfl) (fun r1 r2 => valsPick (r1.append r2) _)
  obtain ⟨mv4, kk4⟩ := F19.kbinds0 (ps := ["deal", "left", "name", "trust"]) 3 [] [("trust", V.non)] (fun us mv ws => us ++ ws ++ mv) (by simp [dD, He.DefD.kws]) (fun q hq => hq) (fun r1 r2 r3 => (r1.append r3).append r2) (fun D doc pm an cdv ct us mv ws l1 l2 l3 => match us, mv, ws, l1, l2, l3 with | [_, _, _], [_], [], _, _, _ => ⟨_, _, _, _, _, _, rfl, rfl, rfl⟩)
  have e := hfa.symm.trans g43
  cases e
  refine ⟨d43, fun s v => F43.bindsA (ps := ["_law_script"]) (fun _ _ _ _ _ _ us hl => match us, hl with | [_], _ => rfl) s [v] rfl, fun base hI hN hD => ?_⟩
  have t0 : Tab P w K mg base 0 E_is_number [] := ⟨hD, blt, (fun p hp => by cases hp), fun f x n ks h => by simp [E_is_number] at h⟩
  have o0 : FnOkG P w K mg base 1 _ d0 ["thing"] (liftSp K 1 sp_is_number) := fn_D F0 f_is_number t0 k_is_number fun ms Kc _ h => h_is_number ms Kc h
  have t1 : Tab P w K mg base 1 E_is_coins [sp_is_number] := ⟨hD, blt, (fun p hp => by cases hp), fun f x n ks h => by
    match f, h with
    | 0, h => cases h; exact ⟨_, rfl, CallOk.pos g0 F0.kp (o0.mono (by decide)) rfl b0⟩
    | q + 1, h => simp [E_is_coins] at h⟩
  have o1 : FnOkG P w K mg base 2 _ d1 ["thing", "least"] (liftSp K 2 sp_is_coins) := fn_D F1 f_is_coins t1 k_is_coins fun ms Kc _ h => h_is_coins ms Kc h
  have t2 : Tab P w K mg base 1 E_is_among [sp_is_number] := ⟨hD, blt, (fun p hp => by cases hp), fun f x n ks h => by
    match f, h with
    | 0, h => cases h; exact ⟨_, rfl, CallOk.pos g0 F0.kp (o0.mono (by decide)) rfl b0⟩
    | q + 1, h => simp [E_is_among] at h⟩
  have o2 : FnOkG P w K mg base 2 _ d2 ["thing", "many"] (liftSp K 2 sp_is_among) := fn_D F2 f_is_among t2 k_is_among fun ms Kc _ h => h_is_among ms Kc h
  have t3 : Tab P w K mg base 0 E_is_name [] := ⟨hD, blt, (fun p hp => by
      rcases List.mem_cons.mp hp with rfl | hp
      · exact ⟨_, V.int 8, gc0, ⟨tc0, rfl⟩, .int _⟩
      rcases List.mem_cons.mp hp with rfl | hp
      · exact ⟨_, V.str _, gc1, ⟨tc1, rfl⟩, .str _⟩
      cases hp), fun f x n ks h => by simp [E_is_name] at h⟩
  have o3 : FnOkG P w K mg base 1 _ d3 ["thing"] (liftSp K 1 sp_is_name) := fn_D F3 f_is_name t3 k_is_name fun ms Kc _ h => h_is_name ms Kc h
  have t4 : Tab P w K mg base 2 E_is_party [sp_is_name, kwSp 1 0 (fun ds es => [ds.getD 0 .none, .int 0]) sp_is_coins] := ⟨hD, blt, (fun p hp => by cases hp), fun f x n ks h => by
    match f, h with
    | 0, h => cases h; exact ⟨_, rfl, CallOk.pos g3 F3.kp (o3.mono (by decide)) rfl b3⟩
    | 1, h => cases h; exact ⟨_, rfl, CallOk.kw (gD := (fun ds es => [ds.getD 0 .none, .int 0])) g1 F1.kp (o1.mono (by decide)) kk0 (fun {H vs zs ds es} r1 r2 l1 l2 => by
      match ds, es, l1, l2 with
      | [x0], [], _, _ => exact (r1.append r2).append (.cons (.int 0) .nil)) (fun ds es l1 l2 => rfl)⟩
    | q + 2, h => simp [E_is_party] at h⟩
  have o4 : FnOkG P w K mg base 3 _ d4 ["thing"] (liftSp K 1 sp_is_party) := fn_D F4 f_is_party t4 k_is_party fun ms Kc _ h => h_is_party ms Kc h
  have t5 : Tab P w K mg base 2 E_is_good [sp_is_name, kwSp 1 0 (fun ds es => [ds.getD 0 .none, .int 0]) sp_is_coins] := ⟨hD, blt, (fun p hp => by cases hp), fun f x n ks h => by
    match f, h with
    | 0, h => cases h; exact ⟨_, rfl, CallOk.pos g3 F3.kp (o3.mono (by decide)) rfl b3⟩
    | 1, h => cases h; exact ⟨_, rfl, CallOk.kw (gD := (fun ds es => [ds.getD 0 .none, .int 0])) g1 F1.kp (o1.mono (by decide)) kk0 (fun {H vs zs ds es} r1 r2 l1 l2 => by
      match ds, es, l1, l2 with
      | [x0], [], _, _ => exact (r1.append r2).append (.cons (.int 0) .nil)) (fun ds es l1 l2 => rfl)⟩
    | q + 2, h => simp [E_is_good] at h⟩
  have o5 : FnOkG P w K mg base 3 _ d5 ["thing"] (liftSp K 1 sp_is_good) := fn_D F5 f_is_good t5 k_is_good fun ms Kc _ h => h_is_good ms Kc h
  have t6 : Tab P w K mg base 3 E_need_parties [sp_is_party] := ⟨hD, blt, (fun p hp => by
      rcases List.mem_cons.mp hp with rfl | hp
      · exact ⟨_, V.int 2, gc2, ⟨tc2, rfl⟩, .int _⟩
      rcases List.mem_cons.mp hp with rfl | hp
      · exact ⟨_, V.int 6, gc3, ⟨tc3, rfl⟩, .int _⟩
      cases hp), fun f x n ks h => by
    match f, h with
    | 0, h => cases h; exact ⟨_, rfl, CallOk.pos g4 F4.kp (o4.mono (by decide)) rfl b4⟩
    | q + 1, h => simp [E_need_parties] at h⟩
  have o6 : FnOkG P w K mg base 4 _ d6 ["thing"] (liftSp K 1 sp_need_parties) := fn_D F6 f_need_parties t6 k_need_parties fun ms Kc _ h => h_need_parties ms Kc h
  have t7 : Tab P w K mg base 3 E_need_goods [sp_is_good] := ⟨hD, blt, (fun p hp => by
      rcases List.mem_cons.mp hp with rfl | hp
      · exact ⟨_, V.int 60, gc4, ⟨tc4, rfl⟩, .int _⟩
      cases hp), fun f x n ks h => by
    match f, h with
    | 0, h => cases h; exact ⟨_, rfl, CallOk.pos g5 F5.kp (o5.mono (by decide)) rfl b5⟩
    | q + 1, h => simp [E_need_goods] at h⟩
  have o7 : FnOkG P w K mg base 4 _ d7 ["parties", "thing"] (liftSp K 2 sp_need_goods) := fn_D F7 f_need_goods t7 k_need_goods fun ms Kc _ h => h_need_goods ms Kc h
  have t8 : Tab P w K mg base 1 E_need_shares [sp_is_number] := ⟨hD, blt, (fun p hp => by cases hp), fun f x n ks h => by
    match f, h with
    | 0, h => cases h; exact ⟨_, rfl, CallOk.pos g0 F0.kp (o0.mono (by decide)) rfl b0⟩
    | q + 1, h => simp [E_need_shares] at h⟩
  have o8 : FnOkG P w K mg base 2 _ d8 ["parties", "thing"] (liftSp K 2 sp_need_shares) := fn_D F8 f_need_shares t8 k_need_shares fun ms Kc _ h => h_need_shares ms Kc h
  have t9 : Tab P w K mg base 4 E_need_deal [sp_need_parties, sp_need_goods, sp_need_shares] := ⟨hD, blt, (fun p hp => by cases hp), fun f x n ks h => by
    match f, h with
    | 0, h => cases h; exact ⟨_, rfl, CallOk.pos g6 F6.kp (o6.mono (by decide)) rfl b6⟩
    | 1, h => cases h; exact ⟨_, rfl, CallOk.pos g7 F7.kp (o7.mono (by decide)) rfl b7⟩
    | 2, h => cases h; exact ⟨_, rfl, CallOk.pos g8 F8.kp (o8.mono (by decide)) rfl b8⟩
    | q + 3, h => simp [E_need_deal] at h⟩
  have o9 : FnOkG P w K mg base 5 _ d9 ["deal"] (liftSp K 1 sp_need_deal) := fn_D F9 f_need_deal t9 k_need_deal fun ms Kc _ h => h_need_deal ms Kc h
  have t10 : Tab P w K mg base 2 E_need_numbers [kwSp 1 1 (fun ds es => [ds.getD 0 .none, es.getD 0 .none]) sp_is_among] := ⟨hD, blt, (fun p hp => by cases hp), fun f x n ks h => by
    match f, h with
    | 0, h => cases h; exact ⟨_, rfl, CallOk.kw (gD := (fun ds es => [ds.getD 0 .none, es.getD 0 .none])) g2 F2.kp (o2.mono (by decide)) kk1 (fun {H vs zs ds es} r1 r2 l1 l2 => by
      match ds, es, l1, l2 with
      | [x0], [y0], _, _ => exact r1.append r2) (fun ds es l1 l2 => rfl)⟩
    | q + 1, h => simp [E_need_numbers] at h⟩
  have o10 : FnOkG P w K mg base 3 _ d10 ["deal", "left"] (liftSp K 2 sp_need_numbers) := fn_D F10 f_need_numbers t10 k_need_numbers fun ms Kc _ h => h_need_numbers ms Kc h
  have t11 : Tab P w K mg base 5 E_need_left [sp_need_deal, sp_need_numbers] := ⟨hD, blt, (fun p hp => by cases hp), fun f x n ks h => by
    match f, h with
    | 0, h => cases h; exact ⟨_, rfl, CallOk.pos g9 F9.kp (o9.mono (by decide)) rfl b9⟩
    | 1, h => cases h; exact ⟨_, rfl, CallOk.pos g10 F10.kp (o10.mono (by decide)) rfl b10⟩
    | q + 2, h => simp [E_need_left] at h⟩
  have o11 : FnOkG P w K mg base 6 _ d11 ["deal", "left"] (liftSp K 2 sp_need_left) := fn_D F11 f_need_left t11 k_need_left fun ms Kc _ h => h_need_left ms Kc h
  have t12 : Tab P w K mg base 0 E_gain_there [] := ⟨hD, blt, (fun p hp => by cases hp), fun f x n ks h => by simp [E_gain_there] at h⟩
  have o12 : FnOkG P w K mg base 1 _ d12 ["deal", "left"] (liftSp K 2 sp_gain_there) := fn_D F12 f_gain_there t12 k_gain_there fun ms Kc _ h => h_gain_there ms Kc h
  have t13 : Tab P w K mg base 0 E_trust_there [] := ⟨hD, blt, (fun p hp => by cases hp), fun f x n ks h => by simp [E_trust_there] at h⟩
  have o13 : FnOkG P w K mg base 1 _ d13 ["deal"] (liftSp K 1 sp_trust_there) := fn_D F13 f_trust_there t13 k_trust_there fun ms Kc _ h => h_trust_there ms Kc h
  have t14 : Tab P w K mg base 0 E_numbers_by [] := ⟨hD, blt, (fun p hp => by cases hp), fun f x n ks h => by simp [E_numbers_by] at h⟩
  have o14 : FnOkG P w K mg base 1 _ d14 ["deal", "left"] (liftSp K 2 sp_numbers_by) := fn_D F14 f_numbers_by t14 k_numbers_by fun ms Kc _ h => h_numbers_by ms Kc h
  have t15 : Tab P w K mg base 1 E_trust_asked [sp_trust_there, sp_is_number] := ⟨hD, blt, (fun p hp => by cases hp), fun f x n ks h => by
    match f, h with
    | 0, h => cases h; exact ⟨_, rfl, CallOk.pos g13 F13.kp (o13.mono (by decide)) rfl b13⟩
    | 1, h => cases h; exact ⟨_, rfl, CallOk.pos g0 F0.kp (o0.mono (by decide)) rfl b0⟩
    | q + 2, h => simp [E_trust_asked] at h⟩
  have o15 : FnOkG P w K mg base 2 _ d15 ["deal", "trust"] (liftSp K 2 sp_trust_asked) := fn_D F15 f_trust_asked t15 k_trust_asked fun ms Kc _ h => h_trust_asked ms Kc h
  have t16 : Tab P w K mg base 0 E_times_wanted [] := ⟨hD, blt, (fun p hp => by cases hp), fun f x n ks h => by simp [E_times_wanted] at h⟩
  have o16 : FnOkG P w K mg base 1 _ d16 ["whole", "part"] (liftSp K 2 sp_times_wanted) := fn_D F16 f_times_wanted t16 k_times_wanted fun ms Kc _ h => h_times_wanted ms Kc h
  have t17 : Tab P w K mg base 0 E_most_of [] := ⟨hD, blt, (fun p hp => by cases hp), fun f x n ks h => by simp [E_most_of] at h⟩
  have o17 : FnOkG P w K mg base 1 _ d17 ["numbers"] (liftSp K 1 sp_most_of) := fn_D F17 f_most_of t17 k_most_of fun ms Kc _ h => h_most_of ms Kc h
  have t18 : Tab P w K mg base 1 E_pieces_there [sp_gain_there, sp_most_of, sp_times_wanted] := ⟨hD, blt, (fun p hp => by cases hp), fun f x n ks h => by
    match f, h with
    | 0, h => cases h; exact ⟨_, rfl, CallOk.pos g12 F12.kp (o12.mono (by decide)) rfl b12⟩
    | 1, h => cases h; exact ⟨_, rfl, CallOk.pos g17 F17.kp (o17.mono (by decide)) rfl b17⟩
    | 2, h => cases h; exact ⟨_, rfl, CallOk.pos g16 F16.kp (o16.mono (by decide)) rfl b16⟩
    | q + 3, h => simp [E_pieces_there] at h⟩
  have o18 : FnOkG P w K mg base 2 _ d18 ["deal", "left", "number", "trust"] (liftSp K 4 sp_pieces_there) := fn_D F18 f_pieces_there t18 k_pieces_there fun ms Kc _ h => h_pieces_there ms Kc h
  have t19 : Tab P w K mg base 6 E_pieces [sp_need_deal, sp_need_left, sp_numbers_by, sp_pieces_there, sp_trust_asked] := ⟨hD, blt, (fun p hp => by cases hp), fun f x n ks h => by
    match f, h with
    | 0, h => cases h; exact ⟨_, rfl, CallOk.pos g9 F9.kp (o9.mono (by decide)) rfl b9⟩
    | 1, h => cases h; exact ⟨_, rfl, CallOk.pos g11 F11.kp (o11.mono (by decide)) rfl b11⟩
    | 2, h => cases h; exact ⟨_, rfl, CallOk.pos g14 F14.kp (o14.mono (by decide)) rfl b14⟩
    | 3, h => cases h; exact ⟨_, rfl, CallOk.pos g18 F18.kp (o18.mono (by decide)) rfl b18⟩
    | 4, h => cases h; exact ⟨_, rfl, CallOk.pos g15 F15.kp (o15.mono (by decide)) rfl b15⟩
    | q + 5, h => simp [E_pieces] at h⟩
  have o19 : FnOkG P w K mg base 7 _ d19 ["deal", "left", "name", "trust"] (liftSp K 4 sp_pieces) := fn_D F19 f_pieces t19 k_pieces fun ms Kc _ h => h_pieces ms Kc h
  have t20 : Tab P w K mg base 0 E__law_mixed [] := ⟨hD, blt, (fun p hp => by cases hp), fun f x n ks h => by simp [E__law_mixed] at h⟩
  have o20 : FnOkG P w K mg base 1 _ d20 ["_law_cell", "_law_k"] (liftSp K 2 sp__law_mixed) := fn_D F20 f__law_mixed t20 k__law_mixed fun ms Kc _ h => h__law_mixed ms Kc h
  have t21 : Tab P w K mg base 0 E__law_folded [] := ⟨hD, blt, (fun p hp => by cases hp), fun f x n ks h => by simp [E__law_folded] at h⟩
  have o21 : FnOkG P w K mg base 1 _ d21 ["_law_script"] (liftSp K 1 sp__law_folded) := fn_D F21 f__law_folded t21 k__law_folded fun ms Kc _ h => h__law_folded ms Kc h
  have t22 : Tab P w K mg base 1 E__law_draw [sp__law_mixed] := ⟨hD, blt, (fun p hp => by cases hp), fun f x n ks h => by
    match f, h with
    | 0, h => cases h; exact ⟨_, rfl, CallOk.pos g20 F20.kp (o20.mono (by decide)) rfl b20⟩
    | q + 1, h => simp [E__law_draw] at h⟩
  have o22 : FnOkG P w K mg base 2 _ d22 ["_law_m", "_law_top"] (liftSp K 2 sp__law_draw) := fn_D F22 f__law_draw t22 k__law_draw fun ms Kc _ h => h__law_draw ms Kc h
  have t23 : Tab P w K mg base 1 E__law_begun [sp__law_folded] := ⟨hD, blt, (fun p hp => by cases hp), fun f x n ks h => by
    match f, h with
    | 0, h => cases h; exact ⟨_, rfl, CallOk.pos g21 F21.kp (o21.mono (by decide)) rfl b21⟩
    | q + 1, h => simp [E__law_begun] at h⟩
  have o23 : FnOkG P w K mg base 2 _ d23 ["_law_script"] (liftSp K 1 sp__law_begun) := fn_D F23 f__law_begun t23 k__law_begun fun ms Kc _ h => h__law_begun ms Kc h
  have t24 : Tab P w K mg base 2 E__law_called [sp__law_draw] := ⟨hD, blt, (fun p hp => by cases hp), fun f x n ks h => by
    match f, h with
    | 0, h => cases h; exact ⟨_, rfl, CallOk.pos g22 F22.kp (o22.mono (by decide)) rfl b22⟩
    | q + 1, h => simp [E__law_called] at h⟩
  have o24 : FnOkG P w K mg base 3 _ d24 ["_law_m", "_law_top"] (liftSp K 2 sp__law_called) := fn_D F24 f__law_called t24 k__law_called fun ms Kc _ h => h__law_called ms Kc h
  have t25 : Tab P w K mg base 2 E__law_amount [sp__law_draw] := ⟨hD, blt, (fun p hp => by cases hp), fun f x n ks h => by
    match f, h with
    | 0, h => cases h; exact ⟨_, rfl, CallOk.pos g22 F22.kp (o22.mono (by decide)) rfl b22⟩
    | q + 1, h => simp [E__law_amount] at h⟩
  have o25 : FnOkG P w K mg base 3 _ d25 ["_law_m"] (liftSp K 1 sp__law_amount) := fn_D F25 f__law_amount t25 k__law_amount fun ms Kc _ h => h__law_amount ms Kc h
  have t26 : Tab P w K mg base 2 E__law_split [sp__law_draw] := ⟨hD, blt, (fun p hp => by cases hp), fun f x n ks h => by
    match f, h with
    | 0, h => cases h; exact ⟨_, rfl, CallOk.pos g22 F22.kp (o22.mono (by decide)) rfl b22⟩
    | q + 1, h => simp [E__law_split] at h⟩
  have o26 : FnOkG P w K mg base 3 _ d26 ["_law_m", "_law_total", "_law_parts"] (liftSp K 3 sp__law_split) := fn_D F26 f__law_split t26 k__law_split fun ms Kc _ h => h__law_split ms Kc h
  have t27 : Tab P w K mg base 3 E__law_goods [sp__law_draw, sp__law_amount] := ⟨hD, blt, (fun p hp => by cases hp), fun f x n ks h => by
    match f, h with
    | 0, h => cases h; exact ⟨_, rfl, CallOk.pos g22 F22.kp (o22.mono (by decide)) rfl b22⟩
    | 1, h => cases h; exact ⟨_, rfl, CallOk.pos g25 F25.kp (o25.mono (by decide)) rfl b25⟩
    | q + 2, h => simp [E__law_goods] at h⟩
  have o27 : FnOkG P w K mg base 4 _ d27 ["_law_m", "_law_w", "_law_who", "_law_top"] (liftSp K 4 sp__law_goods) := fn_D F27 f__law_goods t27 k__law_goods fun ms Kc _ h => h__law_goods ms Kc h
  have t28 : Tab P w K mg base 0 E__law_gain [] := ⟨hD, blt, (fun p hp => by cases hp), fun f x n ks h => by simp [E__law_gain] at h⟩
  have o28 : FnOkG P w K mg base 1 _ d28 ["_law_own", "_law_rest_here"] (liftSp K 2 sp__law_gain) := fn_D F28 f__law_gain t28 k__law_gain fun ms Kc _ h => h__law_gain ms Kc h
  have t29 : Tab P w K mg base 0 E__law_bonds [] := ⟨hD, blt, (fun p hp => by cases hp), fun f x n ks h => by simp [E__law_bonds] at h⟩
  have o29 : FnOkG P w K mg base 1 _ d29 ["_law_own"] (liftSp K 1 sp__law_bonds) := fn_D F29 f__law_bonds t29 k__law_bonds fun ms Kc _ h => h__law_bonds ms Kc h
  have t30 : Tab P w K mg base 0 E__law_own_gains [] := ⟨hD, blt, (fun p hp => by cases hp), fun f x n ks h => by simp [E__law_own_gains] at h⟩
  have o30 : FnOkG P w K mg base 1 _ d30 ["_law_own", "_law_rest_here"] (liftSp K 2 sp__law_own_gains) := fn_D F30 f__law_own_gains t30 k__law_own_gains fun ms Kc _ h => h__law_own_gains ms Kc h
  have t31 : Tab P w K mg base 0 E__law_sorted [] := ⟨hD, blt, (fun p hp => by cases hp), fun f x n ks h => by simp [E__law_sorted] at h⟩
  have o31 : FnOkG P w K mg base 1 _ d31 ["_law_own", "_law_rest_here"] (liftSp K 2 sp__law_sorted) := fn_D F31 f__law_sorted t31 k__law_sorted fun ms Kc _ h => h__law_sorted ms Kc h
  have t32 : Tab P w K mg base 1 E__law_needed [sp__law_gain] := ⟨hD, blt, (fun p hp => by cases hp), fun f x n ks h => by
    match f, h with
    | 0, h => cases h; exact ⟨_, rfl, CallOk.pos g28 F28.kp (o28.mono (by decide)) rfl b28⟩
    | q + 1, h => simp [E__law_needed] at h⟩
  have o32 : FnOkG P w K mg base 2 _ d32 ["_law_own", "_law_row"] (liftSp K 2 sp__law_needed) := fn_D F32 f__law_needed t32 k__law_needed fun ms Kc _ h => h__law_needed ms Kc h
  have t33 : Tab P w K mg base 2 E__law_need_of [sp__law_needed, sp__law_sorted] := ⟨hD, blt, (fun p hp => by cases hp), fun f x n ks h => by
    match f, h with
    | 0, h => cases h; exact ⟨_, rfl, CallOk.pos g32 F32.kp (o32.mono (by decide)) rfl b32⟩
    | 1, h => cases h; exact ⟨_, rfl, CallOk.pos g31 F31.kp (o31.mono (by decide)) rfl b31⟩
    | q + 2, h => simp [E__law_need_of] at h⟩
  have o33 : FnOkG P w K mg base 3 _ d33 ["_law_own", "_law_rest_here"] (liftSp K 2 sp__law_need_of) := fn_D F33 f__law_need_of t33 k__law_need_of fun ms Kc _ h => h__law_need_of ms Kc h
  have t34 : Tab P w K mg base 3 E__law_dues [sp__law_gain, sp__law_bonds, sp__law_split, sp__law_own_gains] := ⟨hD, blt, (fun p hp => by cases hp), fun f x n ks h => by
    match f, h with
    | 0, h => cases h; exact ⟨_, rfl, CallOk.pos g28 F28.kp (o28.mono (by decide)) rfl b28⟩
    | 1, h => cases h; exact ⟨_, rfl, CallOk.pos g29 F29.kp (o29.mono (by decide)) rfl b29⟩
    | 2, h => cases h; exact ⟨_, rfl, CallOk.pos g26 F26.kp (o26.mono (by decide)) rfl b26⟩
    | 3, h => cases h; exact ⟨_, rfl, CallOk.pos g30 F30.kp (o30.mono (by decide)) rfl b30⟩
    | q + 4, h => simp [E__law_dues] at h⟩
  have o34 : FnOkG P w K mg base 4 _ d34 ["_law_m", "_law_own", "_law_rest_here"] (liftSp K 3 sp__law_dues) := fn_D F34 f__law_dues t34 k__law_dues fun ms Kc _ h => h__law_dues ms Kc h
  have t35 : Tab P w K mg base 4 E__law_deal_of [sp__law_need_of, sp__law_draw, sp__law_split, sp__law_dues] := ⟨hD, blt, (fun p hp => by cases hp), fun f x n ks h => by
    match f, h with
    | 0, h => cases h; exact ⟨_, rfl, CallOk.pos g33 F33.kp (o33.mono (by decide)) rfl b33⟩
    | 1, h => cases h; exact ⟨_, rfl, CallOk.pos g22 F22.kp (o22.mono (by decide)) rfl b22⟩
    | 2, h => cases h; exact ⟨_, rfl, CallOk.pos g26 F26.kp (o26.mono (by decide)) rfl b26⟩
    | 3, h => cases h; exact ⟨_, rfl, CallOk.pos g34 F34.kp (o34.mono (by decide)) rfl b34⟩
    | q + 4, h => simp [E__law_deal_of] at h⟩
  have o35 : FnOkG P w K mg base 5 _ d35 ["_law_m", "_law_who", "_law_goods_here"] (liftSp K 3 sp__law_deal_of) := fn_D F35 f__law_deal_of t35 k__law_deal_of fun ms Kc _ h => h__law_deal_of ms Kc h
  have t36 : Tab P w K mg base 5 E__law_any [sp__law_draw, sp__law_deal_of, sp__law_goods] := ⟨hD, blt, (fun p hp => by cases hp), fun f x n ks h => by
    match f, h with
    | 0, h => cases h; exact ⟨_, rfl, CallOk.pos g22 F22.kp (o22.mono (by decide)) rfl b22⟩
    | 1, h => cases h; exact ⟨_, rfl, CallOk.pos g35 F35.kp (o35.mono (by decide)) rfl b35⟩
    | 2, h => cases h; exact ⟨_, rfl, CallOk.pos g27 F27.kp (o27.mono (by decide)) rfl b27⟩
    | q + 3, h => simp [E__law_any] at h⟩
  have o36 : FnOkG P w K mg base 6 _ d36 ["_law_m", "_law_w", "_law_most", "_law_top"] (liftSp K 4 sp__law_any) := fn_D F36 f__law_any t36 k__law_any fun ms Kc _ h => h__law_any ms Kc h
  have t37 : Tab P w K mg base 2 E__law_rest [sp__law_draw] := ⟨hD, blt, (fun p hp => by cases hp), fun f x n ks h => by
    match f, h with
    | 0, h => cases h; exact ⟨_, rfl, CallOk.pos g22 F22.kp (o22.mono (by decide)) rfl b22⟩
    | q + 1, h => simp [E__law_rest] at h⟩
  have o37 : FnOkG P w K mg base 3 _ d37 ["_law_m", "_law_own"] (liftSp K 2 sp__law_rest) := fn_D F37 f__law_rest t37 k__law_rest fun ms Kc _ h => h__law_rest ms Kc h
  have t38 : Tab P w K mg base 1 E__law_walked [sp__law_gain] := ⟨hD, blt, (fun p hp => by cases hp), fun f x n ks h => by
    match f, h with
    | 0, h => cases h; exact ⟨_, rfl, CallOk.pos g28 F28.kp (o28.mono (by decide)) rfl b28⟩
    | q + 1, h => simp [E__law_walked] at h⟩
  have o38 : FnOkG P w K mg base 2 _ d38 ["_law_own", "_law_rest_here", "_law_k", "_law_by", "_law_top"] (liftSp K 5 sp__law_walked) := fn_D F38 f__law_walked t38 k__law_walked fun ms Kc _ h => h__law_walked ms Kc h
  have t39 : Tab P w K mg base 1 E__law_ends [sp__law_gain] := ⟨hD, blt, (fun p hp => by cases hp), fun f x n ks h => by
    match f, h with
    | 0, h => cases h; exact ⟨_, rfl, CallOk.pos g28 F28.kp (o28.mono (by decide)) rfl b28⟩
    | q + 1, h => simp [E__law_ends] at h⟩
  have o39 : FnOkG P w K mg base 2 _ d39 ["_law_own", "_law_rest_here", "_law_k", "_law_by", "_law_top"] (liftSp K 5 sp__law_ends) := fn_D F39 f__law_ends t39 k__law_ends fun ms Kc _ h => h__law_ends ms Kc h
  have t40 : Tab P w K mg base 2 E__law_few [sp__law_walked] := ⟨hD, blt, (fun p hp => by cases hp), fun f x n ks h => by
    match f, h with
    | 0, h => cases h; exact ⟨_, rfl, CallOk.pos g38 F38.kp (o38.mono (by decide)) rfl b38⟩
    | q + 1, h => simp [E__law_few] at h⟩
  have o40 : FnOkG P w K mg base 3 _ d40 ["_law_own", "_law_rest_here", "_law_k", "_law_by"] (liftSp K 4 sp__law_few) := fn_D F40 f__law_few t40 k__law_few fun ms Kc _ h => h__law_few ms Kc h
  have t41 : Tab P w K mg base 2 E__law_trusts [sp__law_gain, sp__law_draw] := ⟨hD, blt, (fun p hp => by cases hp), fun f x n ks h => by
    match f, h with
    | 0, h => cases h; exact ⟨_, rfl, CallOk.pos g28 F28.kp (o28.mono (by decide)) rfl b28⟩
    | 1, h => cases h; exact ⟨_, rfl, CallOk.pos g22 F22.kp (o22.mono (by decide)) rfl b22⟩
    | q + 2, h => simp [E__law_trusts] at h⟩
  have o41 : FnOkG P w K mg base 3 _ d41 ["_law_m", "_law_own", "_law_rest_here", "_law_k"] (liftSp K 4 sp__law_trusts) := fn_D F41 f__law_trusts t41 k__law_trusts fun ms Kc _ h => h__law_trusts ms Kc h
  have t42 : Tab P w K mg base 7 E__law_right [sp__law_bonds, kwSp 3 1 (fun ds es => [ds.getD 0 .none, ds.getD 1 .none, ds.getD 2 .none, es.getD 0 .none]) sp_pieces, kwSp 0 4 (fun ds es => [es.getD 3 .none, es.getD 1 .none, es.getD 0 .none, es.getD 2 .none]) sp_pieces, kwSp 3 0 (fun ds es => [ds.getD 0 .none, ds.getD 1 .none, ds.getD 2 .none, .none]) sp_pieces, sp__law_few, sp__law_ends] := ⟨hD, blt, (fun p hp => by cases hp), fun f x n ks h => by
    match f, h with
    | 0, h => cases h; exact ⟨_, rfl, CallOk.pos g29 F29.kp (o29.mono (by decide)) rfl b29⟩
    | 1, h => cases h; exact ⟨_, rfl, CallOk.kw (gD := (fun ds es => [ds.getD 0 .none, ds.getD 1 .none, ds.getD 2 .none, es.getD 0 .none])) g19 F19.kp (o19.mono (by decide)) kk2 (fun {H vs zs ds es} r1 r2 l1 l2 => by
      match ds, es, l1, l2 with
      | [x0, x1, x2], [y0], _, _ => exact r1.append r2) (fun ds es l1 l2 => rfl)⟩
    | 2, h => cases h; exact ⟨_, rfl, CallOk.kw (gD := (fun ds es => [es.getD 3 .none, es.getD 1 .none, es.getD 0 .none, es.getD 2 .none])) g19 F19.kp (o19.mono (by decide)) kk3 (fun {H vs zs ds es} r1 r2 l1 l2 => by
      match ds, es, l1, l2 with
      | [], [y0, y1, y2, y3], _, _ => exact rpsPick (r1.append r2) [3, 1, 0, 2]) (fun ds es l1 l2 => rfl)⟩
    | 3, h => cases h; exact ⟨_, rfl, CallOk.kw (gD := (fun ds es => [ds.getD 0 .none, ds.getD 1 .none, ds.getD 2 .none, .none])) g19 F19.kp (o19.mono (by decide)) kk4 (fun {H vs zs ds es} r1 r2 l1 l2 => by
      match ds, es, l1, l2 with
      | [x0, x1, x2], [], _, _ => exact (r1.append r2).append (.cons .non .nil)) (fun ds es l1 l2 => rfl)⟩
    | 4, h => cases h; exact ⟨_, rfl, CallOk.pos g40 F40.kp (o40.mono (by decide)) rfl b40⟩
    | 5, h => cases h; exact ⟨_, rfl, CallOk.pos g39 F39.kp (o39.mono (by decide)) rfl b39⟩
    | q + 6, h => simp [E__law_right] at h⟩
  have o42 : FnOkG P w K mg base 8 _ d42 ["_law_own", "_law_rest_here", "_law_k", "_law_by"] (liftSp K 4 sp__law_right) := fn_D F42 f__law_right t42 k__law_right fun ms Kc _ h => h__law_right ms Kc h
  have t43 : Tab P w K mg base 8 E_law [sp__law_begun, sp__law_called, sp__law_any, sp__law_draw, sp__law_rest, sp__law_trusts, sp__law_right] := ⟨hD, blt, (fun p hp => by cases hp), fun f x n ks h => by
    match f, h with
    | 0, h => cases h; exact ⟨_, rfl, CallOk.pos g23 F23.kp (o23.mono (by decide)) rfl b23⟩
    | 1, h => cases h; exact ⟨_, rfl, CallOk.pos g24 F24.kp (o24.mono (by decide)) rfl b24⟩
    | 2, h => cases h; exact ⟨_, rfl, CallOk.pos g36 F36.kp (o36.mono (by decide)) rfl b36⟩
    | 3, h => cases h; exact ⟨_, rfl, CallOk.pos g22 F22.kp (o22.mono (by decide)) rfl b22⟩
    | 4, h => cases h; exact ⟨_, rfl, CallOk.pos g37 F37.kp (o37.mono (by decide)) rfl b37⟩
    | 5, h => cases h; exact ⟨_, rfl, CallOk.pos g41 F41.kp (o41.mono (by decide)) rfl b41⟩
    | 6, h => cases h; exact ⟨_, rfl, CallOk.pos g42 F42.kp (o42.mono (by decide)) rfl b42⟩
    | q + 7, h => simp [E_law] at h⟩
  have o43 : FnOkG P w K mg base 9 _ d43 ["_law_script"] (liftSp K 1 sp_law) := fn_D F43 f_law t43 k_law fun ms Kc _ h => h_law ms Kc h
  exact o43
end Q.K50
set_option Elab.async false
set_option linter.all false
set_option maxRecDepth 100000
set_option maxHeartbeats 0
open PySem PySem.W PySem.Calls PyProof.Rows
theorem PySem.Challenge.cw_staybonds_k50_pieces_walked_holds : PySem.Challenge.rw_staybonds_k50_pieces_walked.Holds := by
  w_on; o_law
  refine HandSHeadRun.head_any (r := OpenLaw.row PySem.Challenge.rw_staybonds_k50_pieces_walked) (q := view (OpenLaw.row PySem.Challenge.rw_staybonds_k50_pieces_walked).prog [61]) (H := Q.K50.hk) (ob := Q.K50.ob) (M := 4000) (loose := Q.K50.loose) (d := HandSHeadRun.topDef (OpenLaw.row PySem.Challenge.rw_staybonds_k50_pieces_walked).prog 61) (kwd := []) Q.K50.ob_eq
    (by kernel_rfl) (fun s => by kernel_rfl) Q.K50.run (by kernel_rfl) (by kernel_rfl) (by kernel_rfl) (by rfl) (by first | assumption | decide +kernel) (by decide +kernel) ⟨rfl, rfl, rfl, rfl, rfl, by decide +kernel⟩ ?hw ?hc
  case hw => w_witness2
  case hc =>
    refine Q.walk_ofG (l := PySem.Challenge.rw_staybonds_k50_pieces_walked) (n := 63) (k := 9) (x := "_law_script") rfl (by decide) (by kernel_rfl) ⟨rfl, by decide, by decide⟩ rfl ?F
    intro w mg fa h Y G hmg0
    obtain ⟨K, KX, c⟩ := Y
    have hmg : mg ("law" : PySem.Str) = some (.ref fa) := by
      have e : (HandSHeadRun.topDef (OpenLaw.row PySem.Challenge.rw_staybonds_k50_pieces_walked).prog 61).name = ("law" : PySem.Str) := by kernel_rfl
      rw [← e]
      exact hmg0
    obtain ⟨fd, hb, hF⟩ := Q.K50.facts (P := (PySem.Challenge.rw_staybonds_k50_pieces_walked).prog) (w := w) KX G hmg c
    exact ⟨K, fd, Q.K50.sp_law, KX, hb, fun ns Kc hl _ hK => ⟨ns, rfl, by omega, fun os => hK os⟩, hF⟩
