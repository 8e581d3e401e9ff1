import PyProof.Rows.All
import Wide.All
import OpenK.AllK
import Wide.FinOn
import HandS.ForMost
import HandS.Defaults
import HandS.Wide
import KE.KIntText
import PyProof.Rows.Digits
import PyProof.StrBlock2
import HandS.TupMul
import HandS.TupAny
import HandS.Deep
import HandS.Style
import HandS.IsInst
import PyProof.ReprReads
import HandS.More
import HandS.RaiseMore
import PyProof.ReprRoads
import HandS.Walk
import HandS.Conv
import HandS.Words
import HandS.Zip
import HandS.Ends
import HandS.EndBits
import HandS.HeadEnd
import HandS.Head0
import HandS.Head1
import HandS.Head2
import HandS.HeadHook1
import HandS.HeadHook2
import HandS.MakeKw
import HandS.MakeKwOnly
import KE.IntTextLaws
import PySem.Challenge.RW_staybonds_k01_names_and_coins
set_option Elab.async false
set_option linter.all false
set_option maxRecDepth 100000
/-! LA: codes over pure data, and what they are worth (weakest preconditions). -/
namespace Q
open PySem

/-- what a name may hold: pure data, an own list of pure data, an own dict -/
inductive M where
  | p (d : PyData)
  | l (ds : List PyData)
  | dc (kvs : List (L2.Key × M))

abbrev De := List (Option M)
/-- what an expression gives: a value of its own, or what a name of the frame holds -/
inductive Val where
  | own (m : M)
  | at (i : Nat)

inductive BOp where | add | sub | mul | fdiv | mod | pow | shl | shr | band
  deriving DecidableEq
inductive COp where | eq | ne | lt | le | gt | ge | isin | notin | is | isnot
  deriving DecidableEq
inductive BI where | len | sum | max | min | all | any | tuple | list | repr | abs | int | str | bool
  deriving DecidableEq
inductive ME where | join | split | index | upper | count
  deriving DecidableEq
inductive MU where | append | insert | pop | extend | remove
  deriving DecidableEq
inductive Tg where | n (i : Nat) | t0 | tc (a as : Tg)

inductive C where
  | nil | cons (a as : C)
  | v (i : Nat) | k (d : PyData) | gk (x : Str) (d : PyData)
  | tup (l : C) | lst (l : C) | dct (ks : List Str) (l : C)
  | bin (op : BOp) (a b : C) | neg (a : C)
  | cmp (op : COp) (a b : C) | ch (o1 o2 : COp) (a b c : C)
  | and (l : C) | or (l : C) | not (t : C) | ite (t a b : C)
  | ix (a b : C) | sl (a lo hi : C) | rev (a : C)
  | ixs (i : Nat) (key : Str) (b : C) | nes (i : Nat) (key : Str) | lens (i : Nat) (key : Str)
  | bi (f : BI) (l : C) | isi (a : C) (ty : String) | me (f : ME) (o l : C) | mu (f : MU) (i : Nat) (l : C)
  | call (f : Nat) (l kl : C)
  | rng (l : C) | enum (a : C) | zip (a b : C) (strict : Bool)
  | comp (own : List Nat) (tg : Tg) (src ifs elt : C)
  | tupI (src : C) | lstI (src : C) | tv (c : C) | sv (c : C)

structure Exn where
  cls : Str
  fs : List (Str × PyData)
/-- what a def promises: of its arguments, for what is wanted of its answer and of what the arguments are then -/
abbrev Spec := List M → (M → List M → Prop) → (Exn → List M → Prop) → Prop

/-! ### data -/
def pureKvs : List (L2.Key × M) → Option (List (PyData × PyData))
  | [] => some []
  | (k, .p d) :: r => (pureKvs r).map fun q => ((match k with | .inl i => .int i | .inr x => .str x), d) :: q
  | _ :: _ => none
def M.data : M → Option PyData
  | .p d => some d
  | .l ds => some (.list ds)
  | .dc kvs => (pureKvs kvs).map .dict
def M.seq : M → Option (List PyData)
  | .p (.list ds) => some ds
  | .p (.tuple ds) => some ds
  | .l ds => some ds
  | _ => none
/-- the items of a list -/
def M.lst : M → Option (List PyData)
  | .p (.list ds) => some ds
  | .l ds => some ds
  | _ => none
def M.isP : M → Bool
  | .p _ => true
  | _ => false
def peek (δ : De) : Val → Option M
  | .own m => some m
  | .at i => (δ[i]?).getD none
def peeks (δ : De) : List Val → Option (List M)
  | [] => some []
  | v :: vs => match peek δ v, peeks δ vs with
    | some m, some ms => some (m :: ms)
    | _, _ => none
/-- a value kept: what a name holds is its own no more -/
def frz : Val → De → (PyData → De → Prop) → Prop
  | .own m, δ, K => match m.data with
    | some d => K d δ
    | none => False
  | .at i, δ, K => match (δ[i]?).getD none with
    | some m => match m.data with
      | some d => K d (δ.set i (some (.p d)))
      | none => False
    | none => False
/-- a value moved into another one -/
def mov : Val → De → (M → De → Prop) → Prop
  | .own m, δ, K => K m δ
  | .at i, δ, K => frz (.at i) δ fun d δ' => K (.p d) δ'

/-! ### operators -/
def mulOk (i j : Int) : Prop := (-(2 ^ 64) < i ∧ i < 2 ^ 64) ∨ (-(2 ^ 64) < j ∧ j < 2 ^ 64) ∨ i.natAbs.log2 + j.natAbs.log2 < 1000000
def rep {α : Type} (n : Nat) (xs : List α) : List α := (List.replicate n xs).flatten
def binM : BOp → M → M → (M → Prop) → Prop
  | .add, .p (.int i), .p (.int j), K => K (.p (.int (i + j)))
  | .add, .p (.str a), .p (.str b), K => a.length + b.length ≤ sizeLine ∧ K (.p (.str (a ++ b)))
  | .add, .p (.tuple a), .p (.tuple b), K => a.length + b.length ≤ sizeLine ∧ K (.p (.tuple (a ++ b)))
  | .add, x, y, K => ∃ a b, x.lst = some a ∧ y.lst = some b ∧ a.length + b.length ≤ sizeLine ∧ K (.l (a ++ b))
  | .sub, .p (.int i), .p (.int j), K => K (.p (.int (i - j)))
  | .mul, .p (.int i), .p (.int j), K => mulOk i j ∧ K (.p (.int (i * j)))
  | .mul, .p (.tuple a), .p (.int j), K => a ≠ [] ∧ 2 ≤ j ∧ j ≤ 1000 ∧ a.length ≤ 1000 ∧ K (.p (.tuple (rep j.toNat a)))
  | .mul, .p (.str a), .p (.int j), K => MulOk a j ∧ K (.p (.str (Txt.mul a j)))
  | .mul, .l a, .p (.int j), K => -(2 ^ 63) ≤ j ∧ j < 2 ^ 63 ∧ a.length * j.toNat ≤ sizeLine ∧ K (.l (rep j.toNat a))
  | .fdiv, .p (.int i), .p (.int j), K => (0 < j ∧ j.natAbs.log2 < 9000) ∧ K (.p (.int (i / j)))
  | .mod, .p (.int i), .p (.int j), K => 0 < j ∧ K (.p (.int (i % j)))
  | .pow, .p (.int i), .p (.int j), K => (0 ≤ j ∧ j ≤ 1000000 ∧ i.natAbs < 2 ^ 64) ∧ K (.p (.int (i ^ j.toNat)))
  | .shl, .p (.int i), .p (.int j), K => (0 ≤ j ∧ j ≤ 1000000 ∧ i.natAbs < 2 ^ 64) ∧ K (.p (.int (i * 2 ^ j.toNat)))
  | .shr, .p (.int i), .p (.int j), K => 0 ≤ j ∧ K (.p (.int (i / 2 ^ j.toNat)))
  | .band, .p (.int i), .p (.int j), K => K (.p (.int (Builtin.bitAnd i j)))
  | _, _, _, _ => False
def strLt (a b : Str) : Bool := decide (a.cps.toList < b.cps.toList)
/-- is equal, where that is told -/
def eqM : M → M → (Bool → Prop) → Prop
  | .p (.int i), .p (.int j), K => K (decide (i = j))
  | .p (.str a), .p (.str b), K => K (decide (a = b))
  | .p (.bool a), .p (.bool b), K => K (decide (a = b))
  | x, y, K => ∃ d e, x.data = some d ∧ y.data = some e ∧ SeqAt.shaped d = true ∧ SeqAt.shaped e = true ∧ K (PyData.eqv d e)
def isM : M → M → (Bool → Prop) → Prop
  | .p .none, .p .none, K => K true
  | .p _, .p .none, K => K false
  | .p (.bool a), .p (.bool b), K => K (a == b)
  | .l _, .p .none, K => K false
  | .dc _, .p .none, K => K false
  | _, _, _ => False
def flatD : PyData → Bool
  | .none | .bool _ | .int _ | .str _ => true
  | _ => false
def kget : List (L2.Key × M) → L2.Key → Option M
  | [], _ => none
  | (k, m) :: r, x => if k = x then some m else kget r x
def kput : List (L2.Key × M) → L2.Key → M → List (L2.Key × M)
  | [], x, z => [(x, z)]
  | (k, m) :: r, x, z => if k = x then (k, z) :: r else (k, m) :: kput r x z
def keyOf : PyData → Option L2.Key
  | .int i => some (.inl i)
  | .str x => some (.inr x)
  | _ => none
def inM : M → M → (Bool → Prop) → Prop
  | .p (.str a), .p (.str b), K => K (!(Builtin.Str.occurrences b a 0 b.length 1).isEmpty)
  | .p d, .dc kvs, K => ∃ k, keyOf d = some k ∧ K (kget kvs k).isSome
  | x, y, K => ∃ d ds, x.data = some d ∧ y.seq = some ds ∧ ((flatD d = true ∧ ds.all flatD = true) ∨ (y.lst = some ds ∧ SeqAt.shaped d = true ∧ SeqAt.shaped (.list ds) = true)) ∧ K (ds.any fun z => PyData.eqv z d)
def cmpM : COp → M → M → (Bool → Prop) → Prop
  | .eq, x, y, K => eqM x y K
  | .ne, x, y, K => eqM x y fun b => K (!b)
  | .lt, .p (.int i), .p (.int j), K => K (decide (i < j))
  | .le, .p (.int i), .p (.int j), K => K (decide (i ≤ j))
  | .gt, .p (.int i), .p (.int j), K => K (decide (j < i))
  | .ge, .p (.int i), .p (.int j), K => K (decide (j ≤ i))
  | .lt, .p (.str a), .p (.str b), K => K (strLt a b)
  | .is, x, y, K => isM x y K
  | .isnot, x, y, K => isM x y fun b => K (!b)
  | .isin, x, y, K => inM x y K
  | .notin, x, y, K => inM x y fun b => K (!b)
  | _, _, _, _ => False
/-- a value's truth -/
def truM : M → (Bool → Prop) → Prop
  | .p (.bool b), K => K b
  | .p (.int i), K => K (i != 0)
  | .p .none, K => K false
  | .l ds, K => K (!ds.isEmpty)
  | _, _ => False
def ixM : M → PyData → (PyData → Prop) → Prop
  | .p (.str z), .int i, K => z.length ≤ sizeLine ∧ ∃ c, L2.atI z.cps.toList i = some c ∧ K (.str ⟨#[c]⟩)
  | .dc kvs, k, K => ∃ key d, keyOf k = some key ∧ kget kvs key = some (.p d) ∧ K d
  | m, .int i, K => ∃ ds d, m.seq = some ds ∧ L2.atI ds i = some d ∧ K d
  | _, _, _ => False
def cut {α : Type} (xs : List α) (lo hi : Option Int) : List α := (xs.drop (HT.sIx xs.length 0 lo)).take (HT.sIx xs.length xs.length hi - HT.sIx xs.length 0 lo)
def slM : M → Option Int → Option Int → (M → Prop) → Prop
  | .p (.str z), lo, hi, K => z.length ≤ sizeLine ∧ K (.p (.str (L2.cutS z lo hi)))
  | .p (.tuple ds), lo, hi, K => K (.p (.tuple (cut ds lo hi)))
  | m, lo, hi, K => ∃ ds, m.lst = some ds ∧ K (.l (cut ds lo hi))
def intL : List PyData → Option (List Int)
  | [] => some []
  | .int i :: r => (intL r).map (i :: ·)
  | _ :: _ => none
def boolL : List PyData → Option (List Bool)
  | [] => some []
  | .bool b :: r => (boolL r).map (b :: ·)
  | _ :: _ => none
def strL : List PyData → Option (List Str)
  | [] => some []
  | .str x :: r => (strL r).map (x :: ·)
  | _ :: _ => none
def biM : BI → List M → (M → Prop) → Prop
  | .len, [.p (.str z)], K => z.length ≤ sizeLine ∧ K (.p (.int z.length))
  | .len, [.dc kvs], K => K (.p (.int kvs.length))
  | .len, [m], K => ∃ ds, m.seq = some ds ∧ K (.p (.int ds.length))
  | .sum, [m], K => ∃ ds ns, m.lst = some ds ∧ intL ds = some ns ∧ K (.p (.int ns.sum))
  | .max, [.p (.int i), .p (.int j)], K => K (.p (.int (if j > i then j else i)))
  | .min, [.p (.int i), .p (.int j)], K => K (.p (.int (if j < i then j else i)))
  | .max, [m], K => ∃ ds ns, m.lst = some ds ∧ intL ds = some ns ∧ 0 < ns.length ∧ ∀ z, z ∈ ns → (∀ y, y ∈ ns → y ≤ z) → K (.p (.int z))
  | .min, [m], K => ∃ ds ns, m.lst = some ds ∧ intL ds = some ns ∧ 0 < ns.length ∧ ∀ z, z ∈ ns → (∀ y, y ∈ ns → z ≤ y) → K (.p (.int z))
  | .all, [m], K => ∃ ds bs, m.lst = some ds ∧ boolL ds = some bs ∧ K (.p (.bool (bs.all id)))
  | .any, [m], K => ∃ ds bs, m.lst = some ds ∧ boolL ds = some bs ∧ K (.p (.bool (bs.any id)))
  | .tuple, [m], K => ∃ ds, m.seq = some ds ∧ K (.p (.tuple ds))
  | .list, [m], K => ∃ ds, m.seq = some ds ∧ K (.l ds)
  | .repr, [m], K => ∃ d, m.data = some d ∧ d.showable = true ∧ d.hasDict = false ∧ d.shown.length ≤ sizeLine ∧ d.depth ≤ 100 ∧ K (.p (.str d.shown))
  | .abs, [.p (.int i)], K => K (.p (.int (if i < 0 then -i else i)))
  | .int, [.p (.int i)], K => K (.p (.int i))
  | .int, [.p (.bool b)], K => K (.p (.int (if b then 1 else 0)))
  | .int, [.p (.str x)], K => ∃ n, PySem.intText? x = some n ∧ (x.length ≤ 640 ∨ (x.length ≤ sizeLine ∧ ¬ (numSeenOf x).length ≤ 640)) ∧ K (.p (.int n))
  | .str, [.p (.int i)], K => i.natAbs.log2 < 1920 ∧ K (.p (.str (toString i)))
  | .str, [.p (.str x)], K => K (.p (.str x))
  | _, _, _ => False
def M.kn : M → String
  | .p .none => "NoneType"
  | .p (.bool _) => "bool"
  | .p (.int _) => "int"
  | .p (.str _) => "str"
  | .p (.list _) => "list"
  | .p (.tuple _) => "tuple"
  | .p (.dict _) => "dict"
  | .l _ => "list"
  | .dc _ => "dict"
def isiS (k t : String) : Bool := k == t || (k == "bool" && t == "int")
def isiM (m : M) (t : String) (K : Bool → Prop) : Prop := t ∈ ["int", "bool", "str", "list", "tuple", "dict"] ∧ K (isiS m.kn t)
def meTy : ME → M → Prop
  | .join, m => ∃ a, m = .p (.str a)
  | _, _ => False
def meM : ME → M → List M → (M → Prop) → Prop
  | .join, .p (.str a), [m], K => ∃ ds xs, m.seq = some ds ∧ strL ds = some xs ∧ (xs.map (·.length)).sum + xs.length * a.length ≤ 16777216 ∧ K (.p (.str (Txt.join a xs)))
  | _, _, _, _ => False
def muM : MU → M → List PyData → (PyData → M → Prop) → Prop
  | .append, .l ds, [d], K => ds.length < sizeLine ∧ K .none (.l (ds ++ [d]))
  | .insert, .l ds, [.int i, d], K => ds.length < sizeLine ∧ 0 ≤ i ∧ i < 2 ^ 63 ∧ K .none (.l (ds.take i.toNat ++ [d] ++ ds.drop i.toNat))
  | .pop, .l ds, [.int i], K => -(2 ^ 63) ≤ i ∧ i < 2 ^ 63 ∧ ∃ j d, seqIndex? i ds.length = some j ∧ ds[j]? = some d ∧ K d (.l (ds.eraseIdx j))
  | _, _, _, _ => False

/-! ### names -/
def wipe (δ : De) : List Nat → De
  | [] => δ
  | i :: is => (wipe δ is).set i none
def back (δ₀ δ : De) : List Nat → De
  | [] => δ
  | i :: is => (back δ₀ δ is).set i ((δ₀[i]?).getD none)
def light : Option M → Bool
  | none => true
  | some m => m.isP
def lightAll (δ : De) (is : List Nat) : Bool := is.all fun i => decide (i < δ.length) && light ((δ[i]?).getD none)
mutual
def bindT (lk : List Nat) : Tg → PyData → De → Option De
  | .n i, d, δ => if i ∈ lk then none else if i < δ.length then some (δ.set i (some (.p d))) else none
  | .t0, .tuple [], δ => some δ
  | .tc a as, .tuple (d :: ds), δ => match bindT lk a d δ with
    | some δ' => bindTs lk as ds δ'
    | none => none
  | _, _, _ => none
def bindTs (lk : List Nat) : Tg → List PyData → De → Option De
  | .t0, [], δ => some δ
  | .tc a as, d :: ds, δ => match bindT lk a d δ with
    | some δ' => bindTs lk as ds δ'
    | none => none
  | _, _, _ => none
end
/-- what is walked: the items, and the names whose lists must stay as they are meanwhile -/
structure Src where
  items : List PyData
  gd : List (Nat × List PyData)
def gdOk (gd : List (Nat × List PyData)) (δ : De) : Prop := ∀ g ∈ gd, ∃ m : M, (δ[g.1]?).getD none = some m ∧ m.lst = some g.2
def srcOf (δ : De) : Val → Option Src
  | .own (.p (.str z)) => some ⟨z.cps.toList.map fun c => .str ⟨#[c]⟩, []⟩
  | .own m => m.seq.map fun ds => ⟨ds, []⟩
  | .at i => match (δ[i]?).getD none with
    | some (.l ds) => some ⟨ds, [(i, ds)]⟩
    | _ => none
def lsrcOf (δ : De) : Val → Option Src
  | .own m => m.lst.map fun ds => ⟨ds, []⟩
  | .at i => match (δ[i]?).getD none with
    | some (.l ds) => some ⟨ds, [(i, ds)]⟩
    | _ => none
def compLoop (own : List Nat) (gd : List (Nat × List PyData)) (turn : PyData → De → (Option PyData → De → Prop) → Prop) : List PyData → De → (List PyData → De → Prop) → Prop
  | [], δ, K => gdOk gd δ ∧ K [] δ
  | x :: xs, δ, K => gdOk gd δ ∧ turn x δ fun o δ' => compLoop own gd turn xs (wipe δ' own) fun ds δ'' => K (o.toList ++ ds) δ''
def ats : List Val → List Nat
  | [] => []
  | .at i :: r => i :: ats r
  | .own _ :: r => ats r
def writeB : List Val → List M → De → De
  | .at i :: vs, m :: ms, δ => writeB vs ms (δ.set i (some m))
  | .own _ :: vs, _ :: ms, δ => writeB vs ms δ
  | _, _, δ => δ
def rngOf : List PyData → Option (Int × Int)
  | [.int j] => some (0, j)
  | [.int i, .int j] => some (i, j)
  | _ => none
def rngItems (lo hi : Int) : List PyData := (List.range (hi - lo).toNat).map fun (k : Nat) => PyData.int (lo + (k : Int))
def enumItems (xs : List PyData) : List PyData := List.zipWith (fun (k : Nat) x => PyData.tuple [.int (k : Int), x]) (List.range xs.length) xs
def zipItems (xs ys : List PyData) : List PyData := List.zipWith (fun x y => .tuple [x, y]) xs ys
def optI : List PyData → Option (Option Int)
  | [] => some none
  | [.int i] => some (some i)
  | _ => none

/-- numbers that are told without changing anything -/
def qI : C → De → Option Int
  | .v i, δ => match (δ[i]?).getD none with
    | some (.p (.int z)) => some z
    | _ => none
  | .k (.int z), _ => some z
  | .bin op a b, δ => match op, qI a δ, qI b δ with
    | .add, some i, some j => some (i + j)
    | .sub, some i, some j => some (i - j)
    | .mod, some i, some j => if 0 < j then some (i % j) else none
    | .fdiv, some i, some j => if 0 < j ∧ j.natAbs.log2 < 9000 then some (i / j) else none
    | _, _, _ => none
  | _, _ => none
/-! ### expressions -/
mutual
def wpE (Γ : List Spec) (X : Exn → De → Prop) : C → De → (Val → De → Prop) → Prop
  | .v i, δ, K => match (δ[i]?).getD none with
    | some (.p d) => K (.own (.p d)) δ
    | some _ => K (.at i) δ
    | none => False
  | .k d, δ, K => K (.own (.p d)) δ
  | .gk _ d, δ, K => K (.own (.p d)) δ
  | .tup l, δ, K => wpF Γ X l δ fun ds δ' => ds.length ≤ sizeLine ∧ K (.own (.p (.tuple ds))) δ'
  | .lst l, δ, K => wpF Γ X l δ fun ds δ' => ds.length ≤ sizeLine ∧ K (.own (.l ds)) δ'
  | .dct ks l, δ, K => wpD Γ X l δ fun ms δ' => K (.own (.dc ((ks.map Sum.inr).zip ms))) δ'
  | .bin op a b, δ, K => wpE Γ X a δ fun x δ1 => wpE Γ X b δ1 fun y δ2 => ∃ m n, peek δ2 x = some m ∧ peek δ2 y = some n ∧ binM op m n fun r => K (.own r) δ2
  | .neg a, δ, K => wpE Γ X a δ fun x δ1 => ∃ i, peek δ1 x = some (.p (.int i)) ∧ K (.own (.p (.int (-i)))) δ1
  | .cmp op a b, δ, K => wpE Γ X a δ fun x δ1 => wpE Γ X b δ1 fun y δ2 => ∃ m n, peek δ2 x = some m ∧ peek δ2 y = some n ∧ cmpM op m n fun r => K (.own (.p (.bool r))) δ2
  | .ch o1 o2 a b c, δ, K => wpE Γ X a δ fun x δ1 => wpE Γ X b δ1 fun y δ2 => ∃ m n, peek δ2 x = some m ∧ peek δ2 y = some n ∧ cmpM o1 m n fun r =>
      if r = true then wpE Γ X c δ2 fun z δ3 => ∃ n' q, peek δ3 y = some n' ∧ peek δ3 z = some q ∧ cmpM o2 n' q fun r => K (.own (.p (.bool r))) δ3 else K (.own (.p (.bool false))) δ2
  | .and l, δ, K => wpAV Γ X l δ K
  | .or l, δ, K => wpOV Γ X l δ K
  | .not t, δ, K => wpE Γ X t δ fun x δ1 => ∃ m, peek δ1 x = some m ∧ truM m fun b => K (.own (.p (.bool (!b)))) δ1
  | .ite t a b, δ, K => wpT Γ X t δ fun r δ1 => if r = true then wpE Γ X a δ1 K else wpE Γ X b δ1 K
  | .ix a b, δ, K => wpE Γ X a δ fun x δ1 => wpE Γ X b δ1 fun y δ2 => ∃ m d, peek δ2 x = some m ∧ y = .own (.p d) ∧ ixM m d fun r => K (.own (.p r)) δ2
  | .sl a lo hi, δ, K => wpE Γ X a δ fun x δ1 => wpF Γ X lo δ1 fun ls δ2 => ∃ l, optI ls = some l ∧ wpF Γ X hi δ2 fun hs δ3 => ∃ h, optI hs = some h ∧ ∃ m, peek δ3 x = some m ∧ slM m l h fun r => K (.own r) δ3
  | .rev a, δ, K => wpE Γ X a δ fun x δ1 => ∃ m ds, peek δ1 x = some m ∧ m.lst = some ds ∧ K (.own (.l ds.reverse)) δ1
  | .ixs i key b, δ, K => ∃ kvs ds z d, (δ[i]?).getD none = some (.dc kvs) ∧ kget kvs (.inr key) = some (.l ds) ∧ qI b δ = some z ∧ L2.atI ds z = some d ∧ K (.own (.p d)) δ
  | .nes i key, δ, K => ∃ kvs ds, (δ[i]?).getD none = some (.dc kvs) ∧ kget kvs (.inr key) = some (.l ds) ∧ SeqAt.shaped (.list ds) = true ∧ K (.own (.p (.bool (!ds.isEmpty)))) δ
  | .lens i key, δ, K => ∃ kvs ds, (δ[i]?).getD none = some (.dc kvs) ∧ kget kvs (.inr key) = some (.l ds) ∧ K (.own (.p (.int ds.length))) δ
  | .bi f l, δ, K => wpV Γ X l δ fun vs δ1 => ∃ ms, peeks δ1 vs = some ms ∧ biM f ms fun r => K (.own r) δ1
  | .isi a t, δ, K => wpE Γ X a δ fun x δ1 => ∃ m, peek δ1 x = some m ∧ isiM m t fun r => K (.own (.p (.bool r))) δ1
  | .me f o l, δ, K => wpE Γ X o δ fun x δ1 => (∃ m0, peek δ1 x = some m0 ∧ meTy f m0) ∧ wpV Γ X l δ1 fun vs δ2 => ∃ m ms, peek δ2 x = some m ∧ peeks δ2 vs = some ms ∧ meM f m ms fun r => K (.own r) δ2
  | .mu f i l, δ, K => (∃ ds0, (δ[i]?).getD none = some (.l ds0)) ∧ wpF Γ X l δ fun ds δ1 => ∃ m, (δ1[i]?).getD none = some m ∧ muM f m ds fun r m' => K (.own (.p r)) (δ1.set i (some m'))
  | .call f l kl, δ, K => wpV Γ X l δ fun vs δ1 => wpV Γ X kl δ1 fun ks δ2 => ∃ sp ms, Γ[f]? = some sp ∧ (ats (vs ++ ks)).Nodup ∧ peeks δ2 (vs ++ ks) = some ms ∧
      sp ms (fun r outs => K (.own r) (writeB (vs ++ ks) outs δ2)) fun e outs => X e (writeB (vs ++ ks) outs δ2)
  | .comp own tg src ifs elt, δ, K => wpI Γ X src δ fun s δ1 => lightAll δ1 own = true ∧ s.items.length ≤ sizeLine ∧
      compLoop own s.gd (fun x δ2 k => ∃ δ3, bindT [] tg x δ2 = some δ3 ∧ wpA Γ X ifs δ3 fun b δ4 => if b = true then wpE Γ X elt δ4 fun y δ5 => frz y δ5 fun d δ6 => k (some d) δ6 else k none δ4)
        s.items (wipe δ1 own) fun ds δ2 => K (.own (.l ds)) (back δ1 δ2 own)
  | .tupI src, δ, K => wpI Γ X src δ fun s δ1 => s.items.length ≤ sizeLine ∧ K (.own (.p (.tuple s.items))) δ1
  | .lstI src, δ, K => wpI Γ X src δ fun s δ1 => s.items.length ≤ sizeLine ∧ K (.own (.l s.items)) δ1
  | _, _, _ => False
/-- values, kept -/
def wpF (Γ : List Spec) (X : Exn → De → Prop) : C → De → (List PyData → De → Prop) → Prop
  | .nil, δ, K => K [] δ
  | .cons a as, δ, K => wpE Γ X a δ fun x δ1 => frz x δ1 fun d δ2 => wpF Γ X as δ2 fun ds δ3 => K (d :: ds) δ3
  | _, _, _ => False
/-- values, moved -/
def wpD (Γ : List Spec) (X : Exn → De → Prop) : C → De → (List M → De → Prop) → Prop
  | .nil, δ, K => K [] δ
  | .cons a as, δ, K => wpE Γ X a δ fun x δ1 => mov x δ1 fun d δ2 => wpD Γ X as δ2 fun ds δ3 => K (d :: ds) δ3
  | _, _, _ => False
/-- values, looked at -/
def wpV (Γ : List Spec) (X : Exn → De → Prop) : C → De → (List Val → De → Prop) → Prop
  | .nil, δ, K => K [] δ
  | .cons a as, δ, K => wpE Γ X a δ fun x δ1 => wpV Γ X as δ1 fun xs δ2 => K (x :: xs) δ2
  | _, _, _ => False
/-- what is walked -/
def wpI (Γ : List Spec) (X : Exn → De → Prop) : C → De → (Src → De → Prop) → Prop
  | .rng l, δ, K => wpF Γ X l δ fun ds δ1 => ∃ lo hi, rngOf ds = some (lo, hi) ∧ (-(2 ^ 62) ≤ lo ∧ lo < 2 ^ 62 ∧ -(2 ^ 62) ≤ hi ∧ hi < 2 ^ 62) ∧ K ⟨rngItems lo hi, []⟩ δ1
  | .enum a, δ, K => wpE Γ X a δ fun x δ1 => ∃ s, lsrcOf δ1 x = some s ∧ K ⟨enumItems s.items, s.gd⟩ δ1
  | .zip a b st, δ, K => wpE Γ X a δ fun x δ1 => wpE Γ X b δ1 fun y δ2 => ∃ s t, srcOf δ2 x = some s ∧ srcOf δ2 y = some t ∧ (st = true → s.items.length = t.items.length) ∧ K ⟨zipItems s.items t.items, s.gd ++ t.gd⟩ δ2
  | .sv a, δ, K => wpE Γ X a δ fun x δ1 => ∃ s, srcOf δ1 x = some s ∧ K s δ1
  | _, _, _ => False
/-- a test -/
def wpT (Γ : List Spec) (X : Exn → De → Prop) : C → De → (Bool → De → Prop) → Prop
  | .not t, δ, K => wpT Γ X t δ fun b δ1 => K (!b) δ1
  | .and l, δ, K => wpA Γ X l δ K
  | .or l, δ, K => wpO Γ X l δ K
  | .tv c, δ, K => wpE Γ X c δ fun x δ1 => ∃ m, peek δ1 x = some m ∧ truM m fun b => K b δ1
  | _, _, _ => False
def wpA (Γ : List Spec) (X : Exn → De → Prop) : C → De → (Bool → De → Prop) → Prop
  | .nil, δ, K => K true δ
  | .cons a as, δ, K => wpT Γ X a δ fun b δ1 => if b = true then wpA Γ X as δ1 K else K false δ1
  | _, _, _ => False
def wpO (Γ : List Spec) (X : Exn → De → Prop) : C → De → (Bool → De → Prop) → Prop
  | .nil, δ, K => K false δ
  | .cons a as, δ, K => wpT Γ X a δ fun b δ1 => if b = true then K true δ1 else wpO Γ X as δ1 K
  | _, _, _ => False
def wpAV (Γ : List Spec) (X : Exn → De → Prop) : C → De → (Val → De → Prop) → Prop
  | .cons a .nil, δ, K => wpE Γ X a δ K
  | .cons a as, δ, K => wpE Γ X a δ fun x δ1 => ∃ b, x = .own (.p (.bool b)) ∧ if b = true then wpAV Γ X as δ1 K else K (.own (.p (.bool false))) δ1
  | _, _, _ => False
def wpOV (Γ : List Spec) (X : Exn → De → Prop) : C → De → (Val → De → Prop) → Prop
  | .cons a .nil, δ, K => wpE Γ X a δ K
  | .cons a as, δ, K => wpE Γ X a δ fun x δ1 => ∃ b, x = .own (.p (.bool b)) ∧ if b = true then K (.own (.p (.bool true))) δ1 else wpOV Γ X as δ1 K
  | _, _, _ => False
end

/-! ### statements -/
structure EndD where
  nx : De → Prop
  rt : Val → De → Prop
  bk : De → Prop
  ct : De → Prop
inductive S where
  | nil | cons (a as : S)
  | set (i : Nat) (e : C) | setT (tg : Tg) (e : C) | par (is : List Nat) (l : C)
  | setIx (i : Nat) (b e : C) | setSub (i : Nat) (key : Str) (b e : C) | setK (i : Nat) (key : Str) (e : C)
  | aug (i : Nat) (op : BOp) (e : C) | augIx (i : Nat) (op : BOp) (b e : C)
  | ex (e : C) | ret (e : C) | retN
  | ife (t : C) (a b : S) | forS (tg : Tg) (src : C) (body : S) | whl (t : C) (body : S)
  | pass | brk | cont | stop
def setAll : List Nat → List M → De → De
  | i :: is, m :: ms, δ => setAll is ms (δ.set i (some m))
  | _, _, δ => δ
def setAt (i : Nat) (key d : PyData) (δ : De) (K : De → Prop) : Prop := match (δ[i]?).getD none with
  | some (.l ds) => ∃ z j, key = .int z ∧ L2.ixN ds.length z = some j ∧ K (δ.set i (some (.l (ds.set j d))))
  | some (.dc kvs) => ∃ k, keyOf key = some k ∧ kvs.length < sizeLine ∧ K (δ.set i (some (.dc (kput kvs k (.p d)))))
  | _ => False
def forLoop (gd : List (Nat × List PyData)) (turn : PyData → De → EndD → Prop) : List PyData → De → EndD → Prop
  | [], δ, D => gdOk gd δ ∧ D.nx δ
  | x :: xs, δ, D => gdOk gd δ ∧ turn x δ ⟨fun δ' => forLoop gd turn xs δ' D, D.rt, D.nx, fun δ' => forLoop gd turn xs δ' D⟩
def wpS (Γ : List Spec) (X : Exn → De → Prop) (lk : List Nat) : S → De → EndD → Prop
  | .nil, δ, D => D.nx δ
  | .cons a as, δ, D => wpS Γ X lk a δ ⟨fun δ' => wpS Γ X lk as δ' D, D.rt, D.bk, D.ct⟩
  | .set i e, δ, D => wpE Γ X e δ fun x δ1 => mov x δ1 fun m δ2 => i ∉ lk ∧ i < δ2.length ∧ D.nx (δ2.set i (some m))
  | .setT tg e, δ, D => wpE Γ X e δ fun x δ1 => ∃ d δ2, x = .own (.p d) ∧ bindT lk tg d δ1 = some δ2 ∧ D.nx δ2
  | .par is l, δ, D => wpD Γ X l δ fun ms δ2 => ms.length = is.length ∧ (∀ i ∈ is, i ∉ lk ∧ i < δ2.length) ∧ D.nx (setAll is ms δ2)
  | .setIx i b e, δ, D => wpE Γ X e δ fun x δ1 => frz x δ1 fun d δ2 => (∃ m0, (δ2[i]?).getD none = some m0) ∧ wpE Γ X b δ2 fun y δ3 => ∃ k, y = .own (.p k) ∧ setAt i k d δ3 D.nx
  | .setSub i key b e, δ, D => wpE Γ X e δ fun x δ1 => frz x δ1 fun d δ2 => ∃ kvs ds z j, (δ2[i]?).getD none = some (.dc kvs) ∧ kget kvs (.inr key) = some (.l ds) ∧
      qI b δ2 = some z ∧ L2.ixN ds.length z = some j ∧ D.nx (δ2.set i (some (.dc (kput kvs (.inr key) (.l (ds.set j d))))))
  | .setK i key e, δ, D => wpE Γ X e δ fun x δ1 => mov x δ1 fun m δ2 => ∃ kvs, (δ2[i]?).getD none = some (.dc kvs) ∧ kvs.length < sizeLine ∧ D.nx (δ2.set i (some (.dc (kput kvs (.inr key) m))))
  | .aug i op e, δ, D => ∃ a, (δ[i]?).getD none = some (.p (.int a)) ∧ wpE Γ X e δ fun y δ1 => ∃ b, y = .own (.p (.int b)) ∧ (op = .add ∨ op = .sub) ∧ i ∉ lk ∧
      D.nx (δ1.set i (some (.p (.int (if op = .add then a + b else a - b)))))
  | .augIx i op b e, δ, D => (∃ m0, (δ[i]?).getD none = some m0) ∧ wpE Γ X b δ fun y δ1 => ∃ k m a, y = .own (.p k) ∧ (δ1[i]?).getD none = some m ∧ ixM m k (fun z => z = .int a) ∧ m.isP = false ∧ wpE Γ X e δ1 fun z δ2 => ∃ c, z = .own (.p (.int c)) ∧ (op = .add ∨ op = .sub) ∧
      setAt i k (.int (if op = .add then a + c else a - c)) δ2 D.nx
  | .ex e, δ, D => wpE Γ X e δ fun _ δ1 => D.nx δ1
  | .ret e, δ, D => wpE Γ X e δ D.rt
  | .retN, δ, D => D.rt (.own (.p .none)) δ
  | .ife t a b, δ, D => wpT Γ X t δ fun r δ1 => if r = true then wpS Γ X lk a δ1 D else wpS Γ X lk b δ1 D
  | .forS tg src body, δ, D => wpI Γ X src δ fun s δ1 => forLoop s.gd (fun x δ2 D' => ∃ δ3, bindT (s.gd.map (·.1) ++ lk) tg x δ2 = some δ3 ∧ wpS Γ X (s.gd.map (·.1) ++ lk) body δ3 D') s.items δ1 D
  | .whl t body, δ, D => ∃ I : Nat → De → Prop, (∃ n, I n δ) ∧ ∀ n δ', I n δ' → wpT Γ X t δ' fun b δ1 => if b = true then
      wpS Γ X lk body δ1 ⟨fun δ2 => ∃ m, m < n ∧ I m δ2, D.rt, D.nx, fun δ2 => ∃ m, m < n ∧ I m δ2⟩ else D.nx δ1
  | .pass, δ, D => D.nx δ
  | .brk, δ, D => D.bk δ
  | .cont, δ, D => D.ct δ
  | .stop, _, _ => False
/-- the arguments that are the def's to change -/
def lockOf : Nat → List M → List Nat
  | _, [] => []
  | i, .p _ :: ms => lockOf (i + 1) ms
  | i, _ :: ms => i :: lockOf (i + 1) ms
/-- what the arguments are at the end -/
def outs : List M → De → Option (List M)
  | [], _ => some []
  | .p d :: ms, δ => (outs ms δ.tail).map (.p d :: ·)
  | _ :: ms, δ => match (δ.head?).getD none, outs ms δ.tail with
    | some m, some r => some (m :: r)
    | _, _ => none
def retV (np : Nat) : Val → De → (M → De → Prop) → Prop
  | .own m, δ, K => K m δ
  | .at i, δ, K => if i < np then frz (.at i) δ fun d δ' => K (.p d) δ' else ∃ m, (δ[i]?).getD none = some m ∧ K m δ
def startD (n : Nat) (ms : List M) : De := ms.map some ++ List.replicate (n - ms.length) none
/-- a def's body, from its arguments -/
def wpFn (Γ : List Spec) (n : Nat) (body : S) (ms : List M) (K : M → List M → Prop) (X : Exn → List M → Prop) : Prop :=
  wpS Γ (fun e δ => ∃ os, outs ms δ = some os ∧ X e os) (lockOf 0 ms) body (startD n ms)
    ⟨fun δ => ∃ os, outs ms δ = some os ∧ K (.p .none) os, fun v δ => retV ms.length v δ fun r δ' => ∃ os, outs ms δ' = some os ∧ K r os, fun _ => False, fun _ => False⟩
end Q
set_option Elab.async false
set_option linter.all false
set_option maxRecDepth 100000
/-! LB: how pure data and own values stand in the hand layer's heap. -/
namespace Q
open PySem PySem.Spec PyProof.Rows L2

def kd : Key → PyData
  | .inl i => .int i
  | .inr x => .str x
/-- a list that is never written -/
def SqZ (K : PySem.W.Frag) (H : Hp) (a : Addr) (xs : List V) : Prop :=
  (∃ o, H a = some (.frz o (.lst xs))) ∨
    ∃ (o : Obj) (its : Array Value) (n : Nat), K.lookup a = some o ∧ o.cls = .type "list" ∧ o.dict = none ∧ o.data = .seq its n ∧ its.size ≤ sizeLine ∧ Vals xs its.toList
theorem SqZ.sq {K : PySem.W.Frag} {H : Hp} {a : Addr} {xs : List V} (h : SqZ K H a xs) : SqL K H a xs := by
  rcases h with ⟨o, h⟩ | h
  · exact .inl (.inr ⟨o, h⟩)
  · exact .inr h

mutual
/-- pure data -/
inductive RP (K : PySem.W.Frag) (H : Hp) : V → PyData → Prop
  | non : RP K H .non .none
  | bl (b : Bool) : RP K H (.bl b) (.bool b)
  | int (i : Int) : RP K H (.int i) (.int i)
  | str (x : Str) : RP K H (.str x) (.str x)
  | lst {a : Addr} {xs : List V} {ds : List PyData} : SqZ K H a xs → RPs K H xs ds → RP K H (.ref a) (.list ds)
  | tup {a : Addr} {xs : List V} {ds : List PyData} : SqT K H a xs → RPs K H xs ds → RP K H (.ref a) (.tuple ds)
  | dct {a : Addr} {o : Obj} {kvs : List (Key × V)} {dd : List (PyData × PyData)} : H a = some (.frz o (.dK kvs)) → RPk K H kvs dd → RP K H (.ref a) (.dict dd)
inductive RPs (K : PySem.W.Frag) (H : Hp) : List V → List PyData → Prop
  | nil : RPs K H [] []
  | cons {v : V} {vs : List V} {d : PyData} {ds : List PyData} : RP K H v d → RPs K H vs ds → RPs K H (v :: vs) (d :: ds)
inductive RPk (K : PySem.W.Frag) (H : Hp) : List (Key × V) → List (PyData × PyData) → Prop
  | nil : RPk K H [] []
  | cons {k : Key} {v : V} {kvs : List (Key × V)} {d : PyData} {dd : List (PyData × PyData)} : RP K H v d → RPk K H kvs dd → RPk K H ((k, v) :: kvs) ((kd k, d) :: dd)
end
mutual
/-- what a name may hold: F are the addresses that are its own -/
inductive RM (K : PySem.W.Frag) (H : Hp) : V → M → List Addr → Prop
  | p {v : V} {d : PyData} : RP K H v d → RM K H v (.p d) []
  | l {a : Addr} {xs : List V} {ds : List PyData} : H a = some (.lst xs) → RPs K H xs ds → RM K H (.ref a) (.l ds) [a]
  | dc {a : Addr} {kvs : List (Key × V)} {ms : List (Key × M)} {F : List Addr} : H a = some (.dK kvs) → (kvs.map (·.1)).Nodup → RMk K H kvs ms F → RM K H (.ref a) (.dc ms) (a :: F)
inductive RMk (K : PySem.W.Frag) (H : Hp) : List (Key × V) → List (Key × M) → List Addr → Prop
  | nil : RMk K H [] [] []
  | cons {k : Key} {v : V} {m : M} {kvs : List (Key × V)} {ms : List (Key × M)} {F G : List Addr} : RM K H v m F → RMk K H kvs ms G → RMk K H ((k, v) :: kvs) ((k, m) :: ms) (F ++ G)
end
inductive RS (K : PySem.W.Frag) (H : Hp) : L2.St → De → List Addr → Prop
  | nil : RS K H [] [] []
  | no {x : Option V} {σ : L2.St} {δ : De} {F : List Addr} : RS K H σ δ F → RS K H (x :: σ) (none :: δ) F
  | so {v : V} {m : M} {σ : L2.St} {δ : De} {F G : List Addr} : RM K H v m F → RS K H σ δ G → RS K H (some v :: σ) (some m :: δ) (F ++ G)
inductive RMs (K : PySem.W.Frag) (H : Hp) : List V → List M → List Addr → Prop
  | nil : RMs K H [] [] []
  | cons {v : V} {m : M} {vs : List V} {ms : List M} {F G : List Addr} : RM K H v m F → RMs K H vs ms G → RMs K H (v :: vs) (m :: ms) (F ++ G)

def MutK : HO → Prop
  | .lst _ => True
  | .dK _ => True
  | _ => False
/-- all but what is at F stands as it stood -/
def Keep (H H' : Hp) (F : List Addr) : Prop := ∀ a o, H a = some o → a ∉ F → H' a = some o
/-- what can't be written stands as it stood -/
def Still (H H' : Hp) : Prop := ∀ a o, H a = some o → ¬ MutK o → H' a = some o
def Owns (H : Hp) (F : List Addr) : Prop := ∀ a ∈ F, ∃ o, H a = some o ∧ MutK o
theorem Keep.refl (H : Hp) (F : List Addr) : Keep H H F := fun _ _ h _ => h
theorem Keep.still {H H' : Hp} {F : List Addr} (k : Keep H H' F) (w : Owns H F) : Still H H' := fun a o h nm => k a o h fun z => by
  obtain ⟨u, e, m⟩ := w a z
  rw [h] at e; cases e; exact nm m
theorem Still.refl (H : Hp) : Still H H := fun _ _ h _ => h
theorem Keep.mono {H H' : Hp} {F G : List Addr} (k : Keep H H' F) (h : ∀ a ∈ F, a ∈ G) : Keep H H' G := fun a o e n => k a o e fun z => n (h a z)
theorem Keep.new {H : Hp} {p : Addr} {o : HO} (h : H p = none) (F : List Addr) : Keep H (upd H p o) F := fun a u e _ => by
  rw [upd_ne (ne_of_none e h)]; exact e

theorem Still.tup {K : PySem.W.Frag} {H H' : Hp} (s : Still H H') {a : Addr} {xs : List V} (h : SqT K H a xs) : SqT K H' a xs := by
  rcases h with (h | ⟨o, h⟩) | h
  · exact .inl (.inl (s _ _ h fun z => z))
  · exact .inl (.inr ⟨o, s _ _ h fun z => z⟩)
  · exact .inr h
theorem Still.sqz {K : PySem.W.Frag} {H H' : Hp} (s : Still H H') {a : Addr} {xs : List V} (h : SqZ K H a xs) : SqZ K H' a xs := by
  rcases h with ⟨o, h⟩ | h
  · exact .inl ⟨o, s _ _ h fun z => z⟩
  · exact .inr h
mutual
theorem RP.still {K : PySem.W.Frag} {H H' : Hp} (s : Still H H') : ∀ {v : V} {d : PyData}, RP K H v d → RP K H' v d
  | _, _, .non => .non
  | _, _, .bl b => .bl b
  | _, _, .int i => .int i
  | _, _, .str x => .str x
  | _, _, .lst h r => .lst (s.sqz h) (RPs.still s r)
  | _, _, .tup h r => .tup (s.tup h) (RPs.still s r)
  | _, _, .dct h r => .dct (s _ _ h fun z => z) (RPk.still s r)
theorem RPs.still {K : PySem.W.Frag} {H H' : Hp} (s : Still H H') : ∀ {vs : List V} {ds : List PyData}, RPs K H vs ds → RPs K H' vs ds
  | _, _, .nil => .nil
  | _, _, .cons a b => .cons (RP.still s a) (RPs.still s b)
theorem RPk.still {K : PySem.W.Frag} {H H' : Hp} (s : Still H H') : ∀ {vs : List (Key × V)} {ds : List (PyData × PyData)}, RPk K H vs ds → RPk K H' vs ds
  | _, _, .nil => .nil
  | _, _, .cons a b => .cons (RP.still s a) (RPk.still s b)
end
section
variable {K : PySem.W.Frag} {H H' : Hp} {F G : List Addr}
theorem RPs.length : ∀ {vs : List V} {ds : List PyData}, RPs K H vs ds → vs.length = ds.length
  | _, _, .nil => rfl
  | _, _, .cons _ b => congrArg (· + 1) b.length
theorem RPs.append : ∀ {vs ws : List V} {ds es : List PyData}, RPs K H vs ds → RPs K H ws es → RPs K H (vs ++ ws) (ds ++ es)
  | _, _, _, _, .nil, b => b
  | _, _, _, _, .cons a as, b => .cons a (as.append b)
theorem RPs.get : ∀ {vs : List V} {ds : List PyData} {i : Nat} {d : PyData}, RPs K H vs ds → ds[i]? = some d → ∃ v, vs[i]? = some v ∧ RP K H v d
  | _, _, _, _, .nil, e => by simp at e
  | _, _, 0, _, .cons a _, e => by simp at e; subst e; exact ⟨_, rfl, a⟩
  | _, _, i + 1, _, .cons _ b, e => by
    obtain ⟨v, h1, h2⟩ := RPs.get (i := i) b (by simpa using e)
    exact ⟨v, by simpa using h1, h2⟩
theorem RPs.getV : ∀ {vs : List V} {ds : List PyData} {i : Nat} {v : V}, RPs K H vs ds → vs[i]? = some v → ∃ d, ds[i]? = some d ∧ RP K H v d
  | _, _, _, _, .nil, e => by simp at e
  | _, _, 0, _, .cons a _, e => by simp at e; subst e; exact ⟨_, rfl, a⟩
  | _, _, i + 1, _, .cons _ b, e => by
    obtain ⟨v, h1, h2⟩ := RPs.getV (i := i) b (by simpa using e)
    exact ⟨v, by simpa using h1, h2⟩
theorem RPs.set {v : V} {d : PyData} (r : RP K H v d) : ∀ {vs : List V} {ds : List PyData} (i : Nat), RPs K H vs ds → RPs K H (vs.set i v) (ds.set i d)
  | _, _, _, .nil => .nil
  | _, _, 0, .cons _ b => .cons r b
  | _, _, i + 1, .cons a b => .cons a (RPs.set r i b)
theorem RPs.take : ∀ {vs : List V} {ds : List PyData} (n : Nat), RPs K H vs ds → RPs K H (vs.take n) (ds.take n)
  | _, _, 0, _ => .nil
  | _, _, _ + 1, .nil => .nil
  | _, _, n + 1, .cons a b => .cons a (RPs.take n b)
theorem RPs.drop : ∀ {vs : List V} {ds : List PyData} (n : Nat), RPs K H vs ds → RPs K H (vs.drop n) (ds.drop n)
  | _, _, 0, r => r
  | _, _, _ + 1, .nil => .nil
  | _, _, n + 1, .cons _ b => RPs.drop n b
theorem RPs.rep {vs : List V} {ds : List PyData} (r : RPs K H vs ds) : ∀ n : Nat, RPs K H (List.replicate n vs).flatten (rep n ds)
  | 0 => .nil
  | n + 1 => by
    unfold Q.rep
    rw [List.replicate_succ, List.flatten_cons, List.replicate_succ, List.flatten_cons]
    exact r.append (RPs.rep r n)
theorem RPs.reverse : ∀ {vs : List V} {ds : List PyData}, RPs K H vs ds → RPs K H vs.reverse ds.reverse
  | _, _, .nil => .nil
  | _, _, .cons a b => by rw [List.reverse_cons, List.reverse_cons]; exact (RPs.reverse b).append (.cons a .nil)

mutual
theorem RM.owns : ∀ {v : V} {m : M} {F : List Addr}, RM K H v m F → Owns H F
  | _, _, _, .p _ => fun _ h => by cases h
  | _, _, _, .l h _ => fun a ha => by
    rw [List.mem_singleton] at ha; subst ha; exact ⟨_, h, trivial⟩
  | _, _, _, .dc h _ r => fun a ha => by
    rcases List.mem_cons.mp ha with rfl | ha
    · exact ⟨_, h, trivial⟩
    · exact RMk.owns r a ha
theorem RMk.owns : ∀ {vs : List (Key × V)} {ms : List (Key × M)} {F : List Addr}, RMk K H vs ms F → Owns H F
  | _, _, _, .nil => fun _ h => by cases h
  | _, _, _, .cons a b => fun x hx => (List.mem_append.mp hx).elim (RM.owns a x) (RMk.owns b x)
end
mutual
theorem RM.keep (k : Keep H H' G) (s : Still H H') : ∀ {v : V} {m : M} {F : List Addr}, RM K H v m F → (∀ a ∈ F, a ∉ G) → RM K H' v m F
  | _, _, _, .p r, _ => .p (r.still s)
  | _, _, _, .l h r, d => .l (k _ _ h (d _ (List.mem_singleton.mpr rfl))) (r.still s)
  | _, _, _, .dc h u r, d => .dc (k _ _ h (d _ (List.mem_cons_self ..))) u (RMk.keep k s r fun a ha => d a (List.mem_cons_of_mem _ ha))
theorem RMk.keep (k : Keep H H' G) (s : Still H H') : ∀ {vs : List (Key × V)} {ms : List (Key × M)} {F : List Addr}, RMk K H vs ms F → (∀ a ∈ F, a ∉ G) → RMk K H' vs ms F
  | _, _, _, .nil, _ => .nil
  | _, _, _, .cons a b, d => .cons (RM.keep k s a fun x hx => d x (List.mem_append_left _ hx)) (RMk.keep k s b fun x hx => d x (List.mem_append_right _ hx))
end
theorem RMs.owns : ∀ {vs : List V} {ms : List M} {F : List Addr}, RMs K H vs ms F → Owns H F
  | _, _, _, .nil => fun _ h => by cases h
  | _, _, _, .cons a b => fun x hx => (List.mem_append.mp hx).elim (a.owns x) (RMs.owns b x)
theorem RMs.keep (k : Keep H H' G) (s : Still H H') : ∀ {vs : List V} {ms : List M} {F : List Addr}, RMs K H vs ms F → (∀ a ∈ F, a ∉ G) → RMs K H' vs ms F
  | _, _, _, .nil, _ => .nil
  | _, _, _, .cons a b, d => .cons (RM.keep k s a fun x hx => d x (List.mem_append_left _ hx)) (RMs.keep k s b fun x hx => d x (List.mem_append_right _ hx))
theorem RMs.length : ∀ {vs : List V} {ms : List M} {F : List Addr}, RMs K H vs ms F → vs.length = ms.length
  | _, _, _, .nil => rfl
  | _, _, _, .cons _ b => congrArg (· + 1) b.length
theorem RS.owns : ∀ {σ : L2.St} {δ : De} {F : List Addr}, RS K H σ δ F → Owns H F
  | _, _, _, .nil => fun _ h => by cases h
  | _, _, _, .no b => RS.owns b
  | _, _, _, .so a b => fun x hx => (List.mem_append.mp hx).elim (a.owns x) (RS.owns b x)
theorem RS.keep (k : Keep H H' G) (s : Still H H') : ∀ {σ : L2.St} {δ : De} {F : List Addr}, RS K H σ δ F → (∀ a ∈ F, a ∉ G) → RS K H' σ δ F
  | _, _, _, .nil, _ => .nil
  | _, _, _, .no b, d => .no (RS.keep k s b d)
  | _, _, _, .so a b, d => .so (RM.keep k s a fun x hx => d x (List.mem_append_left _ hx)) (RS.keep k s b fun x hx => d x (List.mem_append_right _ hx))
theorem RS.length : ∀ {σ : L2.St} {δ : De} {F : List Addr}, RS K H σ δ F → σ.length = δ.length
  | _, _, _, .nil => rfl
  | _, _, _, .no b => congrArg (· + 1) b.length
  | _, _, _, .so _ b => congrArg (· + 1) b.length
/-- what stands at a place -/
theorem RS.get : ∀ {σ : L2.St} {δ : De} {F : List Addr} {i : Nat} {m : M}, RS K H σ δ F → (δ[i]?).getD none = some m → ∃ v Fm, σ[i]? = some (some v) ∧ RM K H v m Fm ∧ ∀ a ∈ Fm, a ∈ F
  | _, _, _, _, _, .nil, e => by simp at e
  | _, _, _, 0, _, .no b, e => by simp at e
  | _, _, _, 0, _, .so a b, e => by simp at e; subst e; exact ⟨_, _, rfl, a, fun x hx => List.mem_append_left _ hx⟩
  | _, _, _, i + 1, _, .no b, e => by
    obtain ⟨v, Fm, h1, h2, h3⟩ := RS.get (i := i) b (by simpa using e)
    exact ⟨v, Fm, by simpa using h1, h2, h3⟩
  | _, _, _, i + 1, _, .so a b, e => by
    obtain ⟨v, Fm, h1, h2, h3⟩ := RS.get (i := i) b (by simpa using e)
    exact ⟨v, Fm, by simpa using h1, h2, fun x hx => List.mem_append_right _ (h3 x hx)⟩
/-- a place is rewritten: R is what is left -/
theorem RS.upd : ∀ {σ : L2.St} {δ : De} {F : List Addr} (i : Nat), RS K H σ δ F → i < δ.length →
    ∃ Fm R : List Addr, F.Perm (Fm ++ R) ∧ (∀ m, (δ[i]?).getD none = some m → ∃ v, σ[i]? = some (some v) ∧ RM K H v m Fm) ∧ RS K H σ (δ.set i none) R ∧
      (∀ (H' : Hp) (G : List Addr) (v : V) (m : M) (Fn : List Addr), Keep H H' G → Still H H' → (∀ a ∈ R, a ∉ G) → RM K H' v m Fn → ∃ F', RS K H' (σ.set i (some v)) (δ.set i (some m)) F' ∧ F'.Perm (Fn ++ R))
  | _, _, _, _, .nil, h => by simp at h
  | x :: σ, _, _, 0, .no (F := F) b, _ => ⟨[], F, .refl _, fun m e => by simp at e, .no b, fun H' G v m Fn k s d r => ⟨_, .so r (b.keep k s d), .refl _⟩⟩
  | _, _, _, 0, .so (v := v) (m := m) (F := F) (G := G) a b, _ => ⟨F, G, .refl _, fun m' e => by
      simp at e; subst e; exact ⟨v, rfl, a⟩, .no b, fun H' G v m Fn k s d r => ⟨_, .so r (b.keep k s d), .refl _⟩⟩
  | _, _, _, i + 1, .no b, h => by
    obtain ⟨Fm, R, p, g, z, u⟩ := RS.upd i b (by simpa using h)
    refine ⟨Fm, R, p, fun m e => ?_, .no z, fun H' G v m Fn k s d r => ?_⟩
    · obtain ⟨v, e1, e2⟩ := g m (by simpa using e)
      exact ⟨v, by simpa using e1, e2⟩
    · obtain ⟨F', w, q⟩ := u H' G v m Fn k s d r
      exact ⟨F', .no w, q⟩
  | _, _, _, i + 1, .so (F := A) (G := B) a b, h => by
    obtain ⟨Fm, R, p, g, z, u⟩ := RS.upd i b (by simpa using h)
    refine ⟨Fm, A ++ R, ?_, fun m e => ?_, .so a z, fun H' G v m Fn k s d r => ?_⟩
    · exact (List.Perm.append_left A p).trans (by
        rw [← List.append_assoc, ← List.append_assoc]; exact List.perm_append_comm.append_right _)
    · obtain ⟨v, e1, e2⟩ := g m (by simpa using e)
      exact ⟨v, by simpa using e1, e2⟩
    · obtain ⟨F', w, q⟩ := u H' G v m Fn k s (fun x hx => d x (List.mem_append_right _ hx)) r
      refine ⟨A ++ F', .so (a.keep k s fun x hx => d x (List.mem_append_left _ hx)) w, ?_⟩
      exact (List.Perm.append_left A q).trans (by
        rw [← List.append_assoc, ← List.append_assoc]; exact List.perm_append_comm.append_right _)
end
end Q
set_option Elab.async false
set_option linter.all false
set_option maxRecDepth 100000
/-! LC: from a state to the next one; the readings of codes. -/
namespace Q
open PySem PySem.Spec PyProof.Rows L2

def RV (K : PySem.W.Frag) (H : Hp) (σ : L2.St) : V → Val → List Addr → Prop
  | v, .own m, F => RM K H v m F
  | v, .at i, F => σ[i]? = some (some v) ∧ F = []
inductive RVs (K : PySem.W.Frag) (H : Hp) (σ : L2.St) : List V → List Val → List Addr → Prop
  | nil : RVs K H σ [] [] []
  | cons {v : V} {x : Val} {vs : List V} {xs : List Val} {F G : List Addr} : RV K H σ v x F → RVs K H σ vs xs G → RVs K H σ (v :: vs) (x :: xs) (F ++ G)
def Fresh (H : Hp) (F G : List Addr) : Prop := ∀ a ∈ G, a ∈ F ∨ H a = none
/-- from the heap H, whose names own F, to H', with the values vs -/
structure Rx (K : PySem.W.Frag) (σ : L2.St) (H : Hp) (F : List Addr) (H' : Hp) (δ' : De) (vs : List V) (xs : List Val) (F' Fv : List Addr) : Prop where
  st : RS K H' σ δ' F'
  vl : RVs K H' σ vs xs Fv
  nd : (Fv ++ F').Nodup
  kp : Keep H H' F
  fr : Fresh H F (Fv ++ F')

section
variable {K : PySem.W.Frag} {H H' H1 H2 : Hp} {σ : L2.St} {F G F' F1 F2 Fv Fw : List Addr} {δ δ1 δ2 δ' : De} {vs ws : List V} {xs ys : List Val}
theorem RV.owns {v : V} {x : Val} (h : RV K H σ v x F) : Owns H F := by
  cases x with
  | own m => exact RM.owns h
  | «at» i => obtain ⟨_, rfl⟩ := h; intro a ha; cases ha
theorem RV.keep {v : V} {x : Val} (k : Keep H H' G) (s : Still H H') (h : RV K H σ v x F) (d : ∀ a ∈ F, a ∉ G) : RV K H' σ v x F := by
  cases x with
  | own m => exact RM.keep k s h d
  | «at» i => exact h
theorem RVs.owns : ∀ {vs : List V} {xs : List Val} {F : List Addr}, RVs K H σ vs xs F → Owns H F
  | _, _, _, .nil => fun _ h => by cases h
  | _, _, _, .cons a b => fun x hx => (List.mem_append.mp hx).elim (RV.owns a x) (RVs.owns b x)
theorem RVs.keep (k : Keep H H' G) (s : Still H H') : ∀ {vs : List V} {xs : List Val} {F : List Addr}, RVs K H σ vs xs F → (∀ a ∈ F, a ∉ G) → RVs K H' σ vs xs F
  | _, _, _, .nil, _ => .nil
  | _, _, _, .cons a b, d => .cons (RV.keep k s a fun x hx => d x (List.mem_append_left _ hx)) (RVs.keep k s b fun x hx => d x (List.mem_append_right _ hx))
theorem RVs.append : ∀ {vs ws : List V} {xs ys : List Val} {F G : List Addr}, RVs K H σ vs xs F → RVs K H σ ws ys G → RVs K H σ (vs ++ ws) (xs ++ ys) (F ++ G)
  | _, _, _, _, _, _, .nil, b => b
  | _, _, _, _, _, _, .cons a as, b => by rw [List.append_assoc]; exact .cons a (as.append b)
theorem RVs.one {v : V} {x : Val} (h : RV K H σ v x F) : RVs K H σ [v] [x] F := by
  have := RVs.cons h (.nil (K := K) (H := H) (σ := σ)); rwa [List.append_nil] at this
theorem RVs.one' {v : V} {x : Val} (h : RVs K H σ [v] [x] F) : RV K H σ v x F := by
  cases h with
  | cons a b => cases b; rw [List.append_nil]; exact a
theorem RVs.length : ∀ {vs : List V} {xs : List Val} {F : List Addr}, RVs K H σ vs xs F → vs.length = xs.length
  | _, _, _, .nil => rfl
  | _, _, _, .cons _ b => congrArg (· + 1) b.length

theorem nd_apart {A B : List Addr} (h : (A ++ B).Nodup) {a : Addr} (ha : a ∈ A) : a ∉ B := fun hb => (List.nodup_append.mp h).2.2 a ha a hb rfl
theorem nd_left {A B : List Addr} (h : (A ++ B).Nodup) : A.Nodup := (List.nodup_append.mp h).1
theorem nd_right {A B : List Addr} (h : (A ++ B).Nodup) : B.Nodup := (List.nodup_append.mp h).2.1
theorem nd_mk {A B : List Addr} (h1 : A.Nodup) (h2 : B.Nodup) (h : ∀ a ∈ A, a ∉ B) : (A ++ B).Nodup := List.nodup_append.mpr ⟨h1, h2, fun a ha b hb e => h a ha (e ▸ hb)⟩

theorem Rx.start (h : RS K H σ δ F) (n : F.Nodup) : Rx K σ H F H δ [] [] F [] := ⟨h, .nil, by simpa using n, Keep.refl _ _, fun a ha => .inl (by simpa using ha)⟩
/-- the step -/
theorem Rx.step (a : Rx K σ H F H1 δ1 vs xs F1 Fv) (b : Rx K σ H1 F1 H2 δ2 ws ys F2 Fw) : Rx K σ H F H2 δ2 (vs ++ ws) (xs ++ ys) F2 (Fv ++ Fw) := by
  have o1 := a.st.owns
  have s := b.kp.still o1
  refine ⟨b.st, (a.vl.keep b.kp s fun x hx => nd_apart a.nd hx).append b.vl, ?_, ?_, ?_⟩
  · rw [List.append_assoc]
    refine nd_mk (nd_left a.nd) b.nd fun x hx hy => ?_
    rcases b.fr x hy with z | z
    · exact nd_apart a.nd hx z
    · obtain ⟨o, e, _⟩ := a.vl.owns x hx
      rw [z] at e; cases e
  · intro x o e n
    refine b.kp x o (a.kp x o e n) fun z => ?_
    rcases a.fr x (List.mem_append_right _ z) with y | y
    · exact n y
    · rw [e] at y; cases y
  · intro x hx
    rw [List.append_assoc] at hx
    rcases List.mem_append.mp hx with hx | hx
    · exact a.fr x (List.mem_append_left _ hx)
    · rcases b.fr x hx with z | z
      · exact a.fr x (List.mem_append_right _ z)
      · by_cases hF : x ∈ F
        · exact .inl hF
        · refine .inr ?_
          cases e : H x with
          | none => rfl
          | some o => rw [a.kp x o e hF] at z; cases z
/-- the values forgotten, pure ones in their place -/
theorem Rx.drop (a : Rx K σ H F H1 δ1 vs xs F1 Fv) : Rx K σ H F H1 δ1 [] [] F1 [] :=
  ⟨a.st, .nil, nd_right a.nd, a.kp, fun x hx => a.fr x (List.mem_append_right _ hx)⟩
theorem Rx.pure (a : Rx K σ H F H1 δ1 vs xs F1 Fv) {v : V} {d : PyData} (r : RP K H1 v d) : Rx K σ H F H1 δ1 [v] [.own (.p d)] F1 [] :=
  ⟨a.st, .one (F := []) (.p r), nd_right a.nd, a.kp, fun x hx => a.fr x (List.mem_append_right _ hx)⟩
/-- a new object that is the value's own -/
theorem Rx.new (a : Rx K σ H F H1 δ1 vs xs F1 Fv) {p : Addr} {o : HO} (hp : H1 p = none) {m : M} {Fm : List Addr} (r : RM K (upd H1 p o) (.ref p) m Fm) (n : Fm.Nodup) (hm : ∀ x ∈ Fm, x = p ∨ x ∈ Fv) :
    Rx K σ H F (upd H1 p o) δ1 [.ref p] [.own m] F1 Fm := by
  have k : Keep H1 (upd H1 p o) [] := Keep.new hp []
  have s : Still H1 (upd H1 p o) := k.still fun x hx => by cases hx
  have np : ∀ x, (∃ u, H1 x = some u) → x ≠ p := fun x ⟨u, e⟩ z => by rw [z, hp] at e; cases e
  refine ⟨a.st.keep k s (fun x _ hx => by cases hx), .one r, nd_mk n (nd_right a.nd) fun x hx hy => ?_, fun x u e z => ?_, fun x hx => ?_⟩
  · rcases hm x hx with rfl | hv
    · obtain ⟨u, e, _⟩ := a.st.owns _ hy
      rw [hp] at e; cases e
    · exact nd_apart a.nd hv hy
  · have e1 := a.kp x u e z
    rw [upd_ne (np x ⟨u, e1⟩)]; exact e1
  · rcases List.mem_append.mp hx with hx | hx
    · rcases hm x hx with rfl | hv
      · by_cases hF : x ∈ F
        · exact .inl hF
        · refine .inr ?_
          cases e : H x with
          | none => rfl
          | some u => rw [a.kp x u e hF] at hp; cases hp
      · exact a.fr x (List.mem_append_left _ hv)
    · exact a.fr x (List.mem_append_right _ hx)
theorem Rx.newL (a : Rx K σ H F H1 δ1 vs xs F1 Fv) {p : Addr} (hp : H1 p = none) {zs : List V} {ds : List PyData} (r : RPs K H1 zs ds) : Rx K σ H F (upd H1 p (.lst zs)) δ1 [.ref p] [.own (.l ds)] F1 [p] :=
  a.new hp (.l upd_same (r.still ((Keep.new hp []).still fun x hx => by cases hx))) (by simp) fun x hx => .inl (by simpa using hx)
theorem Rx.newT (a : Rx K σ H F H1 δ1 vs xs F1 Fv) {p : Addr} (hp : H1 p = none) {zs : List V} {ds : List PyData} (r : RPs K H1 zs ds) : Rx K σ H F (upd H1 p (.tup zs)) δ1 [.ref p] [.own (.p (.tuple ds))] F1 [] :=
  a.new hp (.p (.tup (.of upd_same) (r.still ((Keep.new hp []).still fun x hx => by cases hx)))) (by simp) fun x hx => by cases hx
/-- what is looked at -/
theorem RV.peek {v : V} {x : Val} {m : M} (h : RV K H σ v x Fv) (st : RS K H σ δ F) (e : peek δ x = some m) : ∃ Fm, RM K H v m Fm ∧ ∀ a ∈ Fm, a ∈ Fv ++ F := by
  cases x with
  | own m' =>
    cases e
    exact ⟨Fv, h, fun a ha => List.mem_append_left _ ha⟩
  | «at» i =>
    obtain ⟨e1, rfl⟩ := h
    obtain ⟨v', Fm, e2, r, hs⟩ := st.get e
    rw [e1] at e2; cases e2
    exact ⟨Fm, r, fun a ha => List.mem_append_right _ (hs a ha)⟩
end

/-! ### the readings -/
abbrev XF : Exn → De → Prop := fun _ _ => False
section
variable (K : PySem.W.Frag) (Γ : List Spec)
/-- a reading from a code's worth: W is what is to hold behind it -/
def tE (W : De → (Val → De → Prop) → Prop) : TE := fun σ H Q => ∃ δ F Kc, RS K H σ δ F ∧ F.Nodup ∧ W δ Kc ∧
  ∀ x δ' v H' F' Fv, Kc x δ' → Rx K σ H F H' δ' [v] [x] F' Fv → Q v H'
def tV (n : Nat) (W : De → (List Val → De → Prop) → Prop) : TA := fun σ H Q => ∃ δ F Kc, RS K H σ δ F ∧ F.Nodup ∧ W δ Kc ∧
  ∀ xs δ' vs H' F' Fv, Kc xs δ' → vs.length = n → Rx K σ H F H' δ' vs xs F' Fv → Q vs H'
def tT (W : De → (Bool → De → Prop) → Prop) : TT := fun σ H Q => ∃ δ F Kc, RS K H σ δ F ∧ F.Nodup ∧ W δ Kc ∧
  ∀ b δ' H' F', Kc b δ' → Rx K σ H F H' δ' [] [] F' [] → Q b H'
end
/-- a kept value may be locked -/
def tG (t : TE) : TE := fun σ H Q => t σ H fun v H1 => Q v H1 ∨ ∃ a u, v = .ref a ∧ H1 a = some u ∧ Mut (some u) ∧ ∀ od, Q v (upd H1 a (.frz od u))
theorem pe_ghost {X : Cx} {e : Expr} {t : TE} (h : PE X e t) : PE X e (tG t) := by
  refine ⟨fun pins s σ H Q I hw => ?_⟩
  refine thn (h.run pins s σ H _ I hw) fun u s1 ⟨v, H1, I1, r1, q⟩ => ?_
  rcases q with q | ⟨a, w, rfl, e1, mu, q⟩
  · exact ⟨v, H1, I1, r1, q⟩
  · obtain ⟨od, I2⟩ := I1.lock e1 mu
    exact ⟨_, _, I2, r1, q od⟩
theorem PE.wk {X : Cx} {e : Expr} {t t' : TE} (h : PE X e t) (w : ∀ σ H Q, t' σ H Q → t σ H Q) : PE X e t' := ⟨fun pins s σ H Q I hw => h.run pins s σ H Q I (w σ H Q hw)⟩
theorem PT.wk {X : Cx} {e : Expr} {t t' : TT} (h : PT X e t) (w : ∀ σ H Q, t' σ H Q → t σ H Q) : PT X e t' := ⟨fun pins s σ H Q I hw => h.run pins s σ H Q I (w σ H Q hw)⟩
theorem PW.wk {X : Cx} {e : Expr} {t t' : TT} (h : PW X e t) (w : ∀ σ H Q, t' σ H Q → t σ H Q) : PW X e t' := ⟨fun wh pins s σ H Q I hw => h.run wh pins s σ H Q I (w σ H Q hw)⟩
theorem PA.wk {X : Cx} {e : List Expr} {t t' : TA} (h : PA X e t) (w : ∀ σ H Q, t' σ H Q → t σ H Q) : PA X e t' := ⟨fun ps pins s σ H Q I hw => h.run ps pins s σ H Q I (w σ H Q hw)⟩
theorem PS.wk {X : Cx} {e : Stmt} {t t' : TS} (h : PS X e t) (w : ∀ D σ H, t' D σ H → t D σ H) : PS X e t' := ⟨fun pins s σ H D I hw => h.run pins s σ H D I (w D σ H hw)⟩
theorem PSs.wk {X : Cx} {e : List Stmt} {t t' : TS} (h : PSs X e t) (w : ∀ D σ H, t' D σ H → t D σ H) : PSs X e t' := ⟨fun pins s σ H D I hw => h.run pins s σ H D I (w D σ H hw)⟩

/-! ### a value kept -/
section
variable {K : PySem.W.Frag} {H H1 : Hp} {σ : L2.St} {F F1 Fv : List Addr} {δ1 : De}
theorem mutOf {u : HO} (h : MutK u) : Mut (some u) := by cases u <;> first | exact trivial | exact False.elim h
theorem Keep.lock {a : Addr} {u : HO} {od : Obj} (h : H1 a = some u) : Keep H1 (upd H1 a (.frz od u)) [a] := fun b o e n => by
  rw [upd_ne (by simpa using n)]; exact e
theorem Still.lock {a : Addr} {u : HO} {od : Obj} (h : H1 a = some u) (m : MutK u) : Still H1 (upd H1 a (.frz od u)) := (Keep.lock h).still fun b hb => by
  rw [List.mem_singleton] at hb; subst hb; exact ⟨_, h, m⟩
/-- pure entries -/
theorem pureKvs_rel : ∀ {kvs : List (Key × V)} {ms : List (Key × M)} {G : List Addr} {dd : List (PyData × PyData)}, RMk K H kvs ms G → pureKvs ms = some dd → G = [] ∧ RPk K H kvs dd
  | _, _, _, _, .nil, e => by
    simp only [pureKvs, Option.some.injEq] at e; subst e; exact ⟨rfl, .nil⟩
  | _, _, _, _, .cons (k := k) (m := m) a b, e => by
    cases a with
    | p r =>
      simp only [pureKvs, Option.map_eq_some_iff] at e
      obtain ⟨q, e1, rfl⟩ := e
      obtain ⟨rfl, z⟩ := pureKvs_rel b e1
      refine ⟨rfl, ?_⟩
      cases k with
      | inl i => exact .cons (k := .inl i) r z
      | inr x => exact .cons (k := .inr x) r z
    | l _ _ => simp [pureKvs] at e
    | dc _ _ _ => simp [pureKvs] at e
/-- a thing of its own, as pure data: as it stands, or locked -/
theorem data_rel {v : V} {m : M} {Fm : List Addr} {d : PyData} (h : RM K H1 v m Fm) (e : m.data = some d) :
    (Fm = [] ∧ RP K H1 v d) ∨ ∃ a u, v = .ref a ∧ Fm = [a] ∧ H1 a = some u ∧ MutK u ∧ ∀ od, RP K (upd H1 a (.frz od u)) v d := by
  cases h with
  | p r => cases e; exact .inl ⟨rfl, r⟩
  | l ha r =>
    cases e
    exact .inr ⟨_, _, rfl, rfl, ha, trivial, fun od => .lst (.inl ⟨od, upd_same⟩) (r.still (Still.lock ha trivial))⟩
  | dc ha _ r =>
    simp only [M.data, Option.map_eq_some_iff] at e
    obtain ⟨dd, e1, rfl⟩ := e
    obtain ⟨rfl, z⟩ := pureKvs_rel r e1
    exact .inr ⟨_, _, rfl, rfl, ha, trivial, fun od => .dct upd_same (z.still (Still.lock ha trivial))⟩
/-- THE RULE of a kept value -/
theorem frz_ok {v : V} {x : Val} {P : PyData → De → Prop} {Q : V → Hp → Prop} (r : Rx K σ H F H1 δ1 [v] [x] F1 Fv) (hf : frz x δ1 P)
    (hq : ∀ d δ' H' F', P d δ' → RP K H' v d → Rx K σ H F H' δ' [v] [.own (.p d)] F' [] → Q v H') :
    Q v H1 ∨ ∃ a u, v = .ref a ∧ H1 a = some u ∧ Mut (some u) ∧ ∀ od, Q v (upd H1 a (.frz od u)) := by
  have rv := r.vl.one'
  cases x with
  | own m =>
    simp only [frz] at hf
    cases e : m.data with
    | none => rw [e] at hf; exact hf.elim
    | some d =>
      rw [e] at hf
      rcases data_rel (show RM K H1 v m Fv from rv) e with ⟨rfl, rp⟩ | ⟨a, u, rfl, rfl, ha, mu, rp⟩
      · exact .inl (hq d δ1 H1 F1 hf rp (r.pure rp))
      · refine .inr ⟨a, u, rfl, ha, mutOf mu, fun od => hq d δ1 _ F1 hf (rp od) ?_⟩
        have dj : ∀ y ∈ F1, y ∉ [a] := fun y hy z => by
          rw [List.mem_singleton] at z; subst z; exact nd_apart r.nd (List.mem_singleton.mpr rfl) hy
        refine ⟨r.st.keep (Keep.lock ha) (Still.lock ha mu) dj, .one (F := []) (.p (rp od)), nd_right r.nd, fun b o eb nb => ?_, fun b hb => r.fr b (List.mem_append_right _ hb)⟩
        have e1 := r.kp b o eb nb
        rw [upd_ne]
        · exact e1
        · rintro rfl
          rcases r.fr b (List.mem_append_left _ (List.mem_singleton.mpr rfl)) with z | z
          · exact nb z
          · rw [eb] at z; cases z
  | «at» i =>
    simp only [frz] at hf
    cases e0 : (δ1[i]?).getD none with
    | none => rw [e0] at hf; exact hf.elim
    | some m =>
      rw [e0] at hf
      simp only at hf
      cases e : m.data with
      | none => rw [e] at hf; exact hf.elim
      | some d =>
        rw [e] at hf
        simp only at hf
        obtain ⟨ev, rfl⟩ := rv
        have hi : i < δ1.length := by
          by_cases hi : i < δ1.length
          · exact hi
          · rw [List.getElem?_eq_none (by omega)] at e0; cases e0
        obtain ⟨Fm, R, pm, g, z, up⟩ := r.st.upd i hi
        obtain ⟨v', ev', rm⟩ := g m e0
        rw [ev] at ev'; cases ev'
        have sset : ∀ v0, σ[i]? = some (some v0) → σ.set i (some v0) = σ := fun v0 h0 => by
          obtain ⟨hl, h1⟩ := List.getElem?_eq_some_iff.mp h0
          rw [← h1]; exact List.set_getElem_self hl
        have nd1 : (Fm ++ R).Nodup := pm.nodup_iff.mp (by simpa using r.nd)
        have frF : ∀ y ∈ Fm ++ R, y ∈ F ∨ H y = none := fun y hy => r.fr y (by simpa using pm.mem_iff.mpr hy)
        rcases data_rel rm e with ⟨rfl, rp⟩ | ⟨a, u, rfl, rfl, ha, mu, rp⟩
        · obtain ⟨F', w, q⟩ := up H1 [] v (.p d) [] (Keep.refl _ _) (Still.refl _) (fun _ _ h => by cases h) (.p rp)
          rw [sset v ev] at w
          refine .inl (hq d _ H1 F' hf rp ⟨w, .one (F := []) (.p rp), ?_, r.kp, fun b hb => frF b ?_⟩)
          · exact q.nodup_iff.mpr (by simpa using nd1)
          · exact q.mem_iff.mp (by simpa using hb)
        · refine .inr ⟨a, u, rfl, ha, mutOf mu, fun od => ?_⟩
          obtain ⟨F', w, q⟩ := up _ [a] _ (.p d) [] (Keep.lock (od := od) ha) (Still.lock ha mu) (fun y hy h => by
            rw [List.mem_singleton] at h; subst h; exact nd_apart nd1 (List.mem_singleton.mpr rfl) hy) (.p (rp od))
          rw [sset _ ev] at w
          refine hq d _ _ F' hf (rp od) ⟨w, .one (F := []) (.p (rp od)), ?_, fun b o eb nb => ?_, fun b hb => frF b ?_⟩
          · exact q.nodup_iff.mpr (by simpa using nd_right nd1)
          · have e1 := r.kp b o eb nb
            rw [upd_ne]
            · exact e1
            · rintro rfl
              rcases frF b (List.mem_append_left _ (List.mem_singleton.mpr rfl)) with z | z
              · exact nb z
              · rw [eb] at z; cases z
          · exact List.mem_append_right _ (by simpa using q.mem_iff.mp (by simpa using hb))
end
end Q
set_option Elab.async false
set_option linter.all false
set_option maxRecDepth 100000
set_option maxHeartbeats 1000000
/-! LD: operators and built-ins over values that stand for data. -/
namespace Q
open PySem PySem.Spec PyProof.Rows L2

/-- what an operation leaves: a value as it stands, a new list, a new tuple -/
inductive Mk (K : PySem.W.Frag) (H : Hp) : V → M → Hp → Prop
  | pure {v : V} {d : PyData} : RP K H v d → Mk K H v (.p d) H
  | list {p : Addr} {xs : List V} {ds : List PyData} : H p = none → RPs K H xs ds → Mk K H (.ref p) (.l ds) (upd H p (.lst xs))
  | tup {p : Addr} {xs : List V} {ds : List PyData} : H p = none → RPs K H xs ds → Mk K H (.ref p) (.p (.tuple ds)) (upd H p (.tup xs))
theorem Rx.made {K : PySem.W.Frag} {H H1 H2 : Hp} {σ : L2.St} {F F1 Fv : List Addr} {δ1 : De} {vs : List V} {xs : List Val} {v : V} {m : M} (a : Rx K σ H F H1 δ1 vs xs F1 Fv) (h : Mk K H1 v m H2) :
    ∃ Fm, Rx K σ H F H2 δ1 [v] [.own m] F1 Fm := by
  cases h with
  | pure r => exact ⟨_, a.pure r⟩
  | list hp r => exact ⟨_, a.newL hp r⟩
  | tup hp r => exact ⟨_, a.newT hp r⟩
def rOp2 (K : PySem.W.Frag) (f : M → M → (M → Prop) → Prop) : R2 := fun x y H Q => ∃ m n Fm Fn Kr, RM K H x m Fm ∧ RM K H y n Fn ∧ f m n Kr ∧ ∀ r v H', Kr r → Mk K H v r H' → Q v H'
def rOps (K : PySem.W.Frag) (f : List M → (M → Prop) → Prop) : List V → Hp → VK → Prop := fun vs H Q => ∃ ms F Kr, RMs K H vs ms F ∧ f ms Kr ∧ ∀ r v H', Kr r → Mk K H v r H' → Q v H'

section
variable {K : PySem.W.Frag} {H : Hp} {v : V} {F : List Addr}
theorem RM.pI {i : Int} (h : RM K H v (.p (.int i)) F) : v = .int i := by cases h with | p r => cases r; rfl
theorem RM.pS {x : Str} (h : RM K H v (.p (.str x)) F) : v = .str x := by cases h with | p r => cases r; rfl
theorem RM.pB {b : Bool} (h : RM K H v (.p (.bool b)) F) : v = .bl b := by cases h with | p r => cases r; rfl
theorem RM.pN (h : RM K H v (.p .none) F) : v = .non := by cases h with | p r => cases r; rfl
theorem RM.pT {ds : List PyData} (h : RM K H v (.p (.tuple ds)) F) : ∃ a xs, v = .ref a ∧ SqT K H a xs ∧ RPs K H xs ds := by
  cases h with | p r => cases r with | tup h r => exact ⟨_, _, rfl, h, r⟩
theorem RM.lst {m : M} {ds : List PyData} (h : RM K H v m F) (e : m.lst = some ds) : ∃ a xs, v = .ref a ∧ SqL K H a xs ∧ RPs K H xs ds := by
  cases h with
  | p r =>
    cases r with
    | lst h r => cases e; exact ⟨_, _, rfl, h.sq, r⟩
    | _ => cases e
  | l h r => cases e; exact ⟨_, _, rfl, .of h, r⟩
  | dc _ _ _ => cases e
theorem RM.seq {m : M} {ds : List PyData} (h : RM K H v m F) (e : m.seq = some ds) : ∃ a xs, v = .ref a ∧ (SqL K H a xs ∨ SqT K H a xs) ∧ RPs K H xs ds := by
  cases h with
  | p r =>
    cases r with
    | lst h r => cases e; exact ⟨_, _, rfl, .inl h.sq, r⟩
    | tup h r => cases e; exact ⟨_, _, rfl, .inr h, r⟩
    | _ => cases e
  | l h r => cases e; exact ⟨_, _, rfl, .inl (.of h), r⟩
  | dc _ _ _ => cases e
theorem RPs.ints : ∀ {xs : List V} {ds : List PyData} {ns : List Int}, RPs K H xs ds → intL ds = some ns → xs = ns.map V.int
  | _, _, _, .nil, e => by simp only [intL, Option.some.injEq] at e; subst e; rfl
  | _, _, _, .cons a b, e => by
    cases a with
    | int i =>
      simp only [intL, Option.map_eq_some_iff] at e
      obtain ⟨r, e1, rfl⟩ := e
      rw [RPs.ints b e1]; rfl
    | _ => simp [intL] at e
theorem RPs.bools : ∀ {xs : List V} {ds : List PyData} {ns : List Bool}, RPs K H xs ds → boolL ds = some ns → xs = ns.map V.bl
  | _, _, _, .nil, e => by simp only [boolL, Option.some.injEq] at e; subst e; rfl
  | _, _, _, .cons a b, e => by
    cases a with
    | bl i =>
      simp only [boolL, Option.map_eq_some_iff] at e
      obtain ⟨r, e1, rfl⟩ := e
      rw [RPs.bools b e1]; rfl
    | _ => simp [boolL] at e
theorem RPs.texts : ∀ {xs : List V} {ds : List PyData} {ns : List Str}, RPs K H xs ds → strL ds = some ns → xs = ns.map V.str
  | _, _, _, .nil, e => by simp only [strL, Option.some.injEq] at e; subst e; rfl
  | _, _, _, .cons a b, e => by
    cases a with
    | str i =>
      simp only [strL, Option.map_eq_some_iff] at e
      obtain ⟨r, e1, rfl⟩ := e
      rw [RPs.texts b e1]; rfl
    | _ => simp [strL] at e
end

section
variable {X : Cx}
/-- list + list, read only ones too -/
theorem op_catL : OpR X (binaryOp .Add) (fun x y H Q => ∃ l b xs zs, x = .ref l ∧ y = .ref b ∧ SqL X.K H l xs ∧ SqL X.K H b zs ∧ xs.length + zs.length ≤ sizeLine ∧ ∀ p, H p = none → Q (.ref p) (upd H p (.lst (xs ++ zs)))) := by
  intro pins s σ H x y v u Q I rx ry h
  obtain ⟨l, b, xs, zs, rfl, rfl, hH, hB, hz, q⟩ := h
  cases rx
  cases ry
  obtain ⟨its, r, ⟨o, n, e, c, dd, da⟩, _⟩ := I.list hH
  obtain ⟨its2, r2, ⟨o2, n2, e2, c2, dd2, da2⟩, _⟩ := I.list hB
  obtain ⟨cl, dc, dt, sl⟩ := o
  obtain ⟨cl2, dc2, dt2, sl2⟩ := o2
  simp only at c dd da c2 dd2 da2
  subst c dd da c2 dd2 da2
  have ea : its.toArray ++ its2.toArray = (its ++ its2).toArray := by simp
  have hz' : its.toArray.size + its2.toArray.size ≤ sizeLine := by
    rw [List.size_toArray, List.size_toArray, ← r.length, ← r2.length]; exact hz
  refine concat_meets ⟨_, e, rfl⟩ ⟨_, e2, rfl⟩ noFill_list_add seq_list_add PySem.F.slot_list_add PySem.F.entry_list_add (PySem.F.args_list_add_2 _ _) (PyProof.Rows.list_addW l b its.toArray its2.toArray n n2 none none sl sl2 hz') ⟨e, e2, ?_⟩
  rw [ea]
  exact ⟨.ref _, _, I.lnew (t' := s.toks) (r.append r2) (by rw [List.length_append]; omega), rfl, q _ I.fresh⟩
def bopOf : BOp → Operator
  | .add => .Add | .sub => .Sub | .mul => .Mult | .fdiv => .FloorDiv | .mod => .Mod | .pow => .Pow | .shl => .LShift | .shr => .RShift | .band => .BitAnd

theorem OpR.pick {f : Value → Value → Sem Value} {r : R2} (h : ∀ x y H Q, r x y H Q → ∃ r', OpR X f r' ∧ r' x y H Q) : OpR X f r := by
  intro pins s σ H x y v u Q I rx ry q
  obtain ⟨r', h1, h2⟩ := h x y H Q q
  exact h1 pins s σ H x y v u Q I rx ry h2
theorem op_mulS : OpR X (binaryOp .Mult) (fun x y H Q => ∃ a n, x = .str a ∧ y = .int n ∧ MulOk a n ∧ Q (.str (Txt.mul a n)) H) := by
  intro pins s σ H x y v u Q I rx ry h
  obtain ⟨a, n, rfl, rfl, ok, q⟩ := h
  obtain ⟨t, rfl⟩ := rx
  obtain ⟨t', rfl⟩ := ry
  exact SB.mul ok fun t2 k => ⟨.str (Txt.mul a n), H, I.kept (t' := k) fun _ _ z => z, ⟨_, rfl⟩, q⟩
theorem op_bin (op : BOp) : OpR X (binaryOp (bopOf op)) (rOp2 X.K (binM op)) := by
  refine OpR.pick fun x y H Q ⟨m, n, Fm, Fn, Kr, rm, rn, hw, hq⟩ => ?_
  have ii : ∀ {i j : Int}, m = .p (.int i) → n = .p (.int j) → x = .int i ∧ y = .int j := fun e1 e2 => by subst e1 e2; exact ⟨rm.pI, rn.pI⟩
  have fin : ∀ {k : Int}, Kr (.p (.int k)) → Q (.int k) H := fun h => hq _ _ _ h (.pure (.int _))
  unfold binM at hw
  split at hw
  · obtain ⟨rfl, rfl⟩ := ii rfl rfl
    exact ⟨_, op_add, _, _, rfl, rfl, fin hw⟩
  · have e1 := rm.pS; have e2 := rn.pS; subst e1 e2
    exact ⟨_, op_add_str, _, _, rfl, rfl, hw.1, hq _ _ _ hw.2 (.pure (.str _))⟩
  · obtain ⟨a, xs, rfl, ha, ra⟩ := rm.pT
    obtain ⟨b, ys, rfl, hb, rb⟩ := rn.pT
    refine ⟨_, op_catA, a, b, xs, ys, rfl, rfl, ha, hb, by rw [ra.length, rb.length]; exact hw.1, fun e => ?_, fun _ e => ?_, fun _ _ p hp => ?_⟩
    · subst e; cases ra
      exact hq _ _ _ hw.2 (.pure (.tup hb rb))
    · subst e; cases rb
      rw [List.append_nil] at hw
      exact hq _ _ _ hw.2 (.pure (.tup ha ra))
    · exact hq _ _ _ hw.2 (.tup hp (ra.append rb))
  · obtain ⟨a, b, e1, e2, hz, hk⟩ := hw
    obtain ⟨l, xs, rfl, hl, ra⟩ := rm.lst e1
    obtain ⟨l2, ys, rfl, hl2, rb⟩ := rn.lst e2
    exact ⟨_, op_catL, l, l2, xs, ys, rfl, rfl, hl, hl2, by rw [ra.length, rb.length]; exact hz, fun p hp => hq _ _ _ hk (.list hp (ra.append rb))⟩
  · obtain ⟨rfl, rfl⟩ := ii rfl rfl
    exact ⟨_, op_sub, _, _, rfl, rfl, fin hw⟩
  · obtain ⟨rfl, rfl⟩ := ii rfl rfl
    obtain ⟨h1 | h1 | h1, hk⟩ := hw
    · exact ⟨_, op_mul, _, _, rfl, rfl, .inl h1, fin hk⟩
    · exact ⟨_, op_mul, _, _, rfl, rfl, .inr h1, fin hk⟩
    · exact ⟨_, op_mulW, _, _, rfl, rfl, h1, fin hk⟩
  · have e2 := rn.pI; subst e2
    obtain ⟨a, xs, rfl, ha, ra⟩ := rm.pT
    obtain ⟨h1, h2, h3, h4, hk⟩ := hw
    refine ⟨_, op_repT, a, _, xs, rfl, rfl, ha, fun e => ?_, h2, h3, by rw [ra.length]; exact h4, fun p hp => hq _ _ _ hk (.tup hp (ra.rep _))⟩
    subst e; cases ra; exact h1 rfl
  · have e1 := rm.pS; have e2 := rn.pI; subst e1 e2
    exact ⟨_, op_mulS, _, _, rfl, rfl, hw.1, hq _ _ _ hw.2 (.pure (.str _))⟩
  · have e2 := rn.pI; subst e2
    obtain ⟨h1, h2, h3, hk⟩ := hw
    cases rm with
    | l ha ra => exact ⟨_, op_rep, _, _, _, rfl, rfl, ha, h1, h2, by rw [ra.length]; exact h3, fun p hp => hq _ _ _ hk (.list hp (ra.rep _))⟩
  · obtain ⟨rfl, rfl⟩ := ii rfl rfl
    exact ⟨_, op_fdivW, _, _, rfl, rfl, hw.1, fin hw.2⟩
  · obtain ⟨rfl, rfl⟩ := ii rfl rfl
    exact ⟨_, op_mod, _, _, rfl, rfl, hw.1, fin hw.2⟩
  · obtain ⟨rfl, rfl⟩ := ii rfl rfl
    exact ⟨_, op_pow, _, _, rfl, rfl, hw.1, fin hw.2⟩
  · obtain ⟨rfl, rfl⟩ := ii rfl rfl
    exact ⟨_, op_shl, _, _, rfl, rfl, hw.1, fin hw.2⟩
  · obtain ⟨rfl, rfl⟩ := ii rfl rfl
    exact ⟨_, op_shr, _, _, rfl, rfl, hw.1, fin hw.2⟩
  · obtain ⟨rfl, rfl⟩ := ii rfl rfl
    exact ⟨_, op_and, _, _, rfl, rfl, fin hw⟩
  · exact hw.elim
end
end Q
set_option Elab.async false
set_option linter.all false
set_option maxRecDepth 100000
set_option maxHeartbeats 1000000
/-! LE: comparisons, truth, items, slices, built-ins over values that stand for data. -/
namespace Q
open PySem PySem.Spec PyProof.Rows L2

/-! ### data as the hand layer reads it -/
section
variable {K : PySem.W.Frag} {H : Hp}
mutual
theorem RP.dp : ∀ {v : V} {d : PyData}, RP K H v d → d.canLay0 = true → Dp K H v d
  | _, _, .non, _ => .non
  | _, _, .bl b, _ => .bl b
  | _, _, .int i, _ => .int i
  | _, _, .str x, _ => .str x
  | _, _, .lst h r, e => .lst h.sq (RPs.dp r (by simpa [PyData.canLay0] using e))
  | _, _, .tup h r, e => .tup h (RPs.dp r (by simpa [PyData.canLay0] using e))
  | _, _, .dct h r, e => by simp [PyData.canLay0] at e
theorem RPs.dp : ∀ {vs : List V} {ds : List PyData}, RPs K H vs ds → PyData.canLayAll0 ds = true → DpAll K H vs ds
  | _, _, .nil, _ => .nil
  | _, _, .cons a b, e => by
    simp only [PyData.canLayAll0, Bool.and_eq_true] at e
    exact .cons (RP.dp a e.1) (RPs.dp b e.2)
end
theorem RM.dp {v : V} {m : M} {F : List Addr} {d : PyData} (h : RM K H v m F) (e : m.data = some d) (s : SeqAt.shaped d = true) : Dp K H v d := by
  have c := SeqAt.canLay_of_shaped s
  cases h with
  | p r => cases e; exact r.dp c
  | l ha r => cases e; exact .lst (.of ha) (r.dp (by simpa [PyData.canLay0] using c))
  | dc ha _ r =>
    simp only [M.data, Option.map_eq_some_iff] at e
    obtain ⟨dd, _, rfl⟩ := e
    simp [PyData.canLay0] at c
theorem RP.kV {v : V} {d : PyData} {k : Key} (h : RP K H v d) (e : keyOf d = some k) : v = kV k := by
  cases h with
  | int i => cases e; rfl
  | str x => cases e; rfl
  | _ => cases e
theorem RMk.get : ∀ {kvs : List (Key × V)} {ms : List (Key × M)} {F : List Addr} {k : Key}, RMk K H kvs ms F →
    (∀ m, kget ms k = some m → ∃ v Fm, valV kvs k = some v ∧ RM K H v m Fm ∧ ∀ a ∈ Fm, a ∈ F) ∧ (kget ms k = none → valV kvs k = none)
  | _, _, _, k, .nil => ⟨fun m e => (by cases e), fun _ => rfl⟩
  | _, _, _, k, .cons (k := k') a b => by
    by_cases hk : k' = k
    · subst hk
      refine ⟨fun m e => ?_, fun e => ?_⟩
      · simp only [kget, if_pos] at e; cases e
        exact ⟨_, _, valV_pos rfl, a, fun x hx => List.mem_append_left _ hx⟩
      · simp [kget] at e
    · obtain ⟨i1, i2⟩ := RMk.get (k := k) b
      refine ⟨fun m e => ?_, fun e => ?_⟩
      · simp only [kget, if_neg hk] at e
        obtain ⟨v, Fm, e1, e2, e3⟩ := i1 m e
        exact ⟨v, Fm, by rw [valV_neg hk]; exact e1, e2, fun x hx => List.mem_append_right _ (e3 x hx)⟩
      · simp only [kget, if_neg hk] at e
        rw [valV_neg hk]; exact i2 e
theorem RMk.isSome {kvs : List (Key × V)} {ms : List (Key × M)} {F : List Addr} (r : RMk K H kvs ms F) (k : Key) : (kget ms k).isSome = (valV kvs k).isSome := by
  obtain ⟨i1, i2⟩ := r.get (k := k)
  cases e : kget ms k with
  | none => rw [i2 e]; rfl
  | some m => obtain ⟨v, _, e1, _⟩ := i1 m e; rw [e1]; rfl
theorem RMk.length : ∀ {kvs : List (Key × V)} {ms : List (Key × M)} {F : List Addr}, RMk K H kvs ms F → kvs.length = ms.length
  | _, _, _, .nil => rfl
  | _, _, _, .cons _ b => congrArg (· + 1) b.length
theorem RPs.all_flat : ∀ {vs : List V} {ds : List PyData}, RPs K H vs ds → ds.all flatD = true → vs.all flatV = true
  | _, _, .nil, _ => rfl
  | _, _, .cons a b, e => by
    rw [List.all_cons, Bool.and_eq_true] at e
    rw [List.all_cons, Bool.and_eq_true]
    refine ⟨?_, b.all_flat e.2⟩
    cases a <;> first | rfl | exact absurd e.1 (by simp [flatD])
theorem RP.flat {v : V} {d : PyData} (h : RP K H v d) (e : flatD d = true) : flatV v = true := by
  cases h <;> first | rfl | exact absurd e (by simp [flatD])
theorem RP.eqV {v w : V} {d e : PyData} (h : RP K H v d) (h' : RP K H w e) (fd : flatD d = true) (fe : flatD e = true) : L2.eqV v w = PyData.eqv d e := by
  cases h <;> cases h' <;> first | rfl | exact absurd fd (by simp [flatD]) | exact absurd fe (by simp [flatD]) | simp [L2.eqV, PyData.eqv]
theorem RPs.any_eqv {x : V} {d : PyData} (h : RP K H x d) (fd : flatD d = true) : ∀ {vs : List V} {ds : List PyData}, RPs K H vs ds → ds.all flatD = true → inV x vs = ds.any fun z => PyData.eqv z d
  | _, _, .nil, _ => rfl
  | _, _, .cons a b, e => by
    rw [List.all_cons, Bool.and_eq_true] at e
    have ih := RPs.any_eqv h fd b e.2
    unfold inV at ih ⊢
    rw [List.any_cons, List.any_cons, ih, RP.eqV a h e.1 fd]
end

/-! ### comparisons -/
def rOpB (K : PySem.W.Frag) (f : M → M → (Bool → Prop) → Prop) : R2 := fun x y H Q => ∃ m n Fm Fn Kr, RM K H x m Fm ∧ RM K H y n Fn ∧ f m n Kr ∧ ∀ b, Kr b → Q (.bl b) H
def copOf : COp → CmpOp
  | .eq => .Eq | .ne => .NotEq | .lt => .Lt | .le => .LtE | .gt => .Gt | .ge => .GtE | .isin => .In | .notin => .NotIn | .is => .Is | .isnot => .IsNot
section
variable {X : Cx}
theorem op_inDk (hu : X.A.units + 1 < cLine) : OpR X (compareOp .In) (fun x y H Q => ∃ a o, y = .ref a ∧ DGet H a x o ∧ Q (.bl o.isSome) H) := by
  intro pins s σ H x y v u Q I rx ry h
  obtain ⟨a, o, rfl, g, q⟩ := h
  cases ry
  exact d_in hu I g rx fun s' I' => ⟨.bl _, H, I', rfl, q⟩
theorem op_notInDk (hu : X.A.units + 1 < cLine) : OpR X (compareOp .NotIn) (fun x y H Q => ∃ a o, y = .ref a ∧ DGet H a x o ∧ Q (.bl (!o.isSome)) H) := by
  intro pins s σ H x y v u Q I rx ry h
  obtain ⟨a, o, rfl, g, q⟩ := h
  cases ry
  exact d_notIn hu I g rx fun s' I' => ⟨.bl _, H, I', rfl, q⟩
theorem eq_pick (hu : X.A.units + 64 < cLine) {x y : V} {H : Hp} {m n : M} {Fm Fn : List Addr} {Kr : Bool → Prop} (rm : RM X.K H x m Fm) (rn : RM X.K H y n Fn) (hw : eqM m n Kr) {Q : VK} (neg : Bool)
    (hq : ∀ b, Kr b → Q (.bl (if neg then !b else b)) H) : ∃ r', OpR X (compareOp (if neg then .NotEq else .Eq)) r' ∧ r' x y H Q := by
  unfold eqM at hw
  split at hw
  · have e1 := rm.pI; have e2 := rn.pI; subst e1 e2
    cases neg
    · exact ⟨_, op_eq, rfl, by have := hq _ hw; rw [dec_int, ← Bool.beq_eq_decide_eq] at *; simpa using this⟩
    · exact ⟨_, op_ne, rfl, by have := hq _ hw; rw [dec_int, ← Bool.beq_eq_decide_eq] at *; simpa using this⟩
  · have e1 := rm.pS; have e2 := rn.pS; subst e1 e2
    cases neg
    · exact ⟨_, op_eq, rfl, by simpa using hq _ hw⟩
    · exact ⟨_, op_ne, rfl, by simpa using hq _ hw⟩
  · have e1 := rm.pB; have e2 := rn.pB; subst e1 e2
    cases neg
    · exact ⟨_, op_eq, rfl, by simpa using hq _ hw⟩
    · exact ⟨_, op_ne, rfl, by simpa using hq _ hw⟩
  · obtain ⟨d, e, e1, e2, s1, s2, hk⟩ := hw
    cases neg
    · exact ⟨_, op_eqD hu, d, e, rm.dp e1 s1, rn.dp e2 s2, s1, s2, hq _ hk⟩
    · exact ⟨_, op_neD hu, d, e, rm.dp e1 s1, rn.dp e2 s2, s1, s2, hq _ hk⟩
theorem is_pick {x y : V} {H : Hp} {m n : M} {Fm Fn : List Addr} {Kr : Bool → Prop} (rm : RM X.K H x m Fm) (rn : RM X.K H y n Fn) (hw : isM m n Kr) {Q : VK} (neg : Bool)
    (hq : ∀ b, Kr b → Q (.bl (if neg then !b else b)) H) : ∃ r', OpR X (compareOp (if neg then .IsNot else .Is)) r' ∧ r' x y H Q := by
  have non : ∀ (b : Bool), y = .non → decide (x = .non) = b → Kr b → ∃ r', OpR X (compareOp (if neg then .IsNot else .Is)) r' ∧ r' x y H Q := fun b e1 e2 hk => by
    subst e1
    cases neg
    · exact ⟨_, op_isN, rfl, by rw [e2]; exact hq b hk⟩
    · exact ⟨_, op_notN, rfl, by rw [e2]; exact hq b hk⟩
  unfold isM at hw
  split at hw
  · exact non true rn.pN (by rw [rm.pN]; rfl) hw
  · rename_i d hd
    refine non false rn.pN (decide_eq_false fun e => hd ?_) hw
    subst e
    cases rm with | p r => cases r; rfl
  · have e1 := rm.pB; have e2 := rn.pB; subst e1 e2
    cases neg
    · exact ⟨_, op_isBl, _, _, rfl, rfl, by have := hq _ hw; rw [Bool.beq_eq_decide_eq] at this; exact this⟩
    · exact ⟨_, op_notBl, _, _, rfl, rfl, by have := hq _ hw; rw [Bool.beq_eq_decide_eq] at this; exact this⟩
  · refine non false rn.pN ?_ hw
    cases rm; rfl
  · refine non false rn.pN ?_ hw
    cases rm; rfl
  · exact hw.elim
theorem in_pick (hu : X.A.units + 65 < cLine) {x y : V} {H : Hp} {m n : M} {Fm Fn : List Addr} {Kr : Bool → Prop} (rm : RM X.K H x m Fm) (rn : RM X.K H y n Fn) (hw : inM m n Kr) {Q : VK} (neg : Bool)
    (hq : ∀ b, Kr b → Q (.bl (if neg then !b else b)) H) : ∃ r', OpR X (compareOp (if neg then .NotIn else .In)) r' ∧ r' x y H Q := by
  unfold inM at hw
  split at hw
  · have e1 := rm.pS; have e2 := rn.pS; subst e1 e2
    cases neg
    · exact ⟨_, op_in_str, _, _, rfl, rfl, hq _ hw⟩
    · exact ⟨_, L2.op_notin_str, _, _, rfl, rfl, hq _ hw⟩
  · obtain ⟨k, e, hk⟩ := hw
    cases rm with
    | p rp =>
      have ex := rp.kV e
      subst ex
      cases rn with
      | dc ha _ rk =>
        have e2 := rk.isSome k
        rw [e2] at hk
        cases neg
        · exact ⟨_, op_inDk (by omega), _, _, rfl, .k ha, hq _ hk⟩
        · exact ⟨_, op_notInDk (by omega), _, _, rfl, .k ha, hq _ hk⟩
  · obtain ⟨d, ds, e1, e2, hc, hk⟩ := hw
    obtain ⟨a, xs, rfl, hs, rs⟩ := rn.seq e2
    rcases hc with ⟨f1, f2⟩ | ⟨e3, s1, s2⟩
    · have rx : RP X.K H x d := by
        cases rm with
        | p r => cases e1; exact r
        | l _ _ => cases e1; simp [flatD] at f1
        | dc _ _ _ =>
          simp only [M.data, Option.map_eq_some_iff] at e1
          obtain ⟨dd, _, rfl⟩ := e1
          simp [flatD] at f1
      have z := RPs.any_eqv rx f1 rs f2
      cases neg
      · exact ⟨_, op_in_seq, a, xs, rfl, hs, rx.flat f1, rs.all_flat f2, by simp only [Bool.false_eq_true, if_false]; rw [z]; exact hq _ hk⟩
      · exact ⟨_, op_notIn_seq, a, xs, rfl, hs, rx.flat f1, rs.all_flat f2, by simp only [if_true]; rw [z]; exact hq _ hk⟩
    · have y2 : Dp X.K H (.ref a) (.list ds) := by
        obtain ⟨a', xs', e4, hs', rs'⟩ := rn.lst e3
        cases e4
        exact .lst hs' (rs'.dp (by have := SeqAt.canLay_of_shaped s2; simpa [PyData.canLay0] using this))
      cases neg
      · exact ⟨_, op_inD hu, d, ds, rm.dp e1 s1, y2, s1, s2, hq _ hk⟩
      · exact ⟨_, op_notInD hu, d, ds, rm.dp e1 s1, y2, s1, s2, hq _ hk⟩
theorem op_cmp (hu : X.A.units + 65 < cLine) (op : COp) : OpR X (compareOp (copOf op)) (rOpB X.K (cmpM op)) := by
  refine OpR.pick fun x y H Q ⟨m, n, Fm, Fn, Kr, rm, rn, hw, hq⟩ => ?_
  unfold cmpM at hw
  split at hw
  · exact eq_pick (by omega) rm rn hw false fun b hb => hq b hb
  · exact eq_pick (by omega) rm rn hw true fun b hb => hq _ hb
  · have e1 := rm.pI; have e2 := rn.pI; subst e1 e2; exact ⟨_, op_lt, _, _, rfl, rfl, hq _ hw⟩
  · have e1 := rm.pI; have e2 := rn.pI; subst e1 e2; exact ⟨_, op_le, _, _, rfl, rfl, hq _ hw⟩
  · have e1 := rm.pI; have e2 := rn.pI; subst e1 e2; exact ⟨_, op_gt, _, _, rfl, rfl, hq _ hw⟩
  · have e1 := rm.pI; have e2 := rn.pI; subst e1 e2; exact ⟨_, op_ge, _, _, rfl, rfl, hq _ hw⟩
  · have e1 := rm.pS; have e2 := rn.pS; subst e1 e2; exact ⟨_, op_lt_str, _, _, rfl, rfl, hq _ hw⟩
  · exact is_pick rm rn hw false fun b hb => hq b hb
  · exact is_pick rm rn hw true fun b hb => hq _ hb
  · exact in_pick hu rm rn hw false fun b hb => hq b hb
  · exact in_pick hu rm rn hw true fun b hb => hq _ hb
  · exact hw.elim
/-- truth -/
theorem tru_M {K : PySem.W.Frag} {H : Hp} {x : V} {m : M} {F : List Addr} {Kr : Bool → Prop} (rm : RM K H x m F) (hw : truM m Kr) : ∃ k, TruV K x H k ∧ Kr k := by
  unfold truM at hw
  split at hw
  · have e := rm.pB; subst e; exact ⟨_, rfl, hw⟩
  · have e := rm.pI; subst e; exact ⟨_, rfl, hw⟩
  · have e := rm.pN; subst e; exact ⟨_, rfl, hw⟩
  · cases rm with
    | l ha r =>
      refine ⟨_, .inl ⟨_, .of ha, rfl⟩, ?_⟩
      cases r <;> exact hw
  · exact hw.elim
end
end Q
set_option Elab.async false
set_option linter.all false
set_option maxRecDepth 100000
set_option maxHeartbeats 4000000
/-! LE2: int of a long text; a text times a number. -/
namespace Q
open PySem PySem.Calls PySem.NumText PyProof.Rows L2

theorem wp_digits {M : Model} {A : Around} {E : Value → Shared → Prop} {s : Shared} {Q : Nat → Shared → Prop} (hn : s.heap.NoDigits) (h : Q 4300 s) : wpAny M A Builtin.intMaxStrDigits Q E s := by
  obtain ⟨mc, hns, hnone⟩ := hn
  unfold Builtin.intMaxStrDigits
  refine wpAny_bind (wpAny_nsGet hns ?_)
  rw [hnone]
  exact wpAny_pure h
theorem wp_textL {M : Model} {A : Around} {E : Value → Shared → Prop} {s : Shared} {Q : Value → Shared → Prop} {v : Value} {text : List Nat} {n : Int} (hd : s.heap.NoDigits)
    (hs : ¬ (text.takeWhile (· != 0)).length ≤ 640) (hr : (int_private% "readNumeral") 4300 10 (text.takeWhile (· != 0)) = (int_private% "Numeral.value") n)
    (ha : ((text.takeWhile (· != 0)).length == text.length) = true) (h : Q (.int n s.toks) { s with toks := s.toks + 1 }) :
    wpAny M A ((int_private% "intFromText") v text 10) Q E s := by
  obtain ⟨hp, g, d, tk, os⟩ := s
  have hd' : (⟨hp, g, d, tk, os⟩ : Shared).heap.NoDigits := hd
  repeat (any_goals (first
    | assumption
    | (with_reducible refine wpAny_ite_false (decide_eq_false hs) ?_)
    | (with_reducible refine wpAny_ite_true (decide_eq_true ha) ?_)
    | (with_reducible refine wp_digits hd' ?_)
    | wp_step))
  all_goals (try rw [hr])
  all_goals (try dsimp only)
  repeat (any_goals (first
    | assumption
    | (with_reducible refine wpAny_ite_true (decide_eq_true ha) ?_)
    | wp_step))
theorem meets_textL {x : PySem.Str} {u : Tok} {n : Int} (hl : x.length ≤ sizeLine) (hs : ¬ (numSeenOf x).length ≤ 640) (hn : PySem.intText? x = some n) :
    Meets (Builtin.«int.__new__» ⟨[.type "int", .str x u], []⟩) (fun A R s => s.heap.NoDigits ∧ R (.ok (.ret (.int n s.toks))) { s with toks := s.toks + 1 }) := by
  intro prog w A R s ⟨hd, h⟩
  obtain ⟨hp, g, d, tk, os⟩ := s
  have hd' : (⟨hp, g, d, tk, os⟩ : Shared).heap.NoDigits := hd
  have f1 := F.conv_sub_int
  have f2 := F.madeHere_int
  have f3 := PySem.W.KIN.str_int
  have f4 := PySem.W.KIN.str_idx
  have f5 := PySem.W.KIN.str_trunc
  have f6 : typeOf (.str x u) = pure (.type "str") := rfl
  have hr : (int_private% "readNumeral") 4300 10 (numSeenOf x) = (int_private% "Numeral.value") n ∧ ((numSeenOf x).length == (numTextOf x).length) = true := by
    rcases read4300 x hl with ⟨m, h1, h2, h3⟩ | ⟨h1, _⟩
    · rw [hn] at h1
      injection h1 with h1
      subst h1
      exact ⟨h3, h2⟩
    · rw [hn] at h1
      cases h1
  have hk := PySem.W.KIN.Hid.mk (And.intro hs hr)
  clear hs hr hl hn
  repeat (any_goals (first
    | assumption
    | ((with_reducible show wpAny _ _ ((int_private% "intFromText") _ _ _) _ _ _); refine wp_textL hd' hk.out.1 hk.out.2.1 hk.out.2.2 ?_)
    | wp_step))
section
variable {X : Cx}
theorem call_int_any (hb : X.base.NoDigits) : CallR X (.type "int") (fun xs H Q => ∃ a n, xs = [.str a] ∧ PySem.intText? a = some n ∧ (a.length ≤ 640 ∨ (a.length ≤ sizeLine ∧ ¬ (numSeenOf a).length ≤ 640)) ∧ Q (.int n) H) := by
  intro pins s σ H xs us Q I rs h
  obtain ⟨a, n, rfl, hn, hl, h⟩ := h
  cases rs with
  | cons r1 rs =>
    cases rs
    obtain ⟨t, rfl⟩ := r1
    rcases hl with h6 | ⟨hl, h7⟩
    · exact PySem.W.KIN.call_text hn h6 ⟨.int n, H, I.tok _, ⟨_, rfl⟩, h⟩
    · refine call_int_1 (meets_textL hl h7 hn) ⟨hb.keeps fun b o e => (I.bs b o e).1, ?_⟩
      exact ⟨typeIs_int _ _ _, .int n, H, I.tok _, ⟨_, rfl⟩, h⟩
end
end Q
set_option Elab.async false
set_option linter.all false
set_option maxRecDepth 100000
set_option maxHeartbeats 1000000
/-! LF: items, slices, built-ins, methods over values that stand for data. -/
namespace Q
open PySem PySem.Spec PyProof.Rows L2

/-! ### data in the heap, for repr -/
section
variable {X : Cx} {pins : List (Addr × Obj)} {σ : L2.St} {H : Hp} {s : Shared}
mutual
theorem RP.reads (I : Inv X pins σ H s) : ∀ (d : PyData) (v : V) (u : Value), RP X.K H v d → d.hasDict = false → RelV v u → ∃ as, Reads s.heap u d as
  | .none, _, _, h, _, r => by cases h; cases r; exact ⟨_, .none⟩
  | .bool b, _, _, h, _, r => by cases h; cases r; exact ⟨_, .bool b⟩
  | .int i, _, _, h, _, r => by cases h; obtain ⟨t, rfl⟩ := r; exact ⟨_, .int i t⟩
  | .str x, _, _, h, _, r => by cases h; obtain ⟨t, rfl⟩ := r; exact ⟨_, .str x t⟩
  | .list ds, _, _, h, e, r => by
    cases h with
    | lst hs ha =>
      cases r
      obtain ⟨its, rv, ⟨o, n, ho, hc, _, hd⟩, _⟩ := I.list hs.sq
      obtain ⟨as, hr⟩ := RPs.reads I ds _ its ha (by simpa [PyData.hasDict] using e) rv
      exact ⟨_, Reads.list ho hc hd hr⟩
  | .tuple ds, _, _, h, e, r => by
    cases h with
    | tup hs ha =>
      cases r
      obtain ⟨its, rv, ⟨o, ho, hc, n, hd⟩, _⟩ := I.tuple hs
      obtain ⟨as, hr⟩ := RPs.reads I ds _ its ha (by simpa [PyData.hasDict] using e) rv
      exact ⟨_, Reads.tuple ho hc hd hr⟩
  | .dict _, _, _, _, e, _ => by simp [PyData.hasDict] at e
theorem RPs.reads (I : Inv X pins σ H s) : ∀ (ds : List PyData) (vs : List V) (us : List Value), RPs X.K H vs ds → PyData.hasDictAll ds = false → Vals vs us → ∃ as, ReadsAll s.heap us ds as
  | [], _, _, h, _, r => by cases h; cases r; exact ⟨_, .nil⟩
  | d :: ds, _, _, h, e, r => by
    cases h with
    | cons h1 h2 =>
      cases r with
      | cons r1 r2 =>
        simp only [PyData.hasDictAll, Bool.or_eq_false_iff] at e
        obtain ⟨as, q1⟩ := RP.reads I d _ _ h1 e.1 r1
        obtain ⟨bs, q2⟩ := RPs.reads I ds _ _ h2 e.2 r2
        exact ⟨_, .cons q1 q2⟩
end
theorem RM.reads (I : Inv X pins σ H s) {v : V} {m : M} {F : List Addr} {d : PyData} {u : Value} (h : RM X.K H v m F) (e : m.data = some d) (hd : d.hasDict = false) (r : RelV v u) : ∃ as, Reads s.heap u d as := by
  cases h with
  | p rp => cases e; exact rp.reads I d _ _ hd r
  | l ha rs =>
    cases e
    cases r
    obtain ⟨its, rv, ⟨o, n, ho, hc, _, hd'⟩, _⟩ := I.list (.of ha)
    obtain ⟨as, hr⟩ := RPs.reads I _ _ its rs (by simpa [PyData.hasDict] using hd) rv
    exact ⟨_, Reads.list ho hc hd' hr⟩
  | dc _ _ _ =>
    simp only [M.data, Option.map_eq_some_iff] at e
    obtain ⟨dd, _, rfl⟩ := e
    simp [PyData.hasDict] at hd
/-- repr(x) -/
theorem call_reprD (hg : X.A.guards = some []) (hu : X.A.units + 110 < cLine) : CallR X (.builtin "repr") (fun vs H Q => ∃ v m F d, vs = [v] ∧ RM X.K H v m F ∧ m.data = some d ∧ d.showable = true ∧ d.hasDict = false ∧
    d.shown.length ≤ sizeLine ∧ d.depth ≤ 100 ∧ Q (.str d.shown) H) := by
  intro pins s σ H xs us Q I r h
  obtain ⟨v, m, F, d, rfl, rm, e, hs, hd, hz, hdp, q⟩ := h
  obtain ⟨u, rfl, rv⟩ := vals1 r
  obtain ⟨as, rr⟩ := rm.reads I e hd rv
  cases rr with
  | none => exact PySem.P.repr_of_none ⟨.str _, H, I.tok _, ⟨_, rfl⟩, by simpa only [PyData.shown] using q⟩
  | bool b => exact PySem.P.repr_of_bool ⟨.str _, H, I.tok _, ⟨_, rfl⟩, by simpa only [PyData.shown] using q⟩
  | int i t => exact PySem.P.repr_of_int (by simpa [PyData.showable] using hs) ⟨.str _, H, I.tok _, ⟨_, rfl⟩, by simpa only [PyData.shown] using q⟩
  | str x t => exact PySem.P.repr_of_str ⟨.str _, H, I.tok _, ⟨_, rfl⟩, by simpa only [PyData.shown] using q⟩ (by simpa only [PyData.shown] using hz)
  | list h1 h2 h3 h4 => exact repr_of_reads' (.list h1 h2 h3 h4) hs (PyData.noDict_hsm hd) hg (by omega) (fun _ _ e => e) (fun h' u tk hk => ⟨.str _, H, I.kept hk, ⟨_, rfl⟩, q⟩) hz
  | tuple h1 h2 h3 h4 => exact repr_of_reads' (.tuple h1 h2 h3 h4) hs (PyData.noDict_hsm hd) hg (by omega) (fun _ _ e => e) (fun h' u tk hk => ⟨.str _, H, I.kept hk, ⟨_, rfl⟩, q⟩) hz
  | dict h1 h2 h3 h4 h5 => simp [PyData.hasDict] at hd
end

/-! ### items -/
def rIxM (K : PySem.W.Frag) : R2 := fun x y H Q => ∃ m d Fm Kr, RM K H x m Fm ∧ RP K H y d ∧ ixM m d Kr ∧ ∀ r v, Kr r → RP K H v r → Q v H
theorem atI_rel {K : PySem.W.Frag} {H : Hp} {vs : List V} {ds : List PyData} {i : Int} {d : PyData} (r : RPs K H vs ds) (e : atI ds i = some d) : ∃ v, atI vs i = some v ∧ RP K H v d := by
  unfold atI at e ⊢
  rw [r.length]
  cases h : ixN ds.length i with
  | none => rw [h] at e; cases e
  | some j =>
    rw [h] at e
    exact r.get e
theorem IxR.pick {X : Cx} {r : R2} (h : ∀ x y H Q, r x y H Q → ∃ r', IxR X r' ∧ r' x y H Q) : IxR X r := by
  intro value slice pins s σ H x y v u Q I rx ry q hs
  obtain ⟨r', h1, h2⟩ := h x y H Q q
  exact h1 value slice pins s σ H x y v u Q I rx ry h2 hs
theorem ix_dK {X : Cx} (hu : X.A.units + 1 < cLine) : IxR X (fun x y H Q => ∃ a v, x = .ref a ∧ DGet H a y (some v) ∧ Q v H) := by
  intro value slice pins s σ H x y v u Q I rx ry h hs
  obtain ⟨a, z, rfl, g, q⟩ := h
  cases rx
  exact tail_any (dict_typeIs I g) PySem.F.slot_dict_getitem.lookup (d_getItem hu I g ry fun w' s' I' rw' => ⟨z, H, I', rw', q⟩) hs
theorem ix_M {X : Cx} (hu : X.A.units + 1 < cLine) : IxR X (rIxM X.K) := by
  refine IxR.pick fun x y H Q ⟨m, d, Fm, Kr, rm, rd, hw, hq⟩ => ?_
  unfold ixM at hw
  split at hw
  · obtain ⟨hz, c, e, hk⟩ := hw
    have e1 := rm.pS; subst e1
    cases rd
    exact ⟨_, ix_str, _, _, c, rfl, rfl, hz, e, hq _ _ hk (.str _)⟩
  · obtain ⟨key, e, e1, e2, hk⟩ := hw
    have ek := rd.kV e1
    subst ek
    cases rm with
    | dc ha _ rk =>
      obtain ⟨v, Fv, g1, g2, _⟩ := (rk.get (k := key)).1 _ e2
      cases g2 with
      | p rp => exact ⟨_, ix_dK hu, _, v, rfl, by rw [← g1]; exact .k ha, hq _ _ hk rp⟩
  · obtain ⟨ds, d', e1, e2, hk⟩ := hw
    cases rd
    obtain ⟨a, xs, rfl, hs, rs⟩ := rm.seq e1
    obtain ⟨v, g1, g2⟩ := atI_rel rs e2
    rcases hs with hs | hs
    · exact ⟨_, ix_list, a, xs, _, v, rfl, rfl, hs, g1, hq _ _ hk g2⟩
    · exact ⟨_, ix_tup, a, xs, _, v, rfl, rfl, hs, g1, hq _ _ hk g2⟩
  · exact hw.elim

/-! ### slices -/
def rSlM (K : PySem.W.Frag) : V → Option Int → Option Int → Hp → VK → Prop := fun x lo hi H Q => ∃ m Fm Kr, RM K H x m Fm ∧ slM m lo hi Kr ∧ ∀ r v H', Kr r → Mk K H v r H' → Q v H'
theorem SlR.pick {X : Cx} {r : V → Option Int → Option Int → Hp → VK → Prop} (h : ∀ x lo hi H Q, r x lo hi H Q → ∃ r', L2.SlR X r' ∧ r' x lo hi H Q) : L2.SlR X r := by
  intro pins s σ H x v vl vu lo hi sl Q I rx hs pl pu q
  obtain ⟨r', h1, h2⟩ := h x lo hi H Q q
  exact h1 pins s σ H x v vl vu lo hi sl Q I rx hs pl pu h2
theorem cut_rel {K : PySem.W.Frag} {H : Hp} {vs : List V} {ds : List PyData} {lo hi : Option Int} (r : RPs K H vs ds) : RPs K H (cutV vs lo hi) (cut ds lo hi) := by
  unfold cutV Q.cut
  rw [r.length]
  exact (r.drop _).take _
theorem sl_M {X : Cx} : L2.SlR X (rSlM X.K) := by
  refine SlR.pick fun x lo hi H Q ⟨m, Fm, Kr, rm, hw, hq⟩ => ?_
  unfold slM at hw
  split at hw
  · have e1 := rm.pS; subst e1
    exact ⟨_, sl_str, _, rfl, hw.1, hq _ _ _ hw.2 (.pure (.str _))⟩
  · obtain ⟨a, xs, rfl, ha, ra⟩ := rm.pT
    refine ⟨_, sl_tupA, a, xs, rfl, ha, fun ⟨e1, e2⟩ => ?_, fun _ p hp => hq _ _ _ hw (.tup hp (cut_rel ra))⟩
    have z := cut_rel (lo := lo) (hi := hi) ra
    have e : cutV xs lo hi = xs := by
      unfold cutV
      rw [e1, e2, List.drop_zero, Nat.sub_zero, List.take_length]
    rw [e] at z
    exact hq _ _ _ hw (.pure (.tup ha z))
  · obtain ⟨ds, e, hk⟩ := hw
    obtain ⟨a, xs, rfl, ha, ra⟩ := rm.lst e
    exact ⟨_, sl_list, a, xs, rfl, ha, fun p hp => hq _ _ _ hk (.list hp (cut_rel ra))⟩

/-! ### built-ins -/
theorem CallR.pick {X : Cx} {f : Value} {r : List V → Hp → VK → Prop} (h : ∀ vs H Q, r vs H Q → ∃ r', CallR X f r' ∧ r' vs H Q) : CallR X f r := by
  intro pins s σ H xs us Q I rv q
  obtain ⟨r', h1, h2⟩ := h xs H Q q
  exact h1 pins s σ H xs us Q I rv h2
def biVal : BI → Value
  | .len => .builtin "len" | .sum => .builtin "sum" | .max => .builtin "max" | .min => .builtin "min" | .all => .builtin "all" | .any => .builtin "any"
  | .tuple => .type "tuple" | .list => .type "list" | .repr => .builtin "repr" | .abs => .builtin "abs" | .int => .type "int" | .str => .type "str" | .bool => .type "bool"
theorem RMs.one {K : PySem.W.Frag} {H : Hp} {vs : List V} {m : M} {F : List Addr} (h : RMs K H vs [m] F) : ∃ v G, vs = [v] ∧ RM K H v m G := by
  cases h with | cons a b => cases b; exact ⟨_, _, rfl, a⟩
theorem RMs.two {K : PySem.W.Frag} {H : Hp} {vs : List V} {m n : M} {F : List Addr} (h : RMs K H vs [m, n] F) : ∃ v w G G', vs = [v, w] ∧ RM K H v m G ∧ RM K H w n G' := by
  cases h with | cons a b => cases b with | cons b c => cases c; exact ⟨_, _, _, _, rfl, a, b⟩
theorem call_bi {X : Cx} (hdg : X.base.NoDigits) (hc : X.calm = true) (hg : X.A.guards = some []) (hu : X.A.units + 110 < cLine) (f : BI) : CallR X (biVal f) (rOps X.K (biM f)) := by
  refine CallR.pick fun vs H Q ⟨ms, F, Kr, rm, hw, hq⟩ => ?_
  have pi : ∀ {k : Int}, Kr (.p (.int k)) → Q (.int k) H := fun h => hq _ _ _ h (.pure (.int _))
  have pb : ∀ {k : Bool}, Kr (.p (.bool k)) → Q (.bl k) H := fun h => hq _ _ _ h (.pure (.bl _))
  unfold biM at hw
  split at hw
  · obtain ⟨v, G, rfl, r⟩ := rm.one
    have e := r.pS; subst e
    exact ⟨_, call_len_str, _, rfl, hw.1, pi hw.2⟩
  · obtain ⟨v, G, rfl, r⟩ := rm.one
    cases r with
    | dc ha _ rk => exact ⟨_, call_lenD, _, _, rfl, ha, by rw [rk.length]; exact pi hw⟩
  · obtain ⟨v, G, rfl, r⟩ := rm.one
    obtain ⟨ds, e, hk⟩ := hw
    obtain ⟨a, xs, rfl, hs, rs⟩ := r.seq e
    exact ⟨_, call_len_seq, a, xs, rfl, hs, by rw [rs.length]; exact pi hk⟩
  · obtain ⟨v, G, rfl, r⟩ := rm.one
    obtain ⟨ds, ns, e, e2, hk⟩ := hw
    obtain ⟨a, xs, rfl, hs, rs⟩ := r.lst e
    exact ⟨_, cr_sum hc, a, ns, rfl, by rw [← rs.ints e2]; exact hs, pi hk⟩
  · obtain ⟨v, w, G, G', rfl, r1, r2⟩ := rm.two
    have e1 := r1.pI; have e2 := r2.pI; subst e1 e2
    exact ⟨_, call_max2 hc, _, _, rfl, pi hw⟩
  · obtain ⟨v, w, G, G', rfl, r1, r2⟩ := rm.two
    have e1 := r1.pI; have e2 := r2.pI; subst e1 e2
    exact ⟨_, call_min2 hc, _, _, rfl, pi hw⟩
  · obtain ⟨v, G, rfl, r⟩ := rm.one
    obtain ⟨ds, ns, e, e2, h0, hk⟩ := hw
    obtain ⟨a, xs, rfl, hs, rs⟩ := r.lst e
    exact ⟨_, cr_max hc, a, ns, rfl, by rw [← rs.ints e2]; exact hs, h0, fun m h1 h2 => pi (hk m h1 h2)⟩
  · obtain ⟨v, G, rfl, r⟩ := rm.one
    obtain ⟨ds, ns, e, e2, h0, hk⟩ := hw
    obtain ⟨a, xs, rfl, hs, rs⟩ := r.lst e
    exact ⟨_, cr_min hc, a, ns, rfl, by rw [← rs.ints e2]; exact hs, h0, fun m h1 h2 => pi (hk m h1 h2)⟩
  · obtain ⟨v, G, rfl, r⟩ := rm.one
    obtain ⟨ds, ns, e, e2, hk⟩ := hw
    obtain ⟨a, xs, rfl, hs, rs⟩ := r.lst e
    exact ⟨_, cr_all hc, a, ns, rfl, by rw [← rs.bools e2]; exact hs, pb hk⟩
  · obtain ⟨v, G, rfl, r⟩ := rm.one
    obtain ⟨ds, ns, e, e2, hk⟩ := hw
    obtain ⟨a, xs, rfl, hs, rs⟩ := r.lst e
    exact ⟨_, cr_any hc, a, ns, rfl, by rw [← rs.bools e2]; exact hs, pb hk⟩
  · obtain ⟨v, G, rfl, r⟩ := rm.one
    obtain ⟨ds, e, hk⟩ := hw
    obtain ⟨a, xs, rfl, hs, rs⟩ := r.seq e
    refine ⟨_, call_tuple_of, a, xs, rfl, ?_⟩
    rcases hs with hs | hs
    · exact .inl ⟨hs, fun p hp => hq _ _ _ hk (.tup hp rs)⟩
    · exact .inr ⟨hs, hq _ _ _ hk (.pure (.tup hs rs))⟩
  · obtain ⟨v, G, rfl, r⟩ := rm.one
    obtain ⟨ds, e, hk⟩ := hw
    obtain ⟨a, xs, rfl, hs, rs⟩ := r.seq e
    exact ⟨_, call_list_of, a, xs, rfl, hs, fun p hp => hq _ _ _ hk (.list hp rs)⟩
  · obtain ⟨v, G, rfl, r⟩ := rm.one
    obtain ⟨d, e, h1, h2, h3, h4, hk⟩ := hw
    exact ⟨_, call_reprD hg hu, v, _, _, d, rfl, r, e, h1, h2, h3, h4, hq _ _ _ hk (.pure (.str _))⟩
  · obtain ⟨v, G, rfl, r⟩ := rm.one
    have e := r.pI; subst e
    exact ⟨_, call_abs, _, rfl, pi hw⟩
  · obtain ⟨v, G, rfl, r⟩ := rm.one
    have e := r.pI; subst e
    exact ⟨_, call_int1, .inl ⟨_, rfl, pi hw⟩⟩
  · obtain ⟨v, G, rfl, r⟩ := rm.one
    have e := r.pB; subst e
    exact ⟨_, call_int1, .inr ⟨_, rfl, pi hw⟩⟩
  · obtain ⟨v, G, rfl, r⟩ := rm.one
    have e := r.pS; subst e
    obtain ⟨n, h1, h2, hk⟩ := hw
    exact ⟨_, call_int_any hdg, _, n, rfl, h1, h2, pi hk⟩
  · obtain ⟨v, G, rfl, r⟩ := rm.one
    have e := r.pI; subst e
    exact ⟨_, call_str_int, _, rfl, hw.1, hq _ _ _ hw.2 (.pure (.str _))⟩
  · obtain ⟨v, G, rfl, r⟩ := rm.one
    have e := r.pS; subst e
    exact ⟨_, SkE.call_str_str, _, rfl, hq _ _ _ hw (.pure (.str _))⟩
  · exact hw.elim
theorem kitAll : ∀ t ∈ ["NoneType", "int", "bool", "str", "list", "tuple", "dict"], ∀ u ∈ ["int", "bool", "str", "list", "tuple", "dict"], kitB t u = some (isiS t u) := by decide +kernel
/-- isinstance(x, T) -/
theorem isi_ty {K : PySem.W.Frag} {H : Hp} {v : V} {m : M} {F : List Addr} (r : RM K H v m F) : ∃ t, TyX K H v (.type t) ∧ ∀ u ∈ ["int", "bool", "str", "list", "tuple", "dict"], kitB t u = some (isiS m.kn u) := by
  cases r with
  | p rp =>
    cases rp with
    | non => exact ⟨_, .base .non, kitAll _ (by decide)⟩
    | bl b => exact ⟨_, .base (.bl b), kitAll _ (by decide)⟩
    | int i => exact ⟨_, .base (.int i), kitAll _ (by decide)⟩
    | str x => exact ⟨_, .base (.str x), kitAll _ (by decide)⟩
    | lst h _ =>
      rcases h with ⟨o, h⟩ | ⟨o, its, n, h, hc, _⟩
      · exact ⟨_, .base (.frz h), kitAll _ (by decide)⟩
      · exact ⟨_, .kList h hc, kitAll _ (by decide)⟩
    | tup h _ =>
      rcases h with (h | ⟨o, h⟩) | ⟨o, its, n, h, hc, _⟩
      · exact ⟨_, .base (.tup h), kitAll _ (by decide)⟩
      · exact ⟨_, .fTuple h, kitAll _ (by decide)⟩
      · exact ⟨_, .kTuple h hc, kitAll _ (by decide)⟩
    | dct h _ => exact ⟨_, .fDict h, kitAll _ (by decide)⟩
  | l h _ => exact ⟨_, .base (.lst h), kitAll _ (by decide)⟩
  | dc h _ _ => exact ⟨_, .base (.dK h), kitAll _ (by decide)⟩

/-! ### methods -/
def meId : ME → String × String × Str
  | .join => ("str", "str.join", "join") | .split => ("str", "str.split", "split") | .index => ("list", "list.index", "index") | .upper => ("str", "str.upper", "upper") | .count => ("list", "list.count", "count")
theorem mt_M {X : Cx} (f : ME) : MtR X (meId f).2.1 (fun x xs H Q => ∃ m ms Fm Fs Kr, RM X.K H x m Fm ∧ RMs X.K H xs ms Fs ∧ meM f m ms Kr ∧ ∀ r v H', Kr r → Mk X.K H v r H' → Q v H') := by
  intro pins s σ H x xs v us Q I rx rs ⟨m, ms, Fm, Fs, Kr, rm, rms, hw, hq⟩
  unfold meM at hw
  split at hw
  · have e := rm.pS; subst e
    obtain ⟨w, G, rfl, r⟩ := rms.one
    obtain ⟨ds, zs, e1, e2, hz, hk⟩ := hw
    obtain ⟨a, ys, rfl, hs, rr⟩ := r.seq e1
    have ey := rr.texts e2
    subst ey
    exact mt_join pins s σ H _ _ v us Q I rx rs ⟨_, a, zs, rfl, rfl, hs, hz, hq _ _ _ hk (.pure (.str _))⟩
  · exact hw.elim
def muId : MU → String × Str
  | .append => ("list.append", "append") | .insert => ("list.insert", "insert") | .pop => ("list.pop", "pop") | .extend => ("list.extend", "extend") | .remove => ("list.remove", "remove")
theorem mt_U {X : Cx} (f : MU) : MtR X (muId f).1 (fun x xs H Q => ∃ a zs m ds Kr, x = .ref a ∧ H a = some (.lst zs) ∧ RM X.K H x m [a] ∧ RPs X.K H xs ds ∧ muM f m ds Kr ∧
    ∀ r m' v zs' ds', Kr r m' → m' = .l ds' → RP X.K H v r → RPs X.K H zs' ds' → Q v (upd H a (.lst zs'))) := by
  intro pins s σ H x xs v us Q I rx rs ⟨a, zs, m, ds, Kr, ex, ha, rm, rp, hw, hq⟩
  subst ex
  unfold muM at hw
  split at hw
  · cases rm with
    | l ha' ra =>
      rw [ha] at ha'; cases ha'
      cases rp with
      | cons r1 r2 =>
        cases r2
        exact mt_append pins s σ H _ _ v us Q I rx rs ⟨a, zs, _, rfl, rfl, ha, by rw [ra.length]; exact hw.1, hq _ _ _ _ _ hw.2 rfl .non (ra.append (.cons r1 .nil))⟩
  · cases rm with
    | l ha' ra =>
      rw [ha] at ha'; cases ha'
      cases rp with
      | cons r1 r2 =>
        cases r2 with
        | cons r2 r3 =>
          cases r3
          cases r1
          obtain ⟨h1, h2, h3, hk⟩ := hw
          exact mt_insert pins s σ H _ _ v us Q I rx rs ⟨a, zs, _, _, rfl, rfl, ha, by rw [ra.length]; exact h1, h2, h3, hq _ _ _ _ _ hk rfl .non (((ra.take _).append (.cons r2 .nil)).append (ra.drop _))⟩
  · cases rm with
    | l ha' ra =>
      rw [ha] at ha'; cases ha'
      cases rp with
      | cons r1 r2 =>
        cases r2
        cases r1
        obtain ⟨h1, h2, j, d, e1, e2, hk⟩ := hw
        obtain ⟨w, g1, g2⟩ := ra.get e2
        refine mt_popAt pins s σ H _ _ v us Q I rx rs ⟨a, zs, _, j, w, rfl, rfl, ha, h1, h2, by rw [ra.length]; exact e1, g1, hq _ _ _ _ _ hk rfl g2 ?_⟩
        rw [List.eraseIdx_eq_take_drop_succ, List.eraseIdx_eq_take_drop_succ]
        exact (ra.take _).append (ra.drop _)
  · exact hw.elim
end Q
set_option Elab.async false
set_option linter.all false
set_option maxRecDepth 100000
set_option maxHeartbeats 1000000
/-! LG: which code stands for which expression. -/
namespace Q
open PySem PySem.Spec PyProof.Rows L2

/-- what is told of a def's text: its names by slot, the calls by number (the def's name, how many by place, the names of the others), the module's constants -/
structure SE where
  N : List Str
  G : List (Str × Nat × List Str)
  C : List (Str × PyData)
def visB (sc : Scope) (x : Str) : Bool := match sc.names.lookup x with
  | some .local => true | some .cell => true | some .free => true | _ => false
def locB (sc : Scope) (x : Str) : Bool := match sc.names.lookup x with
  | some .local => true | some .cell => true | _ => false
/-- a name that the text may store to: fs is the scope whose own cells may be written -/
def tgtB (sc fs : Scope) (x : Str) : Bool := match sc.names.lookup x with
  | some .local => true | some .cell => (match fs.names.lookup x with | some .cell => true | _ => false) | _ => false
def globB (sc : Scope) (x : Str) : Bool := match sc.names.lookup x with
  | some .globalImplicit => true | _ => false
def okX (x : Str) : Bool := !(x == ("__debug__" : Str)) && !(x == ("__classdict__" : Str)) && decide (x ≠ "__name__")
def constB : Const → PyData → Bool
  | .none, .none => true
  | .bool a, .bool b => a == b
  | .int a, .int b => a == b
  | .str a, .str b => a == b
  | _, _ => false
def scB : PyData → PyData → Bool
  | .none, .none => true
  | .bool a, .bool b => a == b
  | .int a, .int b => a == b
  | .str a, .str b => a == b
  | _, _ => false
def biName : BI → Str
  | .len => "len" | .sum => "sum" | .max => "max" | .min => "min" | .all => "all" | .any => "any" | .tuple => "tuple" | .list => "list"
  | .repr => "repr" | .abs => "abs" | .int => "int" | .str => "str" | .bool => "bool"
def plainB : Expr → Bool
  | .Set .. => false | .Slice .. => false | .Starred .. => false | _ => true
/-- its test is its value's truth -/
def valB : Expr → Bool
  | .UnaryOp .. => false | .BoolOp .. => false | .IfExp .. => false | .Compare .. => false | _ => true
def baseB : Expr → Bool
  | .Call (.Name _ _) [] [] _ => false | _ => true
def tgS : Tg → List Nat
  | .n i => [i]
  | .t0 => []
  | .tc a as => tgS a ++ tgS as
def tupB : Expr → Bool
  | .Tuple .. => true
  | _ => false
def kwNames : List Keyword → Option (List Str)
  | [] => some []
  | ⟨some x, _, _⟩ :: r => (kwNames r).map (x :: ·)
  | _ => none
def keysB : List Str → List (Option Expr) → Bool
  | [], [] => true
  | x :: xs, some (.Constant (.str y) _ _) :: r => x == y && keysB xs r
  | _, _ => false
def ownB (N : List Str) (own : List Nat) : List (Str × Nat) := own.filterMap fun i => (N[i]?).map fun x => (x, i)
mutual
def chkG (E : SE) (sc fs : Scope) : Tg → Expr → Bool
  | .n i, .Name x _ => decide (E.N[i]? = some x) && tgtB sc fs x
  | .t0, .Tuple [] _ _ => true
  | .tc a as, .Tuple (e :: es) _ _ => plainB e && chkG E sc fs a e && chkGs E sc fs as es
  | _, _ => false
def chkGs (E : SE) (sc fs : Scope) : Tg → List Expr → Bool
  | .t0, [] => true
  | .tc a as, e :: es => plainB e && chkG E sc fs a e && chkGs E sc fs as es
  | _, _ => false
end
/-- for numbers told without changing anything -/
def chkQ (E : SE) : C → Scope → Expr → Bool
  | .v i, sc, .Name x _ => decide (E.N[i]? = some x) && visB sc x && okX x
  | .k d, _, .Constant c _ _ => constB c d
  | .bin op a b, sc, .BinOp ea eop eb _ => decide (eop = bopOf op) && chkQ E a sc ea && chkQ E b sc eb
  | _, _, _ => false
mutual
def chkE (E : SE) : C → Scope → Expr → Bool
  | .v i, sc, .Name x _ => decide (E.N[i]? = some x) && visB sc x && okX x
  | .k d, _, .Constant c _ _ => constB c d
  | .gk y d, sc, .Name x _ => x == y && globB sc x && okX x && E.C.any fun p => p.1 == x && scB p.2 d
  | .tup l, sc, .Tuple es _ _ => chkL E l sc es
  | .lst l, sc, .List es _ => chkL E l sc es
  | .dct ks l, sc, .Dict keys vals _ => keysB ks keys && decide (keys.length = vals.length) && decide (ks.length ≤ 15) && decide (ks.Nodup) && chkL E l sc vals
  | .bin op a b, sc, .BinOp ea eop eb _ => decide (eop = bopOf op) && chkE E a sc ea && chkE E b sc eb
  | .neg a, sc, .UnaryOp .USub ea _ => chkE E a sc ea
  | .cmp op a b, sc, .Compare ea [eop] [eb] _ => decide (eop = copOf op) && plainB eb && chkE E a sc ea && chkE E b sc eb
  | .ch o1 o2 a b c, sc, .Compare ea [e1, e2] [eb, ec] _ => decide (e1 = copOf o1) && decide (e2 = copOf o2) && plainB ec && chkE E a sc ea && chkE E b sc eb && chkE E c sc ec
  | .and l, sc, .BoolOp .And vs _ => chkL E l sc vs
  | .or l, sc, .BoolOp .Or vs _ => chkL E l sc vs
  | .not t, sc, .UnaryOp .Not e _ => chkE E t sc e
  | .ite t a b, sc, .IfExp et ea eb _ => chkT E t sc et && chkE E a sc ea && chkE E b sc eb
  | .ix a b, sc, .Subscript ea eb _ => plainB eb && chkE E a sc ea && chkE E b sc eb
  | .sl a lo hi, sc, .Subscript ea (.Slice l h none _) _ => chkE E a sc ea && chkO E lo sc l && chkO E hi sc h
  | .rev a, sc, .Subscript ea (.Slice none none (some (.UnaryOp .USub (.Constant (.int 1) _ _) _)) _) _ => chkE E a sc ea
  | .ixs i key b, sc, .Subscript (.Subscript (.Name x _) (.Constant (.str y) _ _) _) eb _ => decide (E.N[i]? = some x) && visB sc x && okX x && y == key && plainB eb && chkQ E b sc eb
  | .nes i key, sc, .Compare (.Subscript (.Name x _) (.Constant (.str y) _ _) _) [.NotEq] [.List [] _] _ => decide (E.N[i]? = some x) && visB sc x && okX x && y == key
  | .lens i key, sc, .Call (.Name f _) [.Subscript (.Name x _) (.Constant (.str y) _ _) _] [] _ => f == ("len" : Str) && globB sc "len" && decide (E.N[i]? = some x) && visB sc x && okX x && y == key
  | .bi f l, sc, .Call (.Name x _) (e :: es) [] _ => x == biName f && globB sc x && chkL E l sc (e :: es)
  | .isi a t, sc, .Call (.Name x _) [e, .Name y _] [] _ => x == ("isinstance" : Str) && globB sc x && y == Str.ofString t && globB sc y && decide (t ∈ ["int", "bool", "str", "list", "tuple", "dict"]) && plainB e && chkE E a sc e
  | .me f o l, sc, .Call (.Attribute eo x apos) (e :: es) [] cpos => x == (meId f).2.2 && baseB eo && (apos.endLine == cpos.line) && decide ((e :: es).length < 30) && chkE E o sc eo && chkL E l sc (e :: es)
  | .mu f i l, sc, .Call (.Attribute (.Name y _) x apos) (e :: es) [] cpos => x == (muId f).2 && (apos.endLine == cpos.line) && decide ((e :: es).length < 30) && decide (E.N[i]? = some y) && visB sc y && okX y && chkL E l sc (e :: es)
  | .call f l kl, sc, .Call (.Name x _) es kws _ => decide (E.G[f]? = (kwNames kws).map fun ks => (x, es.length, ks)) && (kwNames kws).isSome && globB sc x && okX x && chkL E l sc es && chkK E kl sc kws
  | .comp own tg src ifs elt, sc, .ListComp ee [⟨et, ei, eifs, 0⟩] scope _ => blkC E.N sc scope (ownB E.N own) && decide ((ownB E.N own).map (·.2) = own) && chkI E src sc et ei && (tgS tg).all (fun i => decide (i ∈ own)) && plainB ei && chkG E (relS scope sc) scope tg et && chkA1 E ifs (relS scope sc) eifs && chkE E elt (relS scope sc) ee
  | .tupI (.rng l), sc, .Call (.Name x _) [.Call (.Name y _) es [] _] [] _ => x == ("tuple" : Str) && globB sc x && y == ("range" : Str) && globB sc y && decide (es.length = 1 ∨ es.length = 2) && chkL E l sc es
  | .lstI (.rng l), sc, .Call (.Name x _) [.Call (.Name y _) es [] _] [] _ => x == ("list" : Str) && globB sc x && y == ("range" : Str) && globB sc y && decide (es.length = 1 ∨ es.length = 2) && chkL E l sc es
  | _, _, _ => false
def chkL (E : SE) : C → Scope → List Expr → Bool
  | .nil, _, [] => true
  | .cons a as, sc, e :: es => plainB e && chkE E a sc e && chkL E as sc es
  | _, _, _ => false
def chkK (E : SE) : C → Scope → List Keyword → Bool
  | .nil, _, [] => true
  | .cons a as, sc, ⟨some _, e, _⟩ :: es => chkE E a sc e && chkK E as sc es
  | _, _, _ => false
def chkO (E : SE) : C → Scope → Option Expr → Bool
  | .nil, _, none => true
  | .cons a .nil, sc, some e => chkE E a sc e
  | _, _, _ => false
def chkT (E : SE) : C → Scope → Expr → Bool
  | .not t, sc, .UnaryOp .Not e _ => chkT E t sc e
  | .and l, sc, .BoolOp .And vs _ => chkTs E l sc vs && !vs.isEmpty
  | .or l, sc, .BoolOp .Or vs _ => chkTs E l sc vs && !vs.isEmpty
  | .tv (.cmp op a b), sc, .Compare ea [eop] [eb] _ => decide (eop = copOf op) && plainB eb && chkE E a sc ea && chkE E b sc eb
  | .tv (.ch o1 o2 a b c), sc, .Compare ea [e1, e2] [eb, ec] _ => decide (e1 = copOf o1) && decide (e2 = copOf o2) && plainB ec && chkE E a sc ea && chkE E b sc eb && chkE E c sc ec
  | .tv (.nes i key), sc, .Compare (.Subscript (.Name x _) (.Constant (.str y) _ _) _) [.NotEq] [.List [] _] _ => decide (E.N[i]? = some x) && visB sc x && okX x && y == key
  | .tv c, sc, e => valB e && chkE E c sc e
  | _, _, _ => false
def chkTs (E : SE) : C → Scope → List Expr → Bool
  | .nil, _, [] => true
  | .cons a as, sc, e :: es => chkT E a sc e && chkTs E as sc es
  | _, _, _ => false
def chkA1 (E : SE) : C → Scope → List Expr → Bool
  | .nil, _, [] => true
  | .cons a .nil, sc, [e] => chkT E a sc e
  | _, _, _ => false
def chkI (E : SE) : C → Scope → Expr → Expr → Bool
  | .rng l, sc, _, .Call (.Name y _) es [] _ => y == ("range" : Str) && globB sc y && decide (es.length = 1 ∨ es.length = 2) && chkL E l sc es
  | .enum a, sc, et, .Call (.Name y _) [e] [] _ => tupB et && y == ("enumerate" : Str) && globB sc y && plainB e && chkE E a sc e
  | .sv a, sc, _, e => chkE E a sc e
  | _, _, _, _ => false
end
end Q
set_option Elab.async false
set_option linter.all false
set_option maxRecDepth 100000
set_option maxHeartbeats 1000000
/-! LH: the hypotheses of a def's body; calls of defs by their promises. -/
namespace Q
open PySem PySem.Spec PyProof.Rows L2

abbrev SpV := List V → Hp → VK → Prop
/-- a def at f keeps the promise sp, called at a depth k of calls, no repr under way -/
structure FnOkG (P : Program) (w : World) (K : PySem.W.Frag) (mg : Str → Option Value) (base : Heap) (k : Nat) (f : Addr) (fd : FuncData) (ps : List Str) (sp : SpV) : Prop where
  len : ∀ vs H Q, sp vs H Q → vs.length = ps.length
  run : ∀ (A : Around) (outer : List Env) (s : Shared) (H : Hp) (args : Args) (us : List Value) (vs : List V) (Q : VK), Room k A → A.guards = some [] → Env0 P w K mg base A outer s H → BindsTo s fd args (ps.zip us) → Vals vs us → sp vs H Q →
    codeAny (model P w) A (.call (.ref f) args) (CR CX0 outer P w H s Q (fun _ _ _ => False)) s
/-- a promise over data, as one over the heap -/
def liftSp (K : PySem.W.Frag) (n : Nat) (sp : Spec) : SpV := fun vs H Q => ∃ ms F Kc, ms.length = n ∧ RMs K H vs ms F ∧ F.Nodup ∧ sp ms Kc (fun _ _ => False) ∧
  ∀ r os v H' F' Fr, Kc r os → RM K H' v r Fr → RMs K H' vs os F' → (Fr ++ F').Nodup → Keep H H' F → Fresh H F (Fr ++ F') → Q v H'
/-- x, called with n values by place and the names ks, keeps sp -/
structure CallOk (P : Program) (w : World) (K : PySem.W.Frag) (mg : Str → Option Value) (base : Heap) (k : Nat) (x : Str) (n : Nat) (ks : List Str) (sp : Spec) : Prop where
  ex : ∃ (f : Addr) (fd : FuncData) (ps : List Str) (g : List Value → List Value → List Value) (gV : List V → List V → List V) (spV : SpV), mg x = some (.ref f) ∧ PySem.W.keepIn K (.ref f) = true ∧
    FnOkG P w K mg base k f fd ps spV ∧ KBn K fd ps n ks g gV ∧ ∀ vs zs H Q, vs.length = n → zs.length = ks.length → liftSp K (n + ks.length) sp (vs ++ zs) H Q → spV (gV vs zs) H Q

def bltNames : List Str := ["len", "sum", "max", "min", "all", "any", "tuple", "list", "repr", "abs", "int", "str", "bool", "isinstance", "range", "enumerate", "zip", "dict", "set", "sorted", "reversed", "divmod"]
/-- what is known where a code of the text runs -/
structure OkX (E : SE) (Γ : List Spec) (k : Nat) (X : Cx) (sc : Scope) : Prop where
  hN : X.N = E.N
  nd : E.N.Nodup
  calm : X.calm = true
  hsc : X.env.scope = sc
  room : Room k X.A
  gd : X.A.guards = some []
  dig : X.base.NoDigits
  blt : ∀ x ∈ bltNames, X.mg x = none
  con : ∀ p ∈ E.C, ∃ u v, X.mg p.1 = some u ∧ RelV v u ∧ RP X.K (fun _ => none) v p.2
  calls : ∀ (f : Nat) (x : Str) (n : Nat) (ks : List Str), E.G[f]? = some (x, n, ks) → ∃ sp, Γ[f]? = some sp ∧ CallOk X.prog X.w X.K X.mg X.base k x n ks sp

section
variable {E : SE} {Γ : List Spec} {k : Nat} {X : Cx} {sc : Scope}
theorem OkX.gl (o : OkX E Γ k X sc) {x : Str} (h : globB sc x = true) : Gl X x := by
  unfold globB at h
  show X.env.scope.names.lookup x = _
  rw [o.hsc]
  split at h
  · assumption
  · cases h
theorem OkX.vis (o : OkX E Γ k X sc) {x : Str} (h : visB sc x = true) : Vis X.env.scope x := by
  unfold visB at h
  rw [o.hsc]
  split at h
  · exact .inl (by assumption)
  · exact .inr (.inl (by assumption))
  · exact .inr (.inr (by assumption))
  · cases h
theorem OkX.loc (o : OkX E Γ k X sc) {x : Str} (h : locB sc x = true) : Loc X.env.scope x := by
  unfold locB at h
  rw [o.hsc]
  split at h
  · exact .inl (by assumption)
  · exact .inr (by assumption)
  · cases h
theorem OkX.tgt (o : OkX E Γ k X sc) {fs : Scope} (hf : ∀ x, fs.names.lookup x = some .cell → X.fn x = true) {x : Str} (h : tgtB sc fs x = true) : Loc X.env.scope x ∧ (X.fn x = true ∨ X.env.scope.names.lookup x = some .local) := by
  unfold tgtB at h
  split at h
  · rename_i e
    rw [← o.hsc] at e
    exact ⟨.inl e, .inr e⟩
  · rename_i e
    split at h
    · rename_i e2
      rw [← o.hsc] at e
      exact ⟨.inr e, .inl (hf x e2)⟩
    · cases h
  · cases h
theorem OkX.at (o : OkX E Γ k X sc) {i : Nat} {x : Str} (h : decide (E.N[i]? = some x) = true) : X.N[i]? = some x := by rw [o.hN]; exact of_decide_eq_true h
theorem OkX.un (o : OkX E Γ k X sc) : X.A.units + 199 < cLine := by have := o.room.un; omega
theorem okX_1 {x : Str} (h : okX x = true) : (x == ("__debug__" : Str)) = false := by
  unfold okX at h; simp only [Bool.and_eq_true, Bool.not_eq_true'] at h; exact h.1.1
theorem okX_2 {x : Str} (h : okX x = true) : (x == ("__classdict__" : Str)) = false := by
  unfold okX at h; simp only [Bool.and_eq_true, Bool.not_eq_true'] at h; exact h.1.2
theorem okX_3 {x : Str} (h : okX x = true) : x ≠ "__name__" := by
  unfold okX at h; simp only [Bool.and_eq_true, decide_eq_true_eq] at h; exact h.2

/-! ### syntax -/
theorem plain_star {e : Expr} (h : plainB e = true) (es : List Expr) (env : Env) : starEach (e :: es) env = (false, eval e env) :: starEach es env := by
  cases e <;> first | rfl | cases h
theorem plain_ix {e : Expr} (h : plainB e = true) : PlainIx e := by
  intro o i
  cases e <;> first | rfl | cases h
theorem plain_fold {e : Expr} (h : plainB e = true) (env : Env) : ∀ x, foldedSetIterable e env x = pure x := by
  intro x
  cases e <;> first | rfl | cases h
theorem plain_in {e : Expr} (h : plainB e = true) (op : CmpOp) : behindInMarks op e = false := by
  cases e <;> first | rfl | cases h
theorem plain_assign {e : Expr} (h : plainB e = true) (es : List Expr) (env : Env) : assignEach (e :: es) env = (false, assign e env) :: assignEach es env := by
  cases e <;> first | rfl | cases h
def plains (es : List Expr) : Bool := es.all plainB
theorem plains_any {es : List Expr} (h : plains es = true) (env : Env) (pos : Pos) : (backTo pos (starEach es env)).any (·.1) = false := by
  induction es with
  | nil => rfl
  | cons e es ih =>
    unfold plains at h ih
    rw [List.all_cons, Bool.and_eq_true] at h
    rw [plain_star h.1]
    show (false || (backTo pos (starEach es env)).any (·.1)) = false
    rw [ih h.2]; rfl
theorem plains_all {es : List Expr} (h : plains es = true) (env : Env) (pos : Pos) : (backTo pos (starEach es env)).all (fun x => !x.1) = true := by
  induction es with
  | nil => rfl
  | cons e es ih =>
    unfold plains at h ih
    rw [List.all_cons, Bool.and_eq_true] at h
    rw [plain_star h.1]
    show (!false && (backTo pos (starEach es env)).all (fun x => !x.1)) = true
    rw [ih h.2]; rfl
theorem kw_all : ∀ {kws : List Keyword} {ks : List Str}, kwNames kws = some ks → ∀ (env : Env) (pos : Pos), (backToKw pos (keywordEach kws env)).all (·.1.isSome) = true ∧
    (backToKw pos (keywordEach kws env)).filterMap (·.1) = ks ∧ (backToKw pos (keywordEach kws env)).any (·.1.isNone) = false
  | [], _, h, env, pos => by
    simp only [kwNames, Option.some.injEq] at h; subst h; exact ⟨rfl, rfl, rfl⟩
  | ⟨some x, e, p⟩ :: r, _, h, env, pos => by
    simp only [kwNames, Option.map_eq_some_iff] at h
    obtain ⟨ks, h1, rfl⟩ := h
    obtain ⟨a, b, c⟩ := kw_all h1 env pos
    refine ⟨?_, ?_, ?_⟩
    · show (true && _) = true
      rw [Bool.true_and]; exact a
    · show x :: _ = x :: ks
      rw [← b]; rfl
    · show (false || _) = false
      rw [Bool.false_or]; exact c
  | ⟨none, e, p⟩ :: r, _, h, env, pos => by simp [kwNames] at h
theorem kw_len : ∀ {kws : List Keyword} {ks : List Str}, kwNames kws = some ks → kws.length = ks.length
  | [], _, h => by simp only [kwNames, Option.some.injEq] at h; subst h; rfl
  | ⟨some x, e, p⟩ :: r, _, h => by
    simp only [kwNames, Option.map_eq_some_iff] at h
    obtain ⟨ks, h1, rfl⟩ := h
    exact congrArg (· + 1) (kw_len h1)
  | ⟨none, e, p⟩ :: r, _, h => by simp [kwNames] at h

/-! ### a call -/
theorem runG {P : Program} {n : Nat} {f : Addr} {fd : FuncData} {ps ks : List Str} {sp : SpV} {g : List Value → List Value → List Value} {gV : List V → List V → List V} {pins : List (Addr × Obj)} {σ : L2.St} {H : Hp} {s : Shared} {Q : VK} {us ws : List Value} {vs zs : List V}
    (F : FnOkG X.prog X.w X.K X.mg X.base k f fd ps sp) (hr : Room k X.A) (hg : X.A.guards = some []) (hb : KBn X.K fd ps n ks g gV)
    (I : Inv X pins σ H s) (r : Vals vs us) (rz : Vals zs ws) (l1 : vs.length = n) (l2 : zs.length = ks.length) (h : sp (gV vs zs) H Q) : wpAny (model X.prog X.w) X.A (call (.ref f) us (ks.zip ws)) (EP X pins σ Q) X.xe s := by
  have r2 := hb.rel r rz
  refine wpAny_call (codeAny_mono (F.run X.A X.stack s H ⟨us, ks.zip ws⟩ (g us ws) (gV vs zs) Q hr hg I.env0 (hb.to s us ws I.kIn (r.length.symm.trans l1) (rz.length.symm.trans l2)) r2 h) fun r s' hq => ?_)
  cases r with
  | error e => exact False.elim hq
  | ok fl =>
    cases fl with
    | ret u => exact I.after hq
    | next => exact False.elim hq
    | brk => exact False.elim hq
    | cont => exact False.elim hq
def tCl (n m : Nat) (sp : SpV) (gV : List V → List V → List V) (t tk : TA) : TE := fun σ H Q => t σ H fun vs H1 => tk σ H1 fun zs H2 => vs.length = n ∧ zs.length = m ∧ sp (gV vs zs) H2 Q
theorem pe_cl {n : Nat} {f : Addr} {fd : FuncData} {ps ks : List Str} {sp : SpV} {g : List Value → List Value → List Value} {gV : List V → List V → List V} {x : Str} {p pos : Pos} {e : Expr} {es : List Expr} {kws : List Keyword} {t tk : TA}
    (F : FnOkG X.prog X.w X.K X.mg X.base k f fd ps sp) (hr : Room k X.A) (hgd : X.A.guards = some []) (hg : Gl X x) (hm : X.mg x = some (.ref f)) (hk : PySem.W.keepIn X.K (.ref f) = true) (hb : KBn X.K fd ps n ks g gV)
    (ha : PA X (e :: es) t) (hkw : PK X kws tk) (hks : kwNames kws = some ks) (hpl : plains (e :: es) = true) (hdb : (x == ("__debug__" : Str)) = false) :
    PE X (.Call (.Name x p) (e :: es) kws pos) (tCl n ks.length sp gV t tk) := by
  obtain ⟨k1, k2, k3⟩ := kw_all hks X.env pos
  refine ⟨fun pins s σ H Q I h => ?_⟩
  refine wpAny_Call_Name_kw (ld_glob I hg hm ?_ hdb)
  unfold plains at hpl
  rw [List.all_cons, Bool.and_eq_true] at hpl
  refine PySem.W.callWith_KW (h₀ := X.base) I.ok.mod.kin hk k1 (thn (ha.run pos pins s σ H _ I h) fun us s1 ⟨vs, H1, I1, r, q⟩ => ?_) (by
    rw [k3, plain_star hpl.1]
    show ((false || (backTo pos (starEach es X.env)).any (·.1)) || false) = false
    rw [plains_any hpl.2]; rfl) (plain_star hpl.1 _ _)
  refine thn (hkw.run pos pins s1 σ H1 _ I1 q) fun ws s2 ⟨zs, H2, I2, rz, l1, l2, q2⟩ => ⟨I2.kIn, ?_⟩
  rw [k2]
  exact runG (P := X.prog) F hr hgd hb I2 r rz l1 l2 q2
theorem pe_cl0 {n : Nat} {f : Addr} {fd : FuncData} {ps ks : List Str} {sp : SpV} {g : List Value → List Value → List Value} {gV : List V → List V → List V} {x : Str} {p pos : Pos} {kws : List Keyword} {tk : TA}
    (F : FnOkG X.prog X.w X.K X.mg X.base k f fd ps sp) (hr : Room k X.A) (hgd : X.A.guards = some []) (hg : Gl X x) (hm : X.mg x = some (.ref f)) (hk : PySem.W.keepIn X.K (.ref f) = true) (hb : KBn X.K fd ps n ks g gV)
    (hkw : PK X kws tk) (hks : kwNames kws = some ks) (hdb : (x == ("__debug__" : Str)) = false) :
    PE X (.Call (.Name x p) [] kws pos) (tCl n ks.length sp gV tNil tk) := by
  obtain ⟨k1, k2, k3⟩ := kw_all hks X.env pos
  refine ⟨fun pins s σ H Q I h => ?_⟩
  refine wpAny_Call_Name_kw (ld_glob I hg hm ?_ hdb)
  refine PySem.W.callWith_KW0 (h₀ := X.base) I.ok.mod.kin hk k1 ?_ (by rw [k3]; rfl)
  refine thn (hkw.run pos pins s σ H _ I h) fun ws s2 ⟨zs, H2, I2, rz, l1, l2, q2⟩ => ⟨I2.kIn, ?_⟩
  rw [k2]
  exact runG (P := X.prog) F hr hgd hb I2 .nil rz l1 l2 q2
end
end Q
set_option Elab.async false
set_option linter.all false
set_option maxRecDepth 100000
set_option maxHeartbeats 1000000
/-! LI: each kind of expression does what its code is worth. -/
namespace Q
open PySem PySem.Spec PyProof.Rows L2

abbrev pv (d : PyData) : Val := .own (.p d)
section
variable (K : PySem.W.Frag)
def tF (W : De → (List PyData → De → Prop) → Prop) : TA := fun σ H Q => ∃ δ F Kc, RS K H σ δ F ∧ F.Nodup ∧ W δ Kc ∧
  ∀ ds δ' vs H' F', Kc ds δ' → Rx K σ H F H' δ' vs (ds.map pv) F' [] → Q vs H'
def tD (W : De → (List M → De → Prop) → Prop) : TA := fun σ H Q => ∃ δ F Kc, RS K H σ δ F ∧ F.Nodup ∧ W δ Kc ∧
  ∀ ms δ' vs H' F' Fv, Kc ms δ' → Rx K σ H F H' δ' vs (ms.map Val.own) F' Fv → Q vs H'
end
section
variable {K : PySem.W.Frag} {H H1 H' : Hp} {σ : L2.St} {F F1 Fv : List Addr} {δ δ1 : De} {vs : List V}
theorem RVs.pures : ∀ {vs : List V} {ds : List PyData} {Fv : List Addr}, RVs K H σ vs (ds.map pv) Fv → RPs K H vs ds
  | _, [], _, h => by cases h; exact .nil
  | _, d :: ds, _, h => by
    cases h with
    | cons a b =>
      cases (show RM K H _ (.p d) _ from a) with
      | p r => exact .cons r (RVs.pures b)
theorem RVs.mine : ∀ {vs : List V} {ms : List M} {Fv : List Addr}, RVs K H σ vs (ms.map Val.own) Fv → RMs K H vs ms Fv
  | _, [], _, h => by cases h; exact .nil
  | _, m :: ms, _, h => by
    cases h with
    | cons a b => exact .cons a (RVs.mine b)
/-- values looked at -/
theorem RVs.peeks : ∀ {vs : List V} {xs : List Val} {Fv : List Addr} {ms : List M}, RVs K H σ vs xs Fv → RS K H σ δ F → peeks δ xs = some ms → ∃ G, RMs K H vs ms G
  | _, _, _, _, .nil, _, e => by simp only [Q.peeks, Option.some.injEq] at e; subst e; exact ⟨_, .nil⟩
  | _, _, _, _, .cons (x := x) a b, st, e => by
    simp only [Q.peeks] at e
    split at e
    · rename_i m ms' e1 e2
      cases e
      obtain ⟨Fm, rm, _⟩ := a.peek st e1
      obtain ⟨G, rms⟩ := b.peeks st e2
      exact ⟨_, .cons rm rms⟩
    · cases e
theorem peeks_two {x y : Val} {m n : M} (h1 : peek δ x = some m) (h2 : peek δ y = some n) : Q.peeks δ [x, y] = some [m, n] := by simp [Q.peeks, h1, h2]
theorem peeks_cons {x : Val} {xs : List Val} {m : M} {ms : List M} (h1 : peek δ x = some m) (h2 : Q.peeks δ xs = some ms) : Q.peeks δ (x :: xs) = some (m :: ms) := by simp [Q.peeks, h1, h2]
theorem peeks_one {x : Val} {m : M} (h1 : peek δ x = some m) : Q.peeks δ [x] = some [m] := by simp [Q.peeks, h1]
theorem mov_ok {v : V} {x : Val} {P : M → De → Prop} {Q : V → Hp → Prop} (r : Rx K σ H F H1 δ1 [v] [x] F1 Fv) (hf : mov x δ1 P)
    (hq : ∀ m δ' H' F' Fm, P m δ' → Rx K σ H F H' δ' [v] [.own m] F' Fm → Q v H') :
    Q v H1 ∨ ∃ a u, v = .ref a ∧ H1 a = some u ∧ Mut (some u) ∧ ∀ od, Q v (upd H1 a (.frz od u)) := by
  cases x with
  | own m => exact .inl (hq m δ1 H1 F1 Fv hf r)
  | «at» i =>
    have hf' : frz (.at i) δ1 fun d δ' => P (.p d) δ' := hf
    exact frz_ok r hf' fun d δ' H' F' p rp rx => hq (.p d) δ' H' F' [] p rx
end

section
variable {E : SE} {Γ : List Spec} {k : Nat} {X : Cx} {sc : Scope} {pos p2 p3 : Pos}
theorem s_v (o : OkX E Γ k X sc) {i : Nat} {x : Str} (h1 : decide (E.N[i]? = some x) = true) (h2 : visB sc x = true) (h3 : okX x = true) : PE X (.Name x pos) (tE X.K (wpE Γ XF (.v i))) := by
  refine PE.wk (pe_var (i := i) (o.at h1) (o.vis h2) (okX_1 h3) (okX_2 h3)) fun σ H Q ⟨δ, F, Kc, st, nd, hw, hq⟩ => ?_
  rw [wpE] at hw
  cases e : (δ[i]?).getD none with
  | none => rw [e] at hw; exact hw.elim
  | some m =>
    rw [e] at hw
    obtain ⟨v, Fm, e1, rm, _⟩ := st.get e
    refine ⟨v, e1, ?_⟩
    cases m with
    | p d => cases rm with | p rp => exact hq _ _ _ _ _ _ hw ((Rx.start st nd).pure rp)
    | l ds => exact hq _ _ _ _ _ _ hw ⟨st, .one ⟨e1, rfl⟩, by simpa using nd, Keep.refl _ _, fun a ha => .inl (by simpa using ha)⟩
    | dc ms => exact hq _ _ _ _ _ _ hw ⟨st, .one ⟨e1, rfl⟩, by simpa using nd, Keep.refl _ _, fun a ha => .inl (by simpa using ha)⟩
theorem s_k {c : Const} {d : PyData} {j : Nat} (h : constB c d = true) : PE X (.Constant c j pos) (tE X.K (wpE Γ XF (.k d))) := by
  have fin : ∀ {v : V}, PE X (.Constant c j pos) (tC v) → (∀ H, RP X.K H v d) → PE X (.Constant c j pos) (tE X.K (wpE Γ XF (.k d))) := fun {v} p r =>
    PE.wk p fun σ H Q ⟨δ, F, Kc, st, nd, hw, hq⟩ => by
      rw [wpE] at hw
      exact hq _ _ _ _ _ _ hw ((Rx.start st nd).pure (r H))
  unfold constB at h
  split at h
  · exact fin pe_non fun _ => .non
  · rw [beq_iff_eq] at h; subst h; exact fin pe_bl fun _ => .bl _
  · rw [beq_iff_eq] at h; subst h; exact fin pe_int fun _ => .int _
  · rw [beq_iff_eq] at h; subst h; exact fin pe_str fun _ => .str _
  · cases h
theorem RP.scalar {K : PySem.W.Frag} {H H' : Hp} {v : V} {d e : PyData} (h : RP K H v d) (s : scB d e = true) : RP K H' v e := by
  unfold scB at s
  split at s
  · cases h; exact .non
  · rw [beq_iff_eq] at s; subst s; cases h; exact .bl _
  · rw [beq_iff_eq] at s; subst s; cases h; exact .int _
  · rw [beq_iff_eq] at s; subst s; cases h; exact .str _
  · cases s
theorem s_gk (o : OkX E Γ k X sc) {x y : Str} {d : PyData} (h : (x == y && globB sc x && okX x && E.C.any fun p => p.1 == x && scB p.2 d) = true) : PE X (.Name x pos) (tE X.K (wpE Γ XF (.gk y d))) := by
  simp only [Bool.and_eq_true, List.any_eq_true, beq_iff_eq] at h
  obtain ⟨⟨⟨h0, h1⟩, h2⟩, p, hp, e, hs⟩ := h
  obtain ⟨u, v, m, r, rp⟩ := o.con p hp
  rw [e] at m
  refine PE.wk (pe_glob (o.gl h1) m r (okX_1 h2)) fun σ H Q ⟨δ, F, Kc, st, nd, hw, hq⟩ => ?_
  rw [wpE] at hw
  exact hq _ _ _ _ _ _ hw ((Rx.start st nd).pure (rp.scalar hs))

/-! ### lists of codes -/
theorem s_Vnil : PA X [] (tV X.K 0 (wpV Γ XF .nil)) := PA.wk pa_nil fun σ H Q ⟨δ, F, Kc, st, nd, hw, hq⟩ => by
  rw [wpV] at hw
  exact hq _ _ _ _ _ _ hw rfl (Rx.start st nd)
theorem s_Vcons {e : Expr} {es : List Expr} {a as : C} (pl : plainB e = true) (ha : PE X e (tE X.K (wpE Γ XF a))) {n : Nat} (hs : PA X es (tV X.K n (wpV Γ XF as))) : PA X (e :: es) (tV X.K (n + 1) (wpV Γ XF (.cons a as))) :=
  PA.wk (pa_cons ha hs (plain_star pl _ _)) fun σ H Q ⟨δ, F, Kc, st, nd, hw, hq⟩ => by
    rw [wpV] at hw
    exact ⟨δ, F, _, st, nd, hw, fun x δ1 v H1 F1 Fv k1 r1 => ⟨δ1, F1, _, r1.st, nd_right r1.nd, k1, fun xs δ2 vs H2 F2 Fw k2 l2 r2 => hq _ _ _ _ _ _ k2 (congrArg (· + 1) l2) (r1.step r2)⟩⟩
theorem s_Knil : PK X [] (tV X.K 0 (wpV Γ XF .nil)) := ⟨fun ps pins s σ H Q I ⟨δ, F, Kc, st, nd, hw, hq⟩ => by
  rw [wpV] at hw
  exact pk_nil.run ps pins s σ H Q I (hq _ _ _ _ _ _ hw rfl (Rx.start st nd))⟩
theorem s_Kcons {nm : Option Str} {e : Expr} {es : List Keyword} {a as : C} (ha : PE X e (tE X.K (wpE Γ XF a))) {n : Nat} (hs : PK X es (tV X.K n (wpV Γ XF as))) : PK X (⟨nm, e, pos⟩ :: es) (tV X.K (n + 1) (wpV Γ XF (.cons a as))) :=
  ⟨fun ps pins s σ H Q I ⟨δ, F, Kc, st, nd, hw, hq⟩ => by
    rw [wpV] at hw
    exact (pk_cons ha hs).run ps pins s σ H Q I ⟨δ, F, _, st, nd, hw, fun x δ1 v H1 F1 Fv k1 r1 => ⟨δ1, F1, _, r1.st, nd_right r1.nd, k1, fun xs δ2 vs H2 F2 Fw k2 l2 r2 => hq _ _ _ _ _ _ k2 (congrArg (· + 1) l2) (r1.step r2)⟩⟩⟩
theorem s_Fnil : PA X [] (tF X.K (wpF Γ XF .nil)) := PA.wk pa_nil fun σ H Q ⟨δ, F, Kc, st, nd, hw, hq⟩ => by
  rw [wpF] at hw
  exact hq _ _ _ _ _ hw (Rx.start st nd)
theorem s_Fcons {e : Expr} {es : List Expr} {a as : C} (pl : plainB e = true) (ha : PE X e (tE X.K (wpE Γ XF a))) (hs : PA X es (tF X.K (wpF Γ XF as))) : PA X (e :: es) (tF X.K (wpF Γ XF (.cons a as))) :=
  PA.wk (pa_cons (pe_ghost ha) hs (plain_star pl _ _)) fun σ H Q ⟨δ, F, Kc, st, nd, hw, hq⟩ => by
    rw [wpF] at hw
    exact ⟨δ, F, _, st, nd, hw, fun x δ1 v H1 F1 Fv k1 r1 => frz_ok (Q := fun x H1 => tF X.K (wpF Γ XF as) σ H1 fun xs H2 => Q (x :: xs) H2) r1 k1 fun d δ' H' F' p rp rx => ⟨δ', F', _, rx.st, nd_right rx.nd, p, fun ds δ2 vs H2 F2 k2 r2 => hq _ _ _ _ _ k2 (rx.step r2)⟩⟩
/-- one code of a list, kept -/
theorem s_F1 {e : Expr} {a : C} (ha : PE X e (tE X.K (wpE Γ XF a))) : PE X e (fun σ H Q => ∃ δ F Kc, RS X.K H σ δ F ∧ F.Nodup ∧ wpF Γ XF (.cons a .nil) δ Kc ∧
    ∀ d δ' v H' F', Kc [d] δ' → RP X.K H' v d → Rx X.K σ H F H' δ' [v] [pv d] F' [] → Q v H') :=
  PE.wk (pe_ghost ha) fun σ H Q ⟨δ, F, Kc, st, nd, hw, hq⟩ => by
    rw [wpF] at hw
    refine ⟨δ, F, _, st, nd, hw, fun x δ1 v H1 F1 Fv k1 r1 => frz_ok r1 k1 fun d δ' H' F' p rp rx => ?_⟩
    rw [wpF] at p
    exact hq _ _ _ _ _ p rp rx
theorem s_tup {es : List Expr} {l : C} {j : Nat} (h : PA X es (tF X.K (wpF Γ XF l))) : PE X (.Tuple es j pos) (tE X.K (wpE Γ XF (.tup l))) :=
  PE.wk (pe_tup h) fun σ H Q ⟨δ, F, Kc, st, nd, hw, hq⟩ => by
    rw [wpE] at hw
    refine ⟨δ, F, _, st, nd, hw, fun ds δ' vs H' F' kc rx => ?_⟩
    have rp := rx.vl.pures
    exact ⟨by rw [rp.length]; exact kc.1, fun p hp => hq _ _ _ _ _ _ kc.2 (rx.newT hp rp)⟩
theorem s_lst {es : List Expr} {l : C} (h : PA X es (tF X.K (wpF Γ XF l))) : PE X (.List es pos) (tE X.K (wpE Γ XF (.lst l))) :=
  PE.wk (pe_lst h) fun σ H Q ⟨δ, F, Kc, st, nd, hw, hq⟩ => by
    rw [wpE] at hw
    refine ⟨δ, F, _, st, nd, hw, fun ds δ' vs H' F' kc rx => ?_⟩
    have rp := rx.vl.pures
    exact ⟨by rw [rp.length]; exact kc.1, fun p hp => hq _ _ _ _ _ _ kc.2 (rx.newL hp rp)⟩

/-! ### operators -/
theorem s_bin {ea eb : Expr} {a b : C} (op : BOp) (ha : PE X ea (tE X.K (wpE Γ XF a))) (hb : PE X eb (tE X.K (wpE Γ XF b))) : PE X (.BinOp ea (bopOf op) eb pos) (tE X.K (wpE Γ XF (.bin op a b))) :=
  PE.wk (pe_op (op_bin op) ha hb) fun σ H Q ⟨δ, F, Kc, st, nd, hw, hq⟩ => by
    rw [wpE] at hw
    refine ⟨δ, F, _, st, nd, hw, fun x δ1 v H1 F1 Fv k1 r1 => ⟨δ1, F1, _, r1.st, nd_right r1.nd, k1, fun y δ2 u H2 F2 Fu k2 r2 => ?_⟩⟩
    obtain ⟨m, n, e1, e2, hb⟩ := k2
    have r := r1.step r2
    obtain ⟨G, rs⟩ := r.vl.peeks (ms := [m, n]) r.st (peeks_two e1 e2)
    obtain ⟨v', w', G1, G2, e3, rm, rn⟩ := rs.two
    cases e3
    refine ⟨m, n, G1, G2, _, rm, rn, hb, fun z v' H' kz mk => ?_⟩
    obtain ⟨Fm, rx⟩ := r.made mk
    exact hq _ _ _ _ _ _ kz rx
theorem s_neg {ea : Expr} {a : C} (ha : PE X ea (tE X.K (wpE Γ XF a))) : PE X (.UnaryOp .USub ea pos) (tE X.K (wpE Γ XF (.neg a))) :=
  PE.wk (pe_un un_neg ha) fun σ H Q ⟨δ, F, Kc, st, nd, hw, hq⟩ => by
    rw [wpE] at hw
    refine ⟨δ, F, _, st, nd, hw, fun x δ1 v H1 F1 Fv k1 r1 => ?_⟩
    obtain ⟨i, e, kc⟩ := k1
    obtain ⟨G, rm, _⟩ := r1.vl.one'.peek r1.st e
    have ev := rm.pI
    exact ⟨i, ev, hq _ _ _ _ _ _ kc (r1.pure (.int _))⟩
theorem cmp_go {op : COp} {H : Hp} {σ : L2.St} {F : List Addr} {H2 : Hp} {δ2 : De} {F2 Fw : List Addr} {v u : V} {x y : Val} {Kb : Bool → Prop} {Q : VK} (r : Rx X.K σ H F H2 δ2 [v, u] [x, y] F2 Fw)
    (h : ∃ m n, peek δ2 x = some m ∧ peek δ2 y = some n ∧ cmpM op m n Kb) (hq : ∀ b, Kb b → Q (.bl b) H2) : rOpB X.K (cmpM op) v u H2 Q := by
  obtain ⟨m, n, e1, e2, hb⟩ := h
  obtain ⟨G, rs⟩ := r.vl.peeks (ms := [m, n]) r.st (peeks_two e1 e2)
  obtain ⟨v', w', G1, G2, e3, rm, rn⟩ := rs.two
  cases e3
  exact ⟨m, n, G1, G2, _, rm, rn, hb, hq⟩
theorem OkX.u65 (o : OkX E Γ k X sc) : X.A.units + 65 < cLine := by have := o.un; omega
theorem s_cmp (o : OkX E Γ k X sc) {ea eb : Expr} {a b : C} (op : COp) (pl : plainB eb = true) (ha : PE X ea (tE X.K (wpE Γ XF a))) (hb : PE X eb (tE X.K (wpE Γ XF b))) : PE X (.Compare ea [copOf op] [eb] pos) (tE X.K (wpE Γ XF (.cmp op a b))) :=
  PE.wk (pe_cmpR (op_cmp o.u65 op) ha hb (plain_in pl _)) fun σ H Q ⟨δ, F, Kc, st, nd, hw, hq⟩ => by
    rw [wpE] at hw
    refine ⟨δ, F, _, st, nd, hw, fun x δ1 v H1 F1 Fv k1 r1 => ⟨δ1, F1, _, r1.st, nd_right r1.nd, k1, fun y δ2 u H2 F2 Fu k2 r2 => ?_⟩⟩
    exact cmp_go (r1.step r2) k2 fun b kb => hq _ _ _ _ _ _ kb ((r1.step r2).pure (.bl _))
theorem s_cmpT (o : OkX E Γ k X sc) {ea eb : Expr} {a b : C} (op : COp) (pl : plainB eb = true) (ha : PE X ea (tE X.K (wpE Γ XF a))) (hb : PE X eb (tE X.K (wpE Γ XF b))) : PT X (.Compare ea [copOf op] [eb] pos) (tT X.K (wpT Γ XF (.tv (.cmp op a b)))) :=
  PT.wk (pt_cmpR (op_cmp o.u65 op) ha hb (plain_in pl _)) fun σ H Q ⟨δ, F, Kc, st, nd, hw, hq⟩ => by
    rw [wpT, wpE] at hw
    refine ⟨δ, F, _, st, nd, hw, fun x δ1 v H1 F1 Fv k1 r1 => ⟨δ1, F1, _, r1.st, nd_right r1.nd, k1, fun y δ2 u H2 F2 Fu k2 r2 => ?_⟩⟩
    refine cmp_go (r1.step r2) k2 fun b kb => ?_
    obtain ⟨m, e, kb⟩ := kb
    cases e
    exact ⟨b, rfl, hq _ _ _ _ kb (r1.step r2).drop⟩

theorem s_ch (o : OkX E Γ k X sc) {ea eb ec : Expr} {a b c : C} (o1 o2 : COp) (pl : plainB ec = true) (ha : PE X ea (tE X.K (wpE Γ XF a))) (hb : PE X eb (tE X.K (wpE Γ XF b))) (hc : PE X ec (tE X.K (wpE Γ XF c))) :
    PE X (.Compare ea [copOf o1, copOf o2] [eb, ec] pos) (tE X.K (wpE Γ XF (.ch o1 o2 a b c))) :=
  PE.wk (pe_chain (op_cmp o.u65 o1) (op_cmp o.u65 o2) ha hb hc (plain_in pl _)) fun σ H Q ⟨δ, F, Kc, st, nd, hw, hq⟩ => by
    rw [wpE] at hw
    refine ⟨δ, F, _, st, nd, hw, fun x δ1 v H1 F1 Fv k1 r1 => ⟨δ1, F1, _, r1.st, nd_right r1.nd, k1, fun y δ2 u H2 F2 Fu k2 r2 => ?_⟩⟩
    refine cmp_go (r1.step r2) k2 fun r kb => ⟨r, rfl, ?_⟩
    cases r with
    | false => exact hq _ _ _ _ _ _ kb ((r1.step r2).pure (.bl _))
    | true =>
      have kb' : wpE Γ XF c δ2 fun z δ3 => ∃ n' q, peek δ3 y = some n' ∧ peek δ3 z = some q ∧ cmpM o2 n' q fun r => Kc (.own (.p (.bool r))) δ3 := kb
      refine ⟨δ2, F2, _, r2.st, nd_right r2.nd, kb', fun z δ3 w H3 F3 Fz k3 r3 => ?_⟩
      have rr := r2.step r3
      exact cmp_go rr k3 fun b kb => hq _ _ _ _ _ _ kb (((r1.step r2).step r3).pure (.bl _))
theorem s_chT (o : OkX E Γ k X sc) {ea eb ec : Expr} {a b c : C} (o1 o2 : COp) (pl : plainB ec = true) (ha : PE X ea (tE X.K (wpE Γ XF a))) (hb : PE X eb (tE X.K (wpE Γ XF b))) (hc : PE X ec (tE X.K (wpE Γ XF c))) :
    PT X (.Compare ea [copOf o1, copOf o2] [eb, ec] pos) (tT X.K (wpT Γ XF (.tv (.ch o1 o2 a b c)))) :=
  PT.wk (pt_chain (op_cmp o.u65 o1) (op_cmp o.u65 o2) ha hb hc (plain_in pl _)) fun σ H Q ⟨δ, F, Kc, st, nd, hw, hq⟩ => by
    rw [wpT, wpE] at hw
    refine ⟨δ, F, _, st, nd, hw, fun x δ1 v H1 F1 Fv k1 r1 => ⟨δ1, F1, _, r1.st, nd_right r1.nd, k1, fun y δ2 u H2 F2 Fu k2 r2 => ?_⟩⟩
    refine cmp_go (r1.step r2) k2 fun r kb => ⟨r, rfl, ?_⟩
    cases r with
    | false =>
      have kb' : ∃ m, peek δ2 (.own (.p (.bool false))) = some m ∧ truM m fun b => Kc b δ2 := kb
      obtain ⟨m, e, kb'⟩ := kb'
      cases e
      exact ⟨false, rfl, hq _ _ _ _ kb' (r1.step r2).drop⟩
    | true =>
      have kb' : wpE Γ XF c δ2 fun z δ3 => ∃ n' q, peek δ3 y = some n' ∧ peek δ3 z = some q ∧ cmpM o2 n' q fun r => ∃ m, peek δ3 (.own (.p (.bool r))) = some m ∧ truM m fun b => Kc b δ3 := kb
      refine ⟨δ2, F2, _, r2.st, nd_right r2.nd, kb', fun z δ3 w H3 F3 Fz k3 r3 => ?_⟩
      refine cmp_go (r2.step r3) k3 fun b kb => ?_
      obtain ⟨m, e, kb⟩ := kb
      cases e
      exact ⟨b, rfl, hq _ _ _ _ kb ((r1.step r2).step r3).drop⟩
theorem s_ite {et ea eb : Expr} {t a b : C} (ht : PT X et (tT X.K (wpT Γ XF t))) (ha : PE X ea (tE X.K (wpE Γ XF a))) (hb : PE X eb (tE X.K (wpE Γ XF b))) : PE X (.IfExp et ea eb pos) (tE X.K (wpE Γ XF (.ite t a b))) :=
  PE.wk (pe_ifExp ht ha hb) fun σ H Q ⟨δ, F, Kc, st, nd, hw, hq⟩ => by
    rw [wpE] at hw
    refine ⟨δ, F, _, st, nd, hw, fun r δ1 H1 F1 k1 r1 => ?_⟩
    cases r with
    | true => exact ⟨δ1, F1, Kc, r1.st, nd_right r1.nd, k1, fun x δ2 v H2 F2 Fv k2 r2 => hq _ _ _ _ _ _ k2 (r1.step r2)⟩
    | false => exact ⟨δ1, F1, Kc, r1.st, nd_right r1.nd, k1, fun x δ2 v H2 F2 Fv k2 r2 => hq _ _ _ _ _ _ k2 (r1.step r2)⟩
theorem s_not {e : Expr} {t : C} (ht : PE X e (tE X.K (wpE Γ XF t))) : PE X (.UnaryOp .Not e pos) (tE X.K (wpE Γ XF (.not t))) := by
  refine ⟨fun pins s σ H Q I ⟨δ, F, Kc, st, nd, hw, hq⟩ => ?_⟩
  rw [wpE] at hw
  refine UnaryOp_ (thn (ht.run pins s σ H (fun v H1 => ∃ b, TruV X.K v H1 b ∧ Q (.bl (!b)) H1) I ⟨δ, F, _, st, nd, hw, fun x δ1 v H1 F1 Fv k1 r1 => ?_⟩) fun u s1 ⟨v, H1, I1, rv, b, tb, q⟩ => ?_)
  · obtain ⟨m, e, hm⟩ := k1
    obtain ⟨G, rm, _⟩ := r1.vl.one'.peek r1.st e
    obtain ⟨b, tb, kb⟩ := tru_M rm hm
    exact ⟨b, tb, hq _ _ _ _ _ _ kb (r1.pure (.bl _))⟩
  · exact PyProof.Rows.not_of (thn (tru_ok pins s1 σ H1 v u (fun c H2 => c = b ∧ H2 = H1) I1 rv ⟨b, tb, rfl, rfl⟩) fun c s2 ⟨H2, I2, e1, e2⟩ => by
      subst e1 e2
      exact ⟨.bl (!c), H2, I2, rfl, q⟩)

/-! ### items, slices -/
theorem s_ix (o : OkX E Γ k X sc) {ea eb : Expr} {a b : C} (pl : plainB eb = true) (ha : PE X ea (tE X.K (wpE Γ XF a))) (hb : PE X eb (tE X.K (wpE Γ XF b))) : PE X (.Subscript ea eb pos) (tE X.K (wpE Γ XF (.ix a b))) :=
  PE.wk (pe_ix (ix_M (by have := o.un; omega)) ha hb (plain_ix pl)) fun σ H Q ⟨δ, F, Kc, st, nd, hw, hq⟩ => by
    rw [wpE] at hw
    refine ⟨δ, F, _, st, nd, hw, fun x δ1 v H1 F1 Fv k1 r1 => ⟨δ1, F1, _, r1.st, nd_right r1.nd, k1, fun y δ2 u H2 F2 Fu k2 r2 => ?_⟩⟩
    obtain ⟨m, d, e1, rfl, hi⟩ := k2
    have r := r1.step r2
    obtain ⟨G, rs⟩ := r.vl.peeks (ms := [m, .p d]) r.st (peeks_two e1 rfl)
    obtain ⟨v', w', G1, G2, e3, rm, rn⟩ := rs.two
    cases e3
    cases rn with
    | p rp => exact ⟨m, d, _, _, rm, rp, hi, fun z v' kz rz => hq _ _ _ _ _ _ kz (r.pure rz)⟩
theorem s_O {eo : Option Expr} {a : C} (h : (a = .nil ∧ eo = none) ∨ ∃ e c, a = .cons c .nil ∧ eo = some e ∧ PE X e (tE X.K (wpE Γ XF c))) :
    PO X eo (fun σ H Q => ∃ δ F Kc, RS X.K H σ δ F ∧ F.Nodup ∧ wpF Γ XF a δ Kc ∧ ∀ ds δ' H' F', Kc ds δ' → Rx X.K σ H F H' δ' [] [] F' [] → ∃ l, optI ds = some l ∧ Q l H') := by
  rcases h with ⟨rfl, rfl⟩ | ⟨e, c, rfl, rfl, p⟩
  · refine ⟨fun pins s σ H Q I ⟨δ, F, Kc, st, nd, hw, hq⟩ => po_none.run pins s σ H Q I ?_⟩
    rw [wpF] at hw
    obtain ⟨l, e1, q⟩ := hq _ _ _ _ hw (Rx.start st nd)
    simp only [optI, Option.some.injEq] at e1
    subst e1
    exact q
  · refine ⟨fun pins s σ H Q I ⟨δ, F, Kc, st, nd, hw, hq⟩ => (po_some (s_F1 p)).run pins s σ H Q I ?_⟩
    refine ⟨δ, F, Kc, st, nd, hw, fun d δ' v H' F' kc rp rx => ?_⟩
    obtain ⟨l, e1, q⟩ := hq _ _ _ _ kc rx.drop
    cases rp with
    | int i =>
      simp only [optI, Option.some.injEq] at e1
      subst e1
      exact ⟨i, rfl, q⟩
    | _ => simp [optI] at e1
theorem s_sl {ea : Expr} {el eh : Option Expr} {a lo hi : C} (ha : PE X ea (tE X.K (wpE Γ XF a)))
    (hl : (lo = .nil ∧ el = none) ∨ ∃ e c, lo = .cons c .nil ∧ el = some e ∧ PE X e (tE X.K (wpE Γ XF c))) (hh : (hi = .nil ∧ eh = none) ∨ ∃ e c, hi = .cons c .nil ∧ eh = some e ∧ PE X e (tE X.K (wpE Γ XF c))) :
    PE X (.Subscript ea (.Slice el eh none p2) pos) (tE X.K (wpE Γ XF (.sl a lo hi))) :=
  PE.wk (pe_slice sl_M ha (s_O hl) (s_O hh)) fun σ H Q ⟨δ, F, Kc, st, nd, hw, hq⟩ => by
    rw [wpE] at hw
    refine ⟨δ, F, _, st, nd, hw, fun x δ1 v H1 F1 Fv k1 r1 => ⟨δ1, F1, _, r1.st, nd_right r1.nd, k1, fun ls δ2 H2 F2 k2 r2 => ?_⟩⟩
    obtain ⟨l, el, k2⟩ := k2
    refine ⟨l, el, δ2, F2, _, r2.st, nd_right r2.nd, k2, fun hs δ3 H3 F3 k3 r3 => ?_⟩
    obtain ⟨h, eh, m, e, kk⟩ := k3
    have r := (r1.step r2).step r3
    obtain ⟨G, rm, _⟩ := (r.vl.one').peek r.st e
    refine ⟨h, eh, m, G, _, rm, kk, fun z v' H' kz mk => ?_⟩
    obtain ⟨Fm, rx⟩ := r.made mk
    exact hq _ _ _ _ _ _ kz rx
theorem s_rev {ea : Expr} {a : C} {j : Nat} {q1 q2 q3 : Pos} (ha : PE X ea (tE X.K (wpE Γ XF a))) : PE X (.Subscript ea (.Slice none none (some (.UnaryOp .USub (.Constant (.int 1) j q1) q2)) q3) pos) (tE X.K (wpE Γ XF (.rev a))) :=
  PE.wk (pe_revL ha) fun σ H Q ⟨δ, F, Kc, st, nd, hw, hq⟩ => by
    rw [wpE] at hw
    refine ⟨δ, F, _, st, nd, hw, fun x δ1 v H1 F1 Fv k1 r1 => ?_⟩
    obtain ⟨m, ds, e, e2, kc⟩ := k1
    obtain ⟨G, rm, _⟩ := r1.vl.one'.peek r1.st e
    obtain ⟨l, xs, rfl, hl, rs⟩ := rm.lst e2
    exact ⟨l, xs, rfl, hl, fun p hp => hq _ _ _ _ _ _ kc (r1.newL hp rs.reverse)⟩

/-! ### built-ins, methods, calls -/
theorem bi_blt : ∀ f : BI, biName f ∈ bltNames ∧ bootBuiltins (biName f) = some (biVal f) ∧ (biName f ≠ "__name__") ∧ (biName f == ("__debug__" : Str)) = false := by
  intro f
  cases f <;> exact ⟨by decide +kernel, by decide +kernel, by decide +kernel, by decide +kernel⟩
theorem pe_bi (o : OkX E Γ k X sc) (f : BI) {r : List V → Hp → VK → Prop} (hc : CallR X (biVal f) r) (hg : Gl X (biName f)) {e : Expr} {es : List Expr} {t : TA} (ha : PA X (e :: es) t) (pl : plains (e :: es) = true) :
    PE X (.Call (.Name (biName f) p2) (e :: es) [] pos) (tCB r t) := by
  obtain ⟨h1, h2, h3, h4⟩ := bi_blt f
  unfold plains at pl
  rw [List.all_cons, Bool.and_eq_true] at pl
  have he := plain_star pl.1 es X.env
  have hpl := plains_any pl.2 X.env pos
  cases f <;> first
    | exact pe_callB hc hg (o.blt _ h1) h2 ha h3 h4 he hpl
    | exact pe_callTy hc hg (o.blt _ h1) h2 ha h3 h4 he hpl
theorem s_bi (o : OkX E Γ k X sc) (f : BI) (hg : globB sc (biName f) = true) {e : Expr} {es : List Expr} {l : C} (pl : plains (e :: es) = true) {n : Nat} (ha : PA X (e :: es) (tV X.K n (wpV Γ XF l))) :
    PE X (.Call (.Name (biName f) p2) (e :: es) [] pos) (tE X.K (wpE Γ XF (.bi f l))) :=
  PE.wk (pe_bi o f (call_bi o.dig o.calm o.gd (by have := o.un; omega) f) (o.gl hg) ha pl) fun σ H Q ⟨δ, F, Kc, st, nd, hw, hq⟩ => by
    rw [wpE] at hw
    refine ⟨δ, F, _, st, nd, hw, fun xs δ1 vs H1 F1 Fv k1 _ r1 => ?_⟩
    obtain ⟨ms, e, hb⟩ := k1
    obtain ⟨G, rs⟩ := r1.vl.peeks r1.st e
    refine ⟨ms, G, _, rs, hb, fun r v H' kr mk => ?_⟩
    obtain ⟨Fm, rx⟩ := r1.made mk
    exact hq _ _ _ _ _ _ kr rx
theorem ty_blt : ∀ t ∈ ["int", "bool", "str", "list", "tuple", "dict"], Str.ofString t ∈ bltNames ∧ bootBuiltins (Str.ofString t) = some (.type t) ∧ (Str.ofString t ≠ "__name__") ∧ (Str.ofString t == ("__debug__" : Str)) = false := by
  decide +kernel
theorem s_isi (o : OkX E Γ k X sc) {t : String} {x : Str} {ea : Expr} {a : C} (ex : (x == ("isinstance" : Str)) = true) (hg : globB sc x = true) (hg2 : globB sc (Str.ofString t) = true) (ht : t ∈ ["int", "bool", "str", "list", "tuple", "dict"]) (pl : plainB ea = true)
    (ha : PE X ea (tE X.K (wpE Γ XF a))) : PE X (.Call (.Name x p2) [ea, .Name (Str.ofString t) p3] [] pos) (tE X.K (wpE Γ XF (.isi a t))) := by
  rw [beq_iff_eq] at ex
  subst ex
  obtain ⟨h1, h2, h3, h4⟩ := ty_blt t ht
  have hty : PE X (.Name (Str.ofString t) p3) (tC (.ty t)) := pe_bltn (o.gl hg2) (o.blt _ h1) h2 rfl h3 h4
  have hs := plain_star pl [.Name (Str.ofString t) p3] X.env
  refine PE.wk (pe_callB call_isi (o.gl hg) (o.blt _ (by decide +kernel)) (by decide +kernel) (pa_cons ha (pa_cons hty pa_nil) hs) (by decide +kernel) (by decide +kernel) hs rfl) fun σ H Q ⟨δ, F, Kc, st, nd, hw, hq⟩ => ?_
  rw [wpE] at hw
  refine ⟨δ, F, _, st, nd, hw, fun x δ1 v H1 F1 Fv k1 r1 => ?_⟩
  obtain ⟨m, e, hm⟩ := k1
  obtain ⟨G, rm, _⟩ := r1.vl.one'.peek r1.st e
  obtain ⟨kn, ty, hk⟩ := isi_ty rm
  exact ⟨v, .ty t, .type kn, .type t, _, rfl, .ty t, ty, kit_ty (hk t ht), hq _ _ _ _ _ _ hm.2 (r1.pure (.bl _))⟩
theorem base_ok {o : Expr} {x : Str} {env : Env} (h : baseB o = true) : attributeBase o x env (eval o env) = eval o env := by
  unfold attributeBase
  cases o <;> first
    | rfl
    | (rename_i f as ks p; cases f <;> first | rfl | (cases as <;> first | rfl | (cases ks <;> first | rfl | cases h)))
theorem me_slot (f : ME) : PlainAttrs (meId f).1 ∧ Slot (meId f).1 (meId f).2.2 (meId f).2.1 ∧ typeOf (.builtin (meId f).2.1) = pure (.type "method_descriptor") := by
  cases f
  · exact ⟨F.plainAttrs_str, F.slot_str_join, F.type_str_join⟩
  · exact ⟨F.plainAttrs_str, F.slot_str_split, F.type_str_split⟩
  · exact ⟨F.plainAttrs_list, F.slot_list_index, F.type_list_index⟩
  · exact ⟨F.plainAttrs_str, F.slot_str_upper, F.type_str_upper⟩
  · exact ⟨F.plainAttrs_list, F.slot_list_count, F.type_list_count⟩
theorem mu_slot (f : MU) : Slot "list" (muId f).2 (muId f).1 ∧ typeOf (.builtin (muId f).1) = pure (.type "method_descriptor") := by
  cases f
  · exact ⟨F.slot_list_append, F.type_list_append⟩
  · exact ⟨F.slot_list_insert, F.type_list_insert⟩
  · exact ⟨F.slot_list_pop, F.type_list_pop⟩
  · exact ⟨F.slot_list_extend, F.type_list_extend⟩
  · exact ⟨F.slot_list_remove, F.type_list_remove⟩
theorem few_ok {es : List Expr} {env : Env} {pos : Pos} (pl : plains es = true) (h : es.length < 30) : ((backTo pos (starEach es env)).all (fun x => !x.1) && (backToKw pos (keywordEach [] env)).all (fun x => x.1.isSome)
      && decide (es.length + ([] : List Keyword).length + (if ([] : List Keyword).isEmpty then 0 else 1) < 30)) = true := by
  rw [plains_all pl]
  show (true && true && decide (es.length + 0 + 0 < 30)) = true
  simp [h]
theorem pe_me {T id : String} {name : Str} {r : V → List V → Hp → VK → Prop} {o e : Expr} {es : List Expr} {to : TE} {t : TA} {apos cpos : Pos} (pa : PlainAttrs T) (slot : Slot T name id) (hty : typeOf (.builtin id) = pure (.type "method_descriptor")) (hm : MtR X id r) (ho : PE X o to) (ha : PA X (e :: es) t)
    (hb : baseB o = true) (pl : plains (e :: es) = true) (h30 : (e :: es).length < 30) (hline : (apos.endLine == cpos.line) = true) : PE X (.Call (.Attribute o name apos) (e :: es) [] cpos) (tBM X.K T r to t) := by
  have pl' := pl
  unfold plains at pl'
  rw [List.all_cons, Bool.and_eq_true] at pl'
  exact pe_bm pa slot hty hm ho ha (base_ok hb) (few_ok pl h30) hline (plain_star pl'.1 es X.env) (plains_any pl'.2 X.env cpos)
theorem s_me (f : ME) {o e : Expr} {es : List Expr} {c l : C} {x : Str} {apos cpos : Pos} (ex : (x == (meId f).2.2) = true) (hb : baseB o = true) (pl : plains (e :: es) = true) (h30 : (e :: es).length < 30) (hline : (apos.endLine == cpos.line) = true)
    (ho : PE X o (tE X.K (wpE Γ XF c))) {n : Nat} (ha : PA X (e :: es) (tV X.K n (wpV Γ XF l))) : PE X (.Call (.Attribute o x apos) (e :: es) [] cpos) (tE X.K (wpE Γ XF (.me f c l))) := by
  rw [beq_iff_eq] at ex
  subst ex
  obtain ⟨h1, h2, h3⟩ := me_slot f
  refine PE.wk (pe_me h1 h2 h3 (mt_M f) ho ha hb pl h30 hline) fun σ H Q ⟨δ, F, Kc, st, nd, hw, hq⟩ => ?_
  rw [wpE] at hw
  refine ⟨δ, F, _, st, nd, hw, fun x δ1 v H1 F1 Fv k1 r1 => ?_⟩
  obtain ⟨⟨m0, e0, ty0⟩, k1⟩ := k1
  obtain ⟨G0, rm0, _⟩ := r1.vl.one'.peek r1.st e0
  refine ⟨?_, δ1, F1, _, r1.st, nd_right r1.nd, k1, fun xs δ2 vs H2 F2 Fw k2 _ r2 => ?_⟩
  · cases f with
    | join => obtain ⟨a, rfl⟩ := ty0; have := rm0.pS; subst this; rfl
    | _ => exact ty0.elim
  · obtain ⟨m, ms, e1, e2, hm⟩ := k2
    have r := r1.step r2
    have rv := r.vl
    have e3 := peeks_cons e1 e2
    obtain ⟨G, rs⟩ := rv.peeks r.st e3
    cases rs with
    | cons a b =>
      refine ⟨m, ms, _, _, _, a, b, hm, fun z v' H' kz mk => ?_⟩
      obtain ⟨Fm, rx⟩ := r.made mk
      exact hq _ _ _ _ _ _ kz rx
end
end Q
set_option Elab.async false
set_option linter.all false
set_option maxRecDepth 100000
set_option maxHeartbeats 1000000
/-! LJ: what changes what a name holds; calls; tests. -/
namespace Q
open PySem PySem.Spec PyProof.Rows L2

section
variable {K : PySem.W.Frag} {H H1 H2 H' : Hp} {σ : L2.St} {F F2 Fv : List Addr} {δ δ2 : De} {vs : List V} {xs : List Val}
theorem set_same {v : V} {i : Nat} (h : σ[i]? = some (some v)) : σ.set i (some v) = σ := by
  obtain ⟨hl, h1⟩ := List.getElem?_eq_some_iff.mp h
  rw [← h1]; exact List.set_getElem_self hl
/-- a place is given something else to hold -/
theorem Rx.slot (r : Rx K σ H F H2 δ2 vs xs F2 Fv) (i : Nat) (hi : i < δ2.length) :
    ∃ Fm, (∀ m, (δ2[i]?).getD none = some m → ∃ v, σ[i]? = some (some v) ∧ RM K H2 v m Fm) ∧ Fm.Nodup ∧ (∀ x ∈ Fm, x ∈ F2) ∧
      ∀ (H' : Hp) (G : List Addr) (v : V) (m : M) (Fn : List Addr), Keep H2 H' G → (∀ a ∈ G, a ∈ Fm ∨ a ∈ Fv) → Owns H2 G → RM K H' v m Fn → Fn.Nodup → (∀ x ∈ Fn, x ∈ Fm ∨ x ∈ Fv ∨ H2 x = none) →
        ∃ F', Rx K (σ.set i (some v)) H F H' (δ2.set i (some m)) [] [] F' [] := by
  obtain ⟨Fm, R, pm, g, z, up⟩ := r.st.upd i hi
  have nd1 : (Fm ++ R).Nodup := pm.nodup_iff.mp (nd_right r.nd)
  have frF : ∀ y ∈ Fm ++ R, y ∈ F ∨ H y = none := fun y hy => r.fr y (List.mem_append_right _ (pm.mem_iff.mpr hy))
  refine ⟨Fm, g, nd_left nd1, fun x hx => pm.mem_iff.mpr (List.mem_append_left _ hx), fun H' G v m Fn k hG oG rm ndn hn => ?_⟩
  have s := k.still oG
  have dj : ∀ y ∈ R, y ∉ G := fun y hy hz => by
    rcases hG y hz with w | w
    · exact nd_apart nd1 w hy
    · exact nd_apart r.nd w (pm.mem_iff.mpr (List.mem_append_right _ hy))
  obtain ⟨F', w, q⟩ := up H' G v m Fn k s dj rm
  have hz : ∀ x, H2 x = none → x ∈ F ∨ H x = none := fun x hx => by
    by_cases hF : x ∈ F
    · exact .inl hF
    · refine .inr ?_
      cases e : H x with
      | none => rfl
      | some o => rw [r.kp x o e hF] at hx; cases hx
  refine ⟨F', w, .nil, ?_, fun b o eb nb => ?_, fun x hx => ?_⟩
  · refine q.nodup_iff.mpr (nd_mk ndn (nd_right nd1) fun x hx hy => ?_)
    rcases hn x hx with a | a | a
    · exact nd_apart nd1 a hy
    · exact nd_apart r.nd a (pm.mem_iff.mpr (List.mem_append_right _ hy))
    · obtain ⟨o, e, _⟩ := z.owns x hy
      rw [a] at e; cases e
  · refine k b o (r.kp b o eb nb) fun hb => ?_
    have : b ∈ F ∨ H b = none := by
      rcases hG b hb with w | w
      · exact frF b (List.mem_append_left _ w)
      · exact r.fr b (List.mem_append_left _ w)
    rcases this with y | y
    · exact nb y
    · rw [eb] at y; cases y
  · rcases List.mem_append.mp (q.mem_iff.mp (by simpa using hx)) with hx | hx
    · rcases hn x hx with a | a | a
      · exact frF x (List.mem_append_left _ a)
      · exact r.fr x (List.mem_append_left _ a)
      · exact hz x a
    · exact frF x (List.mem_append_right _ hx)
theorem getD_lt {i : Nat} {m : M} (h : (δ[i]?).getD none = some m) : i < δ.length := by
  by_cases hi : i < δ.length
  · exact hi
  · rw [List.getElem?_eq_none (by omega)] at h; cases h
/-- a list that a name holds is written -/
theorem Rx.put (r : Rx K σ H F H2 δ2 vs xs F2 Fv) {i : Nat} {a : Addr} {zs ws : List V} {ds es : List PyData} (e : (δ2[i]?).getD none = some (.l ds)) (ev : σ[i]? = some (some (.ref a))) (ea : H2 a = some (.lst zs)) (rp : RPs K H2 ws es) :
    ∃ F', Rx K σ H F (upd H2 a (.lst ws)) (δ2.set i (some (.l es))) [] [] F' [] := by
  obtain ⟨Fm, g, nd, _, up⟩ := r.slot i (getD_lt e)
  obtain ⟨v, e1, rm⟩ := g _ e
  rw [ev] at e1; cases e1
  cases rm with
  | l h1 h2 =>
    have k : Keep H2 (upd H2 a (.lst ws)) [a] := fun b o eb n => by rw [upd_ne (by simpa using n)]; exact eb
    have o : Owns H2 [a] := fun b hb => by rw [List.mem_singleton] at hb; subst hb; exact ⟨_, ea, trivial⟩
    obtain ⟨F', rx⟩ := up _ [a] (.ref a) (.l es) [a] k (fun b hb => .inl hb) o (.l upd_same (rp.still (k.still o))) nd fun x hx => .inl hx
    rw [set_same ev] at rx
    exact ⟨F', rx⟩
end

section
variable {E : SE} {Γ : List Spec} {k : Nat} {X : Cx} {sc : Scope} {pos p2 p3 : Pos}
theorem s_mu (o : OkX E Γ k X sc) (f : MU) {i : Nat} {y x : Str} {e : Expr} {es : List Expr} {l : C} {apos cpos : Pos} (ex : (x == (muId f).2) = true) (h1 : decide (E.N[i]? = some y) = true) (h2 : visB sc y = true) (h3 : okX y = true)
    (pl : plains (e :: es) = true) (h30 : (e :: es).length < 30) (hline : (apos.endLine == cpos.line) = true) (ha : PA X (e :: es) (tF X.K (wpF Γ XF l))) : PE X (.Call (.Attribute (.Name y p2) x apos) (e :: es) [] cpos) (tE X.K (wpE Γ XF (.mu f i l))) := by
  rw [beq_iff_eq] at ex
  subst ex
  obtain ⟨m1, m2⟩ := mu_slot f
  refine PE.wk (pe_me F.plainAttrs_list m1 m2 (mt_U f) (pe_var (i := i) (o.at h1) (o.vis h2) (okX_1 h3) (okX_2 h3)) ha rfl pl h30 hline) fun σ H Q ⟨δ, F, Kc, st, nd, hw, hq⟩ => ?_
  rw [wpE] at hw
  obtain ⟨⟨ds0, e0⟩, hw⟩ := hw
  obtain ⟨v0, Fm0, ev, rm0, _⟩ := st.get e0
  cases rm0 with
  | @l a0 zs0 _ ha0 rs0 =>
    refine ⟨_, ev, .inl ⟨rfl, _, .of ha0⟩, δ, F, _, st, nd, hw, fun ds δ1 vs H1 F1 k1 r1 => ?_⟩
    obtain ⟨m, e1, hm⟩ := k1
    obtain ⟨v1, Fm1, ev1, rm1, hs1⟩ := r1.st.get e1
    rw [ev] at ev1; cases ev1
    -- what is written is a list of its own
    have hl : ∃ d1, m = .l d1 := by
      unfold muM at hm
      split at hm <;> first | exact ⟨_, rfl⟩ | exact hm.elim
    obtain ⟨d1, rfl⟩ := hl
    cases rm1 with
    | @l _ zs1 _ ha1 rs1 =>
      refine ⟨a0, zs1, .l d1, ds, _, rfl, ha1, .l ha1 rs1, r1.vl.pures, hm, fun r m' v zs' ds' kr em rp rps => ?_⟩
      subst em
      obtain ⟨F', rx⟩ := r1.put e1 ev ha1 rps
      exact hq _ _ _ _ _ _ kr (rx.pure (rp.still (Keep.still (F := [a0]) (fun b o eb n => by rw [upd_ne (by simpa using n)]; exact eb) fun b hb => by
        rw [List.mem_singleton] at hb; subst hb; exact ⟨_, ha1, trivial⟩)))

/-! ### what is handed to a def and comes back -/
theorem peek_set {δ : De} {i : Nat} {m : Option M} {x : Val} (h : ∀ j, x = .at j → j ≠ i) : peek (δ.set i m) x = peek δ x := by
  cases x with
  | own _ => rfl
  | «at» j =>
    have hj := h j rfl
    simp only [peek]
    rw [List.getElem?_set_ne (fun e => hj e.symm)]
theorem peeks_set {δ : De} {i : Nat} {m : Option M} : ∀ {xs : List Val}, i ∉ ats xs → peeks (δ.set i m) xs = peeks δ xs
  | [], _ => rfl
  | .own _ :: xs, h => by
    simp only [Q.peeks]
    rw [peek_set (fun j e => by cases e), peeks_set (xs := xs) (by simpa [ats] using h)]
  | .at j :: xs, h => by
    simp only [ats, List.mem_cons, not_or] at h
    simp only [Q.peeks]
    rw [peek_set (fun j' e => by cases e; exact fun z => h.1 z.symm), peeks_set (xs := xs) h.2]
theorem writeB_set {i : Nat} {m : Option M} : ∀ {xs : List Val} {os : List M} {δ : De}, i ∉ ats xs → writeB xs os (δ.set i m) = (writeB xs os δ).set i m
  | [], _, _, _ => by simp [writeB]
  | .own _ :: xs, [], _, _ => by simp [writeB]
  | .at j :: xs, [], _, _ => by simp [writeB]
  | .own _ :: xs, o :: os, δ, h => by
    simp only [writeB]
    exact writeB_set (xs := xs) (by simpa [ats] using h)
  | .at j :: xs, o :: os, δ, h => by
    simp only [ats, List.mem_cons, not_or] at h
    simp only [writeB]
    rw [List.set_comm _ _ h.1, writeB_set (xs := xs) h.2]
theorem writeB_length : ∀ {xs : List Val} {os : List M} {δ : De}, (writeB xs os δ).length = δ.length
  | [], _, _ => by simp [writeB]
  | .own _ :: xs, [], _ => by simp [writeB]
  | .at j :: xs, [], _ => by simp [writeB]
  | .own _ :: xs, o :: os, δ => by simp only [writeB]; exact writeB_length
  | .at j :: xs, o :: os, δ => by simp only [writeB]; rw [writeB_length, List.length_set]
theorem hand_over {K : PySem.W.Frag} {H : Hp} {σ : L2.St} : ∀ {vs : List V} {xs : List Val} {Fv F : List Addr} {δ : De} {ms : List M}, RVs K H σ vs xs Fv → RS K H σ δ F → (ats xs).Nodup → peeks δ xs = some ms →
    ∃ (G Rb : List Addr) (δb : De), RMs K H vs ms G ∧ RS K H σ δb Rb ∧ (G ++ Rb).Perm (Fv ++ F) ∧
      ∀ (H' : Hp) (os : List M) (Fo Rb' : List Addr), RS K H' σ δb Rb' → RMs K H' vs os Fo → (Fo ++ Rb').Nodup → ∃ F', RS K H' σ (writeB xs os δ) F' ∧ (∀ a ∈ F', a ∈ Fo ++ Rb') ∧ F'.Nodup
  | _, _, _, F, δ, _, .nil, st, _, e => by
    simp only [Q.peeks, Option.some.injEq] at e; subst e
    exact ⟨[], F, δ, .nil, st, by simp, fun H' os Fo Rb' st' rm nd => ⟨Rb', by simpa [writeB] using st', fun a ha => List.mem_append_right _ ha, nd_right nd⟩⟩
  | v :: vs, .own m :: xs, _, F, δ, _, .cons (F := Fi) (G := Fv') a b, st, na, e => by
    simp only [Q.peeks] at e
    split at e
    · rename_i m' ms' e1 e2
      cases e
      cases e1
      obtain ⟨G', Rb, δb, r1, r2, r3, r4⟩ := hand_over b st (by simpa [ats] using na) e2
      refine ⟨Fi ++ G', Rb, δb, .cons a r1, r2, ?_, fun H' os Fo Rb' st' rm nd => ?_⟩
      · rw [List.append_assoc, List.append_assoc]; exact List.Perm.append_left _ r3
      · cases rm with
        | cons p q =>
          rename_i Fo1 Fo2
          have nd2 : (Fo2 ++ Rb').Nodup := by rw [List.append_assoc] at nd; exact nd_right nd
          obtain ⟨F', w1, w2, w3⟩ := r4 H' _ _ Rb' st' q nd2
          exact ⟨F', by simpa only [writeB] using w1, fun a ha => by rw [List.append_assoc]; exact List.mem_append_right _ (w2 a ha), w3⟩
    · cases e
  | v :: vs, .at i :: xs, _, F, δ, _, .cons (F := Fi) (G := Fv') a b, st, na, e => by
    simp only [Q.peeks] at e
    simp only [ats, List.nodup_cons] at na
    obtain ⟨ev, rfl⟩ := a
    split at e
    · rename_i m ms' e1 e2
      cases e
      have hi := getD_lt (show (δ[i]?).getD none = some m from e1)
      obtain ⟨Fm, R, pm, g, z, up⟩ := st.upd i hi
      obtain ⟨v', ev', rm0⟩ := g m e1
      rw [ev] at ev'; cases ev'
      obtain ⟨G', Rb, δb, r1, r2, r3, r4⟩ := hand_over b z na.2 (by rw [peeks_set na.1]; exact e2)
      refine ⟨Fm ++ G', Rb, δb, .cons rm0 r1, r2, ?_, fun H' os Fo Rb' st' rm nd => ?_⟩
      · rw [List.append_assoc, List.nil_append]
        refine (List.Perm.append_left _ r3).trans ?_
        refine List.Perm.trans ?_ (List.Perm.append_left Fv' pm.symm)
        rw [← List.append_assoc, ← List.append_assoc]
        exact List.perm_append_comm.append_right _
      · cases rm with
        | cons p q =>
          rename_i o os' Fo1 Fo2
          have nd2 : (Fo2 ++ Rb').Nodup := by rw [List.append_assoc] at nd; exact nd_right nd
          obtain ⟨F'', w1, w2, w3⟩ := r4 H' _ _ Rb' st' q nd2
          have hi2 : i < (writeB xs os' (δ.set i none)).length := by rw [writeB_length, List.length_set]; exact hi
          obtain ⟨Fm', R', pm', g', z', up'⟩ := w1.upd i hi2
          obtain ⟨F', u1, u2⟩ := up' H' [] v o Fo1 (Keep.refl _ _) (Still.refl _) (fun _ _ h => by cases h) p
          rw [set_same ev] at u1
          have nd3 : (Fm' ++ R').Nodup := pm'.nodup_iff.mp w3
          have sub : ∀ x ∈ R', x ∈ Fo2 ++ Rb' := fun x hx => w2 x (pm'.mem_iff.mpr (List.mem_append_right _ hx))
          refine ⟨F', ?_, fun x hx => ?_, ?_⟩
          · simp only [writeB]
            have e3 : (writeB xs os' (δ.set i none)).set i (some o) = writeB xs os' (δ.set i (some o)) := by
              rw [writeB_set na.1, List.set_set, writeB_set na.1]
            rw [e3] at u1
            exact u1
          · rw [List.append_assoc]
            rcases List.mem_append.mp (u2.mem_iff.mp hx) with hx | hx
            · exact List.mem_append_left _ hx
            · exact List.mem_append_right _ (sub x hx)
          · refine u2.nodup_iff.mpr (nd_mk ?_ (nd_right nd3) fun x hx hy => ?_)
            · rw [List.append_assoc] at nd; exact nd_left nd
            · rw [List.append_assoc] at nd
              exact nd_apart nd hx (sub x hy)
    · cases e
theorem s_call (o : OkX E Γ k X sc) {f : Nat} {x : Str} {ks : List Str} {es : List Expr} {kws : List Keyword} {l kl : C} (hG : E.G[f]? = some (x, es.length, ks)) (hks : kwNames kws = some ks) (hg : globB sc x = true) (h3 : okX x = true) (pl : plains es = true)
    (ha : PA X es (tV X.K es.length (wpV Γ XF l))) (hk : PK X kws (tV X.K ks.length (wpV Γ XF kl))) (hnil : es = [] → l = .nil) : PE X (.Call (.Name x p2) es kws pos) (tE X.K (wpE Γ XF (.call f l kl))) := by
  obtain ⟨sp, hsp, ⟨fa, fd, ps, g, gV, spV, hm, hkp, F, hb, hl⟩⟩ := o.calls f x es.length ks hG
  have main : ∀ {σ : L2.St} {H : Hp} {Q : VK} {δ : De} {F0 : List Addr} {Kc : Val → De → Prop} {δ2 : De} {H2 : Hp} {vs zs : List V} {xs ys : List Val} {F2 Fv : List Addr},
      (∀ x δ' v H' F' Fv, Kc x δ' → Rx X.K σ H F0 H' δ' [v] [x] F' Fv → Q v H') → Rx X.K σ H F0 H2 δ2 (vs ++ zs) (xs ++ ys) F2 Fv → vs.length = es.length → zs.length = ks.length →
      (∃ sp ms, Γ[f]? = some sp ∧ (ats (xs ++ ys)).Nodup ∧ peeks δ2 (xs ++ ys) = some ms ∧ sp ms (fun r outs => Kc (.own r) (writeB (xs ++ ys) outs δ2)) fun e outs => XF e (writeB (xs ++ ys) outs δ2)) →
      spV (gV vs zs) H2 Q := fun {σ H Q δ F0 Kc δ2 H2 vs zs xs ys F2 Fv} hq r l1 l2 k2 => by
    obtain ⟨sp', ms, e1, na, e2, hs⟩ := k2
    rw [hsp] at e1; cases e1
    refine hl vs zs H2 Q l1 l2 ?_
    obtain ⟨G, Rb, δb, r1, r2, r3, r4⟩ := hand_over r.vl r.st na e2
    have ndG : (G ++ Rb).Nodup := r3.nodup_iff.mpr r.nd
    refine ⟨ms, G, _, ?_, r1, nd_left ndG, hs, fun rr os v H' F' Fr kc rv ro nd kp fr => ?_⟩
    · rw [← r1.length, List.length_append, l1, l2]
    have oG := r1.owns
    have s := kp.still oG
    have stb : RS X.K H' σ δb Rb := r2.keep kp s fun a ha hb => nd_apart ndG hb ha
    have apart : ∀ x, x ∈ Fr ++ F' → x ∉ Rb := fun x hx hy => by
      rcases fr x hx with z | z
      · exact nd_apart ndG z hy
      · obtain ⟨u, e, _⟩ := r2.owns x hy
        rw [z] at e; cases e
    obtain ⟨F3, w1, w2, w3⟩ := r4 H' os F' Rb stb ro (nd_mk (nd_right nd) (nd_right ndG) fun x hx hy => apart x (List.mem_append_right _ hx) hy)
    have frG : ∀ x ∈ G ++ Rb, x ∈ F0 ∨ H x = none := fun x hx => r.fr x (r3.mem_iff.mp hx)
    have hz : ∀ x, H2 x = none → x ∈ F0 ∨ H x = none := fun x hx => by
      by_cases hF : x ∈ F0
      · exact .inl hF
      · refine .inr ?_
        cases e : H x with
        | none => rfl
        | some o => rw [r.kp x o e hF] at hx; cases hx
    refine hq _ _ _ _ F3 Fr kc ⟨w1, .one rv, nd_mk (nd_left nd) w3 fun x hx hy => ?_, fun b u eb nb => ?_, fun x hx => ?_⟩
    · rcases List.mem_append.mp (w2 x hy) with z | z
      · exact nd_apart nd hx z
      · exact apart x (List.mem_append_left _ hx) z
    · refine kp b u (r.kp b u eb nb) fun hb => ?_
      rcases frG b (List.mem_append_left _ hb) with y | y
      · exact nb y
      · rw [eb] at y; cases y
    · have hx' : x ∈ Fr ++ F' ∨ x ∈ Rb := by
        rcases List.mem_append.mp hx with hx | hx
        · exact .inl (List.mem_append_left _ hx)
        · rcases List.mem_append.mp (w2 x hx) with z | z
          · exact .inl (List.mem_append_right _ z)
          · exact .inr z
      rcases hx' with hx' | hx'
      · rcases fr x hx' with z | z
        · exact frG x (List.mem_append_left _ z)
        · exact hz x z
      · exact frG x (List.mem_append_right _ hx')
  cases es with
  | nil =>
    cases hnil rfl
    refine PE.wk (pe_cl0 F o.room o.gd (o.gl hg) hm hkp hb hk hks (okX_1 h3)) fun σ H Q ⟨δ, F0, Kc, st, nd, hw, hq⟩ => ?_
    rw [wpE, wpV] at hw
    exact ⟨δ, F0, _, st, nd, hw, fun ys δ2 zs H2 F2 Fw k2 l2 r2 => ⟨rfl, l2, main (δ := δ) (vs := []) (xs := []) hq r2 rfl l2 k2⟩⟩
  | cons e es =>
    refine PE.wk (pe_cl F o.room o.gd (o.gl hg) hm hkp hb ha hk hks pl (okX_1 h3)) fun σ H Q ⟨δ, F0, Kc, st, nd, hw, hq⟩ => ?_
    rw [wpE] at hw
    exact ⟨δ, F0, _, st, nd, hw, fun xs δ1 vs H1 F1 Fv k1 l1 r1 => ⟨δ1, F1, _, r1.st, nd_right r1.nd, k1, fun ys δ2 zs H2 F2 Fw k2 l2 r2 => ⟨l1, l2, main (δ := δ) hq (r1.step r2) l1 l2 k2⟩⟩⟩
end
end Q
set_option Elab.async false
set_option linter.all false
set_option maxRecDepth 100000
set_option maxHeartbeats 1000000
/-! LK: and, or; tests; displays of dicts; what stands in an own dict. -/
namespace Q
open PySem PySem.Spec PyProof.Rows L2

section
variable {E : SE} {Γ : List Spec} {k : Nat} {X : Cx} {sc : Scope} {pos p2 p3 : Pos}
theorem s_AV1 {e : Expr} {a : C} (ha : PE X e (tE X.K (wpE Γ XF a))) : PE X (.BoolOp .And [e] pos) (tE X.K (wpE Γ XF (.and (.cons a .nil)))) :=
  PE.wk (pe_one ha) fun σ H Q ⟨δ, F, Kc, st, nd, hw, hq⟩ => by
    rw [wpE, wpAV] at hw
    exact ⟨δ, F, Kc, st, nd, hw, hq⟩
theorem s_OV1 {e : Expr} {a : C} (ha : PE X e (tE X.K (wpE Γ XF a))) : PE X (.BoolOp .Or [e] pos) (tE X.K (wpE Γ XF (.or (.cons a .nil)))) :=
  PE.wk (pe_one ha) fun σ H Q ⟨δ, F, Kc, st, nd, hw, hq⟩ => by
    rw [wpE, wpOV] at hw
    exact ⟨δ, F, Kc, st, nd, hw, hq⟩
theorem s_AVc {e e2 : Expr} {es : List Expr} {a b : C} {as : C} (ha : PE X e (tE X.K (wpE Γ XF a))) (hb : PE X (.BoolOp .And (e2 :: es) pos) (tE X.K (wpE Γ XF (.and (.cons b as))))) : PE X (.BoolOp .And (e :: e2 :: es) pos) (tE X.K (wpE Γ XF (.and (.cons a (.cons b as))))) :=
  PE.wk (pe_and ha hb) fun σ H Q ⟨δ, F, Kc, st, nd, hw, hq⟩ => by
    rw [wpE, wpAV] at hw
    · refine ⟨δ, F, _, st, nd, hw, fun x δ1 v H1 F1 Fv k1 r1 => ?_⟩
      obtain ⟨c, rfl, k1⟩ := k1
      have ev := RM.pB (show RM X.K H1 v (.p (.bool c)) Fv from r1.vl.one')
      refine ⟨c, ev, ?_⟩
      cases c with
      | true =>
        refine ⟨δ1, F1, Kc, r1.st, nd_right r1.nd, ?_, fun x δ2 w H2 F2 Fw k2 r2 => hq _ _ _ _ _ _ k2 (r1.drop.step r2)⟩
        rw [wpE]; exact k1
      | false => exact hq _ _ _ _ _ _ k1 (r1.pure (.bl _))
    · intro h; cases h
theorem s_OVc {e e2 : Expr} {es : List Expr} {a b : C} {as : C} (ha : PE X e (tE X.K (wpE Γ XF a))) (hb : PE X (.BoolOp .Or (e2 :: es) pos) (tE X.K (wpE Γ XF (.or (.cons b as))))) : PE X (.BoolOp .Or (e :: e2 :: es) pos) (tE X.K (wpE Γ XF (.or (.cons a (.cons b as))))) :=
  PE.wk (pe_or ha hb) fun σ H Q ⟨δ, F, Kc, st, nd, hw, hq⟩ => by
    rw [wpE, wpOV] at hw
    · refine ⟨δ, F, _, st, nd, hw, fun x δ1 v H1 F1 Fv k1 r1 => ?_⟩
      obtain ⟨c, rfl, k1⟩ := k1
      have ev := RM.pB (show RM X.K H1 v (.p (.bool c)) Fv from r1.vl.one')
      refine ⟨c, ev, ?_⟩
      cases c with
      | false =>
        refine ⟨δ1, F1, Kc, r1.st, nd_right r1.nd, ?_, fun x δ2 w H2 F2 Fw k2 r2 => hq _ _ _ _ _ _ k2 (r1.drop.step r2)⟩
        rw [wpE]; exact k1
      | true => exact hq _ _ _ _ _ _ k1 (r1.pure (.bl _))
    · intro h; cases h
/-! ### tests -/
theorem s_tv {e : Expr} {c : C} (pl : valB e = true) (h : PE X e (tE X.K (wpE Γ XF c))) : PT X e (tT X.K (wpT Γ XF (.tv c))) := by
  refine PT.wk (pt_truth h fun whole => ?_) fun σ H Q ⟨δ, F, Kc, st, nd, hw, hq⟩ => ?_
  · cases e <;> first | rfl | cases pl
  · rw [wpT] at hw
    refine ⟨δ, F, _, st, nd, hw, fun x δ1 v H1 F1 Fv k1 r1 => ?_⟩
    obtain ⟨m, e, hm⟩ := k1
    obtain ⟨G, rm, _⟩ := r1.vl.one'.peek r1.st e
    obtain ⟨b, tb, kb⟩ := tru_M rm hm
    exact ⟨b, tb, hq _ _ _ _ kb r1.drop⟩
theorem s_notT {e : Expr} {t : C} (h : PT X e (tT X.K (wpT Γ XF t))) : PT X (.UnaryOp .Not e pos) (tT X.K (wpT Γ XF (.not t))) :=
  PT.wk (pt_not h) fun σ H Q ⟨δ, F, Kc, st, nd, hw, hq⟩ => by
    rw [wpT] at hw
    exact ⟨δ, F, _, st, nd, hw, fun b δ1 H1 F1 k1 r1 => hq _ _ _ _ k1 r1⟩
theorem s_A1 {e : Expr} {a : C} (h : PT X e (tT X.K (wpT Γ XF a))) : PW X (.BoolOp .And [e] pos) (tT X.K (wpA Γ XF (.cons a .nil))) :=
  PW.wk (pw_and1 h) fun σ H Q ⟨δ, F, Kc, st, nd, hw, hq⟩ => by
    rw [wpA] at hw
    refine ⟨δ, F, _, st, nd, hw, fun b δ1 H1 F1 k1 r1 => ?_⟩
    cases b with
    | true => rw [if_pos rfl, wpA] at k1; exact hq _ _ _ _ k1 r1
    | false => exact hq _ _ _ _ k1 r1
theorem s_O1 {e : Expr} {a : C} (h : PT X e (tT X.K (wpT Γ XF a))) : PW X (.BoolOp .Or [e] pos) (tT X.K (wpO Γ XF (.cons a .nil))) :=
  PW.wk (pw_or1 h) fun σ H Q ⟨δ, F, Kc, st, nd, hw, hq⟩ => by
    rw [wpO] at hw
    refine ⟨δ, F, _, st, nd, hw, fun b δ1 H1 F1 k1 r1 => ?_⟩
    cases b with
    | false => rw [if_neg Bool.false_ne_true, wpO] at k1; exact hq _ _ _ _ k1 r1
    | true => exact hq _ _ _ _ k1 r1
theorem s_Ac {e e2 : Expr} {es : List Expr} {a as : C} (h : PT X e (tT X.K (wpT Γ XF a))) (hs : PW X (.BoolOp .And (e2 :: es) pos) (tT X.K (wpA Γ XF as))) : PW X (.BoolOp .And (e :: e2 :: es) pos) (tT X.K (wpA Γ XF (.cons a as))) :=
  PW.wk (pw_and h hs) fun σ H Q ⟨δ, F, Kc, st, nd, hw, hq⟩ => by
    rw [wpA] at hw
    refine ⟨δ, F, _, st, nd, hw, fun b δ1 H1 F1 k1 r1 => ?_⟩
    cases b with
    | true => exact ⟨δ1, F1, Kc, r1.st, nd_right r1.nd, k1, fun b δ2 H2 F2 k2 r2 => hq _ _ _ _ k2 (r1.step r2)⟩
    | false => exact hq _ _ _ _ k1 r1
theorem s_Oc {e e2 : Expr} {es : List Expr} {a as : C} (h : PT X e (tT X.K (wpT Γ XF a))) (hs : PW X (.BoolOp .Or (e2 :: es) pos) (tT X.K (wpO Γ XF as))) : PW X (.BoolOp .Or (e :: e2 :: es) pos) (tT X.K (wpO Γ XF (.cons a as))) :=
  PW.wk (pw_or h hs) fun σ H Q ⟨δ, F, Kc, st, nd, hw, hq⟩ => by
    rw [wpO] at hw
    refine ⟨δ, F, _, st, nd, hw, fun b δ1 H1 F1 k1 r1 => ?_⟩
    cases b with
    | true => exact hq _ _ _ _ k1 r1
    | false => exact ⟨δ1, F1, Kc, r1.st, nd_right r1.nd, k1, fun b δ2 H2 F2 k2 r2 => hq _ _ _ _ k2 (r1.step r2)⟩
theorem s_andT {vs : List Expr} {l : C} (h : PW X (.BoolOp .And vs pos) (tT X.K (wpA Γ XF l))) : PT X (.BoolOp .And vs pos) (tT X.K (wpT Γ XF (.and l))) :=
  PT.wk h.pt fun σ H Q ⟨δ, F, Kc, st, nd, hw, hq⟩ => by
    rw [wpT] at hw
    exact ⟨δ, F, _, st, nd, hw, hq⟩
theorem s_orT {vs : List Expr} {l : C} (h : PW X (.BoolOp .Or vs pos) (tT X.K (wpO Γ XF l))) : PT X (.BoolOp .Or vs pos) (tT X.K (wpT Γ XF (.or l))) :=
  PT.wk h.pt fun σ H Q ⟨δ, F, Kc, st, nd, hw, hq⟩ => by
    rw [wpT] at hw
    exact ⟨δ, F, _, st, nd, hw, hq⟩

/-! ### a display of a dict -/
structure DOk (X : Cx) (Γ : List Spec) (pos : Pos) (keys : List (Option Expr)) (vals : List Expr) (ks : List Str) (l : C) : Prop where
  ex : ∃ trs, PPs X pos keys vals trs ∧ ∀ (σ : L2.St) (H : Hp) (Qp : List (V × V) → Hp → Prop) (δ : De) (F : List Addr) (Kc : List M → De → Prop), RS X.K H σ δ F → F.Nodup → wpD Γ XF l δ Kc →
    (∀ ms δ' vs H' F' Fv, Kc ms δ' → vs.length = ks.length → Rx X.K σ H F H' δ' vs (ms.map Val.own) F' Fv → Qp ((ks.map V.str).zip vs) H') → tPairs trs σ H Qp
theorem d_nil : DOk X Γ pos [] [] [] .nil := ⟨[], pps_nil, fun σ H Qp δ F Kc st nd hw hq => by
  rw [wpD] at hw
  exact hq _ _ [] _ _ _ hw rfl (Rx.start st nd)⟩
theorem d_cons {x : Str} {e : Expr} {keys : List (Option Expr)} {vals : List Expr} {ks : List Str} {a as : C} {j : Nat} (ha : PE X e (tE X.K (wpE Γ XF a))) (hs : DOk X Γ pos keys vals ks as) : DOk X Γ pos (some (.Constant (.str x) j p2) :: keys) (e :: vals) (x :: ks) (.cons a as) := by
  obtain ⟨trs, h1, h2⟩ := hs
  refine ⟨(tC (.str x), tG (tE X.K (wpE Γ XF a))) :: trs, pps_cons pe_str (pe_ghost ha) h1, fun σ H Qp δ F Kc st nd hw hq => ?_⟩
  rw [wpD] at hw
  refine ⟨δ, F, _, st, nd, hw, fun y δ1 v H1 F1 Fv k1 r1 => mov_ok (Q := fun v H1 => tPairs trs σ H1 fun ps H2 => Qp ((V.str x, v) :: ps) H2) r1 k1 fun m δ' H' F' Fm p rx => ?_⟩
  refine h2 σ H' _ δ' F' _ rx.st (nd_right rx.nd) p fun ms δ2 vs H2 F2 Fw k2 l2 r2 => ?_
  exact hq _ _ _ _ _ _ k2 (congrArg (· + 1) l2) (rx.step r2)
theorem mergeK_new : ∀ (more acc : List (L2.Key × V)), (∀ p ∈ more, ∀ q ∈ acc, q.1 ≠ p.1) → (more.map (·.1)).Nodup → mergeK acc more = acc ++ more
  | [], acc, _, _ => by simp [mergeK]
  | p :: r, acc, h, n => by
    rw [List.map_cons, List.nodup_cons] at n
    have e : putK acc p.1 p.2 = acc ++ [p] := by
      unfold putK
      rw [if_neg]
      intro hc
      obtain ⟨q, hq, e⟩ := List.any_eq_true.mp hc
      exact h p (List.mem_cons_self ..) q hq (of_decide_eq_true e)
    show mergeK (putK acc p.1 p.2) r = _
    rw [e, mergeK_new r (acc ++ [p]) (fun q hq z hz => ?_) n.2, List.append_assoc]
    · rfl
    · rcases List.mem_append.mp hz with hz | hz
      · exact h q (List.mem_cons_of_mem _ hq) z hz
      · rw [List.mem_singleton] at hz
        subst hz
        intro e
        exact n.1 (List.mem_map.mpr ⟨q, hq, e.symm⟩)
theorem RMk.ofs {K : PySem.W.Frag} {H : Hp} : ∀ {ks : List Str} {vs : List V} {ms : List M} {F : List Addr}, vs.length = ks.length → RMs K H vs ms F → RMk K H ((ks.map (Sum.inr (α := Int))).zip vs) ((ks.map Sum.inr).zip ms) F
  | [], [], _, _, _, .nil => .nil
  | k :: ks, v :: vs, _, _, l, .cons a b => .cons a (RMk.ofs (by simpa using l) b)
  | [], _ :: _, _, _, l, _ => by simp at l
  | _ :: _, [], _, _, l, _ => by simp at l
theorem zipV : ∀ {ks : List Str} {vs : List V}, (ks.map V.str).zip vs = ((ks.map (Sum.inr (α := Int))).zip vs).map fun kv => (L2.kV kv.1, kv.2)
  | [], _ => rfl
  | _ :: _, [] => rfl
  | k :: ks, v :: vs => by
    simp only [List.map_cons, List.zip_cons_cons]
    rw [zipV]; rfl
theorem s_dct {keys : List (Option Expr)} {vals : List Expr} {ks : List Str} {l : C} (h : DOk X Γ pos keys vals ks l) (hk : keys.all (·.isSome) = true) (hl : keys.length = vals.length) (hl2 : keys.length = ks.length) (h15 : ks.length ≤ 15) (nk : ks.Nodup) (h0 : keys = [] → l = .nil) : PE X (.Dict keys vals pos) (tE X.K (wpE Γ XF (.dct ks l))) := by
  obtain ⟨trs, h1, h2⟩ := h
  by_cases hn : keys = []
  · cases h0 hn
    subst hn
    cases vals with
    | cons _ _ => cases hl
    | nil =>
      cases ks with
      | cons _ _ => cases hl2
      | nil =>
        refine PE.wk pe_dnewK fun σ H Q ⟨δ, F, Kc, st, nd, hw, hq⟩ => ?_
        rw [wpE, wpD] at hw
        exact fun p hp => hq _ _ _ _ _ _ hw ((Rx.start st nd).new hp (.dc (F := []) upd_same .nil .nil) (by simp) fun x hx => .inl (by simpa using hx))
  · refine PE.wk (pe_disp h1 hk hl hn (by omega)) fun σ H Q ⟨δ, F, Kc, st, nd, hw, hq⟩ => ?_
    rw [wpE] at hw
    intro p hp
    have k0 : Keep H (upd H p (.dK [])) [] := Keep.new hp []
    have s0 : Still H (upd H p (.dK [])) := k0.still fun x hx => by cases hx
    have npF : p ∉ F := fun h => by
      obtain ⟨o, e, _⟩ := st.owns p h
      rw [hp] at e; cases e
    refine h2 σ _ _ δ F _ (st.keep k0 s0 fun a _ hx => by cases hx) nd hw fun ms δ' vs H' F' Fv kc lv rx => ?_
    have eH : H' p = some (.dK []) := rx.kp p _ upd_same npF
    refine ⟨eH, (ks.map Sum.inr).zip vs, zipV, ?_, ?_⟩
    · rw [List.length_zip, List.length_map]; omega
    have npR : ∀ a ∈ Fv ++ F', a ≠ p := fun a ha e => by
      subst e
      rcases rx.fr a ha with z | z
      · exact npF z
      · rw [upd_same] at z; cases z
    have kk : Keep H' (upd H' p (.dK (mergeK [] ((ks.map Sum.inr).zip vs)))) [p] := fun b o e n => by rw [upd_ne (by simpa using n)]; exact e
    have ss := kk.still fun b hb => by rw [List.mem_singleton] at hb; subst hb; exact ⟨_, eH, trivial⟩
    have kn : (((ks.map (Sum.inr (α := Int))).zip vs).map (·.1)).Nodup := by
      rw [List.map_fst_zip (by rw [List.length_map, lv]; exact Nat.le_refl _)]
      exact List.pairwise_map.mpr (nk.imp fun h e => h (by cases e; rfl))
    have em : mergeK [] ((ks.map (Sum.inr (α := Int))).zip vs) = (ks.map Sum.inr).zip vs := by
      rw [mergeK_new _ _ (fun _ _ _ hq => by cases hq)]
      · rfl
      · exact kn
    have rms := (RMs.keep kk ss rx.vl.mine fun a ha hz => npR a (List.mem_append_left _ ha) (by simpa using hz))
    refine hq _ _ _ _ _ (p :: Fv) kc ⟨rx.st.keep kk ss fun a ha hz => npR a (List.mem_append_right _ ha) (by simpa using hz), .one (.dc upd_same (by rw [em]; exact kn) ?_), ?_, ?_, ?_⟩
    · rw [em] at rms ⊢; exact RMk.ofs lv rms
    · rw [List.cons_append, List.nodup_cons]
      exact ⟨fun h => npR p h rfl, rx.nd⟩
    · intro a o e n
      have ne : a ≠ p := fun z => by rw [z, hp] at e; cases e
      rw [upd_ne ne]
      exact rx.kp a o (by rw [upd_ne ne]; exact e) n
    · intro a ha
      rcases List.mem_cons.mp ha with rfl | ha
      · exact .inr hp
      · rcases rx.fr a ha with z | z
        · exact .inl z
        · rw [upd_ne (npR a ha)] at z; exact .inr z

/-! ### what stands in an own dict -/
theorem pe_sub1 (o : OkX E Γ k X sc) {i : Nat} {x y : Str} {j : Nat} (h1 : decide (E.N[i]? = some x) = true) (h2 : visB sc x = true) (h3 : okX x = true) : PE X (.Subscript (.Name x p2) (.Constant (.str y) j p3) pos) (fun σ H Q => ∃ δ F kvs m, RS X.K H σ δ F ∧ (δ[i]?).getD none = some (.dc kvs) ∧ kget kvs (.inr y) = some m ∧
    ∀ v Fm, RM X.K H v m Fm → (∀ a ∈ Fm, a ∈ F) → Q v H) := by
  refine PE.wk (pe_dget (by have := o.un; omega) (pe_var (i := i) (o.at h1) (o.vis h2) (okX_1 h3) (okX_2 h3)) pe_str (fun _ _ => rfl)) fun σ H Q ⟨δ, F, kvs, m, st, e1, e2, hq⟩ => ?_
  obtain ⟨v, Fm, ev, rm, hs⟩ := st.get e1
  cases rm with
  | @dc a kv _ G ha _ rk =>
    obtain ⟨w, Fw, e3, rw', hw⟩ := (RMk.get (k := .inr y) rk).1 m e2
    exact ⟨_, ev, a, w, rfl, by rw [← e3]; exact DGet.k (k := .inr y) ha, hq _ _ rw' fun z hz => hs z (List.mem_cons_of_mem _ (hw z hz))⟩
/-- numbers, nothing changed -/
theorem q_I (o : OkX E Γ k X sc) : ∀ (c : C) (e : Expr), chkQ E c sc e = true → PE X e (fun σ H Q => ∃ δ F z, RS X.K H σ δ F ∧ qI c δ = some z ∧ Q (.int z) H) := by
  intro c
  induction c with
  | v i =>
    intro e h
    cases e <;> first | (simp [chkQ] at h; done) | skip
    simp only [chkQ, Bool.and_eq_true] at h
    obtain ⟨⟨h1, h2⟩, h3⟩ := h
    refine PE.wk (pe_var (i := i) (o.at h1) (o.vis h2) (okX_1 h3) (okX_2 h3)) fun σ H Q ⟨δ, F, z, st, e1, hq⟩ => ?_
    unfold qI at e1
    split at e1
    · rename_i e2
      cases e1
      obtain ⟨v, Fm, ev, rm, _⟩ := st.get e2
      have := rm.pI
      subst this
      exact ⟨_, ev, hq⟩
    · cases e1
  | k d =>
    intro e h
    cases e <;> first | (simp [chkQ] at h; done) | skip
    rename_i c j p
    cases d with
    | int z =>
      cases c <;> first | (simp [chkQ, constB] at h; done) | skip
      simp only [chkQ, constB, beq_iff_eq] at h
      subst h
      refine PE.wk pe_int fun σ H Q ⟨δ, F, z, st, e1, hq⟩ => ?_
      simp only [qI, Option.some.injEq] at e1
      subst e1
      exact hq
    | _ => exact ⟨fun pins s σ H Q I ⟨δ, F, z, st, e1, hq⟩ => by simp [qI] at e1⟩
  | bin op a b iha ihb =>
    intro e h
    cases e <;> first | (simp [chkQ] at h; done) | skip
    simp only [chkQ, Bool.and_eq_true, decide_eq_true_eq] at h
    obtain ⟨⟨rfl, h1⟩, h2⟩ := h
    refine PE.wk (pe_op (op_bin op) (iha _ h1) (ihb _ h2)) fun σ H Q ⟨δ, F, z, st, e1, hq⟩ => ?_
    have key : ∃ i j, qI a δ = some i ∧ qI b δ = some j ∧ binM op (.p (.int i)) (.p (.int j)) fun r => r = .p (.int z) := by
      unfold qI at e1
      split at e1 <;> first
        | (cases e1; done)
        | (cases e1; exact ⟨_, _, ‹qI a δ = some _›, ‹qI b δ = some _›, rfl⟩)
        | (split at e1 <;> first | (cases e1; done) | (cases e1; exact ⟨_, _, ‹qI a δ = some _›, ‹qI b δ = some _›, by assumption, rfl⟩))
    obtain ⟨i, j, q1, q2, hb⟩ := key
    refine ⟨δ, F, i, st, q1, δ, F, j, st, q2, .p (.int i), .p (.int j), [], [], _, .p (.int i), .p (.int j), hb, fun r v H' hr mk => ?_⟩
    subst hr
    cases mk with
    | pure r => cases r; exact hq
  | _ => intro e h; simp [chkQ] at h
theorem s_ixs (o : OkX E Γ k X sc) {i : Nat} {x y : Str} {j : Nat} {eb : Expr} {b : C} {q : Pos} (h1 : decide (E.N[i]? = some x) = true) (h2 : visB sc x = true) (h3 : okX x = true) (pl : plainB eb = true) (hb : chkQ E b sc eb = true) :
    PE X (.Subscript (.Subscript (.Name x p2) (.Constant (.str y) j p3) pos) eb q) (tE X.K (wpE Γ XF (.ixs i y b))) :=
  PE.wk (pe_ix (ix_M (by have := o.un; omega)) (pe_sub1 o h1 h2 h3) (q_I o b eb hb) (plain_ix pl)) fun σ H Q ⟨δ, F, Kc, st, nd, hw, hq⟩ => by
    rw [wpE] at hw
    obtain ⟨kvs, ds, z, d, e1, e2, e3, e4, kc⟩ := hw
    refine ⟨δ, F, kvs, _, st, e1, e2, fun v Fm rm hs => ⟨δ, F, z, st, e3, .l ds, .int z, Fm, fun r => r = d, rm, .int z, ⟨ds, d, rfl, e4, rfl⟩, fun r w hr rp => ?_⟩⟩
    subst hr
    exact hq _ _ _ _ _ _ kc ((Rx.start st nd).pure rp)
theorem eqv_nil (ds : List PyData) : PyData.eqv (.list ds) (.list []) = ds.isEmpty := by
  cases ds <;> simp [PyData.eqv, PyData.eqvAll]
theorem nes_go (o : OkX E Γ k X sc) {i : Nat} {y : Str} {σ : L2.St} {H : Hp} {Q : VK} {δ : De} {F : List Addr} {Kb : Bool → Prop} (st : RS X.K H σ δ F) (nd : F.Nodup) (hw : ∃ kvs ds, (δ[i]?).getD none = some (.dc kvs) ∧ kget kvs (.inr y) = some (.l ds) ∧ SeqAt.shaped (.list ds) = true ∧ Kb (!ds.isEmpty))
    (hq : ∀ b H', Kb b → Rx X.K σ H F H' δ [] [] F [] → Q (.bl b) H') :
    ∃ δ F kvs m, RS X.K H σ δ F ∧ (δ[i]?).getD none = some (.dc kvs) ∧ kget kvs (.inr y) = some m ∧ ∀ v Fm, RM X.K H v m Fm → (∀ a ∈ Fm, a ∈ F) →
      (tLst tNil) σ H fun w H1 => rOpB X.K (cmpM .ne) v w H1 Q := by
  obtain ⟨kvs, ds, e1, e2, e3, kc⟩ := hw
  refine ⟨δ, F, kvs, _, st, e1, e2, fun v Fm rm hs => ⟨Nat.zero_le _, fun p hp => ?_⟩⟩
  have k0 : Keep H (upd H p (.lst [])) [] := Keep.new hp []
  have s0 := k0.still fun x hx => by cases hx
  refine ⟨.l ds, .l [], Fm, [p], Kb, rm.keep k0 s0 (fun _ _ h => by cases h), .l upd_same .nil, ?_, fun b kb => ?_⟩
  · refine ⟨.list ds, .list [], rfl, rfl, e3, rfl, ?_⟩
    rw [eqv_nil]; exact kc
  · exact hq b _ kb ⟨st.keep k0 s0 (fun _ _ h => by cases h), .nil, by simpa using nd, k0.mono (fun _ h => by cases h), fun a ha => .inl (by simpa using ha)⟩
theorem s_nes (o : OkX E Γ k X sc) {i : Nat} {x y : Str} {j : Nat} {q r : Pos} (h1 : decide (E.N[i]? = some x) = true) (h2 : visB sc x = true) (h3 : okX x = true) :
    PE X (.Compare (.Subscript (.Name x p2) (.Constant (.str y) j p3) pos) [.NotEq] [.List [] q] r) (tE X.K (wpE Γ XF (.nes i y))) :=
  PE.wk (pe_cmpR (op_cmp o.u65 .ne) (pe_sub1 o h1 h2 h3) (pe_lst pa_nil) rfl) fun σ H Q ⟨δ, F, Kc, st, nd, hw, hq⟩ => by
    rw [wpE] at hw
    exact nes_go o st nd hw fun b H' kb rx => hq _ _ _ _ _ _ kb (rx.pure (.bl b))
theorem s_nesT (o : OkX E Γ k X sc) {i : Nat} {x y : Str} {j : Nat} {q r : Pos} (h1 : decide (E.N[i]? = some x) = true) (h2 : visB sc x = true) (h3 : okX x = true) :
    PT X (.Compare (.Subscript (.Name x p2) (.Constant (.str y) j p3) pos) [.NotEq] [.List [] q] r) (tT X.K (wpT Γ XF (.tv (.nes i y)))) :=
  PT.wk (pt_cmpR (op_cmp o.u65 .ne) (pe_sub1 o h1 h2 h3) (pe_lst pa_nil) rfl) fun σ H Q ⟨δ, F, Kc, st, nd, hw, hq⟩ => by
    rw [wpT, wpE] at hw
    refine nes_go (Kb := fun r => ∃ m, peek δ (Val.own (M.p (PyData.bool r))) = some m ∧ truM m fun b => Kc b δ) o st nd hw fun b H' kb rx => ?_
    obtain ⟨m, e, kb⟩ := kb
    cases e
    exact ⟨b, rfl, hq _ _ _ _ kb rx⟩
theorem s_lens (o : OkX E Γ k X sc) {i : Nat} {x y f : Str} {j : Nat} {q r : Pos} (hf : (f == ("len" : Str)) = true) (hg : globB sc "len" = true) (h1 : decide (E.N[i]? = some x) = true) (h2 : visB sc x = true) (h3 : okX x = true) :
    PE X (.Call (.Name f q) [.Subscript (.Name x p2) (.Constant (.str y) j p3) pos] [] r) (tE X.K (wpE Γ XF (.lens i y))) := by
  rw [beq_iff_eq] at hf
  subst hf
  refine PE.wk (pe_bi o .len (call_bi o.dig o.calm o.gd (by have := o.un; omega) .len) (o.gl hg) (pa_cons (pe_sub1 o h1 h2 h3) pa_nil rfl) rfl) fun σ H Q ⟨δ, F, Kc, st, nd, hw, hq⟩ => ?_
  rw [wpE] at hw
  obtain ⟨kvs, ds, e1, e2, kc⟩ := hw
  refine ⟨δ, F, kvs, _, st, e1, e2, fun v Fm rm hs => ⟨[.l ds], Fm ++ [], fun r => r = .p (.int ds.length), .cons rm .nil, ⟨ds, rfl, rfl⟩, fun r w H' hr mk => ?_⟩⟩
  subst hr
  cases mk with
  | pure rp => exact hq _ _ _ _ _ _ kc ((Rx.start st nd).pure rp)

/-! ### ranges, as lists and tuples -/
theorem rgI {K : PySem.W.Frag} {H : Hp} (lo hi : Int) : RPs K H (rgV lo hi) (rngItems lo hi) := by
  unfold rgV rngItems
  generalize (hi - lo).toNat = n
  induction n with
  | zero => exact .nil
  | succ n ih =>
    rw [List.range_succ, List.map_append, List.map_append]
    exact ih.append (.cons (.int _) .nil)
def rgExprs (es : List Expr) (l : C) (X : Cx) (Γ : List Spec) : Prop := (∃ e a, es = [e] ∧ l = .cons a .nil ∧ plainB e = true ∧ PE X e (tE X.K (wpE Γ XF a))) ∨
  ∃ e1 e2 a b, es = [e1, e2] ∧ l = .cons a (.cons b .nil) ∧ plainB e1 = true ∧ plainB e2 = true ∧ PE X e1 (tE X.K (wpE Γ XF a)) ∧ PE X e2 (tE X.K (wpE Γ XF b))
theorem s_F2 {e1 e2 : Expr} {a b : C} (ha : PE X e1 (tE X.K (wpE Γ XF a))) (hb : PE X e2 (tE X.K (wpE Γ XF b))) : True := trivial
/-- a range, as an argument -/
theorem s_prg (o : OkX E Γ k X sc) {y : Str} {es : List Expr} {l : C} (hy : (y == ("range" : Str)) = true) (hg : globB sc y = true) (h : rgExprs es l X Γ) :
    PRg X (.Call (.Name y p2) es [] pos) (fun σ H Q => ∃ δ F Kc, RS X.K H σ δ F ∧ F.Nodup ∧ wpF Γ XF l δ Kc ∧ ∀ ds δ' H' F', Kc ds δ' → Rx X.K σ H F H' δ' [] [] F' [] → ∃ lo hi, rngOf ds = some (lo, hi) ∧ Q lo hi H') := by
  rw [beq_iff_eq] at hy
  subst hy
  have hm := o.blt "range" (by decide +kernel)
  rcases h with ⟨e, a, rfl, rfl, pl, pe⟩ | ⟨e1, e2, a, b, rfl, rfl, pl1, pl2, pe1, pe2⟩
  · intro pins s σ H Q I ⟨δ, F, Kc, st, nd, hw, hq⟩
    refine prg_1 (o.gl hg) hm (s_F1 pe) (plain_star pl _ _) pins s σ H Q I ⟨δ, F, Kc, st, nd, hw, fun d δ' v H' F' kc rp rx => ?_⟩
    obtain ⟨lo, hi, e1, q⟩ := hq _ _ _ _ kc rx.drop
    cases rp <;> first | (simp [rngOf] at e1; done) | skip
    simp only [rngOf, Option.some.injEq, Prod.mk.injEq] at e1
    obtain ⟨rfl, rfl⟩ := e1
    exact ⟨_, rfl, q⟩
  · intro pins s σ H Q I ⟨δ, F, Kc, st, nd, hw, hq⟩
    rw [wpF] at hw
    refine prg_2 (o.gl hg) hm (pe_ghost pe1) (s_F1 pe2) (plain_star pl1 _ _) (plain_star pl2 _ _) (plains_any (es := [e2]) (by unfold plains; rw [List.all_cons, pl2]; rfl) _ _) pins s σ H Q I ?_
    refine ⟨δ, F, _, st, nd, hw, fun x δ1 v H1 F1 Fv k1 r1 => ?_⟩
    refine frz_ok (Q := fun x H1 => (fun σ H Q => ∃ δ F Kc, RS X.K H σ δ F ∧ F.Nodup ∧ wpF Γ XF (.cons b .nil) δ Kc ∧
      ∀ d δ' v H' F', Kc [d] δ' → RP X.K H' v d → Rx X.K σ H F H' δ' [v] [pv d] F' [] → Q v H') σ H1 fun y H2 => ∃ i j, x = .int i ∧ y = .int j ∧ Q i j H2) r1 k1 fun d δ' H' F' p rp rx => ?_
    refine ⟨δ', F', _, rx.st, nd_right rx.nd, p, fun d2 δ2 v2 H2 F2 k2 rp2 r2 => ?_⟩
    obtain ⟨lo, hi, e1, q⟩ := hq _ _ _ _ k2 (rx.step r2).drop
    cases rp <;> first | (simp [rngOf] at e1; done) | skip
    cases rp2 <;> first | (simp [rngOf] at e1; done) | skip
    simp only [rngOf, Option.some.injEq, Prod.mk.injEq] at e1
    obtain ⟨rfl, rfl⟩ := e1
    exact ⟨_, _, rfl, rfl, q⟩
theorem rng_len (lo hi : Int) : (rngItems lo hi).length = (hi - lo).toNat := by unfold rngItems; rw [List.length_map, List.length_range]
theorem s_tupI (o : OkX E Γ k X sc) {x y : Str} {es : List Expr} {l : C} {q : Pos} (hx : (x == ("tuple" : Str)) = true) (hgx : globB sc x = true) (hy : (y == ("range" : Str)) = true) (hg : globB sc y = true) (h : rgExprs es l X Γ) :
    PE X (.Call (.Name x p3) [.Call (.Name y p2) es [] pos] [] q) (tE X.K (wpE Γ XF (.tupI (.rng l)))) := by
  rw [beq_iff_eq] at hx
  subst hx
  refine PE.wk (pe_tupRg o.calm (o.gl hgx) (o.blt _ (by decide +kernel)) (s_prg o hy hg h) rfl) fun σ H Q ⟨δ, F, Kc, st, nd, hw, hq⟩ => ?_
  rw [wpE, wpI] at hw
  refine ⟨δ, F, _, st, nd, hw, fun ds δ' H' F' kc rx => ?_⟩
  obtain ⟨lo, hi, e1, ⟨b1, b2, b3, b4⟩, hl, kc⟩ := kc
  refine ⟨lo, hi, e1, ⟨b1, b2, b3, b4, ?_⟩, fun p hp => hq _ _ _ _ _ _ kc (rx.newT hp (rgI lo hi))⟩
  rw [show (2 : Nat) ^ 24 = sizeLine from rfl, ← rng_len]; exact hl
theorem s_lstI (o : OkX E Γ k X sc) {x y : Str} {es : List Expr} {l : C} {q : Pos} (hx : (x == ("list" : Str)) = true) (hgx : globB sc x = true) (hy : (y == ("range" : Str)) = true) (hg : globB sc y = true) (h : rgExprs es l X Γ) :
    PE X (.Call (.Name x p3) [.Call (.Name y p2) es [] pos] [] q) (tE X.K (wpE Γ XF (.lstI (.rng l)))) := by
  rw [beq_iff_eq] at hx
  subst hx
  refine PE.wk (pe_listRg o.calm (o.gl hgx) (o.blt _ (by decide +kernel)) (s_prg o hy hg h) rfl) fun σ H Q ⟨δ, F, Kc, st, nd, hw, hq⟩ => ?_
  rw [wpE, wpI] at hw
  refine ⟨δ, F, _, st, nd, hw, fun ds δ' H' F' kc rx => ?_⟩
  obtain ⟨lo, hi, e1, ⟨b1, b2, b3, b4⟩, hl, kc⟩ := kc
  refine ⟨lo, hi, e1, ⟨b1, b2, b3, b4, ?_⟩, fun p hp => hq _ _ _ _ _ _ kc (rx.newL hp (rgI lo hi))⟩
  rw [show (2 : Nat) ^ 24 = sizeLine from rfl, ← rng_len]; exact hl
end
end Q
set_option Elab.async false
set_option linter.all false
set_option maxRecDepth 100000
set_option maxHeartbeats 1000000
/-! LL: what is walked; targets; list comprehensions. -/
namespace Q
open PySem PySem.Spec PyProof.Rows L2

/-! ### sources -/
structure SrcW (K : PySem.W.Frag) (s : Src) (J : It) (σ0 : L2.St) (H0 : Hp) : Prop where
  go : ∀ (i : Nat) (H : Hp) (σ : L2.St) (δ : De) (F : List Addr), i < s.items.length → Still H0 H → RS K H σ δ F → gdOk s.gd δ → (∀ g ∈ s.gd, σ[g.1]? = σ0[g.1]?) → J.go i H
  stop : ∀ (H : Hp) (σ : L2.St) (δ : De) (F : List Addr), Still H0 H → RS K H σ δ F → gdOk s.gd δ → (∀ g ∈ s.gd, σ[g.1]? = σ0[g.1]?) → J.stop s.items.length H
  yld : ∀ (i : Nat) (H : Hp) (σ : L2.St) (δ : De) (F : List Addr) (x : V) (H' : Hp), i < s.items.length → Still H0 H → RS K H σ δ F → gdOk s.gd δ → (∀ g ∈ s.gd, σ[g.1]? = σ0[g.1]?) → J.yld i H x H' → ∃ d, s.items[i]? = some d ∧ Mk K H x (.p d) H'
def tI (K : PySem.W.Frag) (W : De → (Src → De → Prop) → Prop) : TI := fun σ H R => ∃ δ F Kc, RS K H σ δ F ∧ F.Nodup ∧ W δ Kc ∧
  ∀ s δ' H' F' J, Kc s δ' → Rx K σ H F H' δ' [] [] F' [] → SrcW K s J σ H' → R J H'
section
variable {K : PySem.W.Frag} {H H1 : Hp} {σ : L2.St} {F F1 Fv : List Addr} {δ δ1 : De}
/-- what a value that is walked stands for -/
inductive VWalk (K : PySem.W.Frag) (H : Hp) (σ : L2.St) : V → Src → Prop
  | lst {a : Addr} {xs : List V} {ds : List PyData} : SqZ K H a xs → RPs K H xs ds → VWalk K H σ (.ref a) ⟨ds, []⟩
  | tup {a : Addr} {xs : List V} {ds : List PyData} : SqT K H a xs → RPs K H xs ds → VWalk K H σ (.ref a) ⟨ds, []⟩
  | str (z : Str) : VWalk K H σ (.str z) ⟨z.cps.toList.map fun c => .str ⟨#[c]⟩, []⟩
  | own {a : Addr} {xs : List V} {ds : List PyData} {i : Nat} : σ[i]? = some (some (.ref a)) → H a = some (.lst xs) → VWalk K H σ (.ref a) ⟨ds, [(i, ds)]⟩
theorem RS.own (st : RS K H σ δ F) {i : Nat} {a : Addr} {m : M} {ds : List PyData} (e : (δ[i]?).getD none = some m) (em : m.lst = some ds) (ev : σ[i]? = some (some (.ref a))) : ∃ xs, SqL K H a xs ∧ RPs K H xs ds := by
  obtain ⟨v, Fm, ev2, rm, _⟩ := st.get e
  rw [ev] at ev2; cases ev2
  obtain ⟨l, xs, e3, hl, rs⟩ := rm.lst em
  cases e3
  exact ⟨xs, hl, rs⟩
theorem RPs.lt {xs : List V} {ds : List PyData} (r : RPs K H xs ds) {i : Nat} (h : i < ds.length) : ∃ v d, xs[i]? = some v ∧ ds[i]? = some d ∧ RP K H v d := by
  obtain ⟨v, e, rp⟩ := r.get (List.getElem?_eq_getElem h)
  exact ⟨v, _, e, List.getElem?_eq_getElem h, rp⟩
/-- a list that stays as it is while it is walked -/
theorem src_list {a : Addr} {s : Src} {ds : List PyData} {σ0 : L2.St} {H0 : Hp} (e : s.items = ds)
    (h : ∀ (H : Hp) (σ : L2.St) (δ : De) (F : List Addr), Still H0 H → RS K H σ δ F → gdOk s.gd δ → (∀ g ∈ s.gd, σ[g.1]? = σ0[g.1]?) → ∃ xs, SqL K H a xs ∧ RPs K H xs ds) : SrcW K s (Itl K a) σ0 H0 := by
  subst e
  refine ⟨fun i H σ δ F hi st rs g e => ?_, fun H σ δ F st rs g e => ?_, fun i H σ δ F x H' hi st rs g e y => ?_⟩
  · obtain ⟨xs, h1, h2⟩ := h H σ δ F st rs g e
    obtain ⟨v, d, e1, _, _⟩ := h2.lt hi
    exact ⟨xs, v, h1, e1⟩
  · obtain ⟨xs, h1, h2⟩ := h H σ δ F st rs g e
    exact ⟨xs, h1, Nat.le_of_eq h2.length⟩
  · obtain ⟨xs, h1, h2⟩ := h H σ δ F st rs g e
    obtain ⟨v, d, e1, e2, rp⟩ := h2.lt hi
    obtain ⟨rfl, y2⟩ := y
    have := y2 xs h1
    rw [e1] at this; cases this
    exact ⟨d, e2, .pure rp⟩
theorem src_tup {a : Addr} {s : Src} {ds : List PyData} {σ0 : L2.St} {H0 : Hp} (e : s.items = ds) (h : ∀ (H : Hp), Still H0 H → ∃ xs, SqT K H a xs ∧ RPs K H xs ds) : SrcW K s (Itt K a) σ0 H0 := by
  subst e
  refine ⟨fun i H σ δ F hi st rs g e => ?_, fun H σ δ F st rs g e => ?_, fun i H σ δ F x H' hi st rs g e y => ?_⟩
  · obtain ⟨xs, h1, h2⟩ := h H st
    obtain ⟨v, d, e1, _, _⟩ := h2.lt hi
    exact ⟨xs, v, h1, e1⟩
  · obtain ⟨xs, h1, h2⟩ := h H st
    exact ⟨xs, h1, Nat.le_of_eq h2.length⟩
  · obtain ⟨xs, h1, h2⟩ := h H st
    obtain ⟨v, d, e1, e2, rp⟩ := h2.lt hi
    obtain ⟨rfl, y2⟩ := y
    have := y2 xs h1
    rw [e1] at this; cases this
    exact ⟨d, e2, .pure rp⟩
theorem src_str {z : Str} {σ0 : L2.St} {H0 : Hp} : SrcW K ⟨z.cps.toList.map fun c => .str ⟨#[c]⟩, []⟩ (Its z) σ0 H0 := by
  refine ⟨fun i H σ δ F hi st rs g e => ?_, fun H σ δ F st rs g e => ?_, fun i H σ δ F x H' hi st rs g e y => ?_⟩
  · show i < z.cps.size
    simpa using hi
  · show z.cps.size ≤ _; simp
  · obtain ⟨rfl, c, e1, rfl⟩ := y
    exact ⟨.str ⟨#[c]⟩, by simp [e1], .pure (.str _)⟩
theorem rngI_get {lo hi : Int} {i : Nat} (h : i < (rngItems lo hi).length) : (rngItems lo hi)[i]? = some (.int (lo + i)) := by
  rw [rng_len] at h
  unfold rngItems
  rw [List.getElem?_map, List.getElem?_range h]
  rfl
theorem src_rng {lo hi : Int} {n : Nat} {σ0 : L2.St} {H0 : Hp} (e : n = (hi - lo).toNat) : SrcW K ⟨rngItems lo hi, []⟩ (Itr lo n) σ0 H0 := by
  subst e
  refine ⟨fun i H σ δ F hi st rs g e => ?_, fun H σ δ F st rs g e => ?_, fun i H σ δ F x H' hi st rs g e y => ?_⟩
  · rw [rng_len] at hi; exact hi
  · show _ ≤ _; rw [rng_len]; exact Nat.le_refl _
  · obtain ⟨rfl, rfl⟩ := y
    exact ⟨_, rngI_get hi, .pure (.int _)⟩
theorem enum_get {ds : List PyData} {i : Nat} {d : PyData} (h : ds[i]? = some d) : (enumItems ds)[i]? = some (.tuple [.int (i : Nat), d]) := by
  unfold enumItems
  have hl : i < ds.length := by
    by_cases hi : i < ds.length
    · exact hi
    · rw [List.getElem?_eq_none (by omega)] at h; cases h
  simp [List.getElem?_zipWith, List.getElem?_range hl, h]
theorem enum_len (ds : List PyData) : (enumItems ds).length = ds.length := by unfold enumItems; simp
theorem src_enum {a : Addr} {ds : List PyData} {gd : List (Nat × List PyData)} {σ0 : L2.St} {H0 : Hp}
    (h : ∀ (H : Hp) (σ : L2.St) (δ : De) (F : List Addr), Still H0 H → RS K H σ δ F → gdOk gd δ → (∀ g ∈ gd, σ[g.1]? = σ0[g.1]?) → ∃ xs, SqL K H a xs ∧ RPs K H xs ds) : SrcW K ⟨enumItems ds, gd⟩ (Ite K a) σ0 H0 := by
  refine ⟨fun i H σ δ F hi st rs g e => ?_, fun H σ δ F st rs g e => ?_, fun i H σ δ F x H' hi st rs g e y => ?_⟩
  · obtain ⟨xs, h1, h2⟩ := h H σ δ F st rs g e
    simp only [enum_len] at hi
    obtain ⟨v, d, e1, _, _⟩ := h2.lt hi
    exact ⟨xs, v, h1, e1⟩
  · obtain ⟨xs, h1, h2⟩ := h H σ δ F st rs g e
    exact ⟨xs, h1, by simp only [enum_len]; exact Nat.le_of_eq h2.length⟩
  · obtain ⟨xs, h1, h2⟩ := h H σ δ F st rs g e
    simp only [enum_len] at hi
    obtain ⟨v, d, e1, e2, rp⟩ := h2.lt hi
    obtain ⟨T, w, rfl, hT, rfl, y2⟩ := y
    have := y2 xs h1
    rw [e1] at this; cases this
    exact ⟨_, enum_get e2, .tup hT (.cons (.int _) (.cons rp .nil))⟩
theorem VWalk.listy {v : V} {s : Src} (w : VWalk K H1 σ v s) : (∃ a, v = .ref a ∧ (∃ xs, SqL K H1 a xs) ∧ ∀ (H : Hp) (σ' : L2.St) (δ : De) (F : List Addr), Still H1 H → RS K H σ' δ F → gdOk s.gd δ → (∀ g ∈ s.gd, σ'[g.1]? = σ[g.1]?) → ∃ xs, SqL K H a xs ∧ RPs K H xs s.items) ∨
    (∃ a, v = .ref a ∧ (∃ xs, SqT K H1 a xs) ∧ ∀ (H : Hp), Still H1 H → ∃ xs, SqT K H a xs ∧ RPs K H xs s.items) ∨ ∃ z, v = .str z ∧ s = ⟨z.cps.toList.map fun c => .str ⟨#[c]⟩, []⟩ := by
  cases w with
  | lst h r => exact .inl ⟨_, rfl, ⟨_, h.sq⟩, fun H σ' δ F st _ _ _ => ⟨_, (st.sqz h).sq, r.still st⟩⟩
  | tup h r => exact .inr (.inl ⟨_, rfl, ⟨_, h⟩, fun H st => ⟨_, st.tup h, r.still st⟩⟩)
  | str z => exact .inr (.inr ⟨z, rfl, rfl⟩)
  | @own a xs ds i e h =>
    refine .inl ⟨_, rfl, ⟨_, .of h⟩, fun H σ' δ F st rs g es => ?_⟩
    obtain ⟨m, e1, e2⟩ := g (i, ds) (List.mem_singleton.mpr rfl)
    exact rs.own e1 e2 (by rw [es (i, ds) (List.mem_singleton.mpr rfl)]; exact e)
/-- a value is to be walked -/
theorem src_ok {v : V} {x : Val} {s : Src} {Q : V → Hp → Prop} (r : Rx K σ H F H1 δ1 [v] [x] F1 Fv) (hs : srcOf δ1 x = some s)
    (hq : ∀ H' F', VWalk K H' σ v s → Rx K σ H F H' δ1 [] [] F' [] → Q v H') : Q v H1 ∨ ∃ a u, v = .ref a ∧ H1 a = some u ∧ Mut (some u) ∧ ∀ od, Q v (upd H1 a (.frz od u)) := by
  cases x with
  | «at» i =>
    simp only [srcOf] at hs
    split at hs
    · rename_i ds e
      cases hs
      obtain ⟨ev, rfl⟩ := r.vl.one'
      obtain ⟨v', Fm, ev', rm, _⟩ := r.st.get e
      rw [ev] at ev'; cases ev'
      cases rm with
      | l h1 h2 => exact .inl (hq _ _ (.own ev h1) r.drop)
    · cases hs
  | own m =>
    cases m with
    | p d =>
      have rm : RM K H1 v (.p d) Fv := r.vl.one'
      cases rm with
      | p rp =>
        refine .inl ?_
        cases rp <;> simp only [srcOf, M.seq, Option.map_none, Option.map_some, reduceCtorEq, Option.some.injEq] at hs
        · subst hs; exact hq _ _ (.str _) r.drop
        · rename_i h1 h2; subst hs; exact hq _ _ (.lst h1 h2) r.drop
        · rename_i h1 h2; subst hs; exact hq _ _ (.tup h1 h2) r.drop
    | l ds =>
      simp only [srcOf, M.seq, Option.map_some, Option.some.injEq] at hs
      subst hs
      refine frz_ok (P := fun d δ' => d = .list ds ∧ δ' = δ1) (Q := Q) r ⟨rfl, rfl⟩ fun d δ' H' F' ⟨e1, e2⟩ rp rx => ?_
      subst e1 e2
      cases rp with
      | lst h1 h2 => exact hq _ _ (.lst h1 h2) rx.drop
    | dc kvs => simp [srcOf, M.seq] at hs
theorem lsrc_ok {v : V} {x : Val} {s : Src} {Q : V → Hp → Prop} (r : Rx K σ H F H1 δ1 [v] [x] F1 Fv) (hs : lsrcOf δ1 x = some s)
    (hq : ∀ H' F' a, v = .ref a → (∃ xs, SqL K H' a xs) → (∀ (H : Hp) (σ' : L2.St) (δ : De) (F : List Addr), Still H' H → RS K H σ' δ F → gdOk s.gd δ → (∀ g ∈ s.gd, σ'[g.1]? = σ[g.1]?) → ∃ xs, SqL K H a xs ∧ RPs K H xs s.items) →
      Rx K σ H F H' δ1 [] [] F' [] → Q v H') : Q v H1 ∨ ∃ a u, v = .ref a ∧ H1 a = some u ∧ Mut (some u) ∧ ∀ od, Q v (upd H1 a (.frz od u)) := by
  cases x with
  | «at» i =>
    simp only [lsrcOf] at hs
    split at hs
    · rename_i ds e
      cases hs
      obtain ⟨ev, rfl⟩ := r.vl.one'
      obtain ⟨v', Fm, ev', rm, _⟩ := r.st.get e
      rw [ev] at ev'; cases ev'
      cases rm with
      | l h1 h2 => 
        refine .inl (hq _ _ _ rfl ⟨_, .of h1⟩ (fun H σ' δ F st rs g es => ?_) r.drop)
        obtain ⟨m, e1, e2⟩ := g (i, ds) (List.mem_singleton.mpr rfl)
        exact rs.own e1 e2 (by rw [es (i, ds) (List.mem_singleton.mpr rfl)]; exact ev)
    · cases hs
  | own m =>
    cases m with
    | p d =>
      have rm : RM K H1 v (.p d) Fv := r.vl.one'
      cases rm with
      | p rp =>
        refine .inl ?_
        cases rp <;> simp only [lsrcOf, M.lst, Option.map_none, Option.map_some, reduceCtorEq, Option.some.injEq] at hs
        · rename_i h1 h2; subst hs
          exact hq _ _ _ rfl ⟨_, h1.sq⟩ (fun H σ' δ F st _ _ _ => ⟨_, (st.sqz h1).sq, h2.still st⟩) r.drop
    | l ds =>
      simp only [lsrcOf, M.lst, Option.map_some, Option.some.injEq] at hs
      subst hs
      refine frz_ok (P := fun d δ' => d = .list ds ∧ δ' = δ1) (Q := Q) r ⟨rfl, rfl⟩ fun d δ' H' F' ⟨e1, e2⟩ rp rx => ?_
      subst e1 e2
      cases rp with
      | lst h1 h2 => exact hq _ _ _ rfl ⟨_, h1.sq⟩ (fun H σ' δ F st _ _ _ => ⟨_, (st.sqz h1).sq, h2.still st⟩) rx.drop
    | dc kvs => simp [lsrcOf, M.lst] at hs
end
section
variable {E : SE} {Γ : List Spec} {k : Nat} {X : Cx} {sc : Scope} {pos p2 p3 : Pos} {tg : Expr}
theorem it_list {pins : List (Addr × Obj)} {s : Shared} {σ : L2.St} {H : Hp} {R : It → Hp → Prop} {a : Addr} {xs : List V} (I : Inv X pins σ H s) (hq : SqL X.K H a xs) (q : R (Itl X.K a) H) :
    wpAny (model X.prog X.w) X.A (pyIter (.ref a)) (PIE X pins σ tg R) X.xe s := by
  obtain ⟨its, rv, p, hz⟩ := I.list hq
  exact wpAny_pyIter_list p.isList (pi_one (tk := s.toks) I _ (turn_list a _) ⟨_, Heap.get?_push_size _ rfl, rfl, rfl⟩ q)
theorem it_tup {pins : List (Addr × Obj)} {s : Shared} {σ : L2.St} {H : Hp} {R : It → Hp → Prop} {a : Addr} {xs : List V} (I : Inv X pins σ H s) (hq : SqT X.K H a xs) (q : R (Itt X.K a) H) :
    wpAny (model X.prog X.w) X.A (pyIter (.ref a)) (PIE X pins σ tg R) X.xe s := by
  obtain ⟨its, rv, p, hz⟩ := I.tuple hq
  exact wpAny_pyIter_tuple (show s.heap.IsTuple a its.toArray from p) (pi_one (tk := s.toks) I _ (turn_tuple a _) ⟨_, Heap.get?_push_size _ rfl, rfl, rfl⟩ q)
theorem it_str {pins : List (Addr × Obj)} {s : Shared} {σ : L2.St} {H : Hp} {R : It → Hp → Prop} {z : Str} {t : Tok} (I : Inv X pins σ H s) (q : R (Its z) H) :
    wpAny (model X.prog X.w) X.A (pyIter (.str z t)) (PIE X pins σ tg R) X.xe s := by
  cases ha : z.cps.all (· < 128)
  · exact wpAny_pyIter_wide ha (pi_one (tk := s.toks) I _ (turn_str _ z t "str_iterator" (.inr rfl)) ⟨_, Heap.get?_push_size _ rfl, rfl, rfl⟩ q)
  · exact wpAny_pyIter_ascii ha (pi_one (tk := s.toks) I _ (turn_str _ z t "str_ascii_iterator" (.inl rfl)) ⟨_, Heap.get?_push_size _ rfl, rfl, rfl⟩ q)
def iVal (K : PySem.W.Frag) (te : TE) : TI := fun σ H R => te σ H fun v H1 => (∃ a xs, v = .ref a ∧ SqL K H1 a xs ∧ R (Itl K a) H1) ∨ (∃ a xs, v = .ref a ∧ SqT K H1 a xs ∧ R (Itt K a) H1) ∨ ∃ z, v = .str z ∧ R (Its z) H1
theorem pi_val {e : Expr} {te : TE} (he : PE X e te) : PI X tg e (iVal X.K te) := by
  refine ⟨fun pins s σ H R I h => thn (he.run pins s σ H _ I h) fun v s1 ⟨x, H1, I1, r1, q1⟩ => ?_⟩
  rcases q1 with ⟨a, xs, rfl, hq, q⟩ | ⟨a, xs, rfl, hq, q⟩ | ⟨z, rfl, q⟩
  · cases r1; exact it_list I1 hq q
  · cases r1; exact it_tup I1 hq q
  · obtain ⟨t, rfl⟩ := r1; exact it_str I1 q
theorem PI.wk {e : Expr} {t t' : TI} (h : PI X tg e t) (w : ∀ σ H R, t' σ H R → t σ H R) : PI X tg e t' := ⟨fun pins s σ H R I hw => h.run pins s σ H R I (w σ H R hw)⟩
theorem i_sv {e : Expr} {a : C} (ha : PE X e (tE X.K (wpE Γ XF a))) : PI X tg e (tI X.K (wpI Γ XF (.sv a))) :=
  PI.wk (pi_val (pe_ghost ha)) fun σ H R ⟨δ, F, Kc, st, nd, hw, hq⟩ => by
    rw [wpI] at hw
    refine ⟨δ, F, _, st, nd, hw, fun x δ1 v H1 F1 Fv ⟨s, hs, kc⟩ r1 => src_ok (Q := fun v H1 => (∃ a xs, v = .ref a ∧ SqL X.K H1 a xs ∧ R (Itl X.K a) H1) ∨ (∃ a xs, v = .ref a ∧ SqT X.K H1 a xs ∧ R (Itt X.K a) H1) ∨ ∃ z, v = .str z ∧ R (Its z) H1) r1 hs fun H' F' vw rx => ?_⟩
    rcases vw.listy with ⟨b, rfl, ⟨xs, h1⟩, h2⟩ | ⟨b, rfl, ⟨xs, h1⟩, h2⟩ | ⟨z, rfl, rfl⟩
    · exact .inl ⟨b, xs, rfl, h1, hq _ _ _ _ _ kc rx (src_list rfl h2)⟩
    · exact .inr (.inl ⟨b, xs, rfl, h1, hq _ _ _ _ _ kc rx (src_tup rfl h2)⟩)
    · exact .inr (.inr ⟨z, rfl, hq _ _ _ _ _ kc rx src_str⟩)
theorem i_rng (o : OkX E Γ k X sc) {y : Str} {es : List Expr} {l : C} (hy : (y == ("range" : Str)) = true) (hg : globB sc y = true) (h : rgExprs es l X Γ) : PI X tg (.Call (.Name y p2) es [] pos) (tI X.K (wpI Γ XF (.rng l))) := by
  rw [beq_iff_eq] at hy
  subst hy
  have hm := o.blt "range" (by decide +kernel)
  rcases h with ⟨e, a, rfl, rfl, pl, pe⟩ | ⟨e1, e2, a, b, rfl, rfl, pl1, pl2, pe1, pe2⟩
  · refine PI.wk (pi_range1 (o.gl hg) hm (pa_cons (s_F1 pe) pa_nil (plain_star pl _ _)) (plain_star pl _ _)) fun σ H R ⟨δ, F, Kc, st, nd, hw, hq⟩ => ?_
    rw [wpI] at hw
    refine ⟨δ, F, _, st, nd, hw, fun d δ' v H' F' kc rp rx => ?_⟩
    obtain ⟨lo, hi, e1, ⟨b1, b2, b3, b4⟩, kc⟩ := kc
    cases rp <;> first | (simp [rngOf] at e1; done) | skip
    simp only [rngOf, Option.some.injEq, Prod.mk.injEq] at e1
    obtain ⟨rfl, rfl⟩ := e1
    exact ⟨_, rfl, b3, b4, hq _ _ _ _ _ kc rx.drop (src_rng (by omega))⟩
  · refine PI.wk (pi_range2 (o.gl hg) hm (pa_cons (pe_ghost pe1) (pa_cons (s_F1 pe2) pa_nil (plain_star pl2 _ _)) (plain_star pl1 _ _)) (by rw [plain_star pl1, plain_star pl2]; rfl) (plain_star pl2 _ _)) fun σ H R ⟨δ, F, Kc, st, nd, hw, hq⟩ => ?_
    rw [wpI, wpF] at hw
    refine ⟨δ, F, _, st, nd, hw, fun x δ1 v H1 F1 Fv k1 r1 => ?_⟩
    refine frz_ok (Q := fun x H1 => tCons (fun σ H Q => ∃ δ F Kc, RS X.K H σ δ F ∧ F.Nodup ∧ wpF Γ XF (.cons b .nil) δ Kc ∧
      ∀ d δ' v H' F', Kc [d] δ' → RP X.K H' v d → Rx X.K σ H F H' δ' [v] [pv d] F' [] → Q v H') tNil σ H1 fun vs H2 => ∃ i j : Int, x :: vs = [.int i, .int j] ∧ (-(2 ^ 62) ≤ i ∧ i < 2 ^ 62 ∧ -(2 ^ 62) ≤ j ∧ j < 2 ^ 62) ∧ R (Itr i (j - i).toNat) H2) r1 k1 fun d δ' H' F' p rp rx => ?_
    refine ⟨δ', F', _, rx.st, nd_right rx.nd, p, fun d2 δ2 v2 H2 F2 k2 rp2 r2 => ?_⟩
    obtain ⟨lo, hi, e1, bb, kc⟩ := k2
    cases rp <;> first | (simp [rngOf] at e1; done) | skip
    cases rp2 <;> first | (simp [rngOf] at e1; done) | skip
    simp only [rngOf, Option.some.injEq, Prod.mk.injEq] at e1
    obtain ⟨rfl, rfl⟩ := e1
    exact ⟨_, _, rfl, bb, hq _ _ _ _ _ kc (rx.step r2).drop (src_rng rfl)⟩
theorem i_enum (o : OkX E Γ k X sc) {y : Str} {e : Expr} {a : C} {elts : List Expr} {kk : Nat} {tpos : Pos} (hy : (y == ("enumerate" : Str)) = true) (hg : globB sc y = true) (pl : plainB e = true) (ha : PE X e (tE X.K (wpE Γ XF a))) :
    PI X (.Tuple elts kk tpos) (.Call (.Name y p2) [e] [] pos) (tI X.K (wpI Γ XF (.enum a))) := by
  rw [beq_iff_eq] at hy
  subst hy
  refine PI.wk (pi_enum (o.gl hg) (o.blt _ (by decide +kernel)) (pa_cons (pe_ghost ha) pa_nil (plain_star pl _ _)) (plain_star pl _ _)) fun σ H R ⟨δ, F, Kc, st, nd, hw, hq⟩ => ?_
  rw [wpI] at hw
  refine ⟨δ, F, _, st, nd, hw, fun x δ1 v H1 F1 Fv ⟨s, hs, kc⟩ r1 => lsrc_ok (Q := fun v H1 => ∃ a xs, [v] = [V.ref a] ∧ SqL X.K H1 a xs ∧ R (Ite X.K a) H1) r1 hs fun H' F' b e ⟨xs, h1⟩ h2 rx => ?_⟩
  subst e
  exact ⟨b, xs, rfl, h1, hq _ _ _ _ _ kc rx (src_enum h2)⟩

/-! ### targets -/
def gT (K : PySem.W.Frag) (lk : List Nat) (tg : Tg) : TG := fun v σ H Q => ∃ δ F d δ', RS K H σ δ F ∧ F.Nodup ∧ RP K H v d ∧ bindT lk tg d δ = some δ' ∧
  ∀ σ' F', RS K H σ' δ' F' → F'.Nodup → (∀ a ∈ F', a ∈ F) → (∀ j, j ∉ tgS tg → σ'[j]? = σ[j]?) → (∀ j ∈ lk, σ'[j]? = σ[j]?) → Q σ' H
def gTs (K : PySem.W.Frag) (lk : List Nat) (tg : Tg) : TGs := fun vs σ H Q => ∃ δ F ds δ', RS K H σ δ F ∧ F.Nodup ∧ RPs K H vs ds ∧ bindTs lk tg ds δ = some δ' ∧
  ∀ σ' F', RS K H σ' δ' F' → F'.Nodup → (∀ a ∈ F', a ∈ F) → (∀ j, j ∉ tgS tg → σ'[j]? = σ[j]?) → (∀ j ∈ lk, σ'[j]? = σ[j]?) → Q σ' H
theorem bindT_tup (lk : List Nat) (a as : Tg) (ds : List PyData) (δ : De) : bindT lk (.tc a as) (.tuple ds) δ = bindTs lk (.tc a as) ds δ := by
  cases ds with
  | nil => simp [bindT, bindTs]
  | cons d ds => rw [bindT, bindTs]
def tgN : Tg → Nat
  | .tc _ as => tgN as + 1
  | _ => 0
theorem bindTs_len {lk : List Nat} : ∀ {tg : Tg} {ds : List PyData} {δ δ' : De}, bindTs lk tg ds δ = some δ' → ds.length = tgN tg
  | .t0, [], _, _, _ => rfl
  | .t0, _ :: _, _, _, h => by simp [bindTs] at h
  | .n _, ds, _, _, h => by simp [bindTs] at h
  | .tc _ _, [], _, _, h => by simp [bindTs] at h
  | .tc a as, d :: ds, δ, δ', h => by
    rw [bindTs] at h
    split at h
    · exact congrArg (· + 1) (bindTs_len h)
    · cases h
theorem chkGs_len {sc fs : Scope} : ∀ {tg : Tg} {es : List Expr}, chkGs E sc fs tg es = true → es.length = tgN tg ∧ plains es = true
  | .t0, [], _ => ⟨rfl, rfl⟩
  | .t0, _ :: _, h => by simp [chkGs] at h
  | .n _, _, h => by simp [chkGs] at h
  | .tc _ _, [], h => by simp [chkGs] at h
  | .tc a as, e :: es, h => by
    simp only [chkGs, Bool.and_eq_true] at h
    obtain ⟨l, p⟩ := chkGs_len h.2
    exact ⟨congrArg (· + 1) l, by unfold plains at p ⊢; rw [List.all_cons, h.1.1, p]; rfl⟩
theorem plains_assign {env : Env} : ∀ {es : List Expr}, plains es = true → assignEach es env = es.map fun e => (false, assign e env)
  | [], _ => rfl
  | e :: es, h => by
    unfold plains at h
    rw [List.all_cons, Bool.and_eq_true] at h
    rw [plain_assign h.1, plains_assign (es := es) h.2]; rfl
theorem none_find {env : Env} : ∀ es : List Expr, (es.map fun e => (false, assign e env)).findIdx? (·.1) = none
  | [] => rfl
  | e :: es => by
    rw [List.map_cons, List.findIdx?_cons, none_find es]; rfl
theorem g_name (o : OkX E Γ k X sc) {fs : Scope} (hf : ∀ x, fs.names.lookup x = some .cell → X.fn x = true) (lk : List Nat) {i : Nat} {x : Str} (h1 : decide (E.N[i]? = some x) = true) (h2 : tgtB sc fs x = true) : PG X (.Name x pos) (gT X.K lk (.n i)) := by
  obtain ⟨l1, l2⟩ := o.tgt hf h2
  obtain ⟨run⟩ := pg_name (X := X) (pos := pos) (by rw [o.hN]; exact o.nd) (o.at h1) l1 l2
  refine ⟨fun pins s σ H v u Q I r ⟨δ, F, d, δ', st, nd, rp, hb, hq⟩ => run pins s σ H v u Q I r ?_⟩
  rw [bindT] at hb
  split at hb
  · cases hb
  · rename_i hlk
    split at hb
    · rename_i hi
      cases hb
      obtain ⟨Fm, R, pm, g, z, up⟩ := st.upd i hi
      obtain ⟨F', w, q⟩ := up H [] v (.p d) [] (Keep.refl _ _) (Still.refl _) (fun _ _ h => by cases h) (.p rp)
      refine hq _ F' w ?_ (fun a ha => ?_) (fun j hj => ?_) fun j hj => ?_
      · exact q.nodup_iff.mpr (by simpa using nd_right (pm.nodup_iff.mp nd))
      · exact pm.mem_iff.mpr (List.mem_append_right _ (by simpa using q.mem_iff.mp ha))
      · rw [List.getElem?_set_ne]
        intro e; subst e; exact hj (List.mem_singleton.mpr rfl)
      · rw [List.getElem?_set_ne]
        intro e; subst e; exact hlk hj
    · cases hb
theorem gs_cons {lk : List Nat} {a as : Tg} {e : Expr} {es : List Expr} (pl : plainB e = true) (h1 : PG X e (gT X.K lk a)) (h2 : PGs X es (gTs X.K lk as)) : PGs X (e :: es) (gTs X.K lk (.tc a as)) := by
  obtain ⟨run⟩ := pgs_cons h1 h2 (by rw [plain_assign pl]; rfl)
  refine ⟨fun pins s σ H vs us Q I r ⟨δ, F, ds, δ', st, nd, rp, hb, hq⟩ => run pins s σ H vs us Q I r ?_⟩
  cases rp with
  | nil => simp [bindTs] at hb
  | @cons v vs d ds ra rs =>
    rw [bindTs] at hb
    split at hb
    · rename_i δ1 e1
      refine ⟨v, vs, rfl, δ, F, d, δ1, st, nd, ra, e1, fun σ1 F1 w1 n1 s1 t1 l1 => ⟨δ1, F1, ds, δ', w1, n1, rs, hb, fun σ2 F2 w2 n2 s2 t2 l2 => ?_⟩⟩
      refine hq _ _ w2 n2 (fun x hx => s1 x (s2 x hx)) (fun j hj => ?_) fun j hj => (l2 j hj).trans (l1 j hj)
      simp only [tgS, List.mem_append, not_or] at hj
      exact (t2 j hj.2).trans (t1 j hj.1)
    · cases hb
mutual
theorem g_ok (o : OkX E Γ k X sc) {fs : Scope} (hf : ∀ x, fs.names.lookup x = some .cell → X.fn x = true) (lk : List Nat) : ∀ (tg : Tg) (e : Expr), chkG E sc fs tg e = true → PG X e (gT X.K lk tg)
  | .n i, e, h => by
    cases e <;> first | (simp [chkG] at h; done) | skip
    simp only [chkG, Bool.and_eq_true] at h
    exact g_name o hf lk h.1 h.2
  | .t0, e, h => by
    cases e <;> first | (simp [chkG] at h; done) | skip
    rename_i es _ _
    cases es with
    | cons _ _ => simp [chkG] at h
    | nil =>
      obtain ⟨run⟩ := pg_tup (X := X) (es := []) o.calm pgs_nil
      refine ⟨fun pins s σ H v u Q I r ⟨δ, F, d, δ', st, nd, rp, hb, hq⟩ => run pins s σ H v u Q I r ?_⟩
      cases d <;> first | (simp [bindT] at hb; done) | skip
      rename_i ds
      cases ds <;> first | (simp [bindT] at hb; done) | skip
      rw [bindT] at hb
      cases hb
      obtain ⟨b, xs, rfl, h1, h2⟩ := RM.pT (.p rp)
      cases h2
      exact ⟨b, [], rfl, h1, rfl, rfl, hq σ F st nd (fun _ h => h) (fun _ _ => rfl) fun _ _ => rfl⟩
  | .tc a as, e, h => by
    cases e <;> first | (simp [chkG] at h; done) | skip
    rename_i es _ _
    cases es with
    | nil => simp [chkG] at h
    | cons e es =>
      simp only [chkG, Bool.and_eq_true] at h
      have hc : chkGs E sc fs (.tc a as) (e :: es) = true := by simp only [chkGs, Bool.and_eq_true]; exact h
      obtain ⟨hl, hp⟩ := chkGs_len hc
      obtain ⟨run⟩ := pg_tup (X := X) (es := e :: es) o.calm (gs_cons h.1.1 (g_ok o hf lk a e h.1.2) (gs_ok o hf lk as es h.2)) rfl (by rw [plains_assign hp]; exact none_find _)
      refine ⟨fun pins s σ H v u Q I r ⟨δ, F, d, δ', st, nd, rp, hb, hq⟩ => run pins s σ H v u Q I r ?_⟩
      cases d <;> first | (simp [bindT] at hb; done) | skip
      rename_i ds
      obtain ⟨b, xs, rfl, h1, h2⟩ := RM.pT (.p rp)
      rw [bindT_tup] at hb
      refine ⟨b, xs, rfl, h1, ?_, δ, F, ds, δ', st, nd, h2, hb, hq⟩
      rw [plains_assign hp, h2.length, bindTs_len hb, List.length_map, hl]
theorem gs_ok (o : OkX E Γ k X sc) {fs : Scope} (hf : ∀ x, fs.names.lookup x = some .cell → X.fn x = true) (lk : List Nat) : ∀ (tg : Tg) (es : List Expr), chkGs E sc fs tg es = true → PGs X es (gTs X.K lk tg)
  | .n i, es, h => by simp [chkGs] at h
  | .t0, es, h => by
    cases es with
    | cons _ _ => simp [chkGs] at h
    | nil =>
      obtain ⟨run⟩ := pgs_nil (X := X)
      refine ⟨fun pins s σ H vs us Q I r ⟨δ, F, ds, δ', st, nd, rp, hb, hq⟩ => run pins s σ H vs us Q I r ?_⟩
      cases ds <;> first | (simp [bindTs] at hb; done) | skip
      rw [bindTs] at hb
      cases hb
      cases rp
      exact ⟨rfl, hq σ F st nd (fun _ h => h) (fun _ _ => rfl) fun _ _ => rfl⟩
  | .tc a as, es, h => by
    cases es with
    | nil => simp [chkGs] at h
    | cons e es =>
      simp only [chkGs, Bool.and_eq_true] at h
      exact gs_cons h.1.1 (g_ok o hf lk a e h.1.2) (gs_ok o hf lk as es h.2)
end
end
end Q
set_option Elab.async false
set_option linter.all false
set_option maxRecDepth 100000
set_option maxHeartbeats 1000000
/-! LM: list comprehensions. -/
namespace Q
open PySem PySem.Spec PyProof.Rows L2

section
variable {K : PySem.W.Frag} {H H1 : Hp} {σ : L2.St} {F F1 Fv : List Addr} {δ δ1 : De}
/-- nothing is told of a place: anything may stand there -/
theorem RS.blank : ∀ {σ : L2.St} {δ : De} {F : List Addr} (i : Nat) (x : Option V), RS K H σ δ F → δ[i]? = some none → RS K H (σ.set i x) δ F
  | _, _, _, _, _, .nil, h => by simp at h
  | _, _, _, 0, x, .no b, h => .no b
  | _, _, _, 0, x, .so a b, h => by simp at h
  | _, _, _, i + 1, x, .no b, h => .no (RS.blank i x b (by simpa using h))
  | _, _, _, i + 1, x, .so a b, h => .so a (RS.blank i x b (by simpa using h))
/-- what a place held is let go of -/
theorem RS.forget (st : RS K H σ δ F) (nd : F.Nodup) (i : Nat) (x : Option V) : ∃ F', RS K H (σ.set i x) (δ.set i none) F' ∧ F'.Nodup ∧ ∀ a ∈ F', a ∈ F := by
  by_cases hi : i < δ.length
  · obtain ⟨Fm, R, pm, g, z, up⟩ := st.upd i hi
    refine ⟨R, ?_, nd_right (pm.nodup_iff.mp nd), fun a ha => pm.mem_iff.mpr (List.mem_append_right _ ha)⟩
    exact RS.blank i x z (by simp [hi])
  · have e1 : σ.set i x = σ := List.set_eq_of_length_le (by rw [st.length]; omega)
    have e2 : δ.set i none = δ := List.set_eq_of_length_le (by omega)
    rw [e1, e2]
    exact ⟨F, st, nd, fun _ h => h⟩
theorem RS.wipes (st : RS K H σ δ F) (nd : F.Nodup) : ∀ is : List Nat, ∃ F', RS K H (L2.wipe σ is) (wipe δ is) F' ∧ F'.Nodup ∧ ∀ a ∈ F', a ∈ F
  | [] => ⟨F, st, nd, fun _ h => h⟩
  | i :: is => by
    obtain ⟨F1, s1, n1, h1⟩ := RS.wipes st nd is
    obtain ⟨F2, s2, n2, h2⟩ := s1.forget n1 i none
    exact ⟨F2, s2, n2, fun a ha => h1 a (h2 a ha)⟩
theorem wipe_len (δ : De) : ∀ is : List Nat, (wipe δ is).length = δ.length
  | [] => rfl
  | i :: is => by unfold wipe; rw [List.length_set, wipe_len δ is]
theorem wipe_get {δ : De} {i : Nat} : ∀ {is : List Nat}, i ∉ is → (wipe δ is)[i]? = δ[i]?
  | [], _ => rfl
  | j :: is, h => by
    simp only [List.mem_cons, not_or] at h
    unfold wipe
    rw [List.getElem?_set_ne (fun e => h.1 e.symm), wipe_get h.2]
theorem wipeV_get {σ : L2.St} {i : Nat} : ∀ {is : List Nat}, i ∉ is → (L2.wipe σ is)[i]? = σ[i]?
  | [], _ => rfl
  | j :: is, h => by
    simp only [List.mem_cons, not_or] at h
    unfold L2.wipe
    rw [List.getElem?_set_ne (fun e => h.1 e.symm), wipeV_get h.2]
theorem wipeV_mem {σ : L2.St} {i : Nat} : ∀ {is : List Nat}, i ∈ is → i < σ.length → (L2.wipe σ is)[i]? = some none
  | j :: is, h, hl => by
    unfold L2.wipe
    by_cases e : j = i
    · subst e
      rw [List.getElem?_set_self (by rw [wipe_length]; exact hl)]
    · rw [List.getElem?_set_ne e]
      rcases List.mem_cons.mp h with z | z
      · exact absurd z.symm e
      · exact wipeV_mem z hl
theorem wipeV_eq {σ τ : L2.St} {is : List Nat} (hl : σ.length = τ.length) (h : ∀ j, j ∉ is → σ[j]? = τ[j]?) : L2.wipe σ is = L2.wipe τ is := by
  apply List.ext_getElem?
  intro j
  by_cases hj : j ∈ is
  · by_cases hlt : j < σ.length
    · rw [wipeV_mem hj hlt, wipeV_mem hj (by omega)]
    · rw [List.getElem?_eq_none (by rw [wipe_length]; omega), List.getElem?_eq_none (by rw [wipe_length]; omega)]
  · rw [wipeV_get hj, wipeV_get hj, h j hj]
def backV (σ σ' : L2.St) : List Nat → L2.St
  | [] => σ'
  | i :: is => (backV σ σ' is).set i ((σ[i]?).getD none)
theorem backV_len (σ σ' : L2.St) : ∀ is, (backV σ σ' is).length = σ'.length
  | [] => rfl
  | i :: is => by unfold backV; rw [List.length_set, backV_len σ σ' is]
theorem backV_eq {σ σ' : L2.St} (hl : σ'.length = σ.length) : ∀ (is : List Nat) (j : Nat), ((j ∈ is ∨ σ'[j]? = σ[j]?) → (backV σ σ' is)[j]? = σ[j]?)
  | [], j, h => by
    rcases h with h | h
    · cases h
    · exact h
  | i :: is, j, h => by
    unfold backV
    by_cases e : i = j
    · subst e
      by_cases hi : i < σ.length
      · rw [List.getElem?_set_self (by rw [backV_len]; omega), List.getElem?_eq_getElem hi]; rfl
      · rw [List.getElem?_eq_none (by rw [List.length_set, backV_len]; omega), List.getElem?_eq_none (by omega)]
    · rw [List.getElem?_set_ne e]
      refine backV_eq hl is j ?_
      rcases h with h | h
      · rcases List.mem_cons.mp h with z | z
        · exact absurd z.symm e
        · exact .inl z
      · exact .inr h
/-- the names of a block stand again as they stood -/
theorem RS.backs {δ₀ : De} {F0 : List Addr} (s0 : RS K H1 σ δ₀ F0) (sl : Still H1 H) {σ' : L2.St} (hl : σ'.length = σ.length) : ∀ (is : List Nat) {F : List Addr}, lightAll δ₀ is = true → RS K H σ' δ F → F.Nodup → ∃ F', RS K H (backV σ σ' is) (back δ₀ δ is) F' ∧ F'.Nodup ∧ ∀ a ∈ F', a ∈ F
  | [], F, _, st, nd => ⟨F, st, nd, fun _ h => h⟩
  | i :: is, F, hli, st, nd => by
    unfold lightAll at hli
    rw [List.all_cons, Bool.and_eq_true, Bool.and_eq_true, decide_eq_true_eq] at hli
    obtain ⟨⟨h1, h2⟩, h3⟩ := hli
    obtain ⟨F1, s1, n1, u1⟩ := RS.backs s0 sl hl is h3 st nd
    unfold back backV
    cases e : (δ₀[i]?).getD none with
    | none =>
      obtain ⟨F2, s2, n2, u2⟩ := s1.forget n1 i ((σ[i]?).getD none)
      exact ⟨F2, s2, n2, fun a ha => u1 a (u2 a ha)⟩
    | some m =>
      rw [e] at h2
      cases m with
      | l _ => cases h2
      | dc _ => cases h2
      | p d =>
        obtain ⟨v, Fm, ev, rm, _⟩ := s0.get e
        cases rm with
        | p rp =>
          have hi : i < (back δ₀ δ is).length := by
            rw [← s1.length, backV_len, hl, s0.length]; exact h1
          obtain ⟨Fm, R, pm, g, z, up⟩ := s1.upd i hi
          obtain ⟨F', w, q⟩ := up H [] v (.p d) [] (Keep.refl _ _) (Still.refl _) (fun _ _ h => by cases h) (.p (rp.still sl))
          rw [ev]
          exact ⟨F', w, q.nodup_iff.mpr (by simpa using nd_right (pm.nodup_iff.mp n1)), fun a ha => u1 a (pm.mem_iff.mpr (List.mem_append_right _ (by simpa using q.mem_iff.mp ha)))⟩
end

theorem upd_id {H : Hp} {a : Addr} {o : HO} (h : H a = some o) : upd H a o = H := by
  funext b
  by_cases e : b = a
  · subst e; rw [upd_same, h]
  · rw [upd_ne e]
section
variable {E : SE} {Γ : List Spec} {k : Nat} {X : Cx} {sc : Scope} {pos p2 p3 : Pos}
theorem Still.trans {H1 H2 H3 : Hp} (a : Still H1 H2) (b : Still H2 H3) : Still H1 H3 := fun x o e n => b x o (a x o e n) n
/-- what is written is owned, or new -/
structure Tr (A : Hp) (F : List Addr) (B : Hp) (F' : List Addr) : Prop where
  kp : Keep A B F
  fr : Fresh A F F'
theorem Tr.none {A B : Hp} {F F' : List Addr} (t : Tr A F B F') {x : Addr} (h : B x = none) : x ∈ F ∨ A x = none := by
  by_cases hF : x ∈ F
  · exact .inl hF
  · refine .inr ?_
    cases e : A x with
    | none => rfl
    | some o => rw [t.kp x o e hF] at h; cases h
theorem Tr.trans {A B C : Hp} {F F' F'' : List Addr} (a : Tr A F B F') (b : Tr B F' C F'') : Tr A F C F'' := by
  refine ⟨fun x o e n => b.kp x o (a.kp x o e n) fun z => ?_, fun x hx => ?_⟩
  · rcases a.fr x z with y | y
    · exact n y
    · rw [e] at y; cases y
  · rcases b.fr x hx with z | z
    · exact a.fr x z
    · exact a.none z
theorem Tr.sub {A B : Hp} {F F' F'' : List Addr} (a : Tr A F B F') (h : ∀ x ∈ F'', x ∈ F') : Tr A F B F'' := ⟨a.kp, fun x hx => a.fr x (h x hx)⟩
theorem Tr.refl (A : Hp) (F : List Addr) : Tr A F A F := ⟨Keep.refl _ _, fun _ h => .inl h⟩
theorem Rx.tr {K : PySem.W.Frag} {σ : L2.St} {H H1 : Hp} {F F1 Fv : List Addr} {δ1 : De} {vs : List V} {xs : List Val} (r : Rx K σ H F H1 δ1 vs xs F1 Fv) : Tr H F H1 F1 := ⟨r.kp, fun x hx => r.fr x (List.mem_append_right _ hx)⟩
/-- an address that stands and is not owned stays so -/
theorem Tr.off {A B : Hp} {F F' : List Addr} (t : Tr A F B F') {x : Addr} {o : HO} (e : A x = some o) (n : x ∉ F) : x ∉ F' ∧ B x = some o :=
  ⟨fun h => (t.fr x h).elim n (fun z => by rw [e] at z; cases z), t.kp x o e n⟩
mutual
theorem bindT_len {lk : List Nat} : ∀ {tg : Tg} {d : PyData} {δ δ' : De}, bindT lk tg d δ = some δ' → δ'.length = δ.length
  | .n i, d, δ, δ', h => by
    rw [bindT] at h
    split at h
    · cases h
    · split at h
      · cases h; exact List.length_set ..
      · cases h
  | .t0, d, δ, δ', h => by
    cases d <;> first | (simp [bindT] at h; done) | skip
    rename_i ds
    cases ds <;> first | (simp [bindT] at h; done) | skip
    rw [bindT] at h; cases h; rfl
  | .tc a as, d, δ, δ', h => by
    cases d <;> first | (simp [bindT] at h; done) | skip
    rename_i ds
    cases ds <;> first | (simp [bindT] at h; done) | skip
    rw [bindT] at h
    split at h
    · rename_i e; exact (bindTs_lenD h).trans (bindT_len e)
    · cases h
theorem bindTs_lenD {lk : List Nat} : ∀ {tg : Tg} {d : List PyData} {δ δ' : De}, bindTs lk tg d δ = some δ' → δ'.length = δ.length
  | .n i, d, δ, δ', h => by simp [bindTs] at h
  | .t0, ds, δ, δ', h => by
    cases ds <;> first | (simp [bindTs] at h; done) | skip
    rw [bindTs] at h; cases h; rfl
  | .tc a as, ds, δ, δ', h => by
    cases ds <;> first | (simp [bindTs] at h; done) | skip
    rw [bindTs] at h
    split at h
    · rename_i e; exact (bindTs_lenD h).trans (bindT_len e)
    · cases h
end
theorem Mk.rx {K : PySem.W.Frag} {H H' : Hp} {σ : L2.St} {F : List Addr} {δ : De} {v : V} {d : PyData} (h : Mk K H v (.p d) H') (st : RS K H σ δ F) : RS K H' σ δ F ∧ RP K H' v d ∧ Keep H H' [] := by
  cases h with
  | pure r => exact ⟨st, r, Keep.refl _ _⟩
  | tup hp r =>
    rename_i p zs ds
    have k0 : Keep H (upd H p (.tup zs)) [] := Keep.new hp []
    have s0 := k0.still fun x hx => by cases hx
    exact ⟨st.keep k0 s0 (fun _ _ h => by cases h), .tup (.inl (.inl upd_same)) (r.still s0), k0⟩
theorem lc_go {own : List Nat} {tg : Tg} {src ifs elt : C} (htg : ∀ i ∈ tgS tg, i ∈ own) {σ : L2.St} {H : Hp} {Q : VK} (h : ∃ δ F Kc, RS X.K H σ δ F ∧ F.Nodup ∧ wpE Γ XF (.comp own tg src ifs elt) δ Kc ∧ ∀ ds δ' v H' F' Fv, Kc (.own (.l ds)) δ' → Rx X.K σ H F H' δ' [v] [.own (.l ds)] F' Fv → Q v H') :
    tLc (tI X.K (wpI Γ XF src)) (gT X.K [] tg) (tT X.K (wpA Γ XF ifs)) (tG (tE X.K (wpE Γ XF elt))) own σ H Q := by
  obtain ⟨δ, F, Kc, st, nd, hw, hq⟩ := h
  rw [wpE] at hw
  refine ⟨δ, F, _, st, nd, hw, fun s δ1 H1 F1 J kc rx sw D hD => ?_⟩
  obtain ⟨hli, hz, loop⟩ := kc
  generalize htn : (fun (x : PyData) (δ2 : De) (k : Option PyData → De → Prop) => ∃ δ3, bindT [] tg x δ2 = some δ3 ∧ wpA Γ XF ifs δ3 fun b δ4 => if b = true then wpE Γ XF elt δ4 fun y δ5 => frz y δ5 fun d δ6 => k (some d) δ6 else k none δ4) = turn at loop
  have k0 : Keep H1 (upd H1 D (.lst [])) [] := Keep.new hD []
  have sl0 := k0.still fun x hx => by cases hx
  have hgd : ∀ g ∈ s.gd, g.1 ∉ own := fun g hg hin => by
    have : gdOk s.gd (wipe δ1 own) := by
      cases hi : s.items with
      | nil => rw [hi, compLoop] at loop; exact loop.1
      | cons x xs => rw [hi, compLoop] at loop; exact loop.1
    obtain ⟨m, e, _⟩ := this g hg
    have : ∀ is : List Nat, g.1 ∈ is → ((wipe δ1 is)[g.1]?).getD none = none := by
      intro is
      induction is with
      | nil => intro h; cases h
      | cons j is ih =>
        intro h
        unfold wipe
        by_cases ej : j = g.1
        · subst ej
          by_cases hl : g.1 < (wipe δ1 is).length
          · rw [List.getElem?_set_self hl]; rfl
          · rw [List.getElem?_eq_none (by rw [List.length_set]; omega)]; rfl
        · rw [List.getElem?_set_ne ej]
          exact ih ((List.mem_cons.mp h).resolve_left fun z => ej z.symm)
    rw [this own hin] at e; cases e
  have same : ∀ g ∈ s.gd, (L2.wipe σ own)[g.1]? = σ[g.1]? := fun g hg => wipeV_get (hgd g hg)
  have nF1 : D ∉ F1 := fun h => by
    obtain ⟨o, e, _⟩ := rx.st.owns D h
    rw [hD] at e; cases e
  -- what holds at each turn
  let Pv : Nat → Hp → Prop := fun i H' => ∃ δ' F' acc ds, RS X.K H' (L2.wipe σ own) δ' F' ∧ F'.Nodup ∧ H' D = some (.lst acc) ∧ RPs X.K H' acc ds ∧ acc.length ≤ i ∧ D ∉ F' ∧ Tr H1 F1 H' F' ∧
    compLoop own s.gd turn (s.items.drop i) δ' (fun ds' δ'' => Kc (.own (.l (ds ++ ds'))) (back δ1 δ'' own))
  have still1 : ∀ {H' : Hp} {F' : List Addr}, Tr H1 F1 H' F' → Still H1 H' := fun t => t.kp.still rx.st.owns
  refine ⟨fun i m H' => m = s.items.length - i ∧ i ≤ s.items.length ∧ Pv i H', ⟨s.items.length, by simp, Nat.zero_le _, ?_⟩, ?_⟩
  · obtain ⟨F', w, n, u⟩ := (rx.st.keep k0 sl0 (fun _ _ h => by cases h)).wipes (nd_right rx.nd) own
    refine ⟨_, F', [], [], w, n, upd_same, .nil, Nat.le_refl _, fun h => nF1 (u D h), ⟨k0.mono (fun _ h => by cases h), fun a ha => .inl (u a ha)⟩, ?_⟩
    rw [List.drop_zero]
    exact loop
  · rintro i m H' ⟨rfl, hi, δ', F', acc, ds, w, n, eD, rs, hl, nD, tr, lp⟩
    by_cases hlt : i < s.items.length
    · rw [List.drop_eq_getElem_cons hlt, compLoop] at lp
      obtain ⟨g, lp⟩ := lp
      refine .inr ⟨sw.go i H' _ δ' F' hlt (still1 tr) w g same, Pv (i + 1), fun H2 p => ⟨_, ?_, rfl, hlt, p⟩, fun x H2 y => ?_⟩
      · omega
      obtain ⟨d, ed, mk⟩ := sw.yld i H' _ δ' F' x H2 hlt (still1 tr) w g same y
      rw [List.getElem?_eq_getElem hlt] at ed
      cases ed
      rw [← htn] at lp
      obtain ⟨δ3, hb, hA⟩ := lp
      obtain ⟨w2, rp, k2⟩ := mk.rx w
      refine ⟨δ', F', _, δ3, w2, n, rp, hb, fun σ' F3 w3 n3 s3 t3 _ => ⟨?_, δ3, F3, _, w3, n3, hA, fun b δ4 H3 F4 kb rx4 => ?_⟩⟩
      · refine wipeV_eq ?_ fun j hj => ?_
        · rw [w3.length, bindT_len hb, ← w.length, wipe_length]
        · rw [t3 j (fun h => hj (htg j h)), wipeV_get hj]
      have ew : L2.wipe σ' own = L2.wipe σ own := by
        refine wipeV_eq ?_ fun j hj => ?_
        · rw [w3.length, bindT_len hb, ← w.length, wipe_length]
        · rw [t3 j (fun h => hj (htg j h)), wipeV_get hj]
      have tr2 : Tr H' F' H2 F3 := ⟨k2.mono (fun _ h => by cases h), fun a ha => .inl (s3 a ha)⟩
      have tr3 := tr2.trans rx4.tr
      obtain ⟨nD3, eD3⟩ := tr3.off eD nD
      have own' : Owns H' F' := w.owns
      have next : ∀ {H6 : Hp} {δ6 : De} {F6 : List Addr} {add : List V} {dd : List PyData}, RS X.K H6 σ' δ6 F6 → F6.Nodup → Tr H' F' H6 F6 → RPs X.K H6 add dd → add.length ≤ 1 →
          compLoop own s.gd turn (s.items.drop (i + 1)) (wipe δ6 own) (fun ds' δ'' => Kc (.own (.l (ds ++ (dd ++ ds')))) (back δ1 δ'' own)) → Pv (i + 1) (upd H6 D (.lst (acc ++ add))) := fun {H6 δ6 F6 add dd} w6 n6 t6 ra hadd lp6 => by
        obtain ⟨nD6, eD6⟩ := t6.off eD nD
        have k6 : Keep H6 (upd H6 D (.lst (acc ++ add))) [D] := fun b o e nn => by rw [upd_ne (by simpa using nn)]; exact e
        have s6 := k6.still fun b hb => by rw [List.mem_singleton] at hb; subst hb; exact ⟨_, eD6, trivial⟩
        have w7 := w6.keep k6 s6 fun a ha hz => nD6 (by rw [List.mem_singleton] at hz; subst hz; exact ha)
        obtain ⟨F7, w8, n8, u8⟩ := w7.wipes n6 own
        rw [ew] at w8
        have tt := tr.trans t6
        refine ⟨_, F7, acc ++ add, ds ++ dd, w8, n8, upd_same, ?_, ?_, fun h => nD6 (u8 D h), ⟨fun a o e nn => ?_, fun a ha => tt.fr a (u8 a ha)⟩, ?_⟩
        · exact ((rs.still (t6.kp.still own')).append ra).still s6
        · rw [List.length_append]; omega
        · have ne : a ≠ D := fun z => by rw [z, hD] at e; cases e
          rw [upd_ne ne]
          exact tt.kp a o e nn
        · simpa only [List.append_assoc] using lp6
      cases b with
      | true =>
        rw [if_pos rfl] at kb
        show (if true = true then _ else _)
        rw [if_pos rfl]
        refine ⟨δ4, F4, _, rx4.st, nd_right rx4.nd, kb, fun y δ5 v H4 F5 Fv k5 r5 => frz_ok (Q := fun y H4 => ∃ acc, H4 D = some (.lst acc) ∧ acc.length < sizeLine ∧ Pv (i + 1) (upd H4 D (.lst (acc ++ [y])))) r5 k5 fun d' δ6 H6 F6 p rp6 rx6 => ?_⟩
        have t6 := tr3.trans rx6.tr
        exact ⟨acc, (t6.off eD nD).2, by omega, next (dd := [d']) rx6.st (nd_right rx6.nd) t6 (.cons rp6 .nil) (Nat.le_refl _) (by rw [← htn]; exact p)⟩
      | false =>
        rw [if_neg Bool.false_ne_true] at kb
        show (if false = true then _ else _)
        rw [if_neg Bool.false_ne_true]
        have := next (add := []) (dd := []) rx4.st (nd_right rx4.nd) tr3 .nil (Nat.zero_le _) (by rw [← htn]; exact kb)
        rw [List.append_nil, upd_id eD3] at this
        exact this
    · have e : i = s.items.length := by omega
      subst e
      rw [List.drop_length, compLoop] at lp
      obtain ⟨g, lp⟩ := lp
      refine .inl ⟨sw.stop H' _ δ' F' (still1 tr) w g same, ?_⟩
      obtain ⟨F8, w8, n8, u8⟩ := rx.st.backs (still1 tr) (wipe_length σ own) own hli w n
      have eb : backV σ (L2.wipe σ own) own = σ := by
        apply List.ext_getElem?
        intro j
        refine backV_eq (wipe_length σ own) own j ?_
        by_cases hj : j ∈ own
        · exact .inl hj
        · exact .inr (wipeV_get hj)
      rw [eb] at w8
      rw [List.append_nil] at lp
      have nD8 : D ∉ F8 := fun h => nD (u8 D h)
      have tt := rx.tr.trans (tr.sub u8)
      refine hq _ _ _ _ F8 [D] lp ⟨w8, .one (.l eD rs), ?_, tt.kp, fun a ha => ?_⟩
      · exact nd_mk (by simp) n8 fun a ha hz => by rw [List.mem_singleton] at ha; subst ha; exact nD8 hz
      · rcases List.mem_append.mp ha with ha | ha
        · rw [List.mem_singleton] at ha; subst ha
          exact rx.tr.none hD
        · exact tt.fr a ha
theorem OkX.blk (o : OkX E Γ k X sc) (s : Shared) (H : Hp) (scope : Scope) (C : Addr) (cl : List (Str × Addr)) (fp : List Addr) : OkX E Γ k (X.blk s H scope (compEnvC scope cl C X.env) fp) (relS scope sc) :=
  ⟨o.hN, o.nd, o.calm, by rw [← o.hsc]; rfl, o.room, o.gd, o.dig, o.blt, o.con, o.calls⟩
theorem blk_fn (s : Shared) (H : Hp) (scope : Scope) (C : Addr) (cl : List (Str × Addr)) (fp : List Addr) : ∀ x, scope.names.lookup x = some .cell → (X.blk s H scope (compEnvC scope cl C X.env) fp).fn x = true := fun x h => by
  show (scope.names.lookup x == some NameKind.cell) = true
  rw [h]; rfl
structure CompOk (E : SE) (Γ : List Spec) (X : Cx) (sc scope : Scope) (own : List Nat) (tg : Tg) (src ifs elt : C) (et ei : Expr) (eifs : List Expr) (ee : Expr) : Prop where
  b : blkC E.N sc scope (ownB E.N own) = true
  how : (ownB E.N own).map (·.2) = own
  htg : ∀ i ∈ tgS tg, i ∈ own
  pl : plainB ei = true
  i : PI X et ei (tI X.K (wpI Γ XF src))
  g : ∀ (s : Shared) (H : Hp) (C : Addr) (cl : List (Str × Addr)) (fp : List Addr), PG (X.blk s H scope (compEnvC scope cl C X.env) fp) et (gT X.K [] tg)
  t : ∀ (s : Shared) (H : Hp) (C : Addr) (cl : List (Str × Addr)) (fp : List Addr), PTs (X.blk s H scope (compEnvC scope cl C X.env) fp) eifs (tT X.K (wpA Γ XF ifs))
  e : ∀ (s : Shared) (H : Hp) (C : Addr) (cl : List (Str × Addr)) (fp : List Addr), PE (X.blk s H scope (compEnvC scope cl C X.env) fp) ee (tE X.K (wpE Γ XF elt))
theorem s_comp (o : OkX E Γ k X sc) {own : List Nat} {tg : Tg} {src ifs elt : C} {et ei ee : Expr} {eifs : List Expr} {scope : Scope} (c : CompOk E Γ X sc scope own tg src ifs elt et ei eifs ee) :
    PE X (.ListComp ee [⟨et, ei, eifs, 0⟩] scope pos) (tE X.K (wpE Γ XF (.comp own tg src ifs elt))) := by
  have h := pe_lc (pos := pos) o.calm (by rw [o.hN]; exact o.nd) c.i (by rw [o.hN, o.hsc]; exact blkOk_by c.b) c.g c.t (fun s H C cl fp => pe_ghost (c.e s H C cl fp)) (plain_fold c.pl _)
  rw [c.how] at h
  exact PE.wk h fun σ H Q ⟨δ, F, Kc, st, nd, hw, hq⟩ => lc_go c.htg ⟨δ, F, Kc, st, nd, hw, fun ds δ' v H' F' Fv kc rx => hq _ _ _ _ _ _ kc rx⟩
theorem s_setLc (o : OkX E Γ k X sc) {i : Nat} {y : Str} {py : Pos} {spos : Pos} {own : List Nat} {tg : Tg} {src ifs elt : C} {et ei ee : Expr} {eifs : List Expr} {scope : Scope} (c : CompOk E Γ X sc scope own tg src ifs elt et ei eifs ee) (h1 : X.N[i]? = some y) (h2 : X.env.scope.names.lookup y = some .local)
    (hsw : swapsWith (.ListComp ee [⟨et, ei, eifs, 0⟩] scope pos) (some (.Name y py)) spos.line X.env = pure true) :
    PS X (.Assign [.Name y py] (.ListComp ee [⟨et, ei, eifs, 0⟩] scope pos) spos) (tAsg (fun σ H Q => ∃ δ F Kc, RS X.K H σ δ F ∧ F.Nodup ∧ wpE Γ XF (.comp own tg src ifs elt) δ Kc ∧ ∀ ds δ' v H' F' Fv, Kc (.own (.l ds)) δ' → Rx X.K σ H F H' δ' [v] [.own (.l ds)] F' Fv → Q v H') (gName i)) := by
  have h := ps_setLc o.calm (by rw [o.hN]; exact o.nd) h1 h2 hsw c.i (by rw [o.hN, o.hsc]; exact blkOk_by c.b) c.g c.t (fun s H C cl fp => pe_ghost (c.e s H C cl fp)) (plain_fold c.pl _)
  rw [c.how] at h
  exact PS.wk h fun D σ H hw => lc_go c.htg hw
end
end Q
set_option Elab.async false
set_option linter.all false
set_option maxRecDepth 100000
set_option maxHeartbeats 1000000
/-! LN: statements. -/
namespace Q
open PySem PySem.Spec PyProof.Rows L2

/-- from slots and heap to the next ones, the names lk as they were -/
structure RZ (K : PySem.W.Frag) (lk : List Nat) (σ : L2.St) (H : Hp) (F : List Addr) (σ' : L2.St) (H' : Hp) (δ' : De) (vs : List V) (xs : List Val) (F' Fv : List Addr) : Prop where
  rx : Rx K σ' H F H' δ' vs xs F' Fv
  lk : ∀ j ∈ lk, σ'[j]? = σ[j]?
structure EQ (K : PySem.W.Frag) (lk : List Nat) (σ : L2.St) (H : Hp) (F : List Addr) (Kd : EndD) (D : Ends) : Prop where
  nx : ∀ δ' σ' H' F', Kd.nx δ' → RZ K lk σ H F σ' H' δ' [] [] F' [] → D.nx σ' H'
  rt : ∀ x δ' σ' v H' F' Fv, Kd.rt x δ' → RZ K lk σ H F σ' H' δ' [v] [x] F' Fv → D.rt v H' ∨ ∃ a u, v = .ref a ∧ H' a = some u ∧ Mut (some u) ∧ ∀ od, D.rt v (upd H' a (.frz od u))
  bk : ∀ δ' σ' H' F', Kd.bk δ' → RZ K lk σ H F σ' H' δ' [] [] F' [] → D.bk σ' H'
  ct : ∀ δ' σ' H' F', Kd.ct δ' → RZ K lk σ H F σ' H' δ' [] [] F' [] → D.ct σ' H'
def tS (K : PySem.W.Frag) (lk : List Nat) (W : De → EndD → Prop) : TS := fun D σ H => ∃ δ F Kd, RS K H σ δ F ∧ F.Nodup ∧ W δ Kd ∧ EQ K lk σ H F Kd D

section
variable {K : PySem.W.Frag} {lk : List Nat} {H H1 H2 H' : Hp} {σ σ1 σ2 : L2.St} {F F1 F2 Fv Fw : List Addr} {δ δ1 δ2 : De} {vs : List V} {xs : List Val} {Kd : EndD} {D : Ends}
theorem Rx.mk' (st : RS K H1 σ1 δ1 F1) (vl : RVs K H1 σ1 vs xs Fv) (nd : (Fv ++ F1).Nodup) (tr : Tr H F H1 (Fv ++ F1)) : Rx K σ1 H F H1 δ1 vs xs F1 Fv := ⟨st, vl, nd, tr.kp, tr.fr⟩
theorem Rx.tr' (r : Rx K σ H F H1 δ1 vs xs F1 Fv) : Tr H F H1 (Fv ++ F1) := ⟨r.kp, r.fr⟩
theorem RZ.trans (a : RZ K lk σ H F σ1 H1 δ1 [] [] F1 []) (b : RZ K lk σ1 H1 F1 σ2 H2 δ2 vs xs F2 Fv) : RZ K lk σ H F σ2 H2 δ2 vs xs F2 Fv :=
  ⟨Rx.mk' b.rx.st b.rx.vl b.rx.nd (a.rx.tr.trans b.rx.tr'), fun j hj => (b.lk j hj).trans (a.lk j hj)⟩
theorem RZ.of (r : Rx K σ H F H1 δ1 vs xs F1 Fv) : RZ K lk σ H F σ H1 δ1 vs xs F1 Fv := ⟨r, fun _ _ => rfl⟩
theorem EQ.after (q : EQ K lk σ H F Kd D) (a : RZ K lk σ H F σ1 H1 δ1 [] [] F1 []) : EQ K lk σ1 H1 F1 Kd D :=
  ⟨fun δ' σ' H' F' k r => q.nx _ _ _ _ k (a.trans r), fun x δ' σ' v H' F' Fv k r => q.rt _ _ _ _ _ _ _ k (a.trans r), fun δ' σ' H' F' k r => q.bk _ _ _ _ k (a.trans r), fun δ' σ' H' F' k r => q.ct _ _ _ _ k (a.trans r)⟩
/-- a name is given a value -/
theorem RZ.set {v : V} {m : M} (r : Rx K σ H F H1 δ1 [v] [.own m] F1 Fv) {i : Nat} (hl : i ∉ lk) (hi : i < δ1.length) : ∃ F', RZ K lk σ H F (σ.set i (some v)) H1 (δ1.set i (some m)) [] [] F' [] := by
  obtain ⟨Fm, _, _, _, up⟩ := r.slot i hi
  obtain ⟨F', rx⟩ := up H1 [] v m Fv (Keep.refl _ _) (fun _ h => by cases h) (fun _ h => by cases h) r.vl.one' (nd_left r.nd) fun x hx => .inr (.inl hx)
  refine ⟨F', rx, fun j hj => ?_⟩
  rw [List.getElem?_set_ne]
  intro e; subst e; exact hl hj
end

section
variable {E : SE} {Γ : List Spec} {k : Nat} {X : Cx} {sc : Scope} {pos p2 p3 : Pos} {lk : List Nat}
structure OkS (E : SE) (Γ : List Spec) (k : Nat) (X : Cx) (sc : Scope) : Prop where
  x : OkX E Γ k X sc
  hp : PassesOwn (model X.prog X.w) X.A X.env X.xe
  kind : sc.kind = .function
  fn : ∀ x, sc.names.lookup x = some .cell → X.fn x = true
theorem z_nil : PSs X [] (tS X.K lk (wpS Γ XF lk .nil)) := PSs.wk pss_nil fun D σ H ⟨δ, F, Kd, st, nd, hw, hq⟩ => by
  rw [wpS] at hw
  exact hq.nx _ _ _ _ hw (.of (Rx.start st nd))
theorem z_cons {st : Stmt} {sts : List Stmt} {a as : S} (h1 : PS X st (tS X.K lk (wpS Γ XF lk a))) (h2 : PSs X sts (tS X.K lk (wpS Γ XF lk as))) : PSs X (st :: sts) (tS X.K lk (wpS Γ XF lk (.cons a as))) :=
  PSs.wk (pss_cons h1 h2) fun D σ H ⟨δ, F, Kd, st, nd, hw, hq⟩ => by
    rw [wpS] at hw
    exact ⟨δ, F, _, st, nd, hw, fun δ' σ' H' F' kn r => ⟨δ', F', Kd, r.rx.st, nd_right r.rx.nd, kn, hq.after r⟩, hq.rt, hq.bk, hq.ct⟩
theorem z_pass : PS X (.Pass pos) (tS X.K lk (wpS Γ XF lk .pass)) := PS.wk ps_pass fun D σ H ⟨δ, F, Kd, st, nd, hw, hq⟩ => by
  rw [wpS] at hw
  exact hq.nx _ _ _ _ hw (.of (Rx.start st nd))
theorem z_brk : PS X (.Break pos) (tS X.K lk (wpS Γ XF lk .brk)) := PS.wk ps_break fun D σ H ⟨δ, F, Kd, st, nd, hw, hq⟩ => by
  rw [wpS] at hw
  exact hq.bk _ _ _ _ hw (.of (Rx.start st nd))
theorem z_cont : PS X (.Continue pos) (tS X.K lk (wpS Γ XF lk .cont)) := PS.wk ps_continue fun D σ H ⟨δ, F, Kd, st, nd, hw, hq⟩ => by
  rw [wpS] at hw
  exact hq.ct _ _ _ _ hw (.of (Rx.start st nd))
theorem z_stop {st : Stmt} : PS X st (tS X.K lk (wpS Γ XF lk .stop)) := PS.wk ps_never fun D σ H ⟨δ, F, Kd, st, nd, hw, hq⟩ => by
  rw [wpS] at hw
  exact hw
theorem z_retN : PS X (.Return none pos) (tS X.K lk (wpS Γ XF lk .retN)) := PS.wk ps_retN fun D σ H ⟨δ, F, Kd, st, nd, hw, hq⟩ => by
  rw [wpS] at hw
  rcases hq.rt _ _ _ _ _ _ _ hw (.of ((Rx.start st nd).pure .non)) with h | ⟨_, _, h, _⟩
  · exact h
  · cases h
theorem z_ret {e : Expr} {a : C} (h : PE X e (tE X.K (wpE Γ XF a))) : PS X (.Return (some e) pos) (tS X.K lk (wpS Γ XF lk (.ret a))) := PS.wk (ps_ret (pe_ghost h)) fun D σ H ⟨δ, F, Kd, st, nd, hw, hq⟩ => by
  rw [wpS] at hw
  exact ⟨δ, F, _, st, nd, hw, fun x δ' v H' F' Fv kc rx => hq.rt _ _ _ _ _ _ _ kc (.of rx)⟩
def notLc : Expr → Bool
  | .ListComp .. => false
  | .SetComp .. => false
  | .DictComp .. => false
  | _ => true
theorem sw_no {e : Expr} (h : notLc e = true) (t : Option Expr) (n : Nat) (env : Env) : swapsWith e t n env = pure false := by
  cases e <;> first | (cases t <;> rfl) | cases h
theorem z_ex {e : Expr} {a : C} (hl : notLc e = true) (h : PE X e (tE X.K (wpE Γ XF a))) : PS X (.Expr e pos) (tS X.K lk (wpS Γ XF lk (.ex a))) := PS.wk (ps_expr h (sw_no hl _ _ _)) fun D σ H ⟨δ, F, Kd, st, nd, hw, hq⟩ => by
  rw [wpS] at hw
  exact ⟨δ, F, _, st, nd, hw, fun x δ' v H' F' Fv kc rx => hq.nx _ _ _ _ kc (.of rx.drop)⟩
theorem z_ife {c : Expr} {sa sb : List Stmt} {t : C} {a b : S} (hc : PT X c (tT X.K (wpT Γ XF t))) (ha : PSs X sa (tS X.K lk (wpS Γ XF lk a))) (hb : PSs X sb (tS X.K lk (wpS Γ XF lk b))) : PS X (.If c sa sb pos) (tS X.K lk (wpS Γ XF lk (.ife t a b))) :=
  PS.wk (ps_if hc ha hb) fun D σ H ⟨δ, F, Kd, st, nd, hw, hq⟩ => by
    rw [wpS] at hw
    refine ⟨δ, F, _, st, nd, hw, fun r δ1 H1 F1 kc rx => ?_⟩
    cases r with
    | true =>
      rw [if_pos rfl] at kc
      show (if true = true then _ else _)
      rw [if_pos rfl]
      exact ⟨δ1, F1, Kd, rx.st, nd_right rx.nd, kc, hq.after (.of rx)⟩
    | false =>
      rw [if_neg Bool.false_ne_true] at kc
      show (if false = true then _ else _)
      rw [if_neg Bool.false_ne_true]
      exact ⟨δ1, F1, Kd, rx.st, nd_right rx.nd, kc, hq.after (.of rx)⟩
/-! ### names set -/
theorem set_go {σ : L2.St} {H : Hp} {D : Ends} {i : Nat} {δ : De} {F : List Addr} {Kd : EndD} (hq : EQ X.K lk σ H F Kd D) {v : V} {m : M} {δ2 : De} {H' : Hp} {F' Fm : List Addr} (rx : Rx X.K σ H F H' δ2 [v] [.own m] F' Fm) (hk : i ∉ lk ∧ i < δ2.length ∧ Kd.nx (δ2.set i (some m))) :
    D.nx (σ.set i (some v)) H' := by
  obtain ⟨h1, h2, h3⟩ := hk
  obtain ⟨F2, rz⟩ := RZ.set rx h1 h2
  exact hq.nx _ _ _ _ h3 rz
theorem z_set (o : OkS E Γ k X sc) {i : Nat} {x : Str} {e : Expr} {a : C} (h1 : decide (E.N[i]? = some x) = true) (h2 : tgtB sc sc x = true) (hl : notLc e = true) (h : PE X e (tE X.K (wpE Γ XF a))) : PS X (.Assign [.Name x p2] e pos) (tS X.K lk (wpS Γ XF lk (.set i a))) := by
  obtain ⟨l1, l2⟩ := o.x.tgt o.fn h2
  refine PS.wk (ps_set (by rw [o.x.hN]; exact o.x.nd) (o.x.at h1) l1 (pe_ghost h) (sw_no hl _ _ _) l2) fun D σ H ⟨δ, F, Kd, st, nd, hw, hq⟩ => ?_
  rw [wpS] at hw
  exact ⟨δ, F, _, st, nd, hw, fun y δ1 v H1 F1 Fv k1 r1 => mov_ok (Q := fun v H1 => D.nx (σ.set i (some v)) H1) r1 k1 fun m δ2 H' F' Fm p rx => set_go (δ := δ) hq rx p⟩
theorem blk_kind (o : OkS E Γ k X sc) : X.env.blockKind = .function := by
  unfold Env.blockKind
  rw [o.x.hsc, o.kind]
  rfl
/-- is the new list stored from within (a local name, on the line of the display)? -/
def lcIn (sc scope : Scope) (y : Str) (l l' : Nat) : Bool := (match sc.names.lookup y with | some .local => true | _ => false) && (l == l') && !(scope.names.any fun p => p.1 == y && (p.2 == .local || p.2 == .cell))
theorem sw_lc (o : OkS E Γ k X sc) {y : Str} {py spos : Pos} {scope : Scope} {ee : Expr} {gs : List Comprehension} {n : Nat} : swapsWith (.ListComp ee gs scope pos) (some (.Name y py)) n X.env = pure (lcIn sc scope y py.line pos.line) := by
  show (pure _ : Sem Bool) = _
  congr 1
  unfold lcIn
  rw [blk_kind o]
  show (true && (X.env.scope.names.lookup y == some .local) && _ && _) = _
  rw [o.x.hsc, Bool.true_and]
  congr 2
  cases hh : sc.names.lookup y with
  | none => rfl
  | some q => cases q <;> rfl
theorem z_setLc (o : OkS E Γ k X sc) {i : Nat} {y : Str} {py : Pos} {spos : Pos} {own : List Nat} {tg : Tg} {src ifs elt : C} {et ei ee : Expr} {eifs : List Expr} {scope : Scope} (c : CompOk E Γ X sc scope own tg src ifs elt et ei eifs ee) (h1 : decide (E.N[i]? = some y) = true) (h2 : tgtB sc sc y = true) :
    PS X (.Assign [.Name y py] (.ListComp ee [⟨et, ei, eifs, 0⟩] scope pos) spos) (tS X.K lk (wpS Γ XF lk (.set i (.comp own tg src ifs elt)))) := by
  obtain ⟨l1, l2⟩ := o.x.tgt o.fn h2
  have sw := sw_lc o (y := y) (py := py) (spos := spos) (scope := scope) (ee := ee) (gs := [⟨et, ei, eifs, 0⟩]) (n := spos.line) (pos := pos)
  cases hb : lcIn sc scope y py.line pos.line with
  | true =>
    rw [hb] at sw
    refine PS.wk (s_setLc (py := py) (pos := pos) (spos := spos) o.x c (o.x.at h1) ?_ sw) fun D σ H ⟨δ, F, Kd, st, nd, hw, hq⟩ => ?_
    · rw [o.x.hsc]
      unfold lcIn at hb
      simp only [Bool.and_eq_true] at hb
      have := hb.1.1
      split at this
      · assumption
      · cases this
    · rw [wpS] at hw
      exact ⟨δ, F, _, st, nd, hw, fun ds δ' v H' F' Fv kc rx => set_go (δ := δ) hq rx kc⟩
  | false =>
    rw [hb] at sw
    refine PS.wk (ps_set (by rw [o.x.hN]; exact o.x.nd) (o.x.at h1) l1 (pe_ghost (s_comp o.x c)) sw l2) fun D σ H ⟨δ, F, Kd, st, nd, hw, hq⟩ => ?_
    rw [wpS] at hw
    exact ⟨δ, F, _, st, nd, hw, fun y δ1 v H1 F1 Fv k1 r1 => mov_ok (Q := fun v H1 => D.nx (σ.set i (some v)) H1) r1 k1 fun m δ2 H' F' Fm p rx => set_go (δ := δ) hq rx p⟩
/-! ### several names at once -/
theorem s_Dnil : PA X [] (tD X.K (wpD Γ XF .nil)) := PA.wk pa_nil fun σ H Q ⟨δ, F, Kc, st, nd, hw, hq⟩ => by
  rw [wpD] at hw
  exact hq [] _ _ _ _ _ hw (Rx.start st nd)
theorem s_Dcons {e : Expr} {es : List Expr} {a as : C} (pl : plainB e = true) (ha : PE X e (tE X.K (wpE Γ XF a))) (hs : PA X es (tD X.K (wpD Γ XF as))) : PA X (e :: es) (tD X.K (wpD Γ XF (.cons a as))) :=
  PA.wk (pa_cons (pe_ghost ha) hs (plain_star pl _ _)) fun σ H Q ⟨δ, F, Kc, st, nd, hw, hq⟩ => by
    rw [wpD] at hw
    exact ⟨δ, F, _, st, nd, hw, fun x δ1 v H1 F1 Fv k1 r1 => mov_ok (Q := fun x H1 => tD X.K (wpD Γ XF as) σ H1 fun xs H2 => Q (x :: xs) H2) r1 k1 fun d δ' H' F' Fm p rx => ⟨δ', F', _, rx.st, nd_right rx.nd, p, fun ds δ2 vs H2 F2 Fv k2 r2 => hq _ _ _ _ _ _ k2 (rx.step r2)⟩⟩
/-- the stores of a tuple's names from the right, or none -/
def swN (sc : Scope) (ts vs : List Expr) : Option (List Str) :=
  if !(ts.length == 2 || ts.length == 3) || vs.length != ts.length then none
  else if vs.any (fun e => match e with | .Starred .. => true | _ => false) then none
  else
    let line := (ts.head?.map (·.pos.line)).getD 0
    let names := ts.filterMap fun e => match e with
      | .Name id pos => if sc.names.lookup id == some .local && pos.line == line then some id else none
      | _ => none
    if names.length != ts.length || names.eraseDups.length != names.length then none
    else if vs.all (foldedForSure 8) then none
    else some names
theorem sw_eq (o : OkS E Γ k X sc) {ts vs : List Expr} {q1 q2 : Pos} {n1 n2 : Nat} (h : vs.all (constantsAlone 8) = false ∨ vs.all (foldedForSure 8) = true) : swappedStores [.Tuple ts n1 q1] (.Tuple vs n2 q2) X.env = pure (swN sc ts vs) := by
  have e1 : X.env.kindOf = fun x => sc.names.lookup x := by
    funext x; unfold Env.kindOf; rw [o.x.hsc]
  unfold swappedStores
  rw [blk_kind o, e1]
  simp only
  rw [show (ScopeKind.function != ScopeKind.function) = false from rfl, Bool.or_false]
  split
  · rename_i c1; exact congrArg pure (if_pos c1).symm
  rename_i c1
  split
  · rename_i c2; exact congrArg pure ((if_neg c1).trans (if_pos c2)).symm
  rename_i c2
  split
  · rename_i c3; exact congrArg pure ((if_neg c1).trans ((if_neg c2).trans (if_pos c3))).symm
  rename_i c3
  split
  · rename_i c4; exact congrArg pure ((if_neg c1).trans ((if_neg c2).trans ((if_neg c3).trans (if_pos c4)))).symm
  rename_i c4
  split
  · rename_i c5
    rcases h with h | h
    · rw [h] at c5; cases c5
    · exact absurd h c4
  · exact congrArg pure ((if_neg c1).trans ((if_neg c2).trans ((if_neg c3).trans (if_neg c4)))).symm
theorem ne_lk {q j : Nat} {lk : List Nat} (h : q ∈ lk) (n : j ∉ lk) : j ≠ q := fun e => n (e ▸ h)
theorem RMs.vals {K : PySem.W.Frag} {H : Hp} {σ : L2.St} : ∀ {vs : List V} {ms : List M} {F : List Addr}, RMs K H vs ms F → RVs K H σ vs (ms.map Val.own) F
  | _, _, _, .nil => .nil
  | _, _, _, .cons a b => .cons a b.vals
theorem Rx.store {K : PySem.W.Frag} {σ : L2.St} {H H1 : Hp} {F F1 Fv : List Addr} {δ1 : De} {v : V} {m : M} {vs : List V} {ms : List M} (r : Rx K σ H F H1 δ1 (v :: vs) ((m :: ms).map Val.own) F1 Fv) {i : Nat} (hi : i < δ1.length) :
    ∃ F' Fb, Rx K (σ.set i (some v)) H F H1 (δ1.set i (some m)) vs (ms.map Val.own) F' Fb := by
  have rm := r.vl.mine
  cases rm with
  | @cons _ _ _ _ Fa Fb a b =>
    obtain ⟨Fm, R, pm, g, z, up⟩ := r.st.upd i hi
    obtain ⟨F', w, q⟩ := up H1 [] v m Fa (Keep.refl _ _) (Still.refl _) (fun _ _ h => by cases h) a
    have n0 : ((Fa ++ Fb) ++ F1).Nodup := r.nd
    have sub : ∀ x ∈ Fb ++ F', x ∈ (Fa ++ Fb) ++ F1 := fun x hx => by
      rcases List.mem_append.mp hx with hx | hx
      · exact List.mem_append_left _ (List.mem_append_right _ hx)
      · rcases List.mem_append.mp (q.mem_iff.mp hx) with hx | hx
        · exact List.mem_append_left _ (List.mem_append_left _ hx)
        · exact List.mem_append_right _ (pm.mem_iff.mpr (List.mem_append_right _ hx))
    refine ⟨F', Fb, w, b.vals, nd_mk (nd_right (nd_left n0)) ?_ fun x hx hy => ?_, r.kp, fun x hx => r.fr x (sub x hx)⟩
    · refine q.nodup_iff.mpr (nd_mk (nd_left (nd_left n0)) (nd_right (pm.nodup_iff.mp (nd_right n0))) fun x hx hy => ?_)
      exact nd_apart n0 (List.mem_append_left _ hx) (pm.mem_iff.mpr (List.mem_append_right _ hy))
    · rcases List.mem_append.mp (q.mem_iff.mp hy) with hy | hy
      · exact nd_apart (nd_left n0) hy hx
      · exact nd_apart n0 (List.mem_append_right _ hx) (pm.mem_iff.mpr (List.mem_append_right _ hy))
theorem z_par2 (o : OkS E Γ k X sc) {i j : Nat} {x y : Str} {ea eb : Expr} {l : C} {px py pt pt2 : Pos} {n1 n2 : Nat} (hi : decide (E.N[i]? = some x) = true) (hj : decide (E.N[j]? = some y) = true) (hij : i ≠ j) (hx : sc.names.lookup x = some .local) (hy : sc.names.lookup y = some .local)
    (hc : [ea, eb].all (constantsAlone 8) = false) (hs : swN sc [.Name x px, .Name y py] [ea, eb] = some [x, y]) (ha : PA X [ea, eb] (tD X.K (wpD Γ XF l))) :
    PS X (.Assign [.Tuple [.Name x px, .Name y py] n1 pt] (.Tuple [ea, eb] n2 pt2) pos) (tS X.K lk (wpS Γ XF lk (.par [i, j] l))) := by
  refine PS.wk (ps_par o.x.calm (by rw [o.x.hN]; exact o.x.nd) (o.x.at hi) (o.x.at hj) hij (by rw [o.x.hsc]; exact hx) (by rw [o.x.hsc]; exact hy) ha (by rw [sw_eq o (.inl hc), hs])) fun D σ H ⟨δ, F, Kd, st, nd, hw, hq⟩ => ?_
  rw [wpS] at hw
  refine ⟨δ, F, _, st, nd, hw, fun ms δ' vs H' F' Fv kc rx => ?_⟩
  obtain ⟨hl, hm, kc⟩ := kc
  have hv := rx.vl.length
  rw [List.length_map, hl] at hv
  match ms, hl, vs, hv, rx, kc with
  | [m, m2], _, [v, w], _, rx, kc =>
    obtain ⟨F1, Fb, r1⟩ := rx.store (hm i (by simp)).2
    obtain ⟨F2, Fc, r2⟩ := r1.store (i := j) (by rw [List.length_set]; exact (hm j (by simp)).2)
    refine ⟨v, w, rfl, hq.nx _ _ _ _ kc ⟨r2.drop, fun q hj' => ?_⟩⟩
    rw [List.getElem?_set_ne (ne_lk hj' (hm j (by simp)).1), List.getElem?_set_ne (ne_lk hj' (hm i (by simp)).1)]
theorem z_par3 (o : OkS E Γ k X sc) {i j t : Nat} {x y z : Str} {ea eb ec : Expr} {l : C} {px py pz pt pt2 : Pos} {n1 n2 : Nat} (hi : decide (E.N[i]? = some x) = true) (hj : decide (E.N[j]? = some y) = true) (ht : decide (E.N[t]? = some z) = true) (hij : i ≠ j) (hit : i ≠ t) (hjt : j ≠ t)
    (hx : sc.names.lookup x = some .local) (hy : sc.names.lookup y = some .local) (hz : sc.names.lookup z = some .local)
    (hc : [ea, eb, ec].all (constantsAlone 8) = false) (hs : swN sc [.Name x px, .Name y py, .Name z pz] [ea, eb, ec] = some [x, y, z]) (ha : PA X [ea, eb, ec] (tD X.K (wpD Γ XF l))) :
    PS X (.Assign [.Tuple [.Name x px, .Name y py, .Name z pz] n1 pt] (.Tuple [ea, eb, ec] n2 pt2) pos) (tS X.K lk (wpS Γ XF lk (.par [i, j, t] l))) := by
  refine PS.wk (ps_par3 o.x.calm (by rw [o.x.hN]; exact o.x.nd) (o.x.at hi) (o.x.at hj) (o.x.at ht) hij hit hjt (by rw [o.x.hsc]; exact hx) (by rw [o.x.hsc]; exact hy) (by rw [o.x.hsc]; exact hz) ha (by rw [sw_eq o (.inl hc), hs])) fun D σ H ⟨δ, F, Kd, st, nd, hw, hq⟩ => ?_
  rw [wpS] at hw
  refine ⟨δ, F, _, st, nd, hw, fun ms δ' vs H' F' Fv kc rx => ?_⟩
  obtain ⟨hl, hm, kc⟩ := kc
  have hv := rx.vl.length
  rw [List.length_map, hl] at hv
  match ms, hl, vs, hv, rx, kc with
  | [m, m2, m3], _, [v, w, u], _, rx, kc =>
    obtain ⟨F1, Fb, r1⟩ := rx.store (hm i (by simp)).2
    obtain ⟨F2, Fc, r2⟩ := r1.store (i := j) (by rw [List.length_set]; exact (hm j (by simp)).2)
    obtain ⟨F3, Fd, r3⟩ := r2.store (i := t) (by rw [List.length_set, List.length_set]; exact (hm t (by simp)).2)
    refine ⟨v, w, u, rfl, hq.nx _ _ _ _ kc ⟨r3.drop, fun q hj' => ?_⟩⟩
    rw [List.getElem?_set_ne (ne_lk hj' (hm t (by simp)).1), List.getElem?_set_ne (ne_lk hj' (hm j (by simp)).1), List.getElem?_set_ne (ne_lk hj' (hm i (by simp)).1)]
/-- (a, b) = a tuple's value -/
theorem z_setT (o : OkS E Γ k X sc) {ts : List Expr} {n1 : Nat} {pt : Pos} {e : Expr} {a : C} {tg : Tg} (hg : chkG E sc sc tg (.Tuple ts n1 pt) = true) (h : PE X e (tE X.K (wpE Γ XF a))) (hs : swappedStores [.Tuple ts n1 pt] e X.env = pure none) :
    PS X (.Assign [.Tuple ts n1 pt] e pos) (tS X.K lk (wpS Γ XF lk (.setT tg a))) := by
  refine PS.wk (ps_asg h (g_ok o.x o.fn lk tg _ hg) (by cases e <;> rfl) hs rfl) fun D σ H ⟨δ, F, Kd, st, nd, hw, hq⟩ => ?_
  rw [wpS] at hw
  refine ⟨δ, F, _, st, nd, hw, fun x δ1 v H1 F1 Fv kc rx => ?_⟩
  obtain ⟨d, δ2, rfl, hb, kc⟩ := kc
  have rm : RM X.K H1 v (.p d) Fv := rx.vl.one'
  cases rm with
  | p rp => exact ⟨δ1, F1, d, δ2, rx.st, nd_right rx.nd, rp, hb, fun σ' F' w n s t l => hq.nx _ _ _ _ kc ⟨Rx.mk' w .nil (by simpa using n) (rx.tr.sub fun x hx => s x (by simpa using hx)), l⟩⟩
/-! ### loops -/
theorem z_whl (o : OkS E Γ k X sc) {c : Expr} {sts : List Stmt} {t : C} {body : S} (hc : PT X c (tT X.K (wpT Γ XF t))) (hb : PSs X sts (tS X.K lk (wpS Γ XF lk body))) : PS X (.While c sts [] pos) (tS X.K lk (wpS Γ XF lk (.whl t body))) :=
  PS.wk (ps_while o.hp hc hb) fun D σ H ⟨δ, F, Kd, st, nd, hw, hq⟩ => by
    rw [wpS] at hw
    obtain ⟨I, ⟨n0, i0⟩, step⟩ := hw
    refine ⟨fun n σ1 H1 => ∃ δ1 F1, RZ X.K lk σ H F σ1 H1 δ1 [] [] F1 [] ∧ I n δ1, ⟨n0, δ, F, .of (Rx.start st nd), i0⟩, fun n σ1 H1 ⟨δ1, F1, r1, i1⟩ => ?_⟩
    refine ⟨δ1, F1, _, r1.rx.st, nd_right r1.rx.nd, step n δ1 i1, fun b δ2 H2 F2 kb rx => ?_⟩
    have r2 := r1.trans (.of rx)
    cases b with
    | true =>
      rw [if_pos rfl] at kb
      show (if true = true then _ else _)
      rw [if_pos rfl]
      refine ⟨fun σ' H' => ∃ m, m < n ∧ ∃ δ1 F1, RZ X.K lk σ H F σ' H' δ1 [] [] F1 [] ∧ I m δ1, fun σ' H' ⟨m, hm, w⟩ => ⟨m, hm, w⟩, δ2, F2, _, r2.rx.st, nd_right r2.rx.nd, kb, ?_⟩
      exact ⟨fun δ' σ' H' F' ⟨m, hm, im⟩ r => ⟨m, hm, δ', F', r2.trans r, im⟩, (hq.after r2).rt, fun δ' σ' H' F' kn r => hq.nx _ _ _ _ kn (r2.trans r), fun δ' σ' H' F' ⟨m, hm, im⟩ r => ⟨m, hm, δ', F', r2.trans r, im⟩⟩
    | false =>
      rw [if_neg Bool.false_ne_true] at kb
      show (if false = true then _ else _)
      rw [if_neg Bool.false_ne_true]
      exact hq.nx _ _ _ _ kb r2
theorem z_forS (o : OkS E Γ k X sc) {et ei : Expr} {sts : List Stmt} {tg : Tg} {src : C} {body : S} (hg : chkG E sc sc tg et = true) (pl : plainB ei = true) (hi : PI X et ei (tI X.K (wpI Γ XF src))) (hb : ∀ lk, PSs X sts (tS X.K lk (wpS Γ XF lk body))) : PS X (.For et ei sts [] pos) (tS X.K lk (wpS Γ XF lk (.forS tg src body))) := by
  have hg' : PG X et (fun v σ H Q => ∃ lk', gT X.K lk' tg v σ H Q) := ⟨fun pins s σ H v u Q I r ⟨lk', h⟩ => (g_ok o.x o.fn lk' tg et hg).run pins s σ H v u Q I r h⟩
  have hb' : PSs X sts (fun D σ H => ∃ lk', tS X.K lk' (wpS Γ XF lk' body) D σ H) := ⟨fun pins s σ H D I ⟨lk', h⟩ => (hb lk').run pins s σ H D I h⟩
  refine PS.wk (ps_for o.hp o.x.calm hi hg' hb' (plain_fold pl _)) fun D σ H ⟨δ, F, Kd, st, nd, hw, hq⟩ => ?_
  rw [wpS] at hw
  refine ⟨δ, F, _, st, nd, hw, fun s δ1 H1 F1 J kc rx sw => ?_⟩
  have loop : forLoop s.gd (fun x δ2 D' => ∃ δ3, bindT (s.gd.map (·.1) ++ lk) tg x δ2 = some δ3 ∧ wpS Γ XF (s.gd.map (·.1) ++ lk) body δ3 D') s.items δ1 Kd := kc
  generalize htn : (fun (x : PyData) (δ2 : De) (D' : EndD) => ∃ δ3, bindT (s.gd.map (·.1) ++ lk) tg x δ2 = some δ3 ∧ wpS Γ XF (s.gd.map (·.1) ++ lk) body δ3 D') = turn at loop
  have lk1 : ∀ {σ2 : L2.St}, (∀ j ∈ s.gd.map (·.1) ++ lk, σ2[j]? = σ[j]?) → ∀ j ∈ lk, σ2[j]? = σ[j]? := fun h j hj => h j (List.mem_append_right _ hj)
  have lk2 : ∀ {σ2 : L2.St}, (∀ j ∈ s.gd.map (·.1) ++ lk, σ2[j]? = σ[j]?) → ∀ g ∈ s.gd, σ2[g.1]? = σ[g.1]? := fun h g hg => h g.1 (List.mem_append_left _ (List.mem_map.mpr ⟨g, hg, rfl⟩))
  refine ⟨fun i m σ2 H2 => m = s.items.length - i ∧ i ≤ s.items.length ∧ ∃ δ2 F2, RZ X.K (s.gd.map (·.1) ++ lk) σ H1 F1 σ2 H2 δ2 [] [] F2 [] ∧ forLoop s.gd turn (s.items.drop i) δ2 Kd, ⟨s.items.length, by simp, Nat.zero_le _, δ1, F1, .of (Rx.start rx.st (nd_right rx.nd)), by rw [List.drop_zero]; exact loop⟩, ?_⟩
  rintro i m σ2 H2 ⟨rfl, hi, δ2, F2, rz, lp⟩
  have still : Still H1 H2 := rz.rx.kp.still rx.st.owns
  have full : ∀ {σ3 H3 δ3 vs xs F3 Fv}, RZ X.K (s.gd.map (·.1) ++ lk) σ2 H2 F2 σ3 H3 δ3 vs xs F3 Fv → RZ X.K lk σ H F σ3 H3 δ3 vs xs F3 Fv := fun r => by
    have r2 := rz.trans r
    exact RZ.trans (.of rx) ⟨r2.rx, lk1 r2.lk⟩
  by_cases hlt : i < s.items.length
  · rw [List.drop_eq_getElem_cons hlt, forLoop] at lp
    obtain ⟨g, lp⟩ := lp
    let Nx : L2.St → Hp → Prop := fun σ3 H3 => ∃ δ3 F3, RZ X.K (s.gd.map (·.1) ++ lk) σ H1 F1 σ3 H3 δ3 [] [] F3 [] ∧ forLoop s.gd turn (s.items.drop (i + 1)) δ3 Kd
    refine .inr ⟨sw.go i H2 σ2 δ2 F2 hlt still rz.rx.st g (lk2 rz.lk), Nx, fun σ3 H3 p => ⟨s.items.length - (i + 1), by omega, rfl, hlt, p⟩, fun x H3 y => ?_⟩
    obtain ⟨d, ed, mk⟩ := sw.yld i H2 σ2 δ2 F2 x H3 hlt still rz.rx.st g (lk2 rz.lk) y
    rw [List.getElem?_eq_getElem hlt] at ed
    cases ed
    rw [← htn] at lp
    obtain ⟨δ3, hb3, hw3⟩ := lp
    rw [htn] at hw3
    obtain ⟨w2, rp, k2⟩ := mk.rx rz.rx.st
    refine ⟨s.gd.map (·.1) ++ lk, δ2, F2, _, δ3, w2, nd_right rz.rx.nd, rp, hb3, fun σ4 F4 w4 n4 s4 t4 l4 => ?_⟩
    have r4 : RZ X.K (s.gd.map (·.1) ++ lk) σ2 H2 F2 σ4 H3 δ3 [] [] F4 [] := ⟨Rx.mk' w4 .nil (by simpa using n4) ⟨k2.mono (fun _ h => by cases h), fun a ha => .inl (s4 a (by simpa using ha))⟩, l4⟩
    refine ⟨s.gd.map (·.1) ++ lk, δ3, F4, _, w4, n4, hw3, fun δ5 σ5 H5 F5 kn r => ⟨δ5, F5, (rz.trans r4).trans r, kn⟩, fun x δ5 σ5 v H5 F5 Fv kr r => hq.rt _ _ _ _ _ _ _ kr (full (r4.trans r)), fun δ5 σ5 H5 F5 kn r => hq.nx _ _ _ _ kn (full (r4.trans r)), fun δ5 σ5 H5 F5 kn r => ⟨δ5, F5, (rz.trans r4).trans r, kn⟩⟩
  · have e : i = s.items.length := by omega
    subst e
    rw [List.drop_length, forLoop] at lp
    exact .inl ⟨sw.stop H2 σ2 δ2 F2 still rz.rx.st lp.1 (lk2 rz.lk), hq.nx _ _ _ _ lp.2 (full (.of (Rx.start rz.rx.st (nd_right rz.rx.nd))))⟩
end
end Q
set_option Elab.async false
set_option linter.all false
set_option maxRecDepth 100000
set_option maxHeartbeats 1000000
/-! LO: items set, in lists and dicts. -/
namespace Q
open PySem PySem.Spec PyProof.Rows L2

section
variable {K : PySem.W.Frag} {H H1 H2 H' : Hp} {σ : L2.St} {F F1 F2 Fv : List Addr} {δ δ1 δ2 : De} {vs : List V} {xs : List Val}
theorem putK_cons {k0 k : Key} {v0 v : V} {r : List (Key × V)} (h : (((k0, v0) :: r).map (·.1)).Nodup) : putK ((k0, v0) :: r) k v = if k0 = k then (k, v) :: r else (k0, v0) :: putK r k v := by
  rw [List.map_cons, List.nodup_cons] at h
  unfold putK
  by_cases e : k0 = k
  · subst e
    rw [if_pos (by simp), if_pos rfl, List.map_cons, if_pos rfl]
    congr 1
    have : ∀ p ∈ r, (if p.1 = k0 then (p.1, v) else p) = p := fun p hp => if_neg fun z => h.1 (List.mem_map.mpr ⟨p, hp, z⟩)
    rw [List.map_congr_left this, List.map_id']
  · rw [if_neg e, List.any_cons, decide_eq_false e, Bool.false_or, List.map_cons, if_neg e]
    split <;> rfl
theorem putK_keys {k : Key} {v : V} : ∀ {r : List (Key × V)}, (r.map (·.1)).Nodup → ((putK r k v).map (·.1)).Nodup ∧ ∀ x, x ∈ (putK r k v).map (·.1) → x = k ∨ x ∈ r.map (·.1)
  | [], _ => ⟨by simp [putK], fun x hx => .inl (by simpa [putK] using hx)⟩
  | (k0, v0) :: r, h => by
    rw [putK_cons h]
    have h' := h
    rw [List.map_cons, List.nodup_cons] at h'
    by_cases e : k0 = k
    · subst e
      rw [if_pos rfl]
      exact ⟨h, fun x hx => .inr hx⟩
    · rw [if_neg e]
      obtain ⟨a, b⟩ := putK_keys (k := k) (v := v) h'.2
      refine ⟨?_, fun x hx => ?_⟩
      · rw [List.map_cons, List.nodup_cons]
        exact ⟨fun z => (b _ z).elim e h'.1, a⟩
      · rw [List.map_cons] at hx
        rcases List.mem_cons.mp hx with z | z
        · exact .inr (by rw [z]; exact List.mem_cons_self ..)
        · exact (b x z).imp id fun z => List.mem_cons_of_mem _ z
theorem RMk.put {k : Key} {v : V} {d : PyData} (rp : RP K H v d) : ∀ {kvs : List (Key × V)} {ms : List (Key × M)} {G : List Addr}, RMk K H kvs ms G → (kvs.map (·.1)).Nodup → ∃ G', RMk K H (putK kvs k v) (kput ms k (.p d)) G' ∧ G'.Sublist G
  | _, _, _, .nil, _ => ⟨[] ++ [], .cons (.p rp) .nil, .refl _⟩
  | _, _, _, .cons (k := k0) (F := A) (G := B) a b, h => by
    rw [putK_cons h]
    rw [kput]
    by_cases e : k0 = k
    · subst e
      rw [if_pos rfl, if_pos rfl]
      exact ⟨[] ++ B, .cons (.p rp) b, List.sublist_append_right ..⟩
    · rw [if_neg e, if_neg e]
      rw [List.map_cons, List.nodup_cons] at h
      obtain ⟨G', r, s⟩ := RMk.put rp b h.2
      exact ⟨A ++ G', .cons a r, s.append_left _⟩
theorem RMk.inner {k : Key} {ds : List PyData} : ∀ {kvs : List (Key × V)} {ms : List (Key × M)} {G : List Addr}, RMk K H kvs ms G → kget ms k = some (.l ds) → G.Nodup → ∃ a xs, valV kvs k = some (.ref a) ∧ H a = some (.lst xs) ∧ RPs K H xs ds ∧ a ∈ G ∧
    ∀ H', Keep H H' [a] → Still H H' → ∀ xs' ds', H' a = some (.lst xs') → RPs K H' xs' ds' → RMk K H' kvs (kput ms k (.l ds')) G
  | _, _, _, .nil, e, _ => by simp [kget] at e
  | _, _, _, .cons (k := k0) (F := A) (G := B) a b, e, n => by
    rw [kget] at e
    by_cases ek : k0 = k
    · subst ek
      rw [if_pos rfl] at e
      cases e
      cases a with
      | @l p zs _ h1 h2 =>
        refine ⟨p, zs, valV_pos rfl, h1, h2, by simp, fun H' kp st xs' ds' h3 h4 => ?_⟩
        rw [kput, if_pos rfl]
        refine .cons (.l h3 h4) (b.keep kp st fun x hx hz => ?_)
        rw [List.mem_singleton] at hz; subst hz
        exact nd_apart n (List.mem_singleton.mpr rfl) hx
    · rw [if_neg ek] at e
      obtain ⟨p, zs, e1, h1, h2, hm, up⟩ := RMk.inner b e (nd_right n)
      refine ⟨p, zs, by rw [valV_neg ek]; exact e1, h1, h2, List.mem_append_right _ hm, fun H' kp st xs' ds' h3 h4 => ?_⟩
      rw [kput, if_neg ek]
      refine .cons (a.keep kp st fun x hx hz => ?_) (up H' kp st xs' ds' h3 h4)
      rw [List.mem_singleton] at hz; subst hz
      exact nd_apart n hx hm
theorem keep1 {a : Addr} {o o' : HO} (h : H a = some o) (m : MutK o) : Keep H (upd H a o') [a] ∧ Owns H [a] :=
  ⟨fun b u eb n => by rw [upd_ne (by simpa using n)]; exact eb, fun b hb => by rw [List.mem_singleton] at hb; subst hb; exact ⟨_, h, m⟩⟩
/-- a dict that a name holds is written -/
theorem Rx.putD (r : Rx K σ H F H2 δ2 vs xs F2 Fv) {i : Nat} {a : Addr} {kvs : List (Key × V)} {ms : List (Key × M)} {k : Key} {v : V} {d : PyData} (e : (δ2[i]?).getD none = some (.dc ms)) (ev : σ[i]? = some (some (.ref a))) (ea : H2 a = some (.dK kvs)) (rp : RP K H2 v d) :
    ∃ F', Rx K σ H F (upd H2 a (.dK (putK kvs k v))) (δ2.set i (some (.dc (kput ms k (.p d))))) [] [] F' [] := by
  obtain ⟨Fm, g, nd, _, up⟩ := r.slot i (getD_lt e)
  obtain ⟨v1, e1, rm⟩ := g _ e
  rw [ev] at e1; cases e1
  cases rm with
  | @dc _ kv _ G h1 un h2 =>
    rw [ea] at h1; cases h1
    obtain ⟨kk, oo⟩ := keep1 (o' := .dK (putK kvs k v)) ea trivial
    have ss := kk.still oo
    have nd' := nd
    rw [List.nodup_cons] at nd'
    obtain ⟨G', rk, sub⟩ := RMk.put (k := k) (rp.still ss) (h2.keep kk ss fun x hx hz => by rw [List.mem_singleton] at hz; subst hz; exact nd'.1 hx) un
    obtain ⟨F', rx⟩ := up _ [a] (.ref a) (.dc (kput ms k (.p d))) (a :: G') kk (fun b hb => .inl (by rw [List.mem_singleton] at hb; subst hb; exact List.mem_cons_self ..)) oo
      (.dc upd_same (putK_keys un).1 rk) (List.nodup_cons.mpr ⟨fun z => nd'.1 (sub.subset z), sub.nodup nd'.2⟩) fun x hx => .inl (by
        rcases List.mem_cons.mp hx with rfl | hx
        · exact List.mem_cons_self ..
        · exact List.mem_cons_of_mem _ (sub.subset hx))
    rw [set_same ev] at rx
    exact ⟨F', rx⟩
/-- a list within a dict that a name holds is written -/
theorem Rx.putI (r : Rx K σ H F H2 δ2 vs xs F2 Fv) {i : Nat} {a b : Addr} {kvs : List (Key × V)} {ms : List (Key × M)} {k : Key} {zs ws : List V} {ds es : List PyData} (e : (δ2[i]?).getD none = some (.dc ms)) (ev : σ[i]? = some (some (.ref a))) (ea : H2 a = some (.dK kvs)) (eg : kget ms k = some (.l ds)) (evv : valV kvs k = some (.ref b)) (eb : H2 b = some (.lst zs)) (rp : RPs K H2 ws es) :
    ∃ F', Rx K σ H F (upd H2 b (.lst ws)) (δ2.set i (some (.dc (kput ms k (.l es))))) [] [] F' [] := by
  obtain ⟨Fm, g, nd, _, up⟩ := r.slot i (getD_lt e)
  obtain ⟨v1, e1, rm⟩ := g _ e
  rw [ev] at e1; cases e1
  cases rm with
  | @dc _ kv _ G h1 un h2 =>
    rw [ea] at h1; cases h1
    have nd' := nd
    rw [List.nodup_cons] at nd'
    obtain ⟨p, ys, q1, q2, q3, q4, q5⟩ := h2.inner eg nd'.2
    rw [evv] at q1; cases q1
    obtain ⟨kk, oo⟩ := keep1 (o' := .lst ws) eb trivial
    have ss := kk.still oo
    have ne : a ≠ b := fun z => nd'.1 (z ▸ q4)
    obtain ⟨F', rx⟩ := up _ [b] (.ref a) (.dc (kput ms k (.l es))) (a :: G) kk (fun x hx => .inl (by rw [List.mem_singleton] at hx; subst hx; exact List.mem_cons_of_mem _ q4)) oo
      (.dc (by rw [upd_ne ne]; exact ea) un (q5 _ kk ss ws es upd_same (rp.still ss))) nd fun x hx => .inl hx
    rw [set_same ev] at rx
    exact ⟨F', rx⟩
end

section
variable {E : SE} {Γ : List Spec} {k : Nat} {X : Cx} {sc : Scope} {pos p2 p3 : Pos} {lk : List Nat}
theorem set_any (hu : X.A.units + 1 < cLine) : PSet X (fun o i v H Q => rSetL o i v H Q ∨ ∃ a H', o = .ref a ∧ DPut H a i v H' ∧ Q H') := by
  intro pins s σ H o i v ov iv u Q I ro ri rv h
  rcases h with h | ⟨a, H', rfl, g, q⟩
  · exact set_list pins s σ H o i v ov iv u Q I ro ri rv h
  · cases ro
    exact d_setItem hu I g ri rv fun s' I' => ⟨H', I', q⟩
theorem get_any (hu : X.A.units + 1 < cLine) : PGet X (fun o i H Q => rIxL X.K o i H Q ∨ ∃ a v, o = .ref a ∧ DGet H a i (some v) ∧ Q v H) := by
  intro pins s σ H x y v u Q I rx ry h
  rcases h with h | ⟨a, w, rfl, g, q⟩
  · obtain ⟨p, xs, i, z, rfl, rfl, hq, he, q⟩ := h
    cases rx
    obtain ⟨t, rfl⟩ := ry
    obtain ⟨its, r, pl, hz⟩ := I.list hq
    obtain ⟨j, h1, h2, h3, h4, h5⟩ := atI_get he
    obtain ⟨w, ew, rw'⟩ := r.get h2
    have hl := r.length
    have hn := line63
    have fin : EP X pins σ Q w s := ⟨z, H, I, rw', q⟩
    by_cases h0 : 0 ≤ i
    · have hj : i.toNat = j := by
        rw [seqIndex_of h0 h5] at h1
        exact Option.some.inj h1
      exact wpAny_getItem_list pl.isList h0 (by omega) (by rw [hj]; simpa using ew) fin
    · have hj : (i + (its.toArray.size : Int)).toNat = j := by
        rw [seqIndex_neg (by omega) h4] at h1
        rw [List.size_toArray, ← hl]
        exact Option.some.inj h1
      exact wpAny_getItem_list_neg pl.isList (by omega) (by rw [List.size_toArray] <;> omega) (by omega) (by rw [hj]; simpa using ew) fin
  · cases rx
    exact d_getItem hu I g ry fun w' s' I' rw' => ⟨w, H, I', rw', q⟩
theorem ip_any (op : BOp) : PIp X (bopOf op) (fun x y H Q => ∃ i j, x = .int i ∧ y = .int j ∧ (op = .add ∨ op = .sub) ∧ Q (.int (if op = .add then i + j else i - j)) H) := by
  intro pins s σ H x y v u Q I rx ry h
  obtain ⟨i, j, rfl, rfl, ho, q⟩ := h
  rcases ho with rfl | rfl
  · exact ip_add pins s σ H _ _ v u Q I rx ry ⟨i, j, rfl, rfl, q⟩
  · exact ip_sub pins s σ H _ _ v u Q I rx ry ⟨i, j, rfl, rfl, q⟩
theorem sub_assign {o i : Expr} (h : plainB i = true) : ∀ v, assign (.Subscript o i pos) X.env v = (do
      let ov ← holding [v] (eval o X.env)
      let iv ← holding [v, ov] (eval i X.env)
      standAt pos
      holding [v, ov, iv] (setItem ov iv v)
      release [v, ov, iv] []) := by
  intro v
  cases i <;> first | rfl | cases h
theorem aug_store {i : Expr} (h : plainB i = true) : ∀ ov iv new, augStore i ov iv new = (do holding [new, ov, iv] (setItem ov iv new); release [new, ov, iv] []; pure .next) := by
  intro ov iv new
  cases i <;> first | rfl | cases h
theorem RMk.putM {K : PySem.W.Frag} {H : Hp} {k : Key} {v : V} {m : M} {Fm : List Addr} (rm : RM K H v m Fm) : ∀ {kvs : List (Key × V)} {ms : List (Key × M)} {G : List Addr}, RMk K H kvs ms G → (kvs.map (·.1)).Nodup → (Fm ++ G).Nodup → ∃ G', RMk K H (putK kvs k v) (kput ms k m) G' ∧ G'.Nodup ∧ ∀ x ∈ G', x ∈ Fm ∨ x ∈ G
  | _, _, _, .nil, _, n => ⟨Fm ++ [], .cons rm .nil, by simpa using nd_left n, fun x hx => .inl (by simpa using hx)⟩
  | _, _, _, .cons (k := k0) (F := A) (G := B) a b, h, n => by
    rw [putK_cons h]
    rw [kput]
    by_cases e : k0 = k
    · subst e
      rw [if_pos rfl, if_pos rfl]
      refine ⟨Fm ++ B, .cons rm b, nd_mk (nd_left n) (nd_right (nd_right n)) fun x hx hy => nd_apart n hx (List.mem_append_right _ hy), fun x hx => ?_⟩
      exact (List.mem_append.mp hx).imp id (List.mem_append_right _)
    · rw [if_neg e, if_neg e]
      rw [List.map_cons, List.nodup_cons] at h
      have nr := nd_right n
      obtain ⟨G', r, g1, g2⟩ := RMk.putM rm b h.2 (nd_mk (nd_left n) (nd_right nr) fun x hx hy => nd_apart n hx (List.mem_append_right _ hy))
      refine ⟨A ++ G', .cons a r, nd_mk (nd_left nr) g1 fun x hx hy => ?_, fun x hx => ?_⟩
      · rcases g2 x hy with z | z
        · exact nd_apart n z (List.mem_append_left _ hx)
        · exact nd_apart nr hx z
      · rcases List.mem_append.mp hx with z | z
        · exact .inr (List.mem_append_left _ z)
        · exact (g2 x z).imp id (List.mem_append_right _)
theorem Rx.putM {K : PySem.W.Frag} {H H2 : Hp} {σ : L2.St} {F F2 Fv : List Addr} {δ2 : De} {v : V} {m : M} (r : Rx K σ H F H2 δ2 [v] [.own m] F2 Fv) {i : Nat} {a : Addr} {kvs : List (Key × V)} {ms : List (Key × M)} {k : Key} (e : (δ2[i]?).getD none = some (.dc ms)) (ev : σ[i]? = some (some (.ref a))) (ea : H2 a = some (.dK kvs)) :
    ∃ F', Rx K σ H F (upd H2 a (.dK (putK kvs k v))) (δ2.set i (some (.dc (kput ms k m)))) [] [] F' [] := by
  obtain ⟨Fm, g, nd, sub, up⟩ := r.slot i (getD_lt e)
  obtain ⟨v1, e1, rm⟩ := g _ e
  rw [ev] at e1; cases e1
  cases rm with
  | @dc _ kv _ G h1 un h2 =>
    rw [ea] at h1; cases h1
    obtain ⟨kk, oo⟩ := keep1 (o' := .dK (putK kvs k v)) ea trivial
    have ss := kk.still oo
    have nd' := nd
    rw [List.nodup_cons] at nd'
    have naV : a ∉ Fv := fun z => nd_apart r.nd z (sub a (List.mem_cons_self ..))
    have rmv : RM K _ v m Fv := RM.keep kk ss (show RM K H2 v m Fv from r.vl.one') fun x hx hz => by rw [List.mem_singleton] at hz; subst hz; exact naV hx
    obtain ⟨G', rk, g1, g2⟩ := RMk.putM (k := k) rmv (h2.keep kk ss fun x hx hz => by rw [List.mem_singleton] at hz; subst hz; exact nd'.1 hx) un (nd_mk (nd_left r.nd) nd'.2 fun x hx hy => nd_apart r.nd hx (sub x (List.mem_cons_of_mem _ hy)))
    obtain ⟨F', rx⟩ := up _ [a] (.ref a) (.dc (kput ms k m)) (a :: G') kk (fun b hb => .inl (by rw [List.mem_singleton] at hb; subst hb; exact List.mem_cons_self ..)) oo
      (.dc upd_same (putK_keys un).1 rk) (List.nodup_cons.mpr ⟨fun z => (g2 a z).elim naV nd'.1, g1⟩) fun x hx => by
        rcases List.mem_cons.mp hx with rfl | hx
        · exact .inl (List.mem_cons_self ..)
        · rcases g2 x hx with z | z
          · exact .inr (.inl z)
          · exact .inl (List.mem_cons_of_mem _ z)
    rw [set_same ev] at rx
    exact ⟨F', rx⟩
theorem z_setK (o : OkS E Γ k X sc) {i j : Nat} {x y : Str} {e : Expr} {a : C} {q r : Pos} (h1 : decide (E.N[i]? = some x) = true) (h2 : visB sc x = true) (h3 : okX x = true) (h : PE X e (tE X.K (wpE Γ XF a))) :
    PS X (.Assign [.Subscript (.Name x p2) (.Constant (.str y) j p3) q] e r) (tS X.K lk (wpS Γ XF lk (.setK i y a))) := by
  refine PS.wk (ps_dput (pos' := q) (by have := o.x.un; omega) (pe_var (i := i) (o.x.at h1) (o.x.vis h2) (okX_1 h3) (okX_2 h3)) pe_str (pe_ghost h) (by cases e <;> rfl)) fun D σ H ⟨δ, F, Kd, st, nd, hw, hq⟩ => ?_
  rw [wpS] at hw
  refine ⟨δ, F, _, st, nd, hw, fun x δ1 v H1 F1 Fv k1 r1 => mov_ok (Q := fun v H1 => tVar i σ H1 fun x H2 => tC (V.str y) σ H2 fun y H3 => ∃ a H4, x = .ref a ∧ DPut H3 a y v H4 ∧ D.nx σ H4) r1 k1 fun m δ2 H2 F2 Fm ⟨kvs, e0, hlen, kc⟩ rx => ?_⟩
  obtain ⟨ov, Fo, ev, rm, _⟩ := rx.st.get e0
  cases rm with
  | @dc a' kv _ G ha un rk =>
    obtain ⟨F', r2⟩ := rx.putM (k := .inr y) e0 ev ha
    exact ⟨_, ev, a', _, rfl, DPut.k (k := .inr y) ha (by rw [rk.length]; exact hlen), hq.nx _ _ _ _ kc (.of r2)⟩
/-- an item is set, by what stands there -/
theorem setAt_go {σ : L2.St} {H : Hp} {F : List Addr} {D : Ends} {Kd : EndD} (hq : EQ X.K lk σ H F Kd D) {H2 : Hp} {δ2 : De} {F2 Fv : List Addr} {vs : List V} {xs : List Val} (r : Rx X.K σ H F H2 δ2 vs xs F2 Fv) {i : Nat} {key d : PyData} {o y v : V} (ev : σ[i]? = some (some o)) (ry : RP X.K H2 y key) (rp : RP X.K H2 v d) (h : setAt i key d δ2 Kd.nx) :
    rSetL o y v H2 (fun H3 => D.nx σ H3) ∨ ∃ a H', o = .ref a ∧ DPut H2 a y v H' ∧ D.nx σ H' := by
  unfold setAt at h
  split at h
  · rename_i ds e
    obtain ⟨z, j, rfl, hj, kc⟩ := h
    obtain ⟨o', Fm, ev', rm, _⟩ := r.st.get e
    rw [ev] at ev'; cases ev'
    cases rm with
    | @l a zs _ ha rs =>
      cases ry
      refine .inl ⟨a, zs, z, j, rfl, rfl, ha, by rw [rs.length]; exact hj, ?_⟩
      obtain ⟨F', rx⟩ := r.put e ev ha (rs.set rp j)
      exact hq.nx _ _ _ _ kc (.of rx)
  · rename_i ms e
    obtain ⟨kk, hk, hl, kc⟩ := h
    obtain ⟨o', Fm, ev', rm, _⟩ := r.st.get e
    rw [ev] at ev'; cases ev'
    cases rm with
    | @dc a kvs _ G ha un rk =>
      have ey := ry.kV hk
      subst ey
      obtain ⟨F', rx⟩ := r.putD (k := kk) e ev ha rp
      exact .inr ⟨a, _, rfl, DPut.k ha (by rw [rk.length]; exact hl), hq.nx _ _ _ _ kc (.of rx)⟩
  · exact h.elim
theorem z_setIx (o : OkS E Γ k X sc) {i : Nat} {x : Str} {eb e : Expr} {b a : C} (h1 : decide (E.N[i]? = some x) = true) (h2 : visB sc x = true) (h3 : okX x = true) (pl : plainB eb = true) (hb : PE X eb (tE X.K (wpE Γ XF b))) (h : PE X e (tE X.K (wpE Γ XF a))) :
    PS X (.Assign [.Subscript (.Name x p2) eb p3] e pos) (tS X.K lk (wpS Γ XF lk (.setIx i b a))) := by
  refine PS.wk (ps_asg (pe_ghost h) (pg_sub (pe_var (i := i) (o.x.at h1) (o.x.vis h2) (okX_1 h3) (okX_2 h3)) hb (set_any (by have := o.x.un; omega)) (sub_assign pl)) (by cases e <;> rfl) (by cases e <;> rfl) rfl) fun D σ H ⟨δ, F, Kd, st, nd, hw, hq⟩ => ?_
  rw [wpS] at hw
  refine ⟨δ, F, _, st, nd, hw, fun x δ1 v H1 F1 Fv k1 r1 => frz_ok (Q := fun v H1 => gSub (tVar i) (tE X.K (wpE Γ XF b)) (fun o i v H Q => rSetL o i v H Q ∨ ∃ a H', o = .ref a ∧ DPut H a i v H' ∧ Q H') v σ H1 D.nx) r1 k1 fun d δ2 H2 F2 ⟨⟨m0, e0⟩, k2⟩ rp rx => ?_⟩
  obtain ⟨ov, Fm, ev, _, _⟩ := rx.st.get e0
  refine ⟨ov, ev, δ2, F2, _, rx.st, nd_right rx.nd, k2, fun y δ3 w H3 F3 Fw k3 r3 => ?_⟩
  obtain ⟨key, rfl, ks⟩ := k3
  have r := rx.step r3
  have rp3 : RP X.K H3 v d := rp.still (r3.kp.still rx.st.owns)
  have rw3 : RM X.K H3 w (.p key) Fw := r3.vl.one'
  cases rw3 with
  | p ry => exact setAt_go hq r ev ry rp3 ks
theorem z_setSub (o : OkS E Γ k X sc) {i j : Nat} {x y : Str} {eb e : Expr} {b a : C} {q r : Pos} (h1 : decide (E.N[i]? = some x) = true) (h2 : visB sc x = true) (h3 : okX x = true) (pl : plainB eb = true) (hb : chkQ E b sc eb = true) (h : PE X e (tE X.K (wpE Γ XF a))) :
    PS X (.Assign [.Subscript (.Subscript (.Name x p2) (.Constant (.str y) j p3) q) eb r] e pos) (tS X.K lk (wpS Γ XF lk (.setSub i y b a))) := by
  refine PS.wk (ps_asg (pe_ghost h) (pg_sub (pe_dget (by have := o.x.un; omega) (pe_var (i := i) (o.x.at h1) (o.x.vis h2) (okX_1 h3) (okX_2 h3)) pe_str (fun _ _ => rfl)) (q_I o.x b eb hb) set_list (sub_assign pl)) (by cases e <;> rfl) (by cases e <;> rfl) rfl) fun D σ H ⟨δ, F, Kd, st, nd, hw, hq⟩ => ?_
  rw [wpS] at hw
  refine ⟨δ, F, _, st, nd, hw, fun x δ1 v H1 F1 Fv k1 r1 => frz_ok (Q := fun v H1 => gSub (tDGet (tVar i) (tC (.str y))) (fun σ H Q => ∃ δ F z, RS X.K H σ δ F ∧ qI b δ = some z ∧ Q (.int z) H) rSetL v σ H1 D.nx) r1 k1 fun d δ2 H2 F2 k2 rp rx => ?_⟩
  obtain ⟨ms, ds, z, jj, e0, e1, e2, e3, kc⟩ := k2
  obtain ⟨ov, Fm, ev, rm, hsub⟩ := rx.st.get e0
  cases rm with
  | @dc a' kvs _ G ha un rk =>
    obtain ⟨Fm', g', ndm, _, _⟩ := rx.slot i (getD_lt e0)
    obtain ⟨v1, ev1, rm1⟩ := g' _ e0
    rw [ev] at ev1; cases ev1
    cases rm1 with
    | @dc _ kvs' _ G' ha' un' rk' =>
      rw [ha] at ha'; cases ha'
      obtain ⟨p, zs, q1, q2, q3, q4, _⟩ := rk'.inner e1 (List.nodup_cons.mp ndm).2
      refine ⟨_, ev, a', .ref p, rfl, by rw [← q1]; exact DGet.k (k := .inr y) ha, δ2, F2, z, rx.st, e2, p, zs, z, jj, rfl, rfl, q2, by rw [q3.length]; exact e3, ?_⟩
      obtain ⟨F', r2⟩ := rx.putI e0 ev ha e1 q1 q2 (q3.set rp jj)
      exact hq.nx _ _ _ _ kc (.of r2)
theorem z_aug (o : OkS E Γ k X sc) {i : Nat} {x : Str} {op : BOp} {e : Expr} {a : C} (h1 : decide (E.N[i]? = some x) = true) (h2 : tgtB sc sc x = true) (h : PE X e (tE X.K (wpE Γ XF a))) : PS X (.AugAssign (.Name x p2) (bopOf op) e pos) (tS X.K lk (wpS Γ XF lk (.aug i op a))) := by
  obtain ⟨l1, l2⟩ := o.x.tgt o.fn h2
  refine PS.wk (ps_aug (by rw [o.x.hN]; exact o.x.nd) (o.x.at h1) l1 h (ip_any op) l2) fun D σ H ⟨δ, F, Kd, st, nd, hw, hq⟩ => ?_
  rw [wpS] at hw
  obtain ⟨z, e0, hw⟩ := hw
  obtain ⟨v, Fm, ev, rm, _⟩ := st.get e0
  have := rm.pI
  subst this
  refine ⟨_, ev, δ, F, _, st, nd, hw, fun y δ1 w H1 F1 Fv k1 r1 => ?_⟩
  obtain ⟨b, rfl, ho, hi, kc⟩ := k1
  have ew := (show RM X.K H1 w (.p (.int b)) Fv from r1.vl.one').pI
  refine ⟨z, b, rfl, ew, ho, ?_⟩
  obtain ⟨F2, rz⟩ := RZ.set (r1.pure (.int (if op = .add then z + b else z - b))) hi (by rw [← r1.st.length, st.length]; exact getD_lt e0)
  exact hq.nx _ _ _ _ kc rz
theorem z_augIx (o : OkS E Γ k X sc) {i : Nat} {x : Str} {op : BOp} {eb e : Expr} {b a : C} (h1 : decide (E.N[i]? = some x) = true) (h2 : visB sc x = true) (h3 : okX x = true) (pl : plainB eb = true) (hb : PE X eb (tE X.K (wpE Γ XF b))) (h : PE X e (tE X.K (wpE Γ XF a))) :
    PS X (.AugAssign (.Subscript (.Name x p2) eb p3) (bopOf op) e pos) (tS X.K lk (wpS Γ XF lk (.augIx i op b a))) := by
  have hu : X.A.units + 1 < cLine := by have := o.x.un; omega
  refine PS.wk (ps_augS (pe_var (i := i) (o.x.at h1) (o.x.vis h2) (okX_1 h3) (okX_2 h3)) hb (get_any hu) h (ip_any op) (set_any hu) (aug_store pl)) fun D σ H ⟨δ, F, Kd, st, nd, hw, hq⟩ => ?_
  rw [wpS] at hw
  obtain ⟨⟨m0, e0⟩, hw⟩ := hw
  obtain ⟨ov, Fm0, ev, _, _⟩ := st.get e0
  refine ⟨ov, ev, δ, F, _, st, nd, hw, fun y δ1 w H1 F1 Fv k1 r1 => ?_⟩
  obtain ⟨key, m, z, rfl, e1, hx, hm, k1⟩ := k1
  obtain ⟨ov', Fm, ev', rm, hsub⟩ := r1.st.get e1
  rw [ev] at ev'; cases ev'
  have rw1 : RM X.K H1 w (.p key) Fv := r1.vl.one'
  cases rw1 with
  | p ry =>
    have next : (tE X.K (wpE Γ XF a)) σ H1 fun y2 H4 => ∃ i2 j2, V.int z = V.int i2 ∧ y2 = .int j2 ∧ (op = .add ∨ op = .sub) ∧ (rSetL ov w (.int (if op = .add then i2 + j2 else i2 - j2)) H4 (fun H6 => D.nx σ H6) ∨ ∃ a H', ov = .ref a ∧ DPut H4 a w (.int (if op = .add then i2 + j2 else i2 - j2)) H' ∧ D.nx σ H') := by
      refine ⟨δ1, F1, _, r1.st, nd_right r1.nd, k1, fun y2 δ2 w2 H2 F2 Fw k2 r2 => ?_⟩
      obtain ⟨c, rfl, ho, ks⟩ := k2
      have ew := (show RM X.K H2 w2 (.p (.int c)) Fw from r2.vl.one').pI
      exact ⟨z, c, rfl, ew, ho, setAt_go hq (r1.step r2) ev (ry.still (r2.kp.still r1.st.owns)) (.int _) ks⟩
    cases rm with
    | p _ => cases hm
    | @l p zs ds ha rs =>
      cases key <;> first | (simp [ixM] at hx; done) | skip
      rename_i kk
      obtain ⟨ds', d, e2, e3, rfl⟩ := (show ∃ ds' d, (M.l ds).seq = some ds' ∧ L2.atI ds' kk = some d ∧ d = .int z from hx)
      cases e2
      obtain ⟨v3, e4, rp4⟩ := atI_rel rs e3
      cases ry
      cases rp4
      exact .inl ⟨p, zs, kk, .int z, rfl, rfl, .of ha, e4, next⟩
    | @dc p kvs ms G ha un rk =>
      obtain ⟨key', d, e2, e3, rfl⟩ := (show ∃ key' d, keyOf key = some key' ∧ kget ms key' = some (.p d) ∧ d = .int z from hx)
      obtain ⟨v3, Fw, e4, rm4, _⟩ := (RMk.get (k := key') rk).1 _ e3
      have ey := ry.kV e2
      have e5 := rm4.pI
      subst e5
      refine .inr ⟨p, .int z, rfl, ?_, next⟩
      rw [ey, ← e4]
      exact DGet.k ha
end
end Q
set_option Elab.async false
set_option linter.all false
set_option maxRecDepth 100000
set_option maxHeartbeats 2000000
/-! LP: the checkers tell the truth. -/
namespace Q
open PySem PySem.Spec PyProof.Rows L2

structure Snd (E : SE) (Γ : List Spec) (k n : Nat) : Prop where
  e : ∀ (c : C), sizeOf c < n → ∀ (X : Cx) (sc : Scope), OkX E Γ k X sc → ∀ ex : Expr, chkE E c sc ex = true → PE X ex (tE X.K (wpE Γ XF c))
  t : ∀ (c : C), sizeOf c < n → ∀ (X : Cx) (sc : Scope), OkX E Γ k X sc → ∀ ex : Expr, chkT E c sc ex = true → PT X ex (tT X.K (wpT Γ XF c))
section
variable {E : SE} {Γ : List Spec} {k n : Nat} {X : Cx} {sc : Scope} {pos : Pos}
theorem ba {a b : Bool} (h : (a && b) = true) : a = true ∧ b = true := by rw [Bool.and_eq_true] at h; exact h
theorem chkL_pl : ∀ {l : C} {es : List Expr}, chkL E l sc es = true → plains es = true
  | l, [], _ => rfl
  | l, e :: es, h => by
    cases l <;> first | (simp [chkL] at h; done) | skip
    rw [chkL] at h
    obtain ⟨h1, h2⟩ := ba h
    unfold plains
    rw [List.all_cons, (ba h1).1]
    exact chkL_pl h2
theorem chkL_nil {l : C} (h : chkL E l sc [] = true) : l = .nil := by
  cases l <;> first | rfl | (simp [chkL] at h; done)
theorem lF (S : Snd E Γ k n) (o : OkX E Γ k X sc) : ∀ (l : C), sizeOf l < n + 1 → ∀ es, chkL E l sc es = true → PA X es (tF X.K (wpF Γ XF l)) := by
  intro l
  induction l with
  | nil => intro _ es h; cases es with
    | nil => exact s_Fnil
    | cons _ _ => simp [chkL] at h
  | cons a as _ ih => intro hn es h; cases es with
    | nil => simp [chkL] at h
    | cons e es =>
      rw [chkL] at h
      simp only [C.cons.sizeOf_spec] at hn
      exact s_Fcons (ba (ba h).1).1 (S.e a (by omega) X sc o e (ba (ba h).1).2) (ih (by omega) es (ba h).2)
  | _ => intro _ es h; cases es <;> simp [chkL] at h
theorem lV (S : Snd E Γ k n) (o : OkX E Γ k X sc) : ∀ (l : C), sizeOf l < n + 1 → ∀ es, chkL E l sc es = true → PA X es (tV X.K es.length (wpV Γ XF l)) := by
  intro l
  induction l with
  | nil => intro _ es h; cases es with
    | nil => exact s_Vnil
    | cons _ _ => simp [chkL] at h
  | cons a as _ ih => intro hn es h; cases es with
    | nil => simp [chkL] at h
    | cons e es =>
      rw [chkL] at h
      simp only [C.cons.sizeOf_spec] at hn
      exact s_Vcons (ba (ba h).1).1 (S.e a (by omega) X sc o e (ba (ba h).1).2) (ih (by omega) es (ba h).2)
  | _ => intro _ es h; cases es <;> simp [chkL] at h
theorem lD (S : Snd E Γ k n) (o : OkX E Γ k X sc) : ∀ (l : C), sizeOf l < n + 1 → ∀ es, chkL E l sc es = true → PA X es (tD X.K (wpD Γ XF l)) := by
  intro l
  induction l with
  | nil => intro _ es h; cases es with
    | nil => exact s_Dnil
    | cons _ _ => simp [chkL] at h
  | cons a as _ ih => intro hn es h; cases es with
    | nil => simp [chkL] at h
    | cons e es =>
      rw [chkL] at h
      simp only [C.cons.sizeOf_spec] at hn
      exact s_Dcons (ba (ba h).1).1 (S.e a (by omega) X sc o e (ba (ba h).1).2) (ih (by omega) es (ba h).2)
  | _ => intro _ es h; cases es <;> simp [chkL] at h
theorem lK (S : Snd E Γ k n) (o : OkX E Γ k X sc) : ∀ (l : C), sizeOf l < n + 1 → ∀ es, chkK E l sc es = true → PK X es (tV X.K es.length (wpV Γ XF l)) := by
  intro l
  induction l with
  | nil => intro _ es h; cases es with
    | nil => exact s_Knil
    | cons _ _ => simp [chkK] at h
  | cons a as _ ih => intro hn es h; cases es with
    | nil => simp [chkK] at h
    | cons e es =>
      obtain ⟨nm, e, p⟩ := e
      cases nm with
      | none => simp [chkK] at h
      | some nm =>
        rw [chkK] at h
        simp only [C.cons.sizeOf_spec] at hn
        exact s_Kcons (S.e a (by omega) X sc o e (ba h).1) (ih (by omega) es (ba h).2)
  | _ => intro _ es h; cases es with
    | nil => simp [chkK] at h
    | cons e es => obtain ⟨nm, e, p⟩ := e; cases nm <;> simp [chkK] at h
theorem lAV (S : Snd E Γ k n) (o : OkX E Γ k X sc) : ∀ (l : C), sizeOf l < n + 1 → ∀ es, chkL E l sc es = true → PE X (.BoolOp .And es pos) (tE X.K (wpE Γ XF (.and l))) := by
  intro l
  induction l with
  | nil => intro _ es h; exact ⟨fun pins s σ H Q I ⟨δ, F, Kc, st, nd, hw, hq⟩ => by rw [wpE, wpAV] at hw <;> first | exact hw.elim | (intros; contradiction)⟩
  | cons a as _ ih => intro hn es h; cases es with
    | nil => simp [chkL] at h
    | cons e es =>
      rw [chkL] at h
      simp only [C.cons.sizeOf_spec] at hn
      have he := S.e a (by omega) X sc o e (ba (ba h).1).2
      cases es with
      | nil =>
        cases chkL_nil (ba h).2
        exact s_AV1 he
      | cons e2 es =>
        have hr := ih (by omega) (e2 :: es) (ba h).2
        have h2 := (ba h).2
        cases as <;> first | (simp [chkL] at h2; done) | skip
        exact s_AVc he hr
  | _ => intro _ es h; cases es <;> simp [chkL] at h
theorem lOV (S : Snd E Γ k n) (o : OkX E Γ k X sc) : ∀ (l : C), sizeOf l < n + 1 → ∀ es, chkL E l sc es = true → PE X (.BoolOp .Or es pos) (tE X.K (wpE Γ XF (.or l))) := by
  intro l
  induction l with
  | nil => intro _ es h; exact ⟨fun pins s σ H Q I ⟨δ, F, Kc, st, nd, hw, hq⟩ => by rw [wpE, wpOV] at hw <;> first | exact hw.elim | (intros; contradiction)⟩
  | cons a as _ ih => intro hn es h; cases es with
    | nil => simp [chkL] at h
    | cons e es =>
      rw [chkL] at h
      simp only [C.cons.sizeOf_spec] at hn
      have he := S.e a (by omega) X sc o e (ba (ba h).1).2
      cases es with
      | nil =>
        cases chkL_nil (ba h).2
        exact s_OV1 he
      | cons e2 es =>
        have hr := ih (by omega) (e2 :: es) (ba h).2
        have h2 := (ba h).2
        cases as <;> first | (simp [chkL] at h2; done) | skip
        exact s_OVc he hr
  | _ => intro _ es h; cases es <;> simp [chkL] at h
theorem lA (S : Snd E Γ k n) (o : OkX E Γ k X sc) : ∀ (l : C), sizeOf l < n + 1 → ∀ es, es ≠ [] → chkTs E l sc es = true → PW X (.BoolOp .And es pos) (tT X.K (wpA Γ XF l)) := by
  intro l
  induction l with
  | cons a as _ ih => intro hn es _ h; cases es with
    | nil => simp [chkTs] at h
    | cons e es =>
      rw [chkTs] at h
      simp only [C.cons.sizeOf_spec] at hn
      have he := S.t a (by omega) X sc o e (ba h).1
      cases es with
      | nil =>
        have h2 := (ba h).2
        cases as <;> first | (simp [chkTs] at h2; done) | skip
        exact s_A1 he
      | cons e2 es => exact s_Ac he (ih (by omega) (e2 :: es) (by simp) (ba h).2)
  | nil => intro _ es hne h; cases es with
    | nil => exact absurd rfl hne
    | cons _ _ => simp [chkTs] at h
  | _ => intro _ es _ h; cases es <;> simp [chkTs] at h
theorem lO (S : Snd E Γ k n) (o : OkX E Γ k X sc) : ∀ (l : C), sizeOf l < n + 1 → ∀ es, es ≠ [] → chkTs E l sc es = true → PW X (.BoolOp .Or es pos) (tT X.K (wpO Γ XF l)) := by
  intro l
  induction l with
  | cons a as _ ih => intro hn es _ h; cases es with
    | nil => simp [chkTs] at h
    | cons e es =>
      rw [chkTs] at h
      simp only [C.cons.sizeOf_spec] at hn
      have he := S.t a (by omega) X sc o e (ba h).1
      cases es with
      | nil =>
        have h2 := (ba h).2
        cases as <;> first | (simp [chkTs] at h2; done) | skip
        exact s_O1 he
      | cons e2 es => exact s_Oc he (ih (by omega) (e2 :: es) (by simp) (ba h).2)
  | nil => intro _ es hne h; cases es with
    | nil => exact absurd rfl hne
    | cons _ _ => simp [chkTs] at h
  | _ => intro _ es _ h; cases es <;> simp [chkTs] at h
theorem lDct (S : Snd E Γ k n) (o : OkX E Γ k X sc) : ∀ (l : C), sizeOf l < n + 1 → ∀ ks keys vals, keysB ks keys = true → keys.length = vals.length → chkL E l sc vals = true → DOk X Γ pos keys vals ks l := by
  intro l
  induction l with
  | nil => intro _ ks keys vals hk hl h; cases vals with
    | cons _ _ => simp [chkL] at h
    | nil => cases keys with
      | cons _ _ => simp at hl
      | nil => cases ks with
        | cons _ _ => simp [keysB] at hk
        | nil => exact d_nil
  | cons a as _ ih => intro hn ks keys vals hk hl h; cases vals with
    | nil => simp [chkL] at h
    | cons e es => cases keys with
      | nil => simp at hl
      | cons ky keys => cases ks with
        | nil => simp [keysB] at hk
        | cons x xs =>
          unfold keysB at hk
          split at hk
          · rename_i e1 e2; cases e1
          · rename_i x1 xs1 y1 p1 p2 r1 e1 e2
            cases e1
            cases e2
            obtain ⟨h1, h2⟩ := ba hk
            rw [beq_iff_eq] at h1
            subst h1
            rw [chkL] at h
            simp only [C.cons.sizeOf_spec] at hn
            exact d_cons (S.e a (by omega) X sc o e (ba (ba h).1).2) (ih (by omega) _ _ _ h2 (by simpa using hl) (ba h).2)
          · cases hk
  | _ => intro _ ks keys vals hk hl h; cases vals <;> simp [chkL] at h
theorem keysB_some : ∀ {ks : List Str} {keys : List (Option Expr)}, keysB ks keys = true → keys.all (·.isSome) = true ∧ keys.length = ks.length
  | [], [], _ => ⟨rfl, rfl⟩
  | [], _ :: _, h => by simp [keysB] at h
  | _ :: _, [], h => by simp [keysB] at h
  | x :: xs, e :: r, h => by
    unfold keysB at h
    split at h
    · rename_i e1 e2; cases e1
    · rename_i x1 xs1 y1 p1 p2 r1 e1 e2
      cases e1
      cases e2
      obtain ⟨a, b⟩ := keysB_some (ba h).2
      exact ⟨by rw [List.all_cons, a]; rfl, congrArg (· + 1) b⟩
    · cases h
theorem lRg (S : Snd E Γ k n) (o : OkX E Γ k X sc) {l : C} {es : List Expr} (hn : sizeOf l < n + 1) (hl : es.length = 1 ∨ es.length = 2) (h : chkL E l sc es = true) : rgExprs es l X Γ := by
  match es, hl with
  | [e], _ =>
    cases l <;> first | (simp [chkL] at h; done) | skip
    rename_i a as
    rw [chkL] at h
    cases chkL_nil (ba h).2
    simp only [C.cons.sizeOf_spec, C.nil.sizeOf_spec] at hn
    exact .inl ⟨e, a, rfl, rfl, (ba (ba h).1).1, S.e a (by omega) X sc o e (ba (ba h).1).2⟩
  | [e1, e2], _ =>
    cases l <;> first | (simp [chkL] at h; done) | skip
    rename_i a as
    rw [chkL] at h
    have h2 := (ba h).2
    cases as <;> first | (simp [chkL] at h2; done) | skip
    rename_i b bs
    rw [chkL] at h2
    cases chkL_nil (ba h2).2
    simp only [C.cons.sizeOf_spec, C.nil.sizeOf_spec] at hn
    exact .inr ⟨e1, e2, a, b, rfl, rfl, (ba (ba h).1).1, (ba (ba h2).1).1, S.e a (by omega) X sc o e1 (ba (ba h).1).2, S.e b (by omega) X sc o e2 (ba (ba h2).1).2⟩
  | [], hl => simp at hl
  | _ :: _ :: _ :: _, hl => simp at hl
theorem lI (S : Snd E Γ k n) (o : OkX E Γ k X sc) {c : C} (hn : sizeOf c < n + 1) {et ex : Expr} (h : chkI E c sc et ex = true) : PI X et ex (tI X.K (wpI Γ XF c)) := by
  rw [chkI.eq_def] at h
  split at h
  · rename_i l y p es q
    simp only [C.rng.sizeOf_spec] at hn
    obtain ⟨h, h4⟩ := ba h
    obtain ⟨h, h3⟩ := ba h
    obtain ⟨h1, h2⟩ := ba h
    exact i_rng o h1 h2 (lRg S o (by omega) (of_decide_eq_true h3) h4)
  · rename_i a y p e q
    simp only [C.enum.sizeOf_spec] at hn
    obtain ⟨h, h5⟩ := ba h
    obtain ⟨h, h4⟩ := ba h
    obtain ⟨h, h3⟩ := ba h
    obtain ⟨h1, h2⟩ := ba h
    cases et <;> first | (simp [tupB] at h1; done) | skip
    exact i_enum o h2 h3 h4 (S.e a (by omega) X sc o e h5)
  · rename_i a
    simp only [C.sv.sizeOf_spec] at hn
    exact i_sv (S.e a (by omega) X sc o _ h)
  · cases h
theorem lA1 (S : Snd E Γ k n) (o : OkX E Γ k X sc) {l : C} (hn : sizeOf l < n + 1) {es : List Expr} (h : chkA1 E l sc es = true) : PTs X es (tT X.K (wpA Γ XF l)) := by
  rw [chkA1.eq_def] at h
  split at h
  · obtain ⟨run⟩ := pts_nil (X := X)
    refine ⟨fun pins s σ H Q I ⟨δ, F, Kc, st, nd, hw, hq⟩ => run pins s σ H Q I ?_⟩
    rw [wpA] at hw
    exact hq _ _ _ _ hw (Rx.start st nd)
  · rename_i a e
    simp only [C.cons.sizeOf_spec, C.nil.sizeOf_spec] at hn
    obtain ⟨run⟩ := pts_one (S.t a (by omega) X sc o e h)
    refine ⟨fun pins s σ H Q I ⟨δ, F, Kc, st, nd, hw, hq⟩ => run pins s σ H Q I ?_⟩
    rw [wpA] at hw
    refine ⟨δ, F, _, st, nd, hw, fun b δ1 H1 F1 k1 r1 => ?_⟩
    cases b with
    | true => rw [if_pos rfl, wpA] at k1; exact hq _ _ _ _ k1 r1
    | false => exact hq _ _ _ _ k1 r1
  · cases h
theorem lComp (S : Snd E Γ k n) (o : OkX E Γ k X sc) {own : List Nat} {tg : Tg} {src ifs elt : C} {et ei ee : Expr} {eifs : List Expr} {scope : Scope} (hn : sizeOf (C.comp own tg src ifs elt) < n + 1) (h : chkE E (.comp own tg src ifs elt) sc (.ListComp ee [⟨et, ei, eifs, 0⟩] scope pos) = true) : CompOk E Γ X sc scope own tg src ifs elt et ei eifs ee := by
  rw [chkE] at h
  simp only [C.comp.sizeOf_spec] at hn
  obtain ⟨h, h8⟩ := ba h
  obtain ⟨h, h7⟩ := ba h
  obtain ⟨h, h6⟩ := ba h
  obtain ⟨h, h5⟩ := ba h
  obtain ⟨h, h4⟩ := ba h
  obtain ⟨h, h3⟩ := ba h
  obtain ⟨h1, h2⟩ := ba h
  exact ⟨h1, of_decide_eq_true h2, fun i hi => of_decide_eq_true (List.all_eq_true.mp h4 i hi), h5, lI S o (by omega) h3, fun s H Cc cl fp => g_ok (o.blk s H scope Cc cl fp) (blk_fn s H scope Cc cl fp) [] tg et h6,
    fun s H Cc cl fp => lA1 S (o.blk s H scope Cc cl fp) (by omega) h7, fun s H Cc cl fp => S.e elt (by omega) _ _ (o.blk s H scope Cc cl fp) ee h8⟩
theorem lO1 (S : Snd E Γ k n) (o : OkX E Γ k X sc) {l : C} (hn : sizeOf l < n + 1) {eo : Option Expr} (h : chkO E l sc eo = true) : (l = .nil ∧ eo = none) ∨ ∃ e c, l = .cons c .nil ∧ eo = some e ∧ PE X e (tE X.K (wpE Γ XF c)) := by
  rw [chkO.eq_def] at h
  split at h
  · exact .inl ⟨rfl, rfl⟩
  · rename_i a e
    simp only [C.cons.sizeOf_spec, C.nil.sizeOf_spec] at hn
    exact .inr ⟨e, a, rfl, rfl, S.e a (by omega) X sc o e h⟩
  · cases h
theorem step_e (S : Snd E Γ k n) (c : C) (hn : sizeOf c < n + 1) (o : OkX E Γ k X sc) (ex : Expr) (h : chkE E c sc ex = true) : PE X ex (tE X.K (wpE Γ XF c)) := by
  have h0 := h
  rw [chkE.eq_def] at h
  split at h <;> try simp only [Bool.and_eq_true] at h
  · obtain ⟨⟨h1, h2⟩, h3⟩ := h
    exact s_v o h1 h2 h3
  · exact s_k h
  · refine s_gk o ?_
    simp only [Bool.and_eq_true]
    exact h
  · rename_i l es _ _
    simp only [C.tup.sizeOf_spec] at hn
    exact s_tup (lF S o l (by omega) es h)
  · rename_i l es _
    simp only [C.lst.sizeOf_spec] at hn
    exact s_lst (lF S o l (by omega) es h)
  · rename_i ks l keys vals _
    simp only [C.dct.sizeOf_spec] at hn
    obtain ⟨⟨⟨⟨h1, h2⟩, h3⟩, h4⟩, h5⟩ := h
    have h2 := of_decide_eq_true h2
    obtain ⟨g1, g2⟩ := keysB_some h1
    refine s_dct (lDct S o l (by omega) ks keys vals h1 h2 h5) g1 h2 g2 (of_decide_eq_true h3) (of_decide_eq_true h4) fun e => ?_
    subst e
    cases vals with
    | nil => exact chkL_nil h5
    | cons _ _ => simp at h2
  · rename_i op a b ea eop eb _
    simp only [C.bin.sizeOf_spec] at hn
    obtain ⟨⟨h1, h2⟩, h3⟩ := h
    cases of_decide_eq_true h1
    exact s_bin op (S.e a (by omega) X sc o ea h2) (S.e b (by omega) X sc o eb h3)
  · rename_i a ea _
    simp only [C.neg.sizeOf_spec] at hn
    exact s_neg (S.e a (by omega) X sc o ea h)
  · rename_i op a b ea eop eb _
    simp only [C.cmp.sizeOf_spec] at hn
    obtain ⟨⟨⟨h1, h4⟩, h2⟩, h3⟩ := h
    cases of_decide_eq_true h1
    exact s_cmp o op h4 (S.e a (by omega) X sc o ea h2) (S.e b (by omega) X sc o eb h3)
  · rename_i o1 o2 a b c ea e1 e2 eb ec _
    simp only [C.ch.sizeOf_spec] at hn
    obtain ⟨⟨⟨⟨⟨h1, h2⟩, h3⟩, h4⟩, h5⟩, h6⟩ := h
    cases of_decide_eq_true h1
    cases of_decide_eq_true h2
    exact s_ch o o1 o2 h3 (S.e a (by omega) X sc o ea h4) (S.e b (by omega) X sc o eb h5) (S.e c (by omega) X sc o ec h6)
  · rename_i l vs _
    simp only [C.and.sizeOf_spec] at hn
    exact lAV S o l (by omega) vs h
  · rename_i l vs _
    simp only [C.or.sizeOf_spec] at hn
    exact lOV S o l (by omega) vs h
  · rename_i t e _
    simp only [C.not.sizeOf_spec] at hn
    exact s_not (S.e t (by omega) X sc o e h)
  · rename_i t a b et ea eb _
    simp only [C.ite.sizeOf_spec] at hn
    obtain ⟨⟨h1, h2⟩, h3⟩ := h
    exact s_ite (S.t t (by omega) X sc o et h1) (S.e a (by omega) X sc o ea h2) (S.e b (by omega) X sc o eb h3)
  · rename_i a b ea eb _
    simp only [C.ix.sizeOf_spec] at hn
    obtain ⟨⟨h1, h2⟩, h3⟩ := h
    exact s_ix o h1 (S.e a (by omega) X sc o ea h2) (S.e b (by omega) X sc o eb h3)
  · rename_i a lo hi ea l hh _ _
    simp only [C.sl.sizeOf_spec] at hn
    obtain ⟨⟨h1, h2⟩, h3⟩ := h
    exact s_sl (S.e a (by omega) X sc o ea h1) (lO1 S o (by omega) h2) (lO1 S o (by omega) h3)
  · rename_i a ea _ _ _ _ _
    simp only [C.rev.sizeOf_spec] at hn
    exact s_rev (S.e a (by omega) X sc o ea h)
  · rename_i i key b x _ y _ _ _ eb _
    obtain ⟨⟨⟨⟨⟨h1, h2⟩, h3⟩, h4⟩, h5⟩, h6⟩ := h
    rw [beq_iff_eq] at h4
    subst h4
    exact s_ixs o h1 h2 h3 h5 h6
  · rename_i i key x _ y _ _ _ _ _
    obtain ⟨⟨⟨h1, h2⟩, h3⟩, h4⟩ := h
    rw [beq_iff_eq] at h4
    subst h4
    exact s_nes o h1 h2 h3
  · rename_i i key f _ x _ y _ _ _ _
    obtain ⟨⟨⟨⟨⟨h1, h2⟩, h3⟩, h4⟩, h5⟩, h6⟩ := h
    rw [beq_iff_eq] at h6
    subst h6
    exact s_lens o h1 h2 h3 h4 h5
  · rename_i f l x _ e es _
    simp only [C.bi.sizeOf_spec] at hn
    obtain ⟨⟨h1, h2⟩, h3⟩ := h
    rw [beq_iff_eq] at h1
    subst h1
    exact s_bi o f h2 (chkL_pl h3) (lV S o l (by omega) _ h3)
  · rename_i a t x _ e y _ _
    simp only [C.isi.sizeOf_spec] at hn
    obtain ⟨⟨⟨⟨⟨⟨h1, h2⟩, h3⟩, h4⟩, h5⟩, h6⟩, h7⟩ := h
    rw [beq_iff_eq] at h3
    subst h3
    exact s_isi o h1 h2 h4 (of_decide_eq_true h5) h6 (S.e a (by omega) X sc o e h7)
  · rename_i f oo l eo x apos e es cpos
    simp only [C.me.sizeOf_spec] at hn
    obtain ⟨⟨⟨⟨⟨h1, h2⟩, h3⟩, h4⟩, h5⟩, h6⟩ := h
    exact s_me f h1 h2 (chkL_pl h6) (of_decide_eq_true h4) h3 (S.e oo (by omega) X sc o eo h5) (lV S o l (by omega) _ h6)
  · rename_i f i l y _ x apos e es cpos
    simp only [C.mu.sizeOf_spec] at hn
    obtain ⟨⟨⟨⟨⟨⟨h1, h2⟩, h3⟩, h4⟩, h5⟩, h6⟩, h7⟩ := h
    exact s_mu o f h1 h4 h5 h6 (chkL_pl h7) (of_decide_eq_true h3) h2 (lF S o l (by omega) _ h7)
  · rename_i f l kl x _ es kws _
    simp only [C.call.sizeOf_spec] at hn
    obtain ⟨⟨⟨⟨⟨h1, h2⟩, h3⟩, h4⟩, h5⟩, h6⟩ := h
    cases hk : kwNames kws with
    | none => rw [hk] at h2; cases h2
    | some ks =>
      rw [hk] at h1
      have hG := of_decide_eq_true h1
      have lk := lK S o kl (by omega) kws h6
      rw [kw_len hk] at lk
      exact s_call o hG hk h3 h4 (chkL_pl h5) (lV S o l (by omega) es h5) lk fun e => by subst e; exact chkL_nil h5
  · exact s_comp o (lComp S o hn h0)
  · rename_i l x _ y _ es _ _
    simp only [C.tupI.sizeOf_spec, C.rng.sizeOf_spec] at hn
    obtain ⟨⟨⟨⟨⟨h1, h2⟩, h3⟩, h4⟩, h5⟩, h6⟩ := h
    exact s_tupI o h1 h2 h3 h4 (lRg S o (by omega) (of_decide_eq_true h5) h6)
  · rename_i l x _ y _ es _ _
    simp only [C.lstI.sizeOf_spec, C.rng.sizeOf_spec] at hn
    obtain ⟨⟨⟨⟨⟨h1, h2⟩, h3⟩, h4⟩, h5⟩, h6⟩ := h
    exact s_lstI o h1 h2 h3 h4 (lRg S o (by omega) (of_decide_eq_true h5) h6)
  · cases h
theorem step_t (S : Snd E Γ k n) (c : C) (hn : sizeOf c < n + 1) (o : OkX E Γ k X sc) (ex : Expr) (h : chkT E c sc ex = true) : PT X ex (tT X.K (wpT Γ XF c)) := by
  rw [chkT.eq_def] at h
  split at h <;> try simp only [Bool.and_eq_true] at h
  · rename_i t e _
    simp only [C.not.sizeOf_spec] at hn
    exact s_notT (S.t t (by omega) X sc o e h)
  · rename_i l vs _
    simp only [C.and.sizeOf_spec] at hn
    exact s_andT (lA S o l (by omega) vs (by intro e; subst e; simp at h) h.1)
  · rename_i l vs _
    simp only [C.or.sizeOf_spec] at hn
    exact s_orT (lO S o l (by omega) vs (by intro e; subst e; simp at h) h.1)
  · rename_i op a b ea eop eb _
    simp only [C.tv.sizeOf_spec, C.cmp.sizeOf_spec] at hn
    obtain ⟨⟨⟨h1, h4⟩, h2⟩, h3⟩ := h
    cases of_decide_eq_true h1
    exact s_cmpT o op h4 (S.e a (by omega) X sc o ea h2) (S.e b (by omega) X sc o eb h3)
  · rename_i o1 o2 a b c ea e1 e2 eb ec _
    simp only [C.tv.sizeOf_spec, C.ch.sizeOf_spec] at hn
    obtain ⟨⟨⟨⟨⟨h1, h2⟩, h3⟩, h4⟩, h5⟩, h6⟩ := h
    cases of_decide_eq_true h1
    cases of_decide_eq_true h2
    exact s_chT o o1 o2 h3 (S.e a (by omega) X sc o ea h4) (S.e b (by omega) X sc o eb h5) (S.e c (by omega) X sc o ec h6)
  · rename_i i key x _ y _ _ _ _ _
    obtain ⟨⟨⟨h1, h2⟩, h3⟩, h4⟩ := h
    rw [beq_iff_eq] at h4
    subst h4
    exact s_nesT o h1 h2 h3
  · rename_i c _ _ _
    simp only [C.tv.sizeOf_spec] at hn
    exact s_tv h.1 (S.e c (by omega) X sc o _ h.2)
  · cases h
theorem snd_all : ∀ n, Snd E Γ k n
  | 0 => ⟨fun c h => by omega, fun c h => by omega⟩
  | n + 1 => ⟨fun c hn X sc o ex h => step_e (snd_all n) c hn o ex h, fun c hn X sc o ex h => step_t (snd_all n) c hn o ex h⟩
end

end Q
set_option Elab.async false
set_option linter.all false
set_option maxRecDepth 100000
set_option maxHeartbeats 2000000
/-! LQ: the checkers of statements tell the truth. -/
namespace Q
open PySem PySem.Spec PyProof.Rows L2

/-! ### statements -/
def swOk (sc : Scope) (ts : List Expr) : Expr → Bool
  | .Tuple vs _ _ => (!vs.all (constantsAlone 8) || vs.all (foldedForSure 8)) && (match swN sc ts vs with | none => true | _ => false)
  | _ => true
def locS (sc : Scope) (x : Str) : Bool := match sc.names.lookup x with
  | some .local => true
  | _ => false
mutual
def chkS (E : SE) : S → Scope → Stmt → Bool
  | .set i a, sc, .Assign [.Name x _] e _ => decide (E.N[i]? = some x) && tgtB sc sc x && chkE E a sc e
  | .setT tg a, sc, .Assign [.Tuple ts n1 pt] e _ => chkG E sc sc tg (.Tuple ts n1 pt) && swOk sc ts e && chkE E a sc e
  | .par [i, j] l, sc, .Assign [.Tuple [.Name x px, .Name y py] _ _] (.Tuple [ea, eb] _ _) _ => decide (E.N[i]? = some x) && decide (E.N[j]? = some y) && decide (i ≠ j) && locS sc x && locS sc y && !([ea, eb].all (constantsAlone 8)) &&
      decide (swN sc [.Name x px, .Name y py] [ea, eb] = some [x, y]) && chkL E l sc [ea, eb]
  | .par [i, j, t] l, sc, .Assign [.Tuple [.Name x px, .Name y py, .Name z pz] _ _] (.Tuple [ea, eb, ec] _ _) _ => decide (E.N[i]? = some x) && decide (E.N[j]? = some y) && decide (E.N[t]? = some z) && decide (i ≠ j) && decide (i ≠ t) && decide (j ≠ t) && locS sc x && locS sc y && locS sc z &&
      !([ea, eb, ec].all (constantsAlone 8)) && decide (swN sc [.Name x px, .Name y py, .Name z pz] [ea, eb, ec] = some [x, y, z]) && chkL E l sc [ea, eb, ec]
  | .setIx i b a, sc, .Assign [.Subscript (.Name x _) eb _] e _ => decide (E.N[i]? = some x) && visB sc x && okX x && plainB eb && chkE E b sc eb && chkE E a sc e
  | .setSub i key b a, sc, .Assign [.Subscript (.Subscript (.Name x _) (.Constant (.str y) _ _) _) eb _] e _ => decide (E.N[i]? = some x) && visB sc x && okX x && y == key && plainB eb && chkQ E b sc eb && chkE E a sc e
  | .setK i key a, sc, .Assign [.Subscript (.Name x _) (.Constant (.str y) _ _) _] e _ => decide (E.N[i]? = some x) && visB sc x && okX x && y == key && chkE E a sc e
  | .aug i op a, sc, .AugAssign (.Name x _) eop e _ => decide (E.N[i]? = some x) && tgtB sc sc x && decide (eop = bopOf op) && chkE E a sc e
  | .augIx i op b a, sc, .AugAssign (.Subscript (.Name x _) eb _) eop e _ => decide (E.N[i]? = some x) && visB sc x && okX x && decide (eop = bopOf op) && plainB eb && chkE E b sc eb && chkE E a sc e
  | .ex a, sc, .Expr e _ => notLc e && chkE E a sc e
  | .ret a, sc, .Return (some e) _ => chkE E a sc e
  | .retN, _, .Return none _ => true
  | .ife t a b, sc, .If c sa sb _ => chkT E t sc c && chkB E a sc sa && chkB E b sc sb
  | .forS tg src body, sc, .For et ei sts [] _ => chkG E sc sc tg et && plainB ei && chkI E src sc et ei && chkB E body sc sts
  | .whl t body, sc, .While c sts [] _ => chkT E t sc c && chkB E body sc sts
  | .pass, _, .Pass _ => true
  | .brk, _, .Break _ => true
  | .cont, _, .Continue _ => true
  | .stop, _, _ => true
  | _, _, _ => false
def chkB (E : SE) : S → Scope → List Stmt → Bool
  | .nil, _, [] => true
  | .cons a as, sc, st :: sts => chkS E a sc st && chkB E as sc sts
  | _, _, _ => false
end
section
variable {E : SE} {Γ : List Spec} {k n : Nat} {X : Cx} {sc : Scope} {pos : Pos}
theorem locS_ok {x : Str} (h : locS sc x = true) : sc.names.lookup x = some .local := by
  unfold locS at h
  split at h
  · assumption
  · cases h
theorem aE (o : OkS E Γ k X sc) {c : C} {ex : Expr} (h : chkE E c sc ex = true) : PE X ex (tE X.K (wpE Γ XF c)) := (snd_all (sizeOf c + 1)).e c (Nat.lt_succ_self _) X sc o.x ex h
theorem aT (o : OkS E Γ k X sc) {c : C} {ex : Expr} (h : chkT E c sc ex = true) : PT X ex (tT X.K (wpT Γ XF c)) := (snd_all (sizeOf c + 1)).t c (Nat.lt_succ_self _) X sc o.x ex h
theorem aB {c : Bool} (h : (!c) = true) : c = false := by cases c <;> first | rfl | cases h
structure SndS (E : SE) (Γ : List Spec) (k n : Nat) : Prop where
  s : ∀ (c : S), sizeOf c < n → ∀ (X : Cx) (sc : Scope), OkS E Γ k X sc → ∀ st : Stmt, chkS E c sc st = true → ∀ lk, PS X st (tS X.K lk (wpS Γ XF lk c))
  b : ∀ (c : S), sizeOf c < n → ∀ (X : Cx) (sc : Scope), OkS E Γ k X sc → ∀ sts : List Stmt, chkB E c sc sts = true → ∀ lk, PSs X sts (tS X.K lk (wpS Γ XF lk c))
theorem step_s (T : SndS E Γ k n) (c : S) (hn : sizeOf c < n + 1) (o : OkS E Γ k X sc) (st : Stmt) (h : chkS E c sc st = true) (lk : List Nat) : PS X st (tS X.K lk (wpS Γ XF lk c)) := by
  rw [chkS.eq_def] at h
  split at h <;> try simp only [Bool.and_eq_true] at h
  · rename_i i a x _ e _
    obtain ⟨⟨h1, h2⟩, h3⟩ := h
    cases hl : notLc e with
    | true => exact z_set o h1 h2 hl (aE o h3)
    | false =>
      cases e <;> first | (simp [notLc] at hl; done) | skip
      all_goals (cases a <;> first | (simp [chkE] at h3; done) | skip)
      rename_i ee gs scope pp own tg src ifs elt
      have h4 := h3
      rw [chkE.eq_def] at h4
      split at h4 <;> first | (rename_i e1 e2; cases e1; done) | skip
      all_goals first | (cases h4; done) | skip
      all_goals (first | (rename_i e1 e2; cases e1; cases e2) | skip)
      all_goals exact z_setLc o (lComp (snd_all (sizeOf (C.comp own tg src ifs elt))) o.x (Nat.lt_succ_self _) h3) h1 h2
  · rename_i tg a ts n1 pt e _
    obtain ⟨⟨h1, h2⟩, h3⟩ := h
    refine z_setT o h1 (aE o h3) ?_
    cases e <;> first | rfl | skip
    rename_i vs n2 q2
    simp only [swOk, Bool.and_eq_true, Bool.or_eq_true] at h2
    rw [sw_eq o (h2.1.imp aB id)]
    obtain ⟨_, h2⟩ := h2
    split at h2
    · rename_i e2; rw [e2]
    · cases h2
  · rename_i i j l x px y py _ _ ea eb _ _ _
    obtain ⟨⟨⟨⟨⟨⟨⟨h1, h2⟩, h3⟩, h4⟩, h5⟩, h6⟩, h7⟩, h8⟩ := h
    exact z_par2 o h1 h2 (of_decide_eq_true h3) (locS_ok h4) (locS_ok h5) (aB h6) (of_decide_eq_true h7) (lD (snd_all (sizeOf l)) o.x l (Nat.lt_succ_self _) _ h8)
  · rename_i i j t l x px y py z pz _ _ ea eb ec _ _ _
    obtain ⟨⟨⟨⟨⟨⟨⟨⟨⟨⟨⟨h1, h2⟩, h3⟩, h4⟩, h5⟩, h6⟩, h7⟩, h8⟩, h9⟩, h10⟩, h11⟩, h12⟩ := h
    exact z_par3 o h1 h2 h3 (of_decide_eq_true h4) (of_decide_eq_true h5) (of_decide_eq_true h6) (locS_ok h7) (locS_ok h8) (locS_ok h9) (aB h10) (of_decide_eq_true h11) (lD (snd_all (sizeOf l)) o.x l (Nat.lt_succ_self _) _ h12)
  · rename_i i b a x _ eb _ e _
    obtain ⟨⟨⟨⟨⟨h1, h2⟩, h3⟩, h4⟩, h5⟩, h6⟩ := h
    exact z_setIx o h1 h2 h3 h4 (aE o h5) (aE o h6)
  · rename_i i key b a x _ y _ _ _ eb _ e _
    obtain ⟨⟨⟨⟨⟨⟨h1, h2⟩, h3⟩, h4⟩, h5⟩, h6⟩, h7⟩ := h
    rw [beq_iff_eq] at h4
    subst h4
    exact z_setSub o h1 h2 h3 h5 h6 (aE o h7)
  · rename_i i key a x _ y _ _ _ e _
    obtain ⟨⟨⟨⟨h1, h2⟩, h3⟩, h4⟩, h6⟩ := h
    rw [beq_iff_eq] at h4
    subst h4
    exact z_setK o h1 h2 h3 (aE o h6)
  · rename_i i op a x _ eop e _
    obtain ⟨⟨⟨h1, h2⟩, h3⟩, h4⟩ := h
    cases of_decide_eq_true h3
    exact z_aug o h1 h2 (aE o h4)
  · rename_i i op b a x _ eb _ eop e _
    obtain ⟨⟨⟨⟨⟨⟨h1, h2⟩, h3⟩, h4⟩, h5⟩, h6⟩, h7⟩ := h
    cases of_decide_eq_true h4
    exact z_augIx o h1 h2 h3 h5 (aE o h6) (aE o h7)
  · exact z_ex h.1 (aE o h.2)
  · exact z_ret (aE o h)
  · exact z_retN
  · rename_i t a b cc sa sb _
    simp only [S.ife.sizeOf_spec] at hn
    obtain ⟨⟨h1, h2⟩, h3⟩ := h
    exact z_ife (aT o h1) (T.b a (by omega) X sc o sa h2 lk) (T.b b (by omega) X sc o sb h3 lk)
  · rename_i tg src body et ei sts _
    simp only [S.forS.sizeOf_spec] at hn
    obtain ⟨⟨⟨h1, h2⟩, h3⟩, h4⟩ := h
    exact z_forS o h1 h2 (lI (snd_all (sizeOf src)) o.x (Nat.lt_succ_self _) h3) (fun lk => T.b body (by omega) X sc o sts h4 lk)
  · rename_i t body cc sts _
    simp only [S.whl.sizeOf_spec] at hn
    exact z_whl o (aT o h.1) (T.b body (by omega) X sc o sts h.2 lk)
  · exact z_pass
  · exact z_brk
  · exact z_cont
  · exact z_stop
  · cases h
theorem step_b (T : SndS E Γ k n) (c : S) (hn : sizeOf c < n + 1) (o : OkS E Γ k X sc) (sts : List Stmt) (h : chkB E c sc sts = true) (lk : List Nat) : PSs X sts (tS X.K lk (wpS Γ XF lk c)) := by
  rw [chkB.eq_def] at h
  split at h
  · exact z_nil
  · rename_i a as st sts
    simp only [S.cons.sizeOf_spec] at hn
    exact z_cons (T.s a (by omega) X sc o st (ba h).1 lk) (T.b as (by omega) X sc o sts (ba h).2 lk)
  · cases h
theorem snd_S : ∀ n, SndS E Γ k n
  | 0 => ⟨fun c h => by omega, fun c h => by omega⟩
  | n + 1 => ⟨fun c hn X sc o ex h lk => step_s (snd_S n) c hn o ex h lk, fun c hn X sc o ex h lk => step_b (snd_S n) c hn o ex h lk⟩
theorem aS (o : OkS E Γ k X sc) {c : S} {sts : List Stmt} (h : chkB E c sc sts = true) (lk : List Nat) : PSs X sts (tS X.K lk (wpS Γ XF lk c)) := (snd_S (sizeOf c + 1)).b c (Nat.lt_succ_self _) X sc o sts h lk
end
end Q
set_option Elab.async false
set_option linter.all false
set_option maxRecDepth 100000
set_option maxHeartbeats 2000000
/-! LR: a def keeps what its code is worth. -/
namespace Q
open PySem PySem.Spec PyProof.Rows L2

section
variable {K : PySem.W.Frag} {H H' : Hp} {σ : L2.St} {F F' : List Addr} {δ : De}
theorem RS.blanks : ∀ n : Nat, RS K H (List.replicate n none) (List.replicate n none) []
  | 0 => .nil
  | n + 1 => .no (RS.blanks n)
theorem RS.starts {m : Nat} : ∀ {vs : List V} {ms : List M} {F : List Addr}, RMs K H vs ms F → RS K H (vs.map some ++ List.replicate m none) (ms.map some ++ List.replicate m none) F
  | _, _, _, .nil => RS.blanks m
  | _, _, _, .cons a b => .so a (RS.starts b)
/-- what the arguments are at the end -/
theorem outs_ok (s : Still H H') : ∀ {vs : List V} {ms : List M} {F : List Addr}, RMs K H vs ms F → ∀ {σ : L2.St} {δ : De} {F' : List Addr} {os : List M} (i : Nat), RS K H' σ δ F' → F'.Nodup → outs ms δ = some os →
    (∀ j, i + j ∈ lockOf i ms → σ[j]? = (vs.map some)[j]?) → ∃ G, RMs K H' vs os G ∧ G.Nodup ∧ ∀ a ∈ G, a ∈ F'
  | _, _, _, .nil, σ, δ, F', os, i, st, nd, e, h => by
    simp only [outs, Option.some.injEq] at e
    subst e
    exact ⟨[], .nil, .nil, fun _ h => by cases h⟩
  | _, _, _, .cons (v := v) (m := m) (vs := vs) (ms := ms) a b, σ, δ, F', os, i, st, nd, e, h => by
    have rest : ∀ {σ' δ' G' os'}, RS K H' σ' δ' G' → G'.Nodup → outs ms δ' = some os' → (∀ j, σ'[j]? = σ[j + 1]?) → (∀ x ∈ lockOf (i + 1) ms, x ∈ lockOf i (m :: ms)) → ∃ G, RMs K H' vs os' G ∧ G.Nodup ∧ ∀ a ∈ G, a ∈ G' := fun st' nd' e' hs hl =>
      outs_ok s b (i + 1) st' nd' e' fun j hj => by
        have := h (j + 1) (by have := hl _ hj; rw [show i + (j + 1) = i + 1 + j by omega]; exact this)
        rw [hs, this]; rfl
    -- one place taken off
    have tl : ∃ (σ' : L2.St) (δ' : De) (Gh Gt : List Addr), F' = Gh ++ Gt ∧ δ.tail = δ' ∧ RS K H' σ' δ' Gt ∧ (∀ j, σ'[j]? = σ[j + 1]?) ∧ ∀ m', (δ.head?).getD none = some m' → ∃ v', σ[0]? = some (some v') ∧ RM K H' v' m' Gh := by
      cases st with
      | nil => exact ⟨[], [], [], [], rfl, rfl, .nil, fun j => rfl, fun m' e => by simp at e⟩
      | no st => exact ⟨_, _, [], _, rfl, rfl, st, fun j => rfl, fun m' e => by simp at e⟩
      | so rm st => exact ⟨_, _, _, _, rfl, rfl, st, fun j => rfl, fun m' e => by simp at e; subst e; exact ⟨_, rfl, rm⟩⟩
    obtain ⟨σ', δ', Gh, Gt, rfl, rfl, st', hs, hd⟩ := tl
    have own : (m.isP = false) → (∀ x ∈ lockOf (i + 1) ms, x ∈ lockOf i (m :: ms)) ∧ i ∈ lockOf i (m :: ms) := fun hm => by
      cases m with
      | p d => cases hm
      | l _ => exact ⟨fun x hx => List.mem_cons_of_mem _ hx, List.mem_cons_self ..⟩
      | dc _ => exact ⟨fun x hx => List.mem_cons_of_mem _ hx, List.mem_cons_self ..⟩
    have owned : m.isP = false → (match (δ.head?).getD none, outs ms δ.tail with | some m, some r => some (m :: r) | _, _ => none) = some os → ∃ G, RMs K H' (v :: vs) os G ∧ G.Nodup ∧ ∀ a ∈ G, a ∈ Gh ++ Gt := fun hm e => by
      split at e
      · rename_i m' r e1 e2
        cases e
        obtain ⟨v', ev, rm⟩ := hd m' e1
        obtain ⟨hl, hi⟩ := own hm
        have := h 0 (by simpa using hi)
        rw [ev] at this
        simp only [List.map_cons, List.getElem?_cons_zero, Option.some.injEq] at this
        subst this
        obtain ⟨G, g1, g2, g3⟩ := rest st' (nd_right nd) e2 hs hl
        exact ⟨Gh ++ G, .cons rm g1, nd_mk (nd_left nd) g2 fun x hx hy => nd_apart nd hx (g3 x hy), fun x hx => (List.mem_append.mp hx).elim (List.mem_append_left _) fun hx => List.mem_append_right _ (g3 x hx)⟩
      · cases e
    cases m with
    | p d =>
      simp only [outs, Option.map_eq_some_iff] at e
      obtain ⟨r, e1, rfl⟩ := e
      obtain ⟨G, g1, g2, g3⟩ := rest st' (nd_right nd) e1 hs (fun x hx => hx)
      cases a with
      | p rp => exact ⟨[] ++ G, .cons (.p (rp.still s)) g1, g2, fun x hx => List.mem_append_right _ (g3 x hx)⟩
    | l ds => exact owned rfl e
    | dc kvs => exact owned rfl e
theorem outs_set {i : Nat} : ∀ {ms : List M} {δ : De} {j : Nat}, ms.length ≤ j → outs ms (δ.set j none) = outs ms δ
  | [], _, _, _ => rfl
  | .p d :: ms, δ, j + 1, h => by
    cases δ with
    | nil => rfl
    | cons x δ => 
      simp only [outs, List.set_cons_succ, List.tail_cons]
      rw [outs_set (i := i) (by simpa using h)]
  | .l d :: ms, δ, j + 1, h => by
    cases δ with
    | nil => rfl
    | cons x δ => 
      simp only [outs, List.set_cons_succ, List.tail_cons, List.head?_cons]
      rw [outs_set (i := i) (by simpa using h)]
  | .dc d :: ms, δ, j + 1, h => by
    cases δ with
    | nil => rfl
    | cons x δ => 
      simp only [outs, List.set_cons_succ, List.tail_cons, List.head?_cons]
      rw [outs_set (i := i) (by simpa using h)]
  | _ :: _, _, 0, h => by simp at h
end
theorem fn_ofG {P : Program} {w : World} {K : PySem.W.Frag} {mg : Str → Option Value} {base : Heap} {k : Nat} {f : Addr} {name qual : Str} {params : Arguments} {body : List Stmt} {scope : Scope} {dV kV doc pm cdv ct oc : Value} {an od : Option Addr}
    {osl : Array (Option Value)} {N ps : List Str} {sp : SpV} (lk : K.lookup f = some ⟨oc, od, .func (PySem.W.fnOf name qual params body scope dV kV doc pm an cdv ct), osl⟩) (hcd : PySem.W.codeIn K cdv qual = true) (S : FnScope N ps scope)
    (len : ∀ vs H Q, sp vs H Q → vs.length = ps.length)
    (hbody : ∀ (A : Around) (outer : List Env) (s : Shared) (H : Hp) (vs : List V) (Q : VK), Room k (A.deeper (envOfC qual scope s.heap.objs.size f cdv)) → A.guards = some [] → sp vs H Q →
      ∃ t, PSs (cxOf CX0 P w K mg base N qual scope f cdv A outer s H (fun _ _ _ => False)) body t ∧ t { nx := fun _ H' => Q .non H', rt := Q } (L2.start N vs) H) :
    FnOkG P w K mg base (k + 1) f (PySem.W.fnOf name qual params body scope dV kV doc pm an cdv ct) ps sp := by
  refine ⟨len, fun A outer s H args us vs Q room hgd ev bind rel want => ?_⟩
  have lenV := len _ _ _ want
  have KI : K.In s.heap := ev.mod.kin.keeps fun b o e => (ev.bs b o e).1
  have NL : s.heap.NoLimit := ev.mod.nolimit.keeps fun b o e => (ev.bs b o e).1
  have kinds : ∀ y ∈ ps.zip us, scope.names.lookup y.1 = some .local ∨ (scope.names.lookup y.1 = some .cell ∧ ((cellsFrom (s.heap.objs.size + 1) scope.names []).lookup y.1).isSome = true) := fun y hy =>
    (S.par y.1 (List.of_mem_zip (show (y.1, y.2) ∈ _ from hy)).1).imp id fun q => ⟨q, PySem.W.cellsFrom_some _ _ _ (.inl q)⟩
  refine codeAny_call_function room.depth (KI _ _ lk) rfl S.co S.gen rfl (PySem.W.codeRec_of KI hcd) (bind _ _ _ _ ?_)
  refine wpAny_newFunctionEnv_cells S.kind kinds fun env ee s1 x => ?_
  subst ee
  refine ⟨NL.keeps x.toInCall.keep, codeAny_func ?_⟩
  obtain ⟨t, walk, goal⟩ := hbody A outer s H vs Q (room.deeper _) hgd want
  have I0 : Inv (cxOf CX0 P w K mg base N qual scope f cdv A outer s H (fun _ _ _ => False)) [] (L2.start N vs) H s1 := inv_start S room.hd ev lenV rel x
  refine wpAny_mono (walk.run [] s1 (L2.start N vs) H _ I0 goal) (fun fl s2 after => ?_) fun _ _ z => z
  match fl, after with
  | .ret u, ⟨v, _, H2, J, rv, q⟩ => exact ⟨v, H2, J.os, J.bare, J.base, J.hok, rv, q⟩
  | .next, ⟨_, H2, J, q⟩ => exact ⟨V.non, H2, J.os, J.bare, J.base, J.hok, rfl, q⟩
  | .brk, ⟨_, _, _, q⟩ => exact False.elim q
  | .cont, ⟨_, _, _, q⟩ => exact False.elim q
/-- what a def's worth is, over the heap -/
theorem body_goal {K : PySem.W.Frag} {Γ : List Spec} {N : List Str} {c : S} {H : Hp} {vs : List V} {ms : List M} {F : List Addr} {Kc : M → List M → Prop} {Q : VK} (hN : ms.length ≤ N.length) (rm : RMs K H vs ms F) (nd : F.Nodup) (hw : wpFn Γ N.length c ms Kc (fun _ _ => False))
    (hq : ∀ r os v H' F' Fr, Kc r os → RM K H' v r Fr → RMs K H' vs os F' → (Fr ++ F').Nodup → Keep H H' F → Fresh H F (Fr ++ F') → Q v H') :
    tS K (lockOf 0 ms) (wpS Γ XF (lockOf 0 ms) c) { nx := fun _ H' => Q .non H', rt := Q } (L2.start N vs) H := by
  unfold wpFn at hw
  have ee : (fun (e : Exn) (δ : De) => ∃ os, outs ms δ = some os ∧ (fun (_ : Exn) (_ : List M) => False) e os) = XF := by
    funext e δ
    exact propext ⟨fun ⟨_, _, h⟩ => h, fun h => h.elim⟩
  rw [ee] at hw
  have es : L2.start N vs = vs.map some ++ List.replicate (N.length - ms.length) none := by unfold L2.start; rw [rm.length]
  have st : RS K H (L2.start N vs) (startD N.length ms) F := by rw [es]; exact RS.starts rm
  have at0 : ∀ j, j ∈ lockOf 0 ms → j < ms.length := by
    have : ∀ (ms : List M) (i j : Nat), j ∈ lockOf i ms → j < i + ms.length := by
      intro ms
      induction ms with
      | nil => intro i j h; simp [lockOf] at h
      | cons m ms ih =>
        intro i j h
        have go : j ∈ lockOf (i + 1) ms → j < i + (ms.length + 1) := fun h => by have := ih (i + 1) j h; omega
        cases m with
        | p d => exact go h
        | l _ => rcases List.mem_cons.mp h with rfl | h
                 · simp only [List.length_cons]; omega
                 · exact go h
        | dc _ => rcases List.mem_cons.mp h with rfl | h
                  · simp only [List.length_cons]; omega
                  · exact go h
    intro j h; simpa using this ms 0 j h
  have fin : ∀ {σ' H' δ' F' os}, RS K H' σ' δ' F' → F'.Nodup → Still H H' → outs ms δ' = some os → (∀ j ∈ lockOf 0 ms, σ'[j]? = (L2.start N vs)[j]?) → ∃ G, RMs K H' vs os G ∧ G.Nodup ∧ ∀ a ∈ G, a ∈ F' := fun {σ' H' δ' F' os} s1 n1 sl e hl =>
    outs_ok sl rm 0 s1 n1 e fun j hj => by
      rw [Nat.zero_add] at hj
      rw [hl j hj, es, List.getElem?_append_left (by rw [List.length_map, rm.length]; exact at0 j hj)]
  refine ⟨startD N.length ms, F, _, st, nd, hw, fun δ' σ' H' F' kn r => ?_, fun x δ' σ' v H' F' Fv kr r => ?_, fun _ _ _ _ k _ => k, fun _ _ _ _ k _ => k⟩
  · obtain ⟨os, e, kc⟩ := kn
    obtain ⟨G, g1, g2, g3⟩ := fin r.rx.st (nd_right r.rx.nd) (r.rx.kp.still st.owns) e r.lk
    exact hq _ _ _ _ G [] kc (.p .non) g1 g2 r.rx.kp fun a ha => r.rx.fr a (by simpa using g3 a (by simpa using ha))
  · cases x with
    | own m =>
      obtain ⟨os, e, kc⟩ := (show ∃ os, outs ms δ' = some os ∧ Kc m os from kr)
      obtain ⟨G, g1, g2, g3⟩ := fin r.rx.st (nd_right r.rx.nd) (r.rx.kp.still st.owns) e r.lk
      exact .inl (hq _ _ _ _ G Fv kc r.rx.vl.one' g1 (nd_mk (nd_left r.rx.nd) g2 fun a ha hb => nd_apart r.rx.nd ha (g3 a hb)) r.rx.kp fun a ha => r.rx.fr a ((List.mem_append.mp ha).elim (List.mem_append_left _) fun h => List.mem_append_right _ (g3 a h)))
    | «at» i =>
      simp only [retV] at kr
      split at kr
      · refine frz_ok (Q := Q) r.rx kr fun d δ2 H2 F2 p rp rx => ?_
        obtain ⟨os, e, kc⟩ := p
        obtain ⟨G, g1, g2, g3⟩ := fin rx.st (nd_right rx.nd) (rx.kp.still st.owns) e r.lk
        exact hq _ _ _ _ G [] kc (.p rp) g1 g2 rx.kp fun a ha => rx.fr a (by simpa using g3 a (by simpa using ha))
      · rename_i hi
        obtain ⟨m, e1, os, e, kc⟩ := kr
        obtain ⟨ev, rfl⟩ := (show σ'[i]? = some (some v) ∧ Fv = [] from r.rx.vl.one')
        obtain ⟨Fm, R, pm, g, z, up⟩ := r.rx.st.upd i (getD_lt e1)
        obtain ⟨v', ev', rmm⟩ := g m e1
        rw [ev] at ev'; cases ev'
        have n1 : (Fm ++ R).Nodup := pm.nodup_iff.mp (by simpa using r.rx.nd)
        obtain ⟨G, g1, g2, g3⟩ := fin z (nd_right n1) (r.rx.kp.still st.owns) (by rw [outs_set (i := i) (by omega)]; exact e) r.lk
        exact .inl (hq _ _ _ _ G Fm kc rmm g1 (nd_mk (nd_left n1) g2 fun a ha hb => nd_apart n1 ha (g3 a hb)) r.rx.kp fun a ha => r.rx.fr a (by
          simpa using pm.mem_iff.mpr ((List.mem_append.mp ha).elim (List.mem_append_left _) fun h => List.mem_append_right _ (g3 a h))))
/-- what is known of the text's names where defs run -/
structure Tab (P : Program) (w : World) (K : PySem.W.Frag) (mg : Str → Option Value) (base : Heap) (k : Nat) (E : SE) (Γ : List Spec) : Prop where
  dig : base.NoDigits
  blt : ∀ x ∈ bltNames, mg x = none
  con : ∀ p ∈ E.C, ∃ u v, mg p.1 = some u ∧ RelV v u ∧ RP K (fun _ => none) v p.2
  calls : ∀ (f : Nat) (x : Str) (n : Nat) (ks : List Str), E.G[f]? = some (x, n, ks) → ∃ sp, Γ[f]? = some sp ∧ CallOk P w K mg base k x n ks sp
/-- THE RULE of a def -/
theorem fn_Q {P : Program} {w : World} {K : PySem.W.Frag} {mg : Str → Option Value} {base : Heap} {k : Nat} {f : Addr} {name qual : Str} {params : Arguments} {body : List Stmt} {scope : Scope} {dV kV doc pm cdv ct oc : Value} {an od : Option Addr}
    {osl : Array (Option Value)} {E : SE} {Γ : List Spec} {ps : List Str} {c : S} {sp : Spec} (lk : K.lookup f = some ⟨oc, od, .func (PySem.W.fnOf name qual params body scope dV kV doc pm an cdv ct), osl⟩) (hcd : PySem.W.codeIn K cdv qual = true) (S : FnScope E.N ps scope)
    (tb : Tab P w K mg base k E Γ) (hc : chkB E c scope body = true) (hs : ∀ ms Kc, ms.length = ps.length → sp ms Kc (fun _ _ => False) → wpFn Γ E.N.length c ms Kc (fun _ _ => False)) :
    FnOkG P w K mg base (k + 1) f (PySem.W.fnOf name qual params body scope dV kV doc pm an cdv ct) ps (liftSp K ps.length sp) := by
  refine fn_ofG lk hcd S (fun vs H Q ⟨ms, F, Kc, hl, rm, _⟩ => rm.length.trans hl) fun A outer s H vs Q room hgd ⟨ms, F, Kc, hl, rm, nd, hsp, hq⟩ => ?_
  have hN : ps.length ≤ E.N.length := by have := congrArg List.length S.pre; rw [List.length_take] at this; omega
  refine ⟨_, aS (k := k) (E := E) (sc := scope) ⟨⟨rfl, S.nd, rfl, rfl, room, ?_, tb.dig, tb.blt, tb.con, tb.calls⟩, passes_of rfl, S.kind, fun _ _ => rfl⟩ hc (lockOf 0 ms), body_goal (by omega) rm nd (hs ms Kc hl hsp) hq⟩
  exact hgd
end Q
set_option Elab.async false
set_option linter.all false
set_option maxRecDepth 100000
set_option maxHeartbeats 2000000
/-! LS: the law's own call. -/
namespace Q
open PySem PySem.Spec PyProof.Rows L2

theorem script_rp {K : PySem.W.Frag} {H : Hp} : ∀ ns : List Int, RPs K H (ns.map V.int) (ns.map PyData.int)
  | [] => .nil
  | n :: ns => .cons (.int n) (script_rp ns)
theorem call_lawG {P : Program} {w : World} {K : PySem.W.Frag} {mg mb : Str → Option Value} {k : Nat} {fa a : Addr} {fd : FuncData} {x : Str} {sp : Spec} {s₁ : Shared} {vs : List Value} {ns : List Int}
    (inK : K.In s₁.heap) (nsM : s₁.heap.Ns mainGlobals mg) (nsB : s₁.heap.Ns builtinsNs mb) (boot : ∀ x : Str, x ≠ "__name__" → mb x = bootBuiltins x) (noLim : s₁.heap.NoLimit) (noGen : s₁.gens = #[])
    (objA : s₁.heap.get? a = some { cls := .type "list", data := .seq vs.toArray }) (allI : IntsAre vs ns) (short : ns.length ≤ sizeLine) (room : Room k callerA) (gds : callerA.guards = some [])
    (noDig : s₁.heap.NoDigits) (F : ∀ base : Heap, K.In base → base.Ns mainGlobals mg → base.NoDigits → FnOkG P w K mg base k fa fd [x] (liftSp K 1 sp)) (bind : ∀ (s : Shared) (u : Value), BindsTo s fd ⟨[u], []⟩ [(x, u)])
    (tell : ∀ Kc : M → List M → Prop, (∀ os, Kc (.p (.bool true)) os) → sp [.p (.list (ns.map PyData.int))] Kc (fun _ _ => False)) :
    codeAny (model P w) callerA (.call (.ref fa) ⟨[.ref a], []⟩) (fun r s' => r = .ok (.ret (.bool true)) ∧ OldK s₁.heap s'.heap ∧ s'.os = s₁.os ∧ AllBare s'.gens) s₁ := by
  have vals := vals_ints allI
  have size := allI.length
  -- over any abstract heap that holds the script alone
  have go : ∀ H : Hp, Only H → SqZ K H a (ns.map V.int) → HOk P w H s₁.heap → (∀ b, H b ≠ none → b = a) → (H a ≠ none → K.lookup a = none) →
      codeAny (model P w) callerA (.call (.ref fa) ⟨[.ref a], []⟩) (fun r s' => r = .ok (.ret (.bool true)) ∧ OldK s₁.heap s'.heap ∧ s'.os = s₁.os ∧ AllBare s'.gens) s₁ := by
    intro H only sq hok one off
    have getB : ∀ {b : Addr} {o : Obj}, s₁.heap.get? b = some o → H b = none → (hidT s₁.heap H).get? b = some o := fun e z => hidT_get e z
    have free : ∀ b : Addr, b ≠ a → H b = none := fun b hb => by
      cases z : H b with
      | none => rfl
      | some u => exact absurd (one b (by rw [z]; simp)) hb
    have dictFree : ∀ {b : Addr} {o : Obj} {es : Array DictEntry} {ep : Nat}, s₁.heap.get? b = some o → o.data = .dict es ep → H b = none := fun {b o es ep} e d => by
      refine free b fun z => ?_
      subst z
      rw [objA] at e; cases e
      have d' : Data.seq vs.toArray _ = Data.dict es ep := d
      cases d'
    have nsOf : ∀ {b : Addr} {m : Str → Option Value}, s₁.heap.Ns b m → (hidT s₁.heap H).Ns b m := fun {b m} ⟨o, es, ep, e, d, r⟩ => ⟨o, es, ep, getB e (dictFree e d), d, r⟩
    have inB : K.In (hidT s₁.heap H) := fun b o e => getB (inK b o e) (by
      by_cases z : b = a
      · subst z
        cases y : H b with
        | none => rfl
        | some u => rw [off (by rw [y]; simp)] at e; cases e
      · exact free b z)
    have mod : Mod K mg (hidT s₁.heap H) := ⟨inB, nsOf nsM, ⟨mb, nsOf nsB, boot⟩, let ⟨mc, h1, h2⟩ := noLim; ⟨mc, nsOf h1, h2⟩⟩
    have env : Env0 P w K mg (hidT s₁.heap H) callerA [] s₁ H := ⟨rfl, mod, fun b o e => of_hidT e, Nat.le_of_eq (hidT_size _ _), trivial, fun b hb => absurd (show b ∈ ([] : List Addr) from hb) (by simp), hok, .of_eq noGen⟩
    have want : liftSp K 1 sp [.ref a] H (fun v _ => v = .bl true) := ⟨[.p (.list (ns.map PyData.int))], [] ++ [], fun r _ => r = .p (.bool true), rfl, .cons (.p (.lst sq (script_rp ns))) .nil, .nil, tell _ fun _ => rfl, fun r os v H' F' Fr e rm _ _ _ _ => by
      subst e
      exact rm.pB⟩
    refine codeAny_mono ((F _ inB (nsOf nsM) (let ⟨mc, h1, h2⟩ := noDig; ⟨mc, nsOf h1, h2⟩)).run callerA [] s₁ H ⟨[.ref a], []⟩ [.ref a] [.ref a] _ room gds env (bind s₁ (.ref a)) (.cons rfl .nil) want) fun r s' h => ?_
    match r, h with
    | .ok (.ret u), h =>
      obtain ⟨v, H', os, bare, un, hok', rel, q⟩ := h
      obtain rfl : v = .bl true := q
      obtain rfl : u = Value.bool true := rel
      refine ⟨rfl, OldK.of_keep fun b o e => ?_, os, bare⟩
      cases z : H b with
      | none => exact un.keep b o e z (by intro y; exact absurd (show b ∈ ([] : List Addr) from y) (by simp)) (by simp)
      | some u =>
        rcases only b with y | ⟨ob, xs, y⟩
        · rw [z] at y; cases y
        · obtain ⟨e1, _⟩ := hok b _ y
          obtain ⟨e2, _⟩ := hok' b _ (un.frzs b ob _ y)
          rw [e] at e1; cases e1
          exact e2
    | .ok .next, h => exact False.elim h
    | .ok .brk, h => exact False.elim h
    | .ok .cont, h => exact False.elim h
    | .error e, h => exact False.elim h
  cases hk : K.lookup a with
  | some o =>
    have e := inK a o hk
    rw [objA] at e
    cases e
    exact go (fun _ => none) (fun _ => .inl rfl) (.inr ⟨_, vs.toArray, _, hk, rfl, rfl, rfl, by rw [List.size_toArray, size]; exact short, by simpa using vals⟩) (fun b u z => by have z' : (none : Option HO) = some u := z; cases z') (fun b z => absurd rfl z) fun z => absurd rfl z
  | none =>
    have at_ : ∀ b, (fun b => if b = a then some (HO.frz { cls := .type "list", data := .seq vs.toArray } (.lst (ns.map V.int))) else none) b = if b = a then some (HO.frz { cls := .type "list", data := .seq vs.toArray } (.lst (ns.map V.int))) else none := fun b => rfl
    refine go (fun b => if b = a then some (.frz { cls := .type "list", data := .seq vs.toArray } (.lst (ns.map V.int))) else none) (fun b => ?_) (.inl ⟨{ cls := .type "list", data := .seq vs.toArray }, if_pos rfl⟩) (fun b u z => ?_) (fun b z => ?_) fun _ => hk
    · by_cases hb : b = a
      · exact .inr ⟨_, _, if_pos hb⟩
      · exact .inl (if_neg hb)
    · by_cases hb : b = a
      · have z' := (if_pos hb).symm.trans z
        cases z'
        subst hb
        exact ⟨objA, by rw [List.length_map]; exact short, vs, _, vals, objA⟩
      · cases (if_neg hb).symm.trans z
    · by_cases hb : b = a
      · exact hb
      · exact absurd (if_neg hb) z
theorem walk_ofG {l : PySem.W.OpenLaw} {n k : Nat} {q : Program} {loose : List Str} {XP : (Str → Option Value) → Heap → Prop} {YP : World → Heap → Prop} {d : DefRec} {x : Str}
    (hn : l.most = some n) (hn2 : n ≤ sizeLine) (hdf : d.params.defaults = []) (room : Room k callerA) (gds : callerA.guards = some [])
    (F : ∀ (w : World) (mg : Str → Option Value) (fa : Addr) (h : Heap), YP w h → h.Ns mainGlobals mg → mg d.name = some (.ref fa) →
      ∃ (K : PySem.W.Frag) (fd : FuncData) (sp : Spec), K.In h ∧ (∀ (s : Shared) (u : Value), BindsTo s fd ⟨[u], []⟩ [(x, u)]) ∧
        (∀ (ns : List Int) (Kc : M → List M → Prop), ns.length ≤ n → (∀ z ∈ ns, Builtin.Int.intBits z ≤ 1048576) → (∀ os, Kc (.p (.bool true)) os) → sp [.p (.list (ns.map PyData.int))] Kc (fun _ _ => False)) ∧
        ∀ base : Heap, K.In base → base.Ns mainGlobals mg → base.NoDigits → FnOkG l.prog w K mg base k fa fd [x] (liftSp K 1 sp)) :
    PySem.W.WalkO q loose XP YP l.row.toRowW d [] (fun f vs => PySem.call f vs) := by
  refine Att.attach_callB hn hdf fun w s₀ s₁ mg mb fa o pm cd doc a vs ns G Y ho hd hcd hmg hobj hints hlen hbits hg => ?_
  obtain ⟨K, fd, sp, KX, hb, hsp, hF⟩ := F w mg fa _ Y G.T.g hmg
  exact call_lawG KX G.T.g G.T.b G.T.builtins G.T.nolimit hg hobj hints (Nat.le_trans hlen hn2) room gds G.T.nodigits hF hb fun Kc hK => hsp ns Kc hlen hbits hK
/-- a def by its datum -/
theorem fn_D {P : Program} {w : World} {K : PySem.W.Frag} {mg : Str → Option Value} {base : Heap} {k : Nat} {f : Addr} {fd : FuncData} {x qual : Str} {params : Arguments} {body : List Stmt} {scope : Scope} {dvs : List V} {kws : List (Str × V)}
    {E : SE} {Γ : List Spec} {ps : List Str} {c : S} {sp : Spec} (F : FunD K x qual params body scope dvs kws f fd) (S : FnScope E.N ps scope) (tb : Tab P w K mg base k E Γ) (hc : chkB E c scope body = true)
    (hs : ∀ ms Kc, ms.length = ps.length → sp ms Kc (fun _ _ => False) → wpFn Γ E.N.length c ms Kc (fun _ _ => False)) : FnOkG P w K mg base (k + 1) f fd ps (liftSp K ps.length sp) := by
  obtain ⟨oc, od, dV, kV, doc, pm, an, cdv, ct, osl, rfl, lk, hcd, _, _⟩ := F.ex
  exact fn_Q lk hcd S tb hc hs
theorem FnOkG.mono {P : Program} {w : World} {K : PySem.W.Frag} {mg : Str → Option Value} {base : Heap} {j k : Nat} {f : Addr} {fd : FuncData} {ps : List Str} {sp : SpV} (F : FnOkG P w K mg base j f fd ps sp) (h : j ≤ k) : FnOkG P w K mg base k f fd ps sp :=
  ⟨F.len, fun A outer s H args us vs Q hr => F.run A outer s H args us vs Q (hr.mono h)⟩
/-- a call by place -/
theorem CallOk.pos {P : Program} {w : World} {K : PySem.W.Frag} {mg : Str → Option Value} {base : Heap} {k n : Nat} {x : Str} {f : Addr} {fd : FuncData} {ps : List Str} {sp : Spec} (hm : mg x = some (.ref f)) (hk : PySem.W.keepIn K (.ref f) = true) (F : FnOkG P w K mg base k f fd ps (liftSp K n sp)) (hn : ps.length = n) (hb : Binds K fd ps []) :
    CallOk P w K mg base k x n [] sp := by
  subst hn
  refine ⟨f, fd, ps, fun us _ => us, fun vs _ => vs, liftSp K ps.length sp, hm, hk, F, ⟨fun s us ws hK hl _ => ?_, fun r _ => r⟩, fun vs zs H Q l1 l2 h => ?_⟩
  · have := hb s us hK (by rw [List.append_nil]; exact hl)
    rw [List.append_nil] at this
    exact this
  · cases zs with
    | nil => rw [List.append_nil] at h; exact h
    | cons _ _ => cases l2
/-- what a call with keywords promises, all its values pure -/
def kwSp (n m : Nat) (g : List PyData → List PyData → List PyData) (sp : Spec) : Spec := fun ms Kc X => ∃ ds es, ms = (ds ++ es).map M.p ∧ ds.length = n ∧ es.length = m ∧ sp ((g ds es).map M.p) (fun r _ => Kc r ms) (fun e _ => X e ms)
theorem RMs.pure {K : PySem.W.Frag} {H : Hp} : ∀ {vs : List V} {ds : List PyData} {F : List Addr}, RMs K H vs (ds.map M.p) F → F = [] ∧ RPs K H vs ds
  | _, [], _, h => by cases h; exact ⟨rfl, .nil⟩
  | _, d :: ds, _, h => by
    cases h with
    | cons a b =>
      cases a with
      | p r =>
        obtain ⟨e, q⟩ := RMs.pure b
        subst e
        exact ⟨rfl, .cons r q⟩
theorem RPs.rms {K : PySem.W.Frag} {H : Hp} : ∀ {vs : List V} {ds : List PyData}, RPs K H vs ds → RMs K H vs (ds.map M.p) []
  | _, _, .nil => .nil
  | _, _, .cons a b => .cons (F := []) (.p a) b.rms
theorem RPs.split {K : PySem.W.Frag} {H : Hp} : ∀ {vs zs : List V} {ds es : List PyData}, vs.length = ds.length → RPs K H (vs ++ zs) (ds ++ es) → RPs K H vs ds ∧ RPs K H zs es
  | [], _, [], _, _, h => ⟨.nil, h⟩
  | v :: vs, zs, d :: ds, es, l, .cons a b => by
    obtain ⟨p, q⟩ := RPs.split (by simpa using l) b
    exact ⟨.cons a p, q⟩
  | [], _, _ :: _, _, l, _ => by simp at l
  | _ :: _, _, [], _, l, _ => by simp at l
theorem CallOk.kw {P : Program} {w : World} {K : PySem.W.Frag} {mg : Str → Option Value} {base : Heap} {k n : Nat} {x : Str} {f : Addr} {fd : FuncData} {ps ks : List Str} {sp : Spec} {g : List Value → List Value → List Value} {gV : List V → List V → List V} {gD : List PyData → List PyData → List PyData}
    (hm : mg x = some (.ref f)) (hk : PySem.W.keepIn K (.ref f) = true) (F : FnOkG P w K mg base k f fd ps (liftSp K ps.length sp)) (hb : KBn K fd ps n ks g gV)
    (hg : ∀ {H : Hp} {vs zs : List V} {ds es : List PyData}, RPs K H vs ds → RPs K H zs es → ds.length = n → es.length = ks.length → RPs K H (gV vs zs) (gD ds es)) (hl : ∀ ds es : List PyData, ds.length = n → es.length = ks.length → (gD ds es).length = ps.length) :
    CallOk P w K mg base k x n ks (kwSp n ks.length gD sp) := by
  refine ⟨f, fd, ps, g, gV, liftSp K ps.length sp, hm, hk, F, hb, fun vs zs H Q l1 l2 ⟨ms, F0, Kc, lm, rm, nd, ⟨ds, es, e, d1, d2, hsp⟩, hq⟩ => ?_⟩
  subst e
  obtain ⟨rfl, rp⟩ := rm.pure
  obtain ⟨r1, r2⟩ := RPs.split (by omega) rp
  refine ⟨(gD ds es).map M.p, [], _, by rw [List.length_map]; exact hl ds es d1 d2, (hg r1 r2 d1 d2).rms, .nil, hsp, fun r os v H' F' Fr kc rv ro n2 kp fr => ?_⟩
  have st : Still H H' := kp.still fun x hx => by cases hx
  exact hq r _ v H' [] Fr kc rv (rp.still st).rms (by rw [List.append_nil]; exact nd_left n2) kp fun a ha => fr a (List.mem_append_left _ (by simpa using ha))
end Q
set_option Elab.async false
set_option linter.all false
set_option maxRecDepth 100000
set_option maxHeartbeats 2000000
/-! W0: how the worth of a code is told (plain equations), loops by invariants. -/
namespace Q
open PySem PySem.Spec PyProof.Rows L2
section
variable {i j : Int} {a b : Str} {ds es : List PyData} {K : M → Prop} {Kb : Bool → Prop} {Kd : PyData → Prop} {d e : PyData} {x y : M} {kvs : List (L2.Key × M)}
theorem bI1 : binM .add (.p (.int i)) (.p (.int j)) K = K (.p (.int (i + j))) := rfl
theorem bI2 : binM .sub (.p (.int i)) (.p (.int j)) K = K (.p (.int (i - j))) := rfl
theorem bI3 : binM .mul (.p (.int i)) (.p (.int j)) K = (mulOk i j ∧ K (.p (.int (i * j)))) := rfl
theorem bI4 : binM .fdiv (.p (.int i)) (.p (.int j)) K = ((0 < j ∧ j.natAbs.log2 < 9000) ∧ K (.p (.int (i / j)))) := rfl
theorem bI5 : binM .mod (.p (.int i)) (.p (.int j)) K = (0 < j ∧ K (.p (.int (i % j)))) := rfl
theorem bI6 : binM .pow (.p (.int i)) (.p (.int j)) K = ((0 ≤ j ∧ j ≤ 1000000 ∧ i.natAbs < 2 ^ 64) ∧ K (.p (.int (i ^ j.toNat)))) := rfl
theorem bI7 : binM .shl (.p (.int i)) (.p (.int j)) K = ((0 ≤ j ∧ j ≤ 1000000 ∧ i.natAbs < 2 ^ 64) ∧ K (.p (.int (i * 2 ^ j.toNat)))) := rfl
theorem bI8 : binM .shr (.p (.int i)) (.p (.int j)) K = (0 ≤ j ∧ K (.p (.int (i / 2 ^ j.toNat)))) := rfl
theorem bI9 : binM .band (.p (.int i)) (.p (.int j)) K = K (.p (.int (Builtin.bitAnd i j))) := rfl
theorem bS1 : binM .add (.p (.str a)) (.p (.str b)) K = (a.length + b.length ≤ sizeLine ∧ K (.p (.str (a ++ b)))) := rfl
theorem bS2 : binM .mul (.p (.str a)) (.p (.int j)) K = (MulOk a j ∧ K (.p (.str (Txt.mul a j)))) := rfl
theorem bT1 : binM .add (.p (.tuple ds)) (.p (.tuple es)) K = (ds.length + es.length ≤ sizeLine ∧ K (.p (.tuple (ds ++ es)))) := rfl
theorem bL1 : binM .add (.l ds) (.l es) K = (ds.length + es.length ≤ sizeLine ∧ K (.l (ds ++ es))) := by simp [binM, M.lst]
theorem bL2 : binM .add (.p (.list ds)) (.l es) K = (ds.length + es.length ≤ sizeLine ∧ K (.l (ds ++ es))) := by simp [binM, M.lst]
theorem bL3 : binM .add (.l ds) (.p (.list es)) K = (ds.length + es.length ≤ sizeLine ∧ K (.l (ds ++ es))) := by simp [binM, M.lst]
theorem bL4 : binM .add (.p (.list ds)) (.p (.list es)) K = (ds.length + es.length ≤ sizeLine ∧ K (.l (ds ++ es))) := by simp [binM, M.lst]
theorem bL5 : binM .mul (.l ds) (.p (.int j)) K = (-(2 ^ 63) ≤ j ∧ j < 2 ^ 63 ∧ ds.length * j.toNat ≤ sizeLine ∧ K (.l (rep j.toNat ds))) := rfl
theorem bT2 : binM .mul (.p (.tuple ds)) (.p (.int j)) K = (ds ≠ [] ∧ 2 ≤ j ∧ j ≤ 1000 ∧ ds.length ≤ 1000 ∧ K (.p (.tuple (rep j.toNat ds)))) := rfl
theorem cI1 : cmpM .eq (.p (.int i)) (.p (.int j)) Kb = Kb (decide (i = j)) := rfl
theorem cI2 : cmpM .ne (.p (.int i)) (.p (.int j)) Kb = Kb (!decide (i = j)) := rfl
theorem cI3 : cmpM .lt (.p (.int i)) (.p (.int j)) Kb = Kb (decide (i < j)) := rfl
theorem cI4 : cmpM .le (.p (.int i)) (.p (.int j)) Kb = Kb (decide (i ≤ j)) := rfl
theorem cI5 : cmpM .gt (.p (.int i)) (.p (.int j)) Kb = Kb (decide (j < i)) := rfl
theorem cI6 : cmpM .ge (.p (.int i)) (.p (.int j)) Kb = Kb (decide (j ≤ i)) := rfl
theorem cS1 : cmpM .eq (.p (.str a)) (.p (.str b)) Kb = Kb (decide (a = b)) := rfl
theorem cS2 : cmpM .ne (.p (.str a)) (.p (.str b)) Kb = Kb (!decide (a = b)) := rfl
theorem cB1 {p q : Bool} : cmpM .eq (.p (.bool p)) (.p (.bool q)) Kb = Kb (decide (p = q)) := rfl
theorem cB2 {p q : Bool} : cmpM .is (.p (.bool p)) (.p (.bool q)) Kb = Kb (p == q) := rfl
theorem cB3 {p q : Bool} : cmpM .isnot (.p (.bool p)) (.p (.bool q)) Kb = Kb (!(p == q)) := rfl
theorem cS3 : cmpM .isin (.p (.str a)) (.p (.str b)) Kb = Kb (!(Builtin.Str.occurrences b a 0 b.length 1).isEmpty) := rfl
theorem cS4 : cmpM .notin (.p (.str a)) (.p (.str b)) Kb = Kb (!(!(Builtin.Str.occurrences b a 0 b.length 1).isEmpty)) := rfl
theorem tB1 {b : Bool} : truM (.p (.bool b)) Kb = Kb b := rfl
theorem tI1 : truM (.p (.int i)) Kb = Kb (i != 0) := rfl
theorem tN1 : truM (.p .none) Kb = Kb false := rfl
theorem tL1 : truM (.l ds) Kb = Kb (!ds.isEmpty) := rfl
theorem xL1 : ixM (.l ds) (.int i) Kd = ∃ d, L2.atI ds i = some d ∧ Kd d := by simp [ixM, M.seq]
theorem xL2 : ixM (.p (.list ds)) (.int i) Kd = ∃ d, L2.atI ds i = some d ∧ Kd d := by simp [ixM, M.seq]
theorem xT1 : ixM (.p (.tuple ds)) (.int i) Kd = ∃ d, L2.atI ds i = some d ∧ Kd d := by simp [ixM, M.seq]
theorem xS1 : ixM (.p (.str a)) (.int i) Kd = (a.length ≤ sizeLine ∧ ∃ c, L2.atI a.cps.toList i = some c ∧ Kd (.str ⟨#[c]⟩)) := rfl
theorem xD1 : ixM (.dc kvs) (.str a) Kd = ∃ d, kget kvs (.inr a) = some (.p d) ∧ Kd d := by simp [ixM, keyOf]
theorem lS1 : biM .len [.p (.str a)] K = (a.length ≤ sizeLine ∧ K (.p (.int a.length))) := rfl
theorem lL1 : biM .len [.l ds] K = K (.p (.int ds.length)) := by simp [biM, M.seq]
theorem lL2 : biM .len [.p (.list ds)] K = K (.p (.int ds.length)) := by simp [biM, M.seq]
theorem lT1 : biM .len [.p (.tuple ds)] K = K (.p (.int ds.length)) := by simp [biM, M.seq]
end
theorem compLoop_inv {own : List Nat} {gd : List (Nat × List PyData)} {turn : PyData → De → (Option PyData → De → Prop) → Prop} (I : List PyData → List PyData → De → Prop)
    (step : ∀ x xs ds δ k, I (x :: xs) ds δ → (∀ o δ', I xs (ds ++ o.toList) (wipe δ' own) → k o δ') → gdOk gd δ ∧ turn x δ k) :
    ∀ (items ds0 : List PyData) (δ : De) (K : List PyData → De → Prop), I items ds0 δ → (∀ ds δ', I [] (ds0 ++ ds) δ' → gdOk gd δ' ∧ K ds δ') → compLoop own gd turn items δ K
  | [], ds0, δ, K, h, fin => by
    rw [compLoop]
    exact fin [] δ (by rw [List.append_nil]; exact h)
  | x :: xs, ds0, δ, K, h, fin => by
    rw [compLoop]
    refine step x xs ds0 δ _ h fun o δ' h' => ?_
    refine compLoop_inv I step xs (ds0 ++ o.toList) (wipe δ' own) _ h' fun ds δ'' h'' => ?_
    have := fin (o.toList ++ ds) δ'' (by rw [← List.append_assoc]; exact h'')
    exact this
theorem forLoop_inv {gd : List (Nat × List PyData)} {turn : PyData → De → EndD → Prop} {D : EndD} (I : List PyData → De → Prop)
    (step : ∀ x xs δ N, I (x :: xs) δ → (∀ δ', I xs δ' → N δ') → gdOk gd δ ∧ turn x δ ⟨N, D.rt, D.nx, N⟩) (fin : ∀ δ, I [] δ → gdOk gd δ ∧ D.nx δ) : ∀ (items : List PyData) (δ : De), I items δ → forLoop gd turn items δ D
  | [], δ, h => by rw [forLoop]; exact fin δ h
  | x :: xs, δ, h => by
    rw [forLoop]
    exact step x xs δ _ h fun δ' h' => forLoop_inv I step fin xs δ' h'
theorem wB0 {vs : List Val} {δ : De} : writeB vs [] δ = δ := by
  cases vs with
  | nil => rfl
  | cons v vs => cases v <;> rfl
theorem wB1 {m : M} {vs : List Val} {os : List M} {δ : De} : writeB (.own m :: vs) os δ = writeB vs os.tail δ := by
  cases os with
  | nil => rw [wB0, List.tail_nil, wB0]
  | cons o os => rfl
theorem wB2 {i : Nat} {m : M} {vs : List Val} {os : List M} {δ : De} : writeB (.at i :: vs) (m :: os) δ = writeB vs os (δ.set i (some m)) := rfl
theorem wB3 {os : List M} {δ : De} : writeB [] os δ = δ := by cases os <;> rfl
theorem gdOk_nil {δ : De} : gdOk [] δ := fun _ h => by cases h
theorem canLay_ints : ∀ ns : List Int, PyData.canLayAll0 (ns.map PyData.int) = true
  | [] => by simp [PyData.canLayAll0]
  | n :: ns => by simp [PyData.canLayAll0, PyData.canLay0, canLay_ints ns]
theorem depth_ints : ∀ ns : List Int, PyData.depthAll (ns.map PyData.int) ≤ 1
  | [] => by simp [PyData.depthAll]
  | n :: ns => by simp [PyData.depthAll, PyData.depth, depth_ints ns]
theorem shaped_ints (ns : List Int) : SeqAt.shaped (.list (ns.map PyData.int)) = true := by
  simp only [SeqAt.shaped, PyData.canLay0, PyData.depth, canLay_ints, Bool.and_eq_true, decide_eq_true_eq, true_and]
  have := depth_ints ns
  exact decide_eq_true (by omega)
theorem atI_ok {α : Type} {xs : List α} {i : Int} {x : α} (h0 : 0 ≤ i) (h : xs[i.toNat]? = some x) : L2.atI xs i = some x := by
  unfold L2.atI
  have hl : i.toNat < xs.length := by
    by_cases hl : i.toNat < xs.length
    · exact hl
    · rw [List.getElem?_eq_none (by omega)] at h; cases h
  rw [show L2.ixN xs.length i = some i.toNat from by unfold L2.ixN; rw [if_pos h0, if_pos (by omega)]]
  exact h
theorem ixN_ok {n : Nat} {i : Int} (h0 : 0 ≤ i) (h : i < n) : L2.ixN n i = some i.toNat := by unfold L2.ixN; rw [if_pos h0, if_pos h]
theorem atI_int {ns : List Int} {i : Int} (h0 : 0 ≤ i) (h : i < ns.length) : ∃ c, c ∈ ns ∧ L2.atI (ns.map PyData.int) i = some (.int c) := by
  have hl : i.toNat < ns.length := by omega
  refine ⟨ns[i.toNat], List.getElem_mem hl, atI_ok h0 ?_⟩
  rw [List.getElem?_map, List.getElem?_eq_getElem hl]; rfl
theorem mulR {i j : Int} (h : -(2 ^ 64) < j ∧ j < 2 ^ 64) : mulOk i j := .inr (.inl h)
theorem mulL {i j : Int} (h : -(2 ^ 64) < i ∧ i < 2 ^ 64) : mulOk i j := .inl h
theorem log_ok {j : Int} (h0 : 0 < j) (h : j < 2 ^ 63) : j.natAbs.log2 < 9000 := by
  have h1 : j.natAbs < 2 ^ 63 := by omega
  have := (Nat.log2_lt (by omega : j.natAbs ≠ 0)).mpr h1
  omega
theorem mem_rng {lo hi : Int} {x : PyData} (h : x ∈ rngItems lo hi) : ∃ i, x = .int i ∧ lo ≤ i ∧ i < hi := by
  unfold rngItems at h
  obtain ⟨k, hk, rfl⟩ := List.mem_map.mp h
  rw [List.mem_range] at hk
  exact ⟨_, rfl, by omega, by omega⟩
theorem mem_enum {xs : List PyData} {x : PyData} (h : x ∈ enumItems xs) : ∃ k d, x = .tuple [.int k, d] ∧ 0 ≤ k ∧ k < xs.length ∧ d ∈ xs := by
  obtain ⟨i, hi, e⟩ := List.getElem_of_mem h
  rw [enum_len] at hi
  have := enum_get (List.getElem?_eq_getElem hi)
  rw [List.getElem?_eq_getElem (by rw [enum_len]; exact hi), e] at this
  cases this
  exact ⟨i, _, rfl, by omega, by omega, List.getElem_mem hi⟩
theorem mem_ints {ns : List Int} {x : PyData} (h : x ∈ ns.map PyData.int) : ∃ i, x = .int i ∧ i ∈ ns := by
  obtain ⟨i, hi, rfl⟩ := List.mem_map.mp h
  exact ⟨i, rfl, hi⟩
section
variable {δ : De} {i j np : Nat} {d : PyData} {ds : List PyData} {m : M} {K : PyData → De → Prop} {Km : M → De → Prop} {kvs : List (L2.Key × M)}
theorem fz1 : frz (.own (.p d)) δ K = K d δ := rfl
theorem fz2 : frz (.own (.l ds)) δ K = K (.list ds) δ := rfl
theorem fz3 : frz (.own (.dc kvs)) δ K = (match (pureKvs kvs).map PyData.dict with | some d => K d δ | none => False) := rfl
def frzAt (o : Option M) (i : Nat) (δ : De) (K : PyData → De → Prop) : Prop := match o with
  | none => False
  | some m => match m.data with
    | none => False
    | some d => K d (δ.set i (some (.p d)))
theorem fz4 : frz (.at i) δ K = frzAt ((δ[i]?).getD none) i δ K := by
  unfold frzAt
  simp only [frz]
  generalize (δ[i]?).getD none = o
  cases o with
  | none => rfl
  | some m =>
    simp only
    generalize m.data = q
    cases q <;> rfl
theorem fa1 : frzAt (some (.p d)) i δ K = K d (δ.set i (some (.p d))) := rfl
theorem fa2 : frzAt (some (.l ds)) i δ K = K (.list ds) (δ.set i (some (.p (.list ds)))) := rfl
theorem mv1 : mov (.own m) δ Km = Km m δ := rfl
theorem mv2 : mov (.at i) δ Km = frz (.at i) δ fun d δ' => Km (.p d) δ' := rfl
theorem rv1 : retV np (.own m) δ Km = Km m δ := rfl
theorem rv2 : retV np (.at i) δ Km = (if i < np then frz (.at i) δ fun d δ' => Km (.p d) δ' else ∃ m, (δ[i]?).getD none = some m ∧ Km m δ) := rfl
theorem dt1 : M.data (.p d) = some d := rfl
theorem dt2 : M.data (.l ds) = some (.list ds) := rfl
theorem rg1 {i : Int} {P : Int → Int → Prop} : (∃ lo hi, rngOf [.int i] = some (lo, hi) ∧ P lo hi) = P 0 i := propext ⟨fun ⟨lo, hi, e, h⟩ => by cases e; exact h, fun h => ⟨_, _, rfl, h⟩⟩
theorem rg2 {i j : Int} {P : Int → Int → Prop} : (∃ lo hi, rngOf [.int i, .int j] = some (lo, hi) ∧ P lo hi) = P i j := propext ⟨fun ⟨lo, hi, e, h⟩ => by cases e; exact h, fun h => ⟨_, _, rfl, h⟩⟩
theorem so1 : srcOf δ (.own (.l ds)) = some ⟨ds, []⟩ := rfl
theorem so2 : srcOf δ (.own (.p (.list ds))) = some ⟨ds, []⟩ := rfl
theorem so3 : srcOf δ (.own (.p (.tuple ds))) = some ⟨ds, []⟩ := rfl
theorem so4 {z : Str} : srcOf δ (.own (.p (.str z))) = some ⟨z.cps.toList.map fun c => .str ⟨#[c]⟩, []⟩ := rfl
theorem so5 : srcOf δ (.at i) = (match (δ[i]?).getD none with | some (.l ds) => some ⟨ds, [(i, ds)]⟩ | _ => none) := rfl
theorem lo1 : lsrcOf δ (.own (.l ds)) = some ⟨ds, []⟩ := rfl
theorem lo2 : lsrcOf δ (.own (.p (.list ds))) = some ⟨ds, []⟩ := rfl
theorem lo5 : lsrcOf δ (.at i) = (match (δ[i]?).getD none with | some (.l ds) => some ⟨ds, [(i, ds)]⟩ | _ => none) := rfl
end
section
variable {Γ : List Spec} {X : Exn → De → Prop} {δ : De} {K : Val → De → Prop}
/-- a name is read -/
def rdV (o : Option M) (i : Nat) (δ : De) (K : Val → De → Prop) : Prop := match o with
  | none => False
  | some (.p d) => K (.own (.p d)) δ
  | some _ => K (.at i) δ
theorem we_v (i : Nat) : wpE Γ X (.v i) δ K = rdV ((δ[i]?).getD none) i δ K := by
  rw [wpE]
  generalize (δ[i]?).getD none = o
  cases o with
  | none => rfl
  | some m => cases m <;> rfl
theorem rd1 {d : PyData} {i : Nat} : rdV (some (.p d)) i δ K = K (.own (.p d)) δ := rfl
theorem rd2 {ds : List PyData} {i : Nat} : rdV (some (.l ds)) i δ K = K (.at i) δ := rfl
theorem rd3 {kvs : List (L2.Key × M)} {i : Nat} : rdV (some (.dc kvs)) i δ K = K (.at i) δ := rfl
theorem we_k (d : PyData) : wpE Γ X (.k d) δ K = (K (.own (.p d)) δ) := by rw [wpE]
theorem we_gk (y : Str) (d : PyData) : wpE Γ X (.gk y d) δ K = (K (.own (.p d)) δ) := by rw [wpE]
theorem we_tup (l : C) : wpE Γ X (.tup l) δ K = (wpF Γ X l δ fun ds δ' => ds.length ≤ sizeLine ∧ K (.own (.p (.tuple ds))) δ') := by rw [wpE]
theorem we_lst (l : C) : wpE Γ X (.lst l) δ K = (wpF Γ X l δ fun ds δ' => ds.length ≤ sizeLine ∧ K (.own (.l ds)) δ') := by rw [wpE]
theorem we_dct (ks : List Str) (l : C) : wpE Γ X (.dct ks l) δ K = (wpD Γ X l δ fun ms δ' => K (.own (.dc ((ks.map Sum.inr).zip ms))) δ') := by rw [wpE]
theorem we_bin (op : BOp) (a b : C) : wpE Γ X (.bin op a b) δ K = (wpE Γ X a δ fun x δ1 => wpE Γ X b δ1 fun y δ2 => ∃ m n, peek δ2 x = some m ∧ peek δ2 y = some n ∧ binM op m n fun r => K (.own r) δ2) := by rw [wpE]
theorem we_neg (a : C) : wpE Γ X (.neg a) δ K = (wpE Γ X a δ fun x δ1 => ∃ i, peek δ1 x = some (.p (.int i)) ∧ K (.own (.p (.int (-i)))) δ1) := by rw [wpE]
theorem we_cmp (op : COp) (a b : C) : wpE Γ X (.cmp op a b) δ K = (wpE Γ X a δ fun x δ1 => wpE Γ X b δ1 fun y δ2 => ∃ m n, peek δ2 x = some m ∧ peek δ2 y = some n ∧ cmpM op m n fun r => K (.own (.p (.bool r))) δ2) := by rw [wpE]
theorem we_ch (o1 o2 : COp) (a b c : C) : wpE Γ X (.ch o1 o2 a b c) δ K = (wpE Γ X a δ fun x δ1 => wpE Γ X b δ1 fun y δ2 => ∃ m n, peek δ2 x = some m ∧ peek δ2 y = some n ∧ cmpM o1 m n fun r =>
      if r = true then wpE Γ X c δ2 fun z δ3 => ∃ n' q, peek δ3 y = some n' ∧ peek δ3 z = some q ∧ cmpM o2 n' q fun r => K (.own (.p (.bool r))) δ3 else K (.own (.p (.bool false))) δ2) := by rw [wpE]
theorem we_and (l : C) : wpE Γ X (.and l) δ K = (wpAV Γ X l δ K) := by rw [wpE]
theorem we_or (l : C) : wpE Γ X (.or l) δ K = (wpOV Γ X l δ K) := by rw [wpE]
theorem we_not (t : C) : wpE Γ X (.not t) δ K = (wpE Γ X t δ fun x δ1 => ∃ m, peek δ1 x = some m ∧ truM m fun b => K (.own (.p (.bool (!b)))) δ1) := by rw [wpE]
theorem we_ite (t a b : C) : wpE Γ X (.ite t a b) δ K = (wpT Γ X t δ fun r δ1 => if r = true then wpE Γ X a δ1 K else wpE Γ X b δ1 K) := by rw [wpE]
theorem we_ix (a b : C) : wpE Γ X (.ix a b) δ K = (wpE Γ X a δ fun x δ1 => wpE Γ X b δ1 fun y δ2 => ∃ m d, peek δ2 x = some m ∧ y = .own (.p d) ∧ ixM m d fun r => K (.own (.p r)) δ2) := by rw [wpE]
theorem we_sl (a lo hi : C) : wpE Γ X (.sl a lo hi) δ K = (wpE Γ X a δ fun x δ1 => wpF Γ X lo δ1 fun ls δ2 => ∃ l, optI ls = some l ∧ wpF Γ X hi δ2 fun hs δ3 => ∃ h, optI hs = some h ∧ ∃ m, peek δ3 x = some m ∧ slM m l h fun r => K (.own r) δ3) := by rw [wpE]
theorem we_rev (a : C) : wpE Γ X (.rev a) δ K = (wpE Γ X a δ fun x δ1 => ∃ m ds, peek δ1 x = some m ∧ m.lst = some ds ∧ K (.own (.l ds.reverse)) δ1) := by rw [wpE]
theorem we_ixs (i : Nat) (key : Str) (b : C) : wpE Γ X (.ixs i key b) δ K = (∃ kvs ds z d, (δ[i]?).getD none = some (.dc kvs) ∧ kget kvs (.inr key) = some (.l ds) ∧ qI b δ = some z ∧ L2.atI ds z = some d ∧ K (.own (.p d)) δ) := by rw [wpE]
theorem we_nes (i : Nat) (key : Str) : wpE Γ X (.nes i key) δ K = (∃ kvs ds, (δ[i]?).getD none = some (.dc kvs) ∧ kget kvs (.inr key) = some (.l ds) ∧ SeqAt.shaped (.list ds) = true ∧ K (.own (.p (.bool (!ds.isEmpty)))) δ) := by rw [wpE]
theorem we_lens (i : Nat) (key : Str) : wpE Γ X (.lens i key) δ K = (∃ kvs ds, (δ[i]?).getD none = some (.dc kvs) ∧ kget kvs (.inr key) = some (.l ds) ∧ K (.own (.p (.int ds.length))) δ) := by rw [wpE]
theorem we_bi (f : BI) (l : C) : wpE Γ X (.bi f l) δ K = (wpV Γ X l δ fun vs δ1 => ∃ ms, peeks δ1 vs = some ms ∧ biM f ms fun r => K (.own r) δ1) := by rw [wpE]
theorem we_isi (a : C) (t : String) : wpE Γ X (.isi a t) δ K = (wpE Γ X a δ fun x δ1 => ∃ m, peek δ1 x = some m ∧ isiM m t fun r => K (.own (.p (.bool r))) δ1) := by rw [wpE]
theorem we_me (f : ME) (o l : C) : wpE Γ X (.me f o l) δ K = (wpE Γ X o δ fun x δ1 => (∃ m0, peek δ1 x = some m0 ∧ meTy f m0) ∧ wpV Γ X l δ1 fun vs δ2 => ∃ m ms, peek δ2 x = some m ∧ peeks δ2 vs = some ms ∧ meM f m ms fun r => K (.own r) δ2) := by rw [wpE]
theorem we_mu (f : MU) (i : Nat) (l : C) : wpE Γ X (.mu f i l) δ K = ((∃ ds0, (δ[i]?).getD none = some (.l ds0)) ∧ wpF Γ X l δ fun ds δ1 => ∃ m, (δ1[i]?).getD none = some m ∧ muM f m ds fun r m' => K (.own (.p r)) (δ1.set i (some m'))) := by rw [wpE]
theorem we_call (f : Nat) (l kl : C) : wpE Γ X (.call f l kl) δ K = (wpV Γ X l δ fun vs δ1 => wpV Γ X kl δ1 fun ks δ2 => ∃ sp ms, Γ[f]? = some sp ∧ (ats (vs ++ ks)).Nodup ∧ peeks δ2 (vs ++ ks) = some ms ∧
      sp ms (fun r outs => K (.own r) (writeB (vs ++ ks) outs δ2)) fun e outs => X e (writeB (vs ++ ks) outs δ2)) := by rw [wpE]
theorem we_comp (own : List Nat) (tg : Tg) (src ifs elt : C) : wpE Γ X (.comp own tg src ifs elt) δ K = (wpI Γ X src δ fun s δ1 => lightAll δ1 own = true ∧ s.items.length ≤ sizeLine ∧
      compLoop own s.gd (fun x δ2 k => ∃ δ3, bindT [] tg x δ2 = some δ3 ∧ wpA Γ X ifs δ3 fun b δ4 => if b = true then wpE Γ X elt δ4 fun y δ5 => frz y δ5 fun d δ6 => k (some d) δ6 else k none δ4)
        s.items (wipe δ1 own) fun ds δ2 => K (.own (.l ds)) (back δ1 δ2 own)) := by rw [wpE]
theorem we_tupI (src : C) : wpE Γ X (.tupI src) δ K = (wpI Γ X src δ fun s δ1 => s.items.length ≤ sizeLine ∧ K (.own (.p (.tuple s.items))) δ1) := by rw [wpE]
theorem we_lstI (src : C) : wpE Γ X (.lstI src) δ K = (wpI Γ X src δ fun s δ1 => s.items.length ≤ sizeLine ∧ K (.own (.l s.items)) δ1) := by rw [wpE]
end
section
variable {δ : De} {K : De → Prop} {i : Nat} {key d : PyData}
def setAtO (o : Option M) (i : Nat) (key d : PyData) (δ : De) (K : De → Prop) : Prop := match o with
  | some (.l ds) => ∃ z j, key = .int z ∧ L2.ixN ds.length z = some j ∧ K (δ.set i (some (.l (ds.set j d))))
  | some (.dc kvs) => ∃ k, keyOf key = some k ∧ kvs.length < sizeLine ∧ K (δ.set i (some (.dc (kput kvs k (.p d)))))
  | _ => False
theorem sa : setAt i key d δ K = setAtO ((δ[i]?).getD none) i key d δ K := by
  unfold setAt setAtO
  generalize (δ[i]?).getD none = o
  cases o with
  | none => rfl
  | some m => cases m <;> rfl
theorem sa1 {ds : List PyData} {z : Int} : setAtO (some (.l ds)) i (.int z) d δ K = (∃ j, L2.ixN ds.length z = some j ∧ K (δ.set i (some (.l (ds.set j d))))) := by simp [setAtO]
theorem sa2 {kvs : List (L2.Key × M)} {x : Str} : setAtO (some (.dc kvs)) i (.str x) d δ K = (kvs.length < sizeLine ∧ K (δ.set i (some (.dc (kput kvs (.inr x) (.p d)))))) := by simp [setAtO, keyOf]
end
end Q
set_option Elab.async false
set_option linter.all false
set_option maxRecDepth 100000
set_option maxHeartbeats 2000000
namespace Q.K01
open PySem PySem.Spec PyProof.Rows L2 Q
def top (i : Nat) : Stmt := PySem.Challenge.pw_staybonds_k01_names_and_coins.main.body.getD i (.Pass ⟨0, 0, 0, 0⟩)
/-! is_number -/
def N_is_number : List Str := ["thing"]
def E_is_number : SE := ⟨N_is_number, [], []⟩
def c_is_number : S := (.cons (.ret (.and (.cons (.isi (.v 0) "int") (.cons (.not (.isi (.v 0) "bool")) .nil))))
  .nil)
theorem k_is_number : chkB E_is_number c_is_number (defScope (top 3)) (defBody (top 3)) = true := by decide +kernel
theorem f_is_number : FnScope N_is_number ["thing"] (defScope (top 3)) := ⟨rfl, rfl, rfl, by decide +kernel, rfl, by decide +kernel, by decide +kernel⟩
/-! is_coins -/
def N_is_coins : List Str := ["thing", "least"]
def E_is_coins : SE := ⟨N_is_coins, [("is_number", 1, [])], []⟩
def c_is_coins : S := (.cons (.ret (.and (.cons (.call 0 (.cons (.v 0) .nil) .nil) (.cons (.cmp .ge (.v 0) (.v 1)) .nil))))
  .nil)
theorem k_is_coins : chkB E_is_coins c_is_coins (defScope (top 4)) (defBody (top 4)) = true := by decide +kernel
theorem f_is_coins : FnScope N_is_coins ["thing", "least"] (defScope (top 4)) := ⟨rfl, rfl, rfl, by decide +kernel, rfl, by decide +kernel, by decide +kernel⟩
/-! is_among -/
def N_is_among : List Str := ["thing", "many"]
def E_is_among : SE := ⟨N_is_among, [("is_number", 1, [])], []⟩
def c_is_among : S := (.cons (.ret (.and (.cons (.call 0 (.cons (.v 0) .nil) .nil) (.cons (.ch .le .lt (.k (.int 0)) (.v 0) (.v 1)) .nil))))
  .nil)
theorem k_is_among : chkB E_is_among c_is_among (defScope (top 5)) (defBody (top 5)) = true := by decide +kernel
theorem f_is_among : FnScope N_is_among ["thing", "many"] (defScope (top 5)) := ⟨rfl, rfl, rfl, by decide +kernel, rfl, by decide +kernel, by decide +kernel⟩
/-! is_name -/
def N_is_name : List Str := ["thing", "sign"]
def E_is_name : SE := ⟨N_is_name, [], [("MOST_SIGNS", (.int 8)), ("LETTERS", (.str "abcdefghijklmnopqrstuvwxyz"))]⟩
def e1_is_name : C := (.cmp .isin (.v 1) (.gk "LETTERS" (.str "abcdefghijklmnopqrstuvwxyz")))
def c_is_name : S := (.cons (.ret (.and (.cons (.isi (.v 0) "str") (.cons (.ch .le .le (.k (.int 1)) (.bi .len (.cons (.v 0) .nil)) (.gk "MOST_SIGNS" (.int 8))) (.cons (.bi .all (.cons (.comp [1] (.n 1) (.sv (.v 0)) .nil e1_is_name) .nil)) .nil)))))
  .nil)
theorem k_is_name : chkB E_is_name c_is_name (defScope (top 6)) (defBody (top 6)) = true := by decide +kernel
theorem f_is_name : FnScope N_is_name ["thing"] (defScope (top 6)) := ⟨rfl, rfl, rfl, by decide +kernel, rfl, by decide +kernel, by decide +kernel⟩
/-! _law_mixed -/
def N__law_mixed : List Str := ["_law_cell", "_law_k", "_law_turned"]
def E__law_mixed : SE := ⟨N__law_mixed, [], []⟩
def c__law_mixed : S := (.cons (.set 2 (.bin .add (.bin .add (.bin .mod (.bin .mul (.bin .mul (.v 0) (.bin .add (.k (.int 1)) (.bin .mul (.k (.int 2)) (.v 1)))) (.k (.int 48271))) (.k (.int 2147483647))) (.bin .mul (.bin .mul (.k (.int 7919)) (.v 1)) (.v 1))) (.bin .mul (.k (.int 104729)) (.v 1))))
  (.cons (.ret (.bin .fdiv (.bin .mod (.bin .mul (.v 2) (.k (.int 69621))) (.k (.int 2147483629))) (.k (.int 7))))
  .nil))
theorem k__law_mixed : chkB E__law_mixed c__law_mixed (defScope (top 8)) (defBody (top 8)) = true := by decide +kernel
theorem f__law_mixed : FnScope N__law_mixed ["_law_cell", "_law_k"] (defScope (top 8)) := ⟨rfl, rfl, rfl, by decide +kernel, rfl, by decide +kernel, by decide +kernel⟩
/-! _law_folded -/
def N__law_folded : List Str := ["_law_script", "_law_found", "_law_k", "_law_cell"]
def E__law_folded : SE := ⟨N__law_folded, [], []⟩
def e1__law_folded : C := (.bin .add (.k (.int 17)) (.v 2))
def b2__law_folded : S := (.cons (.setIx 1 (.bin .mod (.v 2) (.k (.int 64))) (.bin .mod (.bin .add (.bin .mul (.ix (.v 1) (.bin .mod (.v 2) (.k (.int 64)))) (.k (.int 48271))) (.v 3)) (.k (.int 2147483647))))
  .nil)
def b3__law_folded : S := (.cons (.setIx 1 (.v 2) (.bin .mod (.bin .add (.ix (.v 1) (.v 2)) (.bin .mul (.ix (.v 1) (.bin .sub (.v 2) (.k (.int 1)))) (.k (.int 16807)))) (.k (.int 2147483647))))
  .nil)
def c__law_folded : S := (.cons (.set 1 (.comp [2] (.n 2) (.rng (.cons (.k (.int 64)) .nil)) .nil e1__law_folded))
  (.cons (.forS (.tc (.n 2) (.tc (.n 3) .t0)) (.enum (.v 0)) b2__law_folded)
  (.cons (.forS (.n 2) (.rng (.cons (.k (.int 1)) (.cons (.k (.int 64)) .nil))) b3__law_folded)
  (.cons (.ret (.v 1))
  .nil))))
theorem k__law_folded : chkB E__law_folded c__law_folded (defScope (top 9)) (defBody (top 9)) = true := by decide +kernel
theorem f__law_folded : FnScope N__law_folded ["_law_script"] (defScope (top 9)) := ⟨rfl, rfl, rfl, by decide +kernel, rfl, by decide +kernel, by decide +kernel⟩
/-! _law_draw -/
def N__law_draw : List Str := ["_law_m", "_law_top", "_law_k", "_law_at", "_law_cell"]
def E__law_draw : SE := ⟨N__law_draw, [("_law_mixed", 2, [])], []⟩
def c__law_draw : S := (.cons (.set 2 (.ix (.v 0) (.k (.str "spot"))))
  (.cons (.setK 0 "spot" (.bin .add (.v 2) (.k (.int 1))))
  (.cons (.ife (.tv (.nes 0 "great")) (.cons (.set 3 (.bin .mod (.v 2) (.lens 0 "great")))
  (.cons (.set 4 (.ixs 0 "great" (.v 3)))
  (.cons (.ife (.tv (.cmp .gt (.v 4) (.k (.int 0)))) (.cons (.setSub 0 "great" (.v 3) (.bin .fdiv (.v 4) (.v 1)))
  (.cons (.ret (.bin .mod (.v 4) (.v 1)))
  .nil)) .nil)
  .nil))) .nil)
  (.cons (.ret (.bin .mod (.call 0 (.cons (.call 0 (.cons (.bin .add (.ixs 0 "cells" (.bin .mod (.v 2) (.k (.int 64)))) (.bin .mul (.k (.int 31)) (.bin .fdiv (.v 2) (.k (.int 64))))) (.cons (.v 2) .nil)) .nil) (.cons (.bin .add (.v 2) (.k (.int 7))) .nil)) .nil) (.v 1)))
  .nil))))
theorem k__law_draw : chkB E__law_draw c__law_draw (defScope (top 10)) (defBody (top 10)) = true := by decide +kernel
theorem f__law_draw : FnScope N__law_draw ["_law_m", "_law_top"] (defScope (top 10)) := ⟨rfl, rfl, rfl, by decide +kernel, rfl, by decide +kernel, by decide +kernel⟩
/-! _law_begun -/
def N__law_begun : List Str := ["_law_script", "_law_m", "_law_cell"]
def E__law_begun : SE := ⟨N__law_begun, [("_law_folded", 1, [])], []⟩
def e1__law_begun : C := (.ite (.tv (.cmp .ge (.v 2) (.bin .pow (.k (.int 10)) (.k (.int 18))))) (.v 2) (.k (.int 0)))
def c__law_begun : S := (.cons (.set 1 (.dct ["cells", "great", "spot"] (.cons (.call 0 (.cons (.v 0) .nil) .nil) (.cons (.lst .nil) (.cons (.k (.int 0)) .nil)))))
  (.cons (.setK 1 "great" (.comp [2] (.n 2) (.sv (.v 0)) .nil e1__law_begun))
  (.cons (.ret (.v 1))
  .nil)))
theorem k__law_begun : chkB E__law_begun c__law_begun (defScope (top 11)) (defBody (top 11)) = true := by decide +kernel
theorem f__law_begun : FnScope N__law_begun ["_law_script"] (defScope (top 11)) := ⟨rfl, rfl, rfl, by decide +kernel, rfl, by decide +kernel, by decide +kernel⟩
/-! _law_text -/
def N__law_text : List Str := ["_law_m", "_law_letters", "_law_signs", "_law_found", "_law_k", "_law_at", "_law_sign"]
def E__law_text : SE := ⟨N__law_text, [("_law_draw", 2, [])], []⟩
def e1__law_text : C := (.ix (.v 1) (.call 0 (.cons (.v 0) (.cons (.k (.int 26)) .nil)) .nil))
def c__law_text : S := (.cons (.set 1 (.k (.str "abcdefghijklmnopqrstuvwxyz")))
  (.cons (.set 2 (.k (.str " !\"#$&'()*+,-./0123456789:;<=>?@ABCDEFGHIJKLMNOPQRSTUVWXYZ[\\]^_`{|}~\n")))
  (.cons (.set 3 (.me .join (.k (.str "")) (.cons (.comp [4] (.n 4) (.rng (.cons (.call 0 (.cons (.v 0) (.cons (.k (.int 11)) .nil)) .nil) .nil)) .nil e1__law_text) .nil)))
  (.cons (.par [5, 6] (.cons (.call 0 (.cons (.v 0) (.cons (.bin .add (.bi .len (.cons (.v 3) .nil)) (.k (.int 1))) .nil)) .nil) (.cons (.ix (.v 2) (.call 0 (.cons (.v 0) (.cons (.bi .len (.cons (.v 2) .nil)) .nil)) .nil)) .nil)))
  (.cons (.ret (.ix (.lst (.cons (.v 3) (.cons (.v 3) (.cons (.bin .add (.bin .add (.sl (.v 3) .nil (.cons (.v 5) .nil)) (.v 6)) (.sl (.v 3) (.cons (.v 5) .nil) .nil)) (.cons (.bin .add (.bin .add (.sl (.v 3) .nil (.cons (.v 5) .nil)) (.v 6)) (.sl (.v 3) (.cons (.bin .add (.v 5) (.k (.int 1))) .nil) .nil)) .nil))))) (.call 0 (.cons (.v 0) (.cons (.k (.int 4)) .nil)) .nil)))
  .nil)))))
theorem k__law_text : chkB E__law_text c__law_text (defScope (top 12)) (defBody (top 12)) = true := by decide +kernel
theorem f__law_text : FnScope N__law_text ["_law_m"] (defScope (top 12)) := ⟨rfl, rfl, rfl, by decide +kernel, rfl, by decide +kernel, by decide +kernel⟩
/-! _law_whole -/
def N__law_whole : List Str := ["_law_m", "_law_some"]
def E__law_whole : SE := ⟨N__law_whole, [("_law_draw", 2, [])], []⟩
def c__law_whole : S := (.cons (.set 1 (.lst (.cons (.k (.int 0)) (.cons (.k (.int 1)) (.cons (.bin .sub (.call 0 (.cons (.v 0) (.cons (.k (.int 9)) .nil)) .nil) (.k (.int 4))) (.cons (.call 0 (.cons (.v 0) (.cons (.bin .pow (.k (.int 10)) (.k (.int 6))) .nil)) .nil) (.cons (.bin .pow (.k (.int 10)) (.k (.int 30))) (.cons (.bi .int (.cons (.bin .mul (.k (.str "7")) (.k (.int 2000))) .nil)) .nil))))))))
  (.cons (.ret (.bin .mul (.ix (.v 1) (.call 0 (.cons (.v 0) (.cons (.k (.int 6)) .nil)) .nil)) (.ix (.lst (.cons (.k (.int 1)) (.cons (.k (.int 1)) (.cons (.bin .sub (.k (.int 0)) (.k (.int 1))) .nil)))) (.call 0 (.cons (.v 0) (.cons (.k (.int 3)) .nil)) .nil))))
  .nil))
theorem k__law_whole : chkB E__law_whole c__law_whole (defScope (top 13)) (defBody (top 13)) = true := by decide +kernel
theorem f__law_whole : FnScope N__law_whole ["_law_m"] (defScope (top 13)) := ⟨rfl, rfl, rfl, by decide +kernel, rfl, by decide +kernel, by decide +kernel⟩
/-! _law_any_thing -/
def N__law_any_thing : List Str := ["_law_m", "_law_deep", "_law_way", "_law_turn", "_law_some"]
def E__law_any_thing : SE := ⟨N__law_any_thing, [("_law_draw", 2, []), ("_law_text", 1, []), ("_law_whole", 1, [])], []⟩
def b1__law_any_thing : S := (.cons (.set 1 (.tup (.cons (.v 1) .nil)))
  .nil)
def c__law_any_thing : S := (.cons (.par [1, 2] (.cons (.tup .nil) (.cons (.call 0 (.cons (.v 0) (.cons (.k (.int 5)) .nil)) .nil) .nil)))
  (.cons (.forS (.n 3) (.rng (.cons (.call 0 (.cons (.v 0) (.cons (.k (.int 90)) .nil)) .nil) .nil)) b1__law_any_thing)
  (.cons (.set 4 (.lst (.cons (.k .none) (.cons (.k (.bool true)) (.cons (.k (.bool false)) (.cons (.lst .nil) (.cons (.dct [] .nil) (.cons (.tup .nil) (.cons (.tup (.cons (.k (.int 1)) .nil)) (.cons (.lst (.cons (.k (.str "a")) .nil)) (.cons (.tup (.cons (.k (.str "a")) .nil)) (.cons (.dct ["a"] (.cons (.k (.int 1)) .nil)) (.cons (.v 1) (.cons (.tup (.cons (.k (.int 0)) (.cons (.k (.int 1)) .nil))) .nil))))))))))))))
  (.cons (.ret (.ite (.tv (.cmp .lt (.v 2) (.k (.int 2)))) (.call 1 (.cons (.v 0) .nil) .nil) (.ite (.tv (.cmp .lt (.v 2) (.k (.int 4)))) (.call 2 (.cons (.v 0) .nil) .nil) (.ix (.v 4) (.call 0 (.cons (.v 0) (.cons (.k (.int 12)) .nil)) .nil)))))
  .nil))))
theorem k__law_any_thing : chkB E__law_any_thing c__law_any_thing (defScope (top 14)) (defBody (top 14)) = true := by decide +kernel
theorem f__law_any_thing : FnScope N__law_any_thing ["_law_m"] (defScope (top 14)) := ⟨rfl, rfl, rfl, by decide +kernel, rfl, by decide +kernel, by decide +kernel⟩
/-! _law_bounds_right -/
def N__law_bounds_right : List Str := ["_law_m", "_law_it", "_law_is_whole", "_law_some", "_law_edge", "_law_due"]
def E__law_bounds_right : SE := ⟨N__law_bounds_right, [("_law_whole", 1, []), ("is_coins", 1, ["least"]), ("is_coins", 0, ["least", "thing"]), ("is_among", 1, ["many"]), ("is_among", 0, ["many", "thing"]), ("is_coins", 1, []), ("is_coins", 0, ["thing"])], []⟩
def b1__law_bounds_right : S := (.cons (.set 5 (.bin .mul (.lst (.cons (.and (.cons (.v 2) (.cons (.cmp .ge (.v 1) (.v 4)) .nil))) .nil)) (.k (.int 2))))
  (.cons (.ife (.tv (.cmp .ne (.bi .repr (.cons (.lst (.cons (.call 1 (.cons (.v 1) .nil) (.cons (.v 4) .nil)) (.cons (.call 2 .nil (.cons (.v 4) (.cons (.v 1) .nil))) .nil))) .nil)) (.bi .repr (.cons (.v 5) .nil)))) (.cons (.ret (.k (.bool false)))
  .nil) .nil)
  (.cons (.set 5 (.bin .mul (.lst (.cons (.and (.cons (.v 2) (.cons (.ch .le .lt (.k (.int 0)) (.v 1) (.v 4)) .nil))) .nil)) (.k (.int 2))))
  (.cons (.ife (.tv (.cmp .ne (.bi .repr (.cons (.lst (.cons (.call 3 (.cons (.v 1) .nil) (.cons (.v 4) .nil)) (.cons (.call 4 .nil (.cons (.v 4) (.cons (.v 1) .nil))) .nil))) .nil)) (.bi .repr (.cons (.v 5) .nil)))) (.cons (.ret (.k (.bool false)))
  .nil) .nil)
  .nil))))
def c__law_bounds_right : S := (.cons (.set 3 (.lst (.cons (.call 0 (.cons (.v 0) .nil) .nil) (.cons (.call 0 (.cons (.v 0) .nil) .nil) .nil))))
  (.cons (.ife (.tv (.v 2)) (.cons (.set 3 (.bin .add (.v 3) (.lst (.cons (.v 1) (.cons (.bin .add (.v 1) (.k (.int 1))) .nil)))))
  .nil) .nil)
  (.cons (.forS (.n 4) (.sv (.v 3)) b1__law_bounds_right)
  (.cons (.ret (.cmp .eq (.bi .repr (.cons (.lst (.cons (.call 5 (.cons (.v 1) .nil) .nil) (.cons (.call 6 .nil (.cons (.v 1) .nil)) .nil))) .nil)) (.bi .repr (.cons (.bin .mul (.lst (.cons (.and (.cons (.v 2) (.cons (.cmp .ge (.v 1) (.k (.int 0))) .nil))) .nil)) (.k (.int 2))) .nil))))
  .nil))))
theorem k__law_bounds_right : chkB E__law_bounds_right c__law_bounds_right (defScope (top 15)) (defBody (top 15)) = true := by decide +kernel
theorem f__law_bounds_right : FnScope N__law_bounds_right ["_law_m", "_law_it", "_law_is_whole"] (defScope (top 15)) := ⟨rfl, rfl, rfl, by decide +kernel, rfl, by decide +kernel, by decide +kernel⟩
/-! _law_right -/
def N__law_right : List Str := ["_law_m", "_law_it", "_law_is_whole", "_law_letters", "_law_is_called", "_law_sign"]
def E__law_right : SE := ⟨N__law_right, [("is_number", 1, []), ("is_number", 0, ["thing"]), ("_law_bounds_right", 3, []), ("is_name", 1, []), ("is_name", 0, ["thing"])], []⟩
def i1__law_right : C := (.cons (.tv (.cmp .notin (.v 5) (.v 3))) .nil)
def e2__law_right : C := (.v 5)
def c__law_right : S := (.cons (.set 2 (.and (.cons (.isi (.v 1) "int") (.cons (.not (.isi (.v 1) "bool")) .nil))))
  (.cons (.ife (.or (.cons (.tv (.cmp .ne (.bi .repr (.cons (.lst (.cons (.call 0 (.cons (.v 1) .nil) .nil) (.cons (.call 1 .nil (.cons (.v 1) .nil)) .nil))) .nil)) (.bi .repr (.cons (.bin .mul (.lst (.cons (.v 2) .nil)) (.k (.int 2))) .nil)))) (.cons (.not (.tv (.call 2 (.cons (.v 0) (.cons (.v 1) (.cons (.v 2) .nil))) .nil))) .nil))) (.cons (.ret (.k (.bool false)))
  .nil) .nil)
  (.cons (.set 3 (.k (.str "abcdefghijklmnopqrstuvwxyz")))
  (.cons (.set 4 (.and (.cons (.isi (.v 1) "str") (.cons (.ch .lt .lt (.k (.int 0)) (.bi .len (.cons (.v 1) .nil)) (.k (.int 9))) (.cons (.cmp .eq (.comp [5] (.n 5) (.sv (.v 1)) i1__law_right e2__law_right) (.lst .nil)) .nil)))))
  (.cons (.ret (.cmp .eq (.bi .repr (.cons (.lst (.cons (.call 3 (.cons (.v 1) .nil) .nil) (.cons (.call 4 .nil (.cons (.v 1) .nil)) .nil))) .nil)) (.bi .repr (.cons (.bin .mul (.lst (.cons (.v 4) .nil)) (.k (.int 2))) .nil))))
  .nil)))))
theorem k__law_right : chkB E__law_right c__law_right (defScope (top 16)) (defBody (top 16)) = true := by decide +kernel
theorem f__law_right : FnScope N__law_right ["_law_m", "_law_it"] (defScope (top 16)) := ⟨rfl, rfl, rfl, by decide +kernel, rfl, by decide +kernel, by decide +kernel⟩
/-! _law_doubled -/
def N__law_doubled : List Str := ["_law_way", "_law_found", "_law_turn"]
def E__law_doubled : SE := ⟨N__law_doubled, [], []⟩
def b1__law_doubled : S := (.cons (.set 1 (.ix (.lst (.cons (.tup (.cons (.v 1) (.cons (.v 1) .nil))) (.cons (.lst (.cons (.v 1) (.cons (.v 1) .nil))) .nil))) (.v 0)))
  .nil)
def c__law_doubled : S := (.cons (.set 1 (.tup .nil))
  (.cons (.forS (.n 2) (.rng (.cons (.k (.int 60)) .nil)) b1__law_doubled)
  (.cons (.ret (.v 1))
  .nil)))
theorem k__law_doubled : chkB E__law_doubled c__law_doubled (defScope (top 17)) (defBody (top 17)) = true := by decide +kernel
theorem f__law_doubled : FnScope N__law_doubled ["_law_way"] (defScope (top 17)) := ⟨rfl, rfl, rfl, by decide +kernel, rfl, by decide +kernel, by decide +kernel⟩
/-! law -/
def N_law : List Str := ["_law_script", "_law_m", "_law_turn", "_law_word", "_law_way", "_law_far", "_law_told"]
def E_law : SE := ⟨N_law, [("_law_begun", 1, []), ("_law_right", 2, []), ("_law_any_thing", 1, []), ("is_name", 1, []), ("_law_doubled", 1, []), ("is_number", 1, []), ("is_coins", 1, []), ("is_coins", 1, ["least"]), ("is_among", 1, ["many"])], [("LETTERS", (.str "abcdefghijklmnopqrstuvwxyz")), ("MOST_SIGNS", (.int 8))]⟩
def b1_law : S := (.cons (.ife (.not (.tv (.call 1 (.cons (.v 1) (.cons (.call 2 (.cons (.v 1) .nil) .nil) .nil)) .nil))) (.cons (.ret (.k (.bool false)))
  .nil) .nil)
  .nil)
def e2_law : C := (.call 3 (.cons (.v 3) .nil) .nil)
def b3_law : S := (.cons (.ife (.tv (.cmp .isnot (.call 3 (.cons (.v 3) .nil) .nil) (.k (.bool false)))) (.cons (.ret (.k (.bool false)))
  .nil) .nil)
  .nil)
def b4_law : S := (.cons (.set 5 (.call 4 (.cons (.v 4) .nil) .nil))
  (.cons (.set 6 (.lst (.cons (.call 5 (.cons (.v 5) .nil) .nil) (.cons (.call 6 (.cons (.v 5) .nil) .nil) (.cons (.call 7 (.cons (.v 5) .nil) (.cons (.bin .sub (.k (.int 0)) (.k (.int 5))) .nil)) (.cons (.call 8 (.cons (.v 5) .nil) (.cons (.k (.int 5)) .nil)) (.cons (.call 3 (.cons (.v 5) .nil) .nil) .nil)))))))
  (.cons (.ife (.tv (.cmp .ne (.v 6) (.bin .mul (.lst (.cons (.k (.bool false)) .nil)) (.k (.int 5))))) (.cons (.ret (.k (.bool false)))
  .nil) .nil)
  .nil)))
def c_law : S := (.cons (.set 1 (.call 0 (.cons (.v 0) .nil) .nil))
  (.cons (.forS (.n 2) (.rng (.cons (.k (.int 40)) .nil)) b1_law)
  (.cons (.ife (.tv (.cmp .ne (.comp [3] (.n 3) (.sv (.tup (.cons (.k (.str "a")) (.cons (.k (.str "z")) (.cons (.k (.str "abcdefgh")) (.cons (.k (.str "none")) .nil)))))) .nil e2_law) (.bin .mul (.lst (.cons (.k (.bool true)) .nil)) (.k (.int 4))))) (.cons (.ret (.k (.bool false)))
  .nil) .nil)
  (.cons (.forS (.n 3) (.sv (.tup (.cons (.k (.str "abcdefghi")) (.cons (.k (.str "")) (.cons (.k (.str "aZ")) (.cons (.k (.str "a ")) (.cons (.k (.str " a")) (.cons (.k (.str "a1")) (.cons (.k (.str "a\n")) (.cons (.k (.str "abcdefgh\n")) (.cons (.k (.str "\na")) (.cons (.k (.str "\n")) (.cons (.k (.str "a\nb")) (.cons (.k (.str "-")) .nil)))))))))))))) b3_law)
  (.cons (.forS (.n 4) (.rng (.cons (.k (.int 2)) .nil)) b4_law)
  (.cons (.ret (.cmp .eq (.lst (.cons (.gk "LETTERS" (.str "abcdefghijklmnopqrstuvwxyz")) (.cons (.gk "MOST_SIGNS" (.int 8)) .nil))) (.lst (.cons (.k (.str "abcdefghijklmnopqrstuvwxyz")) (.cons (.k (.int 8)) .nil)))))
  .nil))))))
theorem k_law : chkB E_law c_law (defScope (top 18)) (defBody (top 18)) = true := by decide +kernel
theorem f_law : FnScope N_law ["_law_script"] (defScope (top 18)) := ⟨rfl, rfl, rfl, by decide +kernel, rfl, by decide +kernel, by decide +kernel⟩
end Q.K01
set_option Elab.async false
set_option linter.all false
set_option maxRecDepth 100000
set_option maxHeartbeats 2000000
namespace Q.K01
open PySem PySem.Spec PyProof.Rows L2 Q
def isInt : PyData → Bool
  | .int _ => true
  | _ => false
def sp_is_number : Spec := fun ms Kc _ => ∃ d, ms = [.p d] ∧ Kc (.p (.bool (isInt d))) ms
theorem h_is_number (ms : List M) (Kc : M → List M → Prop) (h : sp_is_number ms Kc (fun _ _ => False)) : wpFn [] N_is_number.length c_is_number ms Kc (fun _ _ => False) := by
  obtain ⟨d, rfl, h⟩ := h
  cases d <;> simp [wpFn, wpS, we_v, rd1, rd2, rd3, we_k, we_gk, we_tup, we_lst, we_dct, we_bin, we_neg, we_cmp, we_ch, we_and, we_or, we_not, we_ite, we_ix, we_sl, we_rev, we_ixs, we_nes, we_lens, we_bi, we_isi, we_me, we_mu, we_call, we_comp, we_tupI, we_lstI, sa, sa1, sa2, wpF, wpD, wpV, wpT, wpA, wpO, wpAV, wpOV, startD, lockOf, outs, rv1, rv2, fz1, fz2, fz3, fz4, fa1, fa2, mv1, mv2, dt1, dt2, rg1, rg2, so1, so2, so3, so4, so5, lo1, lo2, lo5, wpI, lightAll, light, wipe, back, rng_len, enum_len, bindT, bindTs, peek, peeks, ats, wB1, wB2, wB3, setAll, bI1, bI2, bI3, bI4, bI5, bI6, bI7, bI8, bI9, bS1, bS2, bT1, bL1, bL2, bL3, bL4, bL5, bT2, cI1, cI2, cI3, cI4, cI5, cI6, cS1, cS2, cB1, cB2, cB3, tB1, tI1, tN1, tL1, xL1, xL2, xT1, xS1, xD1, lS1, lL1, lL2, lT1, qI, shaped_ints, c_is_number, isiM, isiS, M.kn, truM, N_is_number] at h ⊢ <;> exact h
def coinsB : PyData → Int → Bool
  | .int i, l => decide (l ≤ i)
  | _, _ => false
def sp_is_coins : Spec := fun ms Kc _ => ∃ d l, ms = [.p d, .p (.int l)] ∧ Kc (.p (.bool (coinsB d l))) ms
theorem h_is_coins (ms : List M) (Kc : M → List M → Prop) (h : sp_is_coins ms Kc (fun _ _ => False)) : wpFn [sp_is_number] N_is_coins.length c_is_coins ms Kc (fun _ _ => False) := by
  obtain ⟨d, l, rfl, h⟩ := h
  cases d <;> simp [wpFn, wpS, we_v, rd1, rd2, rd3, we_k, we_gk, we_tup, we_lst, we_dct, we_bin, we_neg, we_cmp, we_ch, we_and, we_or, we_not, we_ite, we_ix, we_sl, we_rev, we_ixs, we_nes, we_lens, we_bi, we_isi, we_me, we_mu, we_call, we_comp, we_tupI, we_lstI, sa, sa1, sa2, wpF, wpD, wpV, wpT, wpA, wpO, wpAV, wpOV, startD, lockOf, outs, rv1, rv2, fz1, fz2, fz3, fz4, fa1, fa2, mv1, mv2, dt1, dt2, rg1, rg2, so1, so2, so3, so4, so5, lo1, lo2, lo5, wpI, lightAll, light, wipe, back, rng_len, enum_len, bindT, bindTs, peek, peeks, ats, wB1, wB2, wB3, setAll, bI1, bI2, bI3, bI4, bI5, bI6, bI7, bI8, bI9, bS1, bS2, bT1, bL1, bL2, bL3, bL4, bL5, bT2, cI1, cI2, cI3, cI4, cI5, cI6, cS1, cS2, cB1, cB2, cB3, tB1, tI1, tN1, tL1, xL1, xL2, xT1, xS1, xD1, lS1, lL1, lL2, lT1, qI, shaped_ints, c_is_coins, N_is_coins, sp_is_number, isInt, coinsB] at h ⊢ <;> exact h
def amongB : PyData → Int → Bool
  | .int i, l => decide (0 ≤ i) && decide (i < l)
  | _, _ => false
def sp_is_among : Spec := fun ms Kc _ => ∃ d l, ms = [.p d, .p (.int l)] ∧ Kc (.p (.bool (amongB d l))) ms
theorem h_is_among (ms : List M) (Kc : M → List M → Prop) (h : sp_is_among ms Kc (fun _ _ => False)) : wpFn [sp_is_number] N_is_among.length c_is_among ms Kc (fun _ _ => False) := by
  obtain ⟨d, l, rfl, h⟩ := h
  cases d <;> simp [wpFn, wpS, we_v, rd1, rd2, rd3, we_k, we_gk, we_tup, we_lst, we_dct, we_bin, we_neg, we_cmp, we_ch, we_and, we_or, we_not, we_ite, we_ix, we_sl, we_rev, we_ixs, we_nes, we_lens, we_bi, we_isi, we_me, we_mu, we_call, we_comp, we_tupI, we_lstI, sa, sa1, sa2, wpF, wpD, wpV, wpT, wpA, wpO, wpAV, wpOV, startD, lockOf, outs, rv1, rv2, fz1, fz2, fz3, fz4, fa1, fa2, mv1, mv2, dt1, dt2, rg1, rg2, so1, so2, so3, so4, so5, lo1, lo2, lo5, wpI, lightAll, light, wipe, back, rng_len, enum_len, bindT, bindTs, peek, peeks, ats, wB1, wB2, wB3, setAll, bI1, bI2, bI3, bI4, bI5, bI6, bI7, bI8, bI9, bS1, bS2, bT1, bL1, bL2, bL3, bL4, bL5, bT2, cI1, cI2, cI3, cI4, cI5, cI6, cS1, cS2, cB1, cB2, cB3, tB1, tI1, tN1, tL1, xL1, xL2, xT1, xS1, xD1, lS1, lL1, lL2, lT1, qI, shaped_ints, c_is_among, N_is_among, sp_is_number, isInt, amongB] at h ⊢ <;> first | exact h | skip
  rename_i i
  by_cases h0 : 0 ≤ i
  · simp [h0] at h ⊢; exact h
  · simp [h0] at h ⊢; exact h
def sp__law_mixed : Spec := fun ms Kc _ => ∃ c k, ms = [.p (.int c), .p (.int k)] ∧ 0 ≤ k ∧ k < 2 ^ 60 ∧ ∀ r, Kc (.p (.int r)) ms
theorem h__law_mixed (ms : List M) (Kc : M → List M → Prop) (h : sp__law_mixed ms Kc (fun _ _ => False)) : wpFn [] N__law_mixed.length c__law_mixed ms Kc (fun _ _ => False) := by
  obtain ⟨c, k, rfl, h0, h1, h⟩ := h
  simp [wpFn, wpS, we_v, rd1, rd2, rd3, we_k, we_gk, we_tup, we_lst, we_dct, we_bin, we_neg, we_cmp, we_ch, we_and, we_or, we_not, we_ite, we_ix, we_sl, we_rev, we_ixs, we_nes, we_lens, we_bi, we_isi, we_me, we_mu, we_call, we_comp, we_tupI, we_lstI, sa, sa1, sa2, wpF, wpD, wpV, wpT, wpA, wpO, wpAV, wpOV, startD, lockOf, outs, rv1, rv2, fz1, fz2, fz3, fz4, fa1, fa2, mv1, mv2, dt1, dt2, rg1, rg2, so1, so2, so3, so4, so5, lo1, lo2, lo5, wpI, lightAll, light, wipe, back, rng_len, enum_len, bindT, bindTs, peek, peeks, ats, wB1, wB2, wB3, setAll, bI1, bI2, bI3, bI4, bI5, bI6, bI7, bI8, bI9, bS1, bS2, bT1, bL1, bL2, bL3, bL4, bL5, bT2, cI1, cI2, cI3, cI4, cI5, cI6, cS1, cS2, cB1, cB2, cB3, tB1, tI1, tN1, tL1, xL1, xL2, xT1, xS1, xD1, lS1, lL1, lL2, lT1, qI, shaped_ints, c__law_mixed, N__law_mixed]
  refine ⟨mulR (by omega), mulR (by omega), mulR (by omega), mulR (by omega), mulR (by omega), mulR (by omega), mulR (by omega), ?_, h _⟩
  decide +kernel
section
variable (a b c x : M)
theorem kg1 : kget [(.inr "cells", a), (.inr "great", b), (.inr "spot", c)] (.inr "cells") = some a := rfl
theorem kg2 : kget [(.inr "cells", a), (.inr "great", b), (.inr "spot", c)] (.inr "great") = some b := rfl
theorem kg3 : kget [(.inr "cells", a), (.inr "great", b), (.inr "spot", c)] (.inr "spot") = some c := rfl
theorem kp2 : kput [(.inr "cells", a), (.inr "great", b), (.inr "spot", c)] (.inr "great") x = [(.inr "cells", a), (.inr "great", x), (.inr "spot", c)] := rfl
theorem kp3 : kput [(.inr "cells", a), (.inr "great", b), (.inr "spot", c)] (.inr "spot") x = [(.inr "cells", a), (.inr "great", b), (.inr "spot", x)] := rfl
end
def mOf (cells great : List Int) (spot : Int) : List (L2.Key × M) := [(.inr "cells", .l (cells.map .int)), (.inr "great", .l (great.map .int)), (.inr "spot", .p (.int spot))]
def mOk (s : Int) (m : List (L2.Key × M)) : Prop := ∃ cells great spot, m = mOf cells great spot ∧ cells.length = 64 ∧ (∀ g ∈ great, 0 ≤ g) ∧ 0 ≤ spot ∧ spot ≤ s
def sp__law_draw : Spec := fun ms Kc _ => ∃ m s top, ms = [.dc m, .p (.int top)] ∧ mOk s m ∧ s < 2 ^ 40 ∧ 0 < top ∧ top < 2 ^ 63 ∧ ∀ r m', 0 ≤ r → r < top → mOk (s + 1) m' → Kc (.p (.int r)) [.dc m', .p (.int top)]
theorem h__law_draw (ms : List M) (Kc : M → List M → Prop) (h : sp__law_draw ms Kc (fun _ _ => False)) : wpFn [sp__law_mixed] N__law_draw.length c__law_draw ms Kc (fun _ _ => False) := by
  obtain ⟨m, s, top, rfl, ⟨cells, great, spot, rfl, hc, hg, s0, s1⟩, hs, t0, t1, h⟩ := h
  obtain ⟨c, _, ec⟩ := atI_int (ns := cells) (i := spot % 64) (by omega) (by omega)
  have l64 : Nat.log2 64 < 9000 := by decide +kernel
  have l3 : 3 < sizeLine := by decide
  have m31 : mulOk 31 (spot / 64) := mulL (by omega)
  have f1 : ∀ r : Int, 0 ≤ r % top ∧ r % top < top := fun r => ⟨Int.emod_nonneg _ (by omega), Int.emod_lt_of_pos _ t0⟩
  by_cases hgr : great = []
  · subst hgr
    simp [wpFn, wpS, we_v, rd1, rd2, rd3, we_k, we_gk, we_tup, we_lst, we_dct, we_bin, we_neg, we_cmp, we_ch, we_and, we_or, we_not, we_ite, we_ix, we_sl, we_rev, we_ixs, we_nes, we_lens, we_bi, we_isi, we_me, we_mu, we_call, we_comp, we_tupI, we_lstI, sa, sa1, sa2, wpF, wpD, wpV, wpT, wpA, wpO, wpAV, wpOV, startD, lockOf, outs, rv1, rv2, fz1, fz2, fz3, fz4, fa1, fa2, mv1, mv2, dt1, dt2, rg1, rg2, so1, so2, so3, so4, so5, lo1, lo2, lo5, wpI, lightAll, light, wipe, back, rng_len, enum_len, bindT, bindTs, peek, peeks, ats, wB1, wB2, wB3, setAll, bI1, bI2, bI3, bI4, bI5, bI6, bI7, bI8, bI9, bS1, bS2, bT1, bL1, bL2, bL3, bL4, bL5, bT2, cI1, cI2, cI3, cI4, cI5, cI6, cS1, cS2, cB1, cB2, cB3, tB1, tI1, tN1, tL1, xL1, xL2, xT1, xS1, xD1, lS1, lL1, lL2, lT1, qI, shaped_ints, c__law_draw, N__law_draw, mOf, kg1, kg2, kg3, kp2, kp3, ec, l64, l3, m31, sp__law_mixed]
    refine ⟨shaped_ints [], _, _, ⟨rfl, rfl⟩, s0, by omega, fun r => ⟨_, _, ⟨rfl, rfl⟩, by omega, by omega, fun r => ⟨t0, ?_⟩⟩⟩
    exact h _ _ (f1 r).1 (f1 r).2 ⟨cells, [], spot + 1, rfl, hc, by simp, by omega, by omega⟩
  · have hl : 0 < great.length := List.length_pos_iff.mpr hgr
    obtain ⟨g, hgm, eg⟩ := atI_int (ns := great) (i := spot % great.length) (Int.emod_nonneg _ (by omega)) (Int.emod_lt_of_pos _ (by omega))
    have eix : L2.ixN great.length (spot % great.length) = some (spot % great.length).toNat := ixN_ok (Int.emod_nonneg _ (by omega)) (Int.emod_lt_of_pos _ (by omega))
    by_cases hp : 0 < g
    · have ltop := log_ok t0 t1
      simp [wpFn, wpS, we_v, rd1, rd2, rd3, we_k, we_gk, we_tup, we_lst, we_dct, we_bin, we_neg, we_cmp, we_ch, we_and, we_or, we_not, we_ite, we_ix, we_sl, we_rev, we_ixs, we_nes, we_lens, we_bi, we_isi, we_me, we_mu, we_call, we_comp, we_tupI, we_lstI, sa, sa1, sa2, wpF, wpD, wpV, wpT, wpA, wpO, wpAV, wpOV, startD, lockOf, outs, rv1, rv2, fz1, fz2, fz3, fz4, fa1, fa2, mv1, mv2, dt1, dt2, rg1, rg2, so1, so2, so3, so4, so5, lo1, lo2, lo5, wpI, lightAll, light, wipe, back, rng_len, enum_len, bindT, bindTs, peek, peeks, ats, wB1, wB2, wB3, setAll, bI1, bI2, bI3, bI4, bI5, bI6, bI7, bI8, bI9, bS1, bS2, bT1, bL1, bL2, bL3, bL4, bL5, bT2, cI1, cI2, cI3, cI4, cI5, cI6, cS1, cS2, cB1, cB2, cB3, tB1, tI1, tN1, tL1, xL1, xL2, xT1, xS1, xD1, lS1, lL1, lL2, lT1, qI, shaped_ints, c__law_draw, N__law_draw, mOf, kg1, kg2, kg3, kp2, kp3, eg, l64, l3, hgr, hl, hp, t0, ltop, eix]
      refine h _ _ (f1 g).1 (f1 g).2 ⟨cells, great.set (spot % great.length).toNat (g / top), spot + 1, ?_, hc, fun x hx => ?_, by omega, by omega⟩
      · simp [mOf, List.map_set]
      · rcases List.mem_or_eq_of_mem_set hx with z | z
        · exact hg x z
        · rw [z]; exact Int.ediv_nonneg (by omega) (by omega)
    · simp [wpFn, wpS, we_v, rd1, rd2, rd3, we_k, we_gk, we_tup, we_lst, we_dct, we_bin, we_neg, we_cmp, we_ch, we_and, we_or, we_not, we_ite, we_ix, we_sl, we_rev, we_ixs, we_nes, we_lens, we_bi, we_isi, we_me, we_mu, we_call, we_comp, we_tupI, we_lstI, sa, sa1, sa2, wpF, wpD, wpV, wpT, wpA, wpO, wpAV, wpOV, startD, lockOf, outs, rv1, rv2, fz1, fz2, fz3, fz4, fa1, fa2, mv1, mv2, dt1, dt2, rg1, rg2, so1, so2, so3, so4, so5, lo1, lo2, lo5, wpI, lightAll, light, wipe, back, rng_len, enum_len, bindT, bindTs, peek, peeks, ats, wB1, wB2, wB3, setAll, bI1, bI2, bI3, bI4, bI5, bI6, bI7, bI8, bI9, bS1, bS2, bT1, bL1, bL2, bL3, bL4, bL5, bT2, cI1, cI2, cI3, cI4, cI5, cI6, cS1, cS2, cB1, cB2, cB3, tB1, tI1, tN1, tL1, xL1, xL2, xT1, xS1, xD1, lS1, lL1, lL2, lT1, qI, shaped_ints, c__law_draw, N__law_draw, mOf, kg1, kg2, kg3, kp2, kp3, ec, eg, l64, l3, m31, sp__law_mixed, hgr, hl, hp]
      refine ⟨_, _, ⟨rfl, rfl⟩, s0, by omega, fun r => ⟨_, _, ⟨rfl, rfl⟩, by omega, by omega, fun r => ⟨t0, ?_⟩⟩⟩
      exact h _ _ (f1 r).1 (f1 r).2 ⟨cells, great, spot + 1, rfl, hc, hg, by omega, by omega⟩
end Q.K01
set_option Elab.async false
set_option linter.all false
set_option maxRecDepth 100000
set_option maxHeartbeats 2000000
namespace Q.K01
open PySem PySem.Spec PyProof.Rows L2 Q

def sp__law_folded : Spec := fun ms Kc _ => ∃ ns : List Int, ms = [.p (.list (ns.map .int))] ∧ ns.length ≤ 1000 ∧ ∀ cells : List Int, cells.length = 64 → Kc (.l (cells.map .int)) ms
theorem h__law_folded (ms : List M) (Kc : M → List M → Prop) (h : sp__law_folded ms Kc (fun _ _ => False)) : wpFn [] N__law_folded.length c__law_folded ms Kc (fun _ _ => False) := by
  obtain ⟨ns, rfl, hn, h⟩ := h
  have l64 : Nat.log2 64 < 9000 := by decide +kernel
  have lz : 64 ≤ sizeLine := by decide
  simp [wpFn, wpS, we_v, rd1, rd2, rd3, we_k, we_gk, we_tup, we_lst, we_dct, we_bin, we_neg, we_cmp, we_ch, we_and, we_or, we_not, we_ite, we_ix, we_sl, we_rev, we_ixs, we_nes, we_lens, we_bi, we_isi, we_me, we_mu, we_call, we_comp, we_tupI, we_lstI, sa, sa1, sa2, wpF, wpD, wpV, wpT, wpA, wpO, wpAV, wpOV, startD, lockOf, outs, rv1, rv2, fz1, fz2, fz3, fz4, fa1, fa2, mv1, mv2, dt1, dt2, rg1, rg2, so1, so2, so3, so4, so5, lo1, lo2, lo5, wpI, lightAll, light, wipe, back, rng_len, enum_len, bindT, bindTs, peek, peeks, ats, wB1, wB2, wB3, setAll, bI1, bI2, bI3, bI4, bI5, bI6, bI7, bI8, bI9, bS1, bS2, bT1, bL1, bL2, bL3, bL4, bL5, bT2, cI1, cI2, cI3, cI4, cI5, cI6, cS1, cS2, cB1, cB2, cB3, tB1, tI1, tN1, tL1, xL1, xL2, xT1, xS1, xD1, lS1, lL1, lL2, lT1, qI, shaped_ints, c__law_folded, N__law_folded, lz]
  refine ⟨by decide, compLoop_inv (fun xs ds δ => (∀ x ∈ xs, ∃ i, x = .int i) ∧ ∃ fs : List Int, ds = fs.map .int ∧ fs.length + xs.length = 64 ∧ δ = [some (M.p (.list (ns.map .int))), none, none, none]) ?_ (rngItems 0 64) [] _ _ ⟨fun x hx => (mem_rng hx).imp fun i h => h.1, [], rfl, by simp [rng_len], rfl⟩ ?_⟩
  · rintro x xs ds δ k ⟨hx, fs, rfl, hl, rfl⟩ hk
    obtain ⟨i, rfl⟩ := hx x (List.mem_cons_self ..)
    refine ⟨gdOk_nil, ?_⟩
    simp [wpFn, wpS, we_v, rd1, rd2, rd3, we_k, we_gk, we_tup, we_lst, we_dct, we_bin, we_neg, we_cmp, we_ch, we_and, we_or, we_not, we_ite, we_ix, we_sl, we_rev, we_ixs, we_nes, we_lens, we_bi, we_isi, we_me, we_mu, we_call, we_comp, we_tupI, we_lstI, sa, sa1, sa2, wpF, wpD, wpV, wpT, wpA, wpO, wpAV, wpOV, startD, lockOf, outs, rv1, rv2, fz1, fz2, fz3, fz4, fa1, fa2, mv1, mv2, dt1, dt2, rg1, rg2, so1, so2, so3, so4, so5, lo1, lo2, lo5, wpI, lightAll, light, wipe, back, rng_len, enum_len, bindT, bindTs, peek, peeks, ats, wB1, wB2, wB3, setAll, bI1, bI2, bI3, bI4, bI5, bI6, bI7, bI8, bI9, bS1, bS2, bT1, bL1, bL2, bL3, bL4, bL5, bT2, cI1, cI2, cI3, cI4, cI5, cI6, cS1, cS2, cB1, cB2, cB3, tB1, tI1, tN1, tL1, xL1, xL2, xT1, xS1, xD1, lS1, lL1, lL2, lT1, qI, shaped_ints, e1__law_folded]
    refine hk _ _ ⟨fun y hy => hx y (List.mem_cons_of_mem _ hy), fs ++ [17 + i], by simp, by simp at hl ⊢; omega, by simp [wipe]⟩
  rintro ds δ ⟨-, fs, e, hl, rfl⟩
  simp at e hl
  subst e
  refine ⟨gdOk_nil, ?_⟩
  simp [wpFn, wpS, we_v, rd1, rd2, rd3, we_k, we_gk, we_tup, we_lst, we_dct, we_bin, we_neg, we_cmp, we_ch, we_and, we_or, we_not, we_ite, we_ix, we_sl, we_rev, we_ixs, we_nes, we_lens, we_bi, we_isi, we_me, we_mu, we_call, we_comp, we_tupI, we_lstI, sa, sa1, sa2, wpF, wpD, wpV, wpT, wpA, wpO, wpAV, wpOV, startD, lockOf, outs, rv1, rv2, fz1, fz2, fz3, fz4, fa1, fa2, mv1, mv2, dt1, dt2, rg1, rg2, so1, so2, so3, so4, so5, lo1, lo2, lo5, wpI, lightAll, light, wipe, back, rng_len, enum_len, bindT, bindTs, peek, peeks, ats, wB1, wB2, wB3, setAll, bI1, bI2, bI3, bI4, bI5, bI6, bI7, bI8, bI9, bS1, bS2, bT1, bL1, bL2, bL3, bL4, bL5, bT2, cI1, cI2, cI3, cI4, cI5, cI6, cS1, cS2, cB1, cB2, cB3, tB1, tI1, tN1, tL1, xL1, xL2, xT1, xS1, xD1, lS1, lL1, lL2, lT1, qI, shaped_ints]
  refine forLoop_inv (fun xs δ => (∀ x ∈ xs, ∃ k c, x = .tuple [.int k, .int c] ∧ 0 ≤ k) ∧ ∃ (fs : List Int) (a b : Option M), fs.length = 64 ∧ δ = [some (M.p (.list (ns.map .int))), some (.l (fs.map .int)), a, b]) ?_ ?_ _ _ ⟨fun x hx => ?_, fs, none, none, hl, rfl⟩
  · rintro x xs δ N ⟨hx, fs, a, b, hl, rfl⟩ hN
    obtain ⟨k, c, rfl, k0⟩ := hx x (List.mem_cons_self ..)
    refine ⟨gdOk_nil, ?_⟩
    obtain ⟨q, _, eq⟩ := atI_int (ns := fs) (i := k % 64) (by omega) (by omega)
    have eix : L2.ixN 64 (k % 64) = some (k % 64).toNat := ixN_ok (by omega) (by omega)
    simp [wpFn, wpS, we_v, rd1, rd2, rd3, we_k, we_gk, we_tup, we_lst, we_dct, we_bin, we_neg, we_cmp, we_ch, we_and, we_or, we_not, we_ite, we_ix, we_sl, we_rev, we_ixs, we_nes, we_lens, we_bi, we_isi, we_me, we_mu, we_call, we_comp, we_tupI, we_lstI, sa, sa1, sa2, wpF, wpD, wpV, wpT, wpA, wpO, wpAV, wpOV, startD, lockOf, outs, rv1, rv2, fz1, fz2, fz3, fz4, fa1, fa2, mv1, mv2, dt1, dt2, rg1, rg2, so1, so2, so3, so4, so5, lo1, lo2, lo5, wpI, lightAll, light, wipe, back, rng_len, enum_len, bindT, bindTs, peek, peeks, ats, wB1, wB2, wB3, setAll, bI1, bI2, bI3, bI4, bI5, bI6, bI7, bI8, bI9, bS1, bS2, bT1, bL1, bL2, bL3, bL4, bL5, bT2, cI1, cI2, cI3, cI4, cI5, cI6, cS1, cS2, cB1, cB2, cB3, tB1, tI1, tN1, tL1, xL1, xL2, xT1, xS1, xD1, lS1, lL1, lL2, lT1, qI, shaped_ints, b2__law_folded, eq, hl, eix]
    refine ⟨mulR (by omega), hN _ ⟨fun y hy => hx y (List.mem_cons_of_mem _ hy), fs.set (k % 64).toNat ((q * 48271 + c) % 2147483647), _, _, by simp [hl], by rw [List.map_set]⟩⟩
  · rintro δ ⟨-, fs, a, b, hl, rfl⟩
    refine ⟨gdOk_nil, ?_⟩
    refine forLoop_inv (fun xs δ => (∀ x ∈ xs, ∃ k, x = .int k ∧ 1 ≤ k ∧ k < 64) ∧ ∃ (fs : List Int) (a b : Option M), fs.length = 64 ∧ δ = [some (M.p (.list (ns.map .int))), some (.l (fs.map .int)), a, b]) ?_ ?_ _ _ ⟨fun x hx => mem_rng hx, fs, a, b, hl, rfl⟩
    · rintro x xs δ N ⟨hx, fs, a, b, hl, rfl⟩ hN
      obtain ⟨k, rfl, k1, k2⟩ := hx x (List.mem_cons_self ..)
      refine ⟨gdOk_nil, ?_⟩
      obtain ⟨q, _, eq⟩ := atI_int (ns := fs) (i := k) (by omega) (by omega)
      obtain ⟨q2, _, eq2⟩ := atI_int (ns := fs) (i := k - 1) (by omega) (by omega)
      have eix : L2.ixN 64 k = some k.toNat := ixN_ok (by omega) (by omega)
      simp [wpFn, wpS, we_v, rd1, rd2, rd3, we_k, we_gk, we_tup, we_lst, we_dct, we_bin, we_neg, we_cmp, we_ch, we_and, we_or, we_not, we_ite, we_ix, we_sl, we_rev, we_ixs, we_nes, we_lens, we_bi, we_isi, we_me, we_mu, we_call, we_comp, we_tupI, we_lstI, sa, sa1, sa2, wpF, wpD, wpV, wpT, wpA, wpO, wpAV, wpOV, startD, lockOf, outs, rv1, rv2, fz1, fz2, fz3, fz4, fa1, fa2, mv1, mv2, dt1, dt2, rg1, rg2, so1, so2, so3, so4, so5, lo1, lo2, lo5, wpI, lightAll, light, wipe, back, rng_len, enum_len, bindT, bindTs, peek, peeks, ats, wB1, wB2, wB3, setAll, bI1, bI2, bI3, bI4, bI5, bI6, bI7, bI8, bI9, bS1, bS2, bT1, bL1, bL2, bL3, bL4, bL5, bT2, cI1, cI2, cI3, cI4, cI5, cI6, cS1, cS2, cB1, cB2, cB3, tB1, tI1, tN1, tL1, xL1, xL2, xT1, xS1, xD1, lS1, lL1, lL2, lT1, qI, shaped_ints, b3__law_folded, eq, eq2, hl, eix]
      refine ⟨mulR (by omega), hN _ ⟨fun y hy => hx y (List.mem_cons_of_mem _ hy), fs.set k.toNat ((q + q2 * 16807) % 2147483647), _, _, by simp [hl], by rw [List.map_set]⟩⟩
    · rintro δ ⟨-, fs, a, b, hl, rfl⟩
      refine ⟨gdOk_nil, ?_⟩
      simp [wpFn, wpS, we_v, rd1, rd2, rd3, we_k, we_gk, we_tup, we_lst, we_dct, we_bin, we_neg, we_cmp, we_ch, we_and, we_or, we_not, we_ite, we_ix, we_sl, we_rev, we_ixs, we_nes, we_lens, we_bi, we_isi, we_me, we_mu, we_call, we_comp, we_tupI, we_lstI, sa, sa1, sa2, wpF, wpD, wpV, wpT, wpA, wpO, wpAV, wpOV, startD, lockOf, outs, rv1, rv2, fz1, fz2, fz3, fz4, fa1, fa2, mv1, mv2, dt1, dt2, rg1, rg2, so1, so2, so3, so4, so5, lo1, lo2, lo5, wpI, lightAll, light, wipe, back, rng_len, enum_len, bindT, bindTs, peek, peeks, ats, wB1, wB2, wB3, setAll, bI1, bI2, bI3, bI4, bI5, bI6, bI7, bI8, bI9, bS1, bS2, bT1, bL1, bL2, bL3, bL4, bL5, bT2, cI1, cI2, cI3, cI4, cI5, cI6, cS1, cS2, cB1, cB2, cB3, tB1, tI1, tN1, tL1, xL1, xL2, xT1, xS1, xD1, lS1, lL1, lL2, lT1, qI, shaped_ints]
      exact h fs hl
  · obtain ⟨k, d, rfl, k0, _, hd⟩ := mem_enum hx
    obtain ⟨c, rfl, _⟩ := mem_ints hd
    exact ⟨k, c, rfl, k0⟩
end Q.K01
set_option Elab.async false
set_option linter.all false
set_option maxRecDepth 100000
set_option maxHeartbeats 2000000
namespace Q.K01
open PySem PySem.Spec PyProof.Rows L2 Q
theorem use_draw {m : List (L2.Key × M)} {s top : Int} {K : M → List M → Prop} {X : Exn → List M → Prop} (hm : mOk s m) (hs : s < 2 ^ 40) (t0 : 0 < top) (t1 : top < 2 ^ 63)
    (h : ∀ r m', 0 ≤ r → r < top → mOk (s + 1) m' → K (.p (.int r)) [.dc m', .p (.int top)]) : sp__law_draw [.dc m, .p (.int top)] K X := ⟨m, s, top, rfl, hm, hs, t0, t1, h⟩
theorem mOk.mono {s t : Int} {m : List (L2.Key × M)} (h : mOk s m) (hl : s ≤ t) : mOk t m := by
  obtain ⟨a, b, c, e, h1, h2, h3, h4⟩ := h
  exact ⟨a, b, c, e, h1, h2, h3, by omega⟩
def sp__law_begun : Spec := fun ms Kc _ => ∃ ns : List Int, ms = [.p (.list (ns.map .int))] ∧ ns.length ≤ 1000 ∧ ∀ m, mOk 0 m → Kc (.dc m) ms
theorem h__law_begun (ms : List M) (Kc : M → List M → Prop) (h : sp__law_begun ms Kc (fun _ _ => False)) : wpFn [sp__law_folded] N__law_begun.length c__law_begun ms Kc (fun _ _ => False) := by
  obtain ⟨ns, rfl, hn, h⟩ := h
  have lz : (ns.length : Int) ≤ sizeLine := by have : sizeLine = 16777216 := sizeLine_eq; omega
  have l3 : 3 < sizeLine := by decide
  have hz : ns.length ≤ sizeLine := by omega
  simp [wpFn, wpS, we_v, rd1, rd2, rd3, we_k, we_gk, we_tup, we_lst, we_dct, we_bin, we_neg, we_cmp, we_ch, we_and, we_or, we_not, we_ite, we_ix, we_sl, we_rev, we_ixs, we_nes, we_lens, we_bi, we_isi, we_me, we_mu, we_call, we_comp, we_tupI, we_lstI, sa, sa1, sa2, wpF, wpD, wpV, wpT, wpA, wpO, wpAV, wpOV, startD, lockOf, outs, rv1, rv2, fz1, fz2, fz3, fz4, fa1, fa2, mv1, mv2, dt1, dt2, rg1, rg2, so1, so2, so3, so4, so5, lo1, lo2, lo5, wpI, lightAll, light, wipe, back, rng_len, enum_len, bindT, bindTs, peek, peeks, ats, wB1, wB2, wB3, setAll, bI1, bI2, bI3, bI4, bI5, bI6, bI7, bI8, bI9, bS1, bS2, bT1, bL1, bL2, bL3, bL4, bL5, bT2, cI1, cI2, cI3, cI4, cI5, cI6, cS1, cS2, cB1, cB2, cB3, tB1, tI1, tN1, tL1, xL1, xL2, xT1, xS1, xD1, lS1, lL1, lL2, lT1, qI, shaped_ints, c__law_begun, N__law_begun, lz, hz, l3]
  refine ⟨ns, rfl, hn, fun cells hc => ?_⟩
  simp [wpFn, wpS, we_v, rd1, rd2, rd3, we_k, we_gk, we_tup, we_lst, we_dct, we_bin, we_neg, we_cmp, we_ch, we_and, we_or, we_not, we_ite, we_ix, we_sl, we_rev, we_ixs, we_nes, we_lens, we_bi, we_isi, we_me, we_mu, we_call, we_comp, we_tupI, we_lstI, sa, sa1, sa2, wpF, wpD, wpV, wpT, wpA, wpO, wpAV, wpOV, startD, lockOf, outs, rv1, rv2, fz1, fz2, fz3, fz4, fa1, fa2, mv1, mv2, dt1, dt2, rg1, rg2, so1, so2, so3, so4, so5, lo1, lo2, lo5, wpI, lightAll, light, wipe, back, rng_len, enum_len, bindT, bindTs, peek, peeks, ats, wB1, wB2, wB3, setAll, bI1, bI2, bI3, bI4, bI5, bI6, bI7, bI8, bI9, bS1, bS2, bT1, bL1, bL2, bL3, bL4, bL5, bT2, cI1, cI2, cI3, cI4, cI5, cI6, cS1, cS2, cB1, cB2, cB3, tB1, tI1, tN1, tL1, xL1, xL2, xT1, xS1, xD1, lS1, lL1, lL2, lT1, qI, shaped_ints, hz, l3]
  refine compLoop_inv (fun xs ds δ => (∀ x ∈ xs, ∃ i, x = .int i) ∧ ∃ gs : List Int, ds = gs.map .int ∧ (∀ g ∈ gs, 0 ≤ g) ∧ δ = [some (M.p (.list (ns.map .int))), some (.dc [(.inr "cells", .l (cells.map .int)), (.inr "great", .l []), (.inr "spot", .p (.int 0))]), none]) ?_ _ [] _ _ ⟨fun x hx => (mem_ints hx).imp fun i h => h.1, [], rfl, by simp, rfl⟩ ?_
  · rintro x xs ds δ k ⟨hx, gs, rfl, hg, rfl⟩ hk
    obtain ⟨i, rfl⟩ := hx x (List.mem_cons_self ..)
    refine ⟨gdOk_nil, ?_⟩
    by_cases hi : 1000000000000000000 ≤ i
    · simp [wpFn, wpS, we_v, rd1, rd2, rd3, we_k, we_gk, we_tup, we_lst, we_dct, we_bin, we_neg, we_cmp, we_ch, we_and, we_or, we_not, we_ite, we_ix, we_sl, we_rev, we_ixs, we_nes, we_lens, we_bi, we_isi, we_me, we_mu, we_call, we_comp, we_tupI, we_lstI, sa, sa1, sa2, wpF, wpD, wpV, wpT, wpA, wpO, wpAV, wpOV, startD, lockOf, outs, rv1, rv2, fz1, fz2, fz3, fz4, fa1, fa2, mv1, mv2, dt1, dt2, rg1, rg2, so1, so2, so3, so4, so5, lo1, lo2, lo5, wpI, lightAll, light, wipe, back, rng_len, enum_len, bindT, bindTs, peek, peeks, ats, wB1, wB2, wB3, setAll, bI1, bI2, bI3, bI4, bI5, bI6, bI7, bI8, bI9, bS1, bS2, bT1, bL1, bL2, bL3, bL4, bL5, bT2, cI1, cI2, cI3, cI4, cI5, cI6, cS1, cS2, cB1, cB2, cB3, tB1, tI1, tN1, tL1, xL1, xL2, xT1, xS1, xD1, lS1, lL1, lL2, lT1, qI, shaped_ints, e1__law_begun, hi]
      refine hk _ _ ⟨fun y hy => hx y (List.mem_cons_of_mem _ hy), gs ++ [i], by simp, ?_, by simp [wipe]⟩
      intro g hg'
      rcases List.mem_append.mp hg' with z | z
      · exact hg g z
      · rw [List.mem_singleton] at z; omega
    · simp [wpFn, wpS, we_v, rd1, rd2, rd3, we_k, we_gk, we_tup, we_lst, we_dct, we_bin, we_neg, we_cmp, we_ch, we_and, we_or, we_not, we_ite, we_ix, we_sl, we_rev, we_ixs, we_nes, we_lens, we_bi, we_isi, we_me, we_mu, we_call, we_comp, we_tupI, we_lstI, sa, sa1, sa2, wpF, wpD, wpV, wpT, wpA, wpO, wpAV, wpOV, startD, lockOf, outs, rv1, rv2, fz1, fz2, fz3, fz4, fa1, fa2, mv1, mv2, dt1, dt2, rg1, rg2, so1, so2, so3, so4, so5, lo1, lo2, lo5, wpI, lightAll, light, wipe, back, rng_len, enum_len, bindT, bindTs, peek, peeks, ats, wB1, wB2, wB3, setAll, bI1, bI2, bI3, bI4, bI5, bI6, bI7, bI8, bI9, bS1, bS2, bT1, bL1, bL2, bL3, bL4, bL5, bT2, cI1, cI2, cI3, cI4, cI5, cI6, cS1, cS2, cB1, cB2, cB3, tB1, tI1, tN1, tL1, xL1, xL2, xT1, xS1, xD1, lS1, lL1, lL2, lT1, qI, shaped_ints, e1__law_begun, hi]
      refine hk _ _ ⟨fun y hy => hx y (List.mem_cons_of_mem _ hy), gs ++ [0], by simp, ?_, by simp [wipe]⟩
      intro g hg'
      rcases List.mem_append.mp hg' with z | z
      · exact hg g z
      · rw [List.mem_singleton] at z; omega
  rintro ds δ ⟨-, gs, e, hg, rfl⟩
  simp at e
  subst e
  refine ⟨gdOk_nil, ?_⟩
  simp [wpFn, wpS, we_v, rd1, rd2, rd3, we_k, we_gk, we_tup, we_lst, we_dct, we_bin, we_neg, we_cmp, we_ch, we_and, we_or, we_not, we_ite, we_ix, we_sl, we_rev, we_ixs, we_nes, we_lens, we_bi, we_isi, we_me, we_mu, we_call, we_comp, we_tupI, we_lstI, sa, sa1, sa2, wpF, wpD, wpV, wpT, wpA, wpO, wpAV, wpOV, startD, lockOf, outs, rv1, rv2, fz1, fz2, fz3, fz4, fa1, fa2, mv1, mv2, dt1, dt2, rg1, rg2, so1, so2, so3, so4, so5, lo1, lo2, lo5, wpI, lightAll, light, wipe, back, rng_len, enum_len, bindT, bindTs, peek, peeks, ats, wB1, wB2, wB3, setAll, bI1, bI2, bI3, bI4, bI5, bI6, bI7, bI8, bI9, bS1, bS2, bT1, bL1, bL2, bL3, bL4, bL5, bT2, cI1, cI2, cI3, cI4, cI5, cI6, cS1, cS2, cB1, cB2, cB3, tB1, tI1, tN1, tL1, xL1, xL2, xT1, xS1, xD1, lS1, lL1, lL2, lT1, qI, shaped_ints, kp2, l3]
  exact h _ ⟨cells, gs, 0, rfl, hc, hg, by omega, by omega⟩
def sp__law_whole : Spec := fun ms Kc _ => ∃ m s, ms = [.dc m] ∧ mOk s m ∧ s < 2 ^ 30 ∧ ∀ r m', mOk (s + 4) m' → Kc (.p (.int r)) [.dc m']
theorem sevens_list : (Txt.mul (Str.ofString "7") 2000).cps.toList = List.replicate 2000 55 := by
  have e : ∀ (n : Nat) (acc : Array Nat), ((List.replicate n (#[55] : Array Nat)).foldl (· ++ ·) acc).toList = acc.toList ++ List.replicate n 55 := by
    intro n
    induction n with
    | zero => intro acc; simp
    | succ n ih => intro acc; rw [List.replicate_succ, List.foldl_cons, ih, List.replicate_succ]; simp
  have h1 : (Str.ofString "7") = ⟨#[55]⟩ := by decide +kernel
  rw [h1]
  unfold Txt.mul
  rw [if_neg (by decide), if_neg (by decide)]
  exact (e 2000 #[]).trans (by simp)
theorem sevens_len : (Txt.mul (Str.ofString "7") 2000).length = 2000 := by
  show (Txt.mul (Str.ofString "7") 2000).cps.size = 2000
  rw [← Array.length_toList, sevens_list, List.length_replicate]
theorem sevens_digits : NumText.AllDigits (Txt.mul (Str.ofString "7") 2000).cps.toList := by
  rw [sevens_list]
  intro c hc
  have := List.eq_of_mem_replicate hc
  omega
theorem sevens : ∃ n, PySem.intText? (Txt.mul (Str.ofString "7") 2000) = some n :=
  ⟨_, intText_digits sevens_digits (by rw [sevens_list]; intro h; have := congrArg List.length h; rw [List.length_replicate] at this; cases this) (by rw [sevens_len]; decide)⟩
theorem sevens_ok : MulOk (Str.ofString "7") 2000 := by
  have h1 : (Str.ofString "7").length = 1 := by decide +kernel
  refine ⟨by decide, fun _ _ => ?_, fun _ _ => ?_⟩
  · rw [h1]; decide
  · rw [h1]; decide
theorem sevens_long : (Txt.mul (Str.ofString "7") 2000).length ≤ sizeLine ∧ ¬ (numSeenOf (Txt.mul (Str.ofString "7") 2000)).length ≤ 640 := by
  refine ⟨by rw [sevens_len]; decide, ?_⟩
  rw [(numText_signs fun c hc => .inr (sevens_digits c hc)).2, sevens_list, List.length_replicate]
  decide
theorem at6 (a b c d e f : Int) {r : Int} (h0 : 0 ≤ r) (h : r < 6) : ∃ x, L2.atI [PyData.int a, .int b, .int c, .int d, .int e, .int f] r = some (.int x) := by
  obtain ⟨x, _, h⟩ := atI_int (ns := [a, b, c, d, e, f]) h0 h
  exact ⟨x, h⟩
theorem at3 {r : Int} (h0 : 0 ≤ r) (h : r < 3) : ∃ x, L2.atI [PyData.int 1, .int 1, .int (-1)] r = some (.int x) ∧ (x = 1 ∨ x = -1) := by
  obtain ⟨x, hx, h⟩ := atI_int (ns := [1, 1, -1]) h0 h
  exact ⟨x, h, by simpa using hx⟩
theorem h__law_whole (ms : List M) (Kc : M → List M → Prop) (h : sp__law_whole ms Kc (fun _ _ => False)) : wpFn [sp__law_draw] N__law_whole.length c__law_whole ms Kc (fun _ _ => False) := by
  obtain ⟨m, s, rfl, hm, hs, h⟩ := h
  obtain ⟨n7, e7⟩ := sevens
  obtain ⟨l7, l8⟩ := sevens_long
  simp [wpFn, wpS, we_v, rd1, rd2, rd3, we_k, we_gk, we_tup, we_lst, we_dct, we_bin, we_neg, we_cmp, we_ch, we_and, we_or, we_not, we_ite, we_ix, we_sl, we_rev, we_ixs, we_nes, we_lens, we_bi, we_isi, we_me, we_mu, we_call, we_comp, we_tupI, we_lstI, sa, sa1, sa2, wpF, wpD, wpV, wpT, wpA, wpO, wpAV, wpOV, startD, lockOf, outs, rv1, rv2, fz1, fz2, fz3, fz4, fa1, fa2, mv1, mv2, dt1, dt2, rg1, rg2, so1, so2, so3, so4, so5, lo1, lo2, lo5, wpI, lightAll, light, wipe, back, rng_len, enum_len, bindT, bindTs, peek, peeks, ats, wB1, wB2, wB3, setAll, bI1, bI2, bI3, bI4, bI5, bI6, bI7, bI8, bI9, bS1, bS2, bT1, bL1, bL2, bL3, bL4, bL5, bT2, cI1, cI2, cI3, cI4, cI5, cI6, cS1, cS2, cB1, cB2, cB3, tB1, tI1, tN1, tL1, xL1, xL2, xT1, xS1, xD1, lS1, lL1, lL2, lT1, qI, shaped_ints, c__law_whole, N__law_whole]
  refine use_draw hm (by omega) (by omega) (by omega) fun r1 m1 _ _ h1 => ?_
  simp [wpFn, wpS, we_v, rd1, rd2, rd3, we_k, we_gk, we_tup, we_lst, we_dct, we_bin, we_neg, we_cmp, we_ch, we_and, we_or, we_not, we_ite, we_ix, we_sl, we_rev, we_ixs, we_nes, we_lens, we_bi, we_isi, we_me, we_mu, we_call, we_comp, we_tupI, we_lstI, sa, sa1, sa2, wpF, wpD, wpV, wpT, wpA, wpO, wpAV, wpOV, startD, lockOf, outs, rv1, rv2, fz1, fz2, fz3, fz4, fa1, fa2, mv1, mv2, dt1, dt2, rg1, rg2, so1, so2, so3, so4, so5, lo1, lo2, lo5, wpI, lightAll, light, wipe, back, rng_len, enum_len, bindT, bindTs, peek, peeks, ats, wB1, wB2, wB3, setAll, bI1, bI2, bI3, bI4, bI5, bI6, bI7, bI8, bI9, bS1, bS2, bT1, bL1, bL2, bL3, bL4, bL5, bT2, cI1, cI2, cI3, cI4, cI5, cI6, cS1, cS2, cB1, cB2, cB3, tB1, tI1, tN1, tL1, xL1, xL2, xT1, xS1, xD1, lS1, lL1, lL2, lT1, qI, shaped_ints]
  refine use_draw h1 (by omega) (by omega) (by omega) fun r2 m2 _ _ h2 => ?_
  simp [wpFn, wpS, we_v, rd1, rd2, rd3, we_k, we_gk, we_tup, we_lst, we_dct, we_bin, we_neg, we_cmp, we_ch, we_and, we_or, we_not, we_ite, we_ix, we_sl, we_rev, we_ixs, we_nes, we_lens, we_bi, we_isi, we_me, we_mu, we_call, we_comp, we_tupI, we_lstI, sa, sa1, sa2, wpF, wpD, wpV, wpT, wpA, wpO, wpAV, wpOV, startD, lockOf, outs, rv1, rv2, fz1, fz2, fz3, fz4, fa1, fa2, mv1, mv2, dt1, dt2, rg1, rg2, so1, so2, so3, so4, so5, lo1, lo2, lo5, wpI, lightAll, light, wipe, back, rng_len, enum_len, bindT, bindTs, peek, peeks, ats, wB1, wB2, wB3, setAll, bI1, bI2, bI3, bI4, bI5, bI6, bI7, bI8, bI9, bS1, bS2, bT1, bL1, bL2, bL3, bL4, bL5, bT2, cI1, cI2, cI3, cI4, cI5, cI6, cS1, cS2, cB1, cB2, cB3, tB1, tI1, tN1, tL1, xL1, xL2, xT1, xS1, xD1, lS1, lL1, lL2, lT1, qI, shaped_ints, biM, sevens_ok, e7, l7, l8]
  refine ⟨by decide, use_draw h2 (by omega) (by omega) (by omega) fun r3 m3 a3 b3 h3 => ?_⟩
  obtain ⟨x, ex⟩ := at6 0 1 (r1 - 4) r2 (10 ^ 30) n7 a3 b3
  simp at ex
  simp [wpFn, wpS, we_v, rd1, rd2, rd3, we_k, we_gk, we_tup, we_lst, we_dct, we_bin, we_neg, we_cmp, we_ch, we_and, we_or, we_not, we_ite, we_ix, we_sl, we_rev, we_ixs, we_nes, we_lens, we_bi, we_isi, we_me, we_mu, we_call, we_comp, we_tupI, we_lstI, sa, sa1, sa2, wpF, wpD, wpV, wpT, wpA, wpO, wpAV, wpOV, startD, lockOf, outs, rv1, rv2, fz1, fz2, fz3, fz4, fa1, fa2, mv1, mv2, dt1, dt2, rg1, rg2, so1, so2, so3, so4, so5, lo1, lo2, lo5, wpI, lightAll, light, wipe, back, rng_len, enum_len, bindT, bindTs, peek, peeks, ats, wB1, wB2, wB3, setAll, bI1, bI2, bI3, bI4, bI5, bI6, bI7, bI8, bI9, bS1, bS2, bT1, bL1, bL2, bL3, bL4, bL5, bT2, cI1, cI2, cI3, cI4, cI5, cI6, cS1, cS2, cB1, cB2, cB3, tB1, tI1, tN1, tL1, xL1, xL2, xT1, xS1, xD1, lS1, lL1, lL2, lT1, qI, shaped_ints, ex]
  refine ⟨by decide, use_draw h3 (by omega) (by omega) (by omega) fun r4 m4 a4 b4 h4 => ?_⟩
  obtain ⟨y, ey, hy⟩ := at3 a4 b4
  simp [wpFn, wpS, we_v, rd1, rd2, rd3, we_k, we_gk, we_tup, we_lst, we_dct, we_bin, we_neg, we_cmp, we_ch, we_and, we_or, we_not, we_ite, we_ix, we_sl, we_rev, we_ixs, we_nes, we_lens, we_bi, we_isi, we_me, we_mu, we_call, we_comp, we_tupI, we_lstI, sa, sa1, sa2, wpF, wpD, wpV, wpT, wpA, wpO, wpAV, wpOV, startD, lockOf, outs, rv1, rv2, fz1, fz2, fz3, fz4, fa1, fa2, mv1, mv2, dt1, dt2, rg1, rg2, so1, so2, so3, so4, so5, lo1, lo2, lo5, wpI, lightAll, light, wipe, back, rng_len, enum_len, bindT, bindTs, peek, peeks, ats, wB1, wB2, wB3, setAll, bI1, bI2, bI3, bI4, bI5, bI6, bI7, bI8, bI9, bS1, bS2, bT1, bL1, bL2, bL3, bL4, bL5, bT2, cI1, cI2, cI3, cI4, cI5, cI6, cS1, cS2, cB1, cB2, cB3, tB1, tI1, tN1, tL1, xL1, xL2, xT1, xS1, xD1, lS1, lL1, lL2, lT1, qI, shaped_ints, ey]
  refine ⟨mulR (by omega), h _ _ (h4.mono (by omega))⟩
end Q.K01
set_option Elab.async false
set_option linter.all false
set_option maxRecDepth 100000
set_option maxHeartbeats 2000000
namespace Q.K01
open PySem PySem.Spec PyProof.Rows L2 Q
def asc (z : Str) : Prop := ∀ c ∈ z.cps.toList, c < 128
theorem asc_ok {z : Str} (h : asc z) : PyData.strOk z = true := by
  unfold PyData.strOk
  rw [← Array.all_toList, List.all_eq_true]
  intro c hc
  have := h c hc
  exact decide_eq_true (by omega)
theorem asc_append {a b : Str} (ha : asc a) (hb : asc b) : asc (a ++ b) := by
  intro c hc
  have e : (a ++ b).cps.toList = a.cps.toList ++ b.cps.toList := Array.toList_append
  rw [e] at hc
  exact (List.mem_append.mp hc).elim (ha c) (hb c)
theorem asc_cut {a : Str} (ha : asc a) (lo hi : Option Int) : asc (L2.cutS a lo hi) := by
  intro c hc
  have e : (L2.cutS a lo hi).cps.toList = (a.cps.toList.drop (HT.sIx a.length 0 lo)).take (HT.sIx a.length a.length hi - HT.sIx a.length 0 lo) := by unfold L2.cutS; rfl
  rw [e] at hc
  exact ha c (List.mem_of_mem_drop (List.mem_of_mem_take hc))
theorem asc_join : ∀ {zs : List Str}, (∀ z ∈ zs, asc z) → asc (Str.join (Str.ofString "") zs)
  | [], _ => fun c hc => by cases hc
  | [x], h => h x (List.mem_cons_self ..)
  | x :: y :: r, h => by
    show asc (x ++ Str.ofString "" ++ Str.join (Str.ofString "") (y :: r))
    refine asc_append (asc_append (h x (List.mem_cons_self ..)) fun c hc => ?_) (asc_join fun z hz => h z (List.mem_cons_of_mem _ hz))
    have e : (Str.ofString "").cps.toList = [] := by decide +kernel
    rw [e] at hc; cases hc
theorem at_strM {z : Str} {i : Int} (h0 : 0 ≤ i) (h : i < z.length) (ha : asc z) : ∃ c, L2.atI z.cps.toList i = some c ∧ asc ⟨#[c]⟩ := by
  have hl : i.toNat < z.cps.toList.length := by
    rw [Array.length_toList]; show i.toNat < z.length; omega
  refine ⟨_, atI_ok h0 (List.getElem?_eq_getElem hl), fun c hc => ?_⟩
  have hc' : c = z.cps.toList[i.toNat] := by simpa using hc
  rw [hc']
  exact ha _ (List.getElem_mem hl)
theorem at_str {z : Str} {i : Int} (h0 : 0 ≤ i) (h : i < z.length) : ∃ c, L2.atI z.cps.toList i = some c := by
  have hl : i.toNat < z.cps.toList.length := by
    rw [Array.length_toList]; show i.toNat < z.length; omega
  exact ⟨_, atI_ok h0 (List.getElem?_eq_getElem hl)⟩
theorem strL_map : ∀ zs : List Str, strL (zs.map PyData.str) = some zs
  | [] => rfl
  | z :: zs => by simp [strL, strL_map zs]
theorem mj {a : Str} {zs : List Str} {K : M → Prop} : meM .join (.p (.str a)) [.l (zs.map .str)] K = ((zs.map (·.length)).sum + zs.length * a.length ≤ 16777216 ∧ K (.p (.str (Txt.join a zs)))) := by
  refine propext ⟨fun ⟨ds, xs, e, e2, h, k⟩ => ?_, fun ⟨h, k⟩ => ⟨_, zs, rfl, strL_map zs, h, k⟩⟩
  cases e
  rw [strL_map] at e2
  cases e2
  exact ⟨h, k⟩
theorem join_len (zs : List Str) (h : ∀ z ∈ zs, z.length = 1) : (Txt.join (Str.ofString "") zs).length ≤ zs.length := by
  unfold Txt.join
  rw [StrLaws.glued_eq_join]
  have h1 := StrLaws.join_length_le (Str.ofString "") zs
  have h2 : (Str.ofString "").length = 0 := by decide +kernel
  have h3 : (zs.map (·.length)).sum = zs.length := by
    clear h1
    induction zs with
    | nil => rfl
    | cons z zs ih =>
      rw [List.map_cons, List.sum_cons, ih fun y hy => h y (List.mem_cons_of_mem _ hy), h z (List.mem_cons_self ..), List.length_cons]
      omega
  rw [h2] at h1
  omega
theorem sum_one (zs : List Str) (h : ∀ z ∈ zs, z.length = 1) : (zs.map (·.length)).sum = zs.length := by
  induction zs with
  | nil => rfl
  | cons z zs ih =>
    rw [List.map_cons, List.sum_cons, ih fun y hy => h y (List.mem_cons_of_mem _ hy), h z (List.mem_cons_self ..), List.length_cons]
    omega
theorem slS {z : Str} {lo hi : Option Int} {K : M → Prop} : slM (.p (.str z)) lo hi K = (z.length ≤ sizeLine ∧ K (.p (.str (L2.cutS z lo hi)))) := rfl
theorem oI1 : optI [] = some none := rfl
theorem oI2 {i : Int} : optI [.int i] = some (some i) := rfl
theorem at4 {a b c d : PyData} {r : Int} (h0 : 0 ≤ r) (h : r < 4) : ∃ x, L2.atI [a, b, c, d] r = some x ∧ (x = a ∨ x = b ∨ x = c ∨ x = d) := by
  have hl : r.toNat < [a, b, c, d].length := by simp; omega
  refine ⟨_, atI_ok h0 (List.getElem?_eq_getElem hl), ?_⟩
  have := List.getElem_mem hl
  generalize [a, b, c, d][r.toNat] = x at this
  simpa using this
def sp__law_text : Spec := fun ms Kc _ => ∃ m s, ms = [.dc m] ∧ mOk s m ∧ s < 2 ^ 30 ∧ ∀ z m', z.length ≤ 100 → asc z → mOk (s + 20) m' → Kc (.p (.str z)) [.dc m']
theorem h__law_text (ms : List M) (Kc : M → List M → Prop) (h : sp__law_text ms Kc (fun _ _ => False)) : wpFn [sp__law_draw] N__law_text.length c__law_text ms Kc (fun _ _ => False) := by
  obtain ⟨m, s, rfl, hm, hs, h⟩ := h
  have lz : sizeLine = 16777216 := sizeLine_eq
  have l26 : (Str.ofString "abcdefghijklmnopqrstuvwxyz").length = 26 := by decide +kernel
  have lsg : (Str.ofString " !\"#$&'()*+,-./0123456789:;<=>?@ABCDEFGHIJKLMNOPQRSTUVWXYZ[\\]^_`{|}~\n").length < 200 ∧ 0 < (Str.ofString " !\"#$&'()*+,-./0123456789:;<=>?@ABCDEFGHIJKLMNOPQRSTUVWXYZ[\\]^_`{|}~\n").length := by decide +kernel
  have al : asc (Str.ofString "abcdefghijklmnopqrstuvwxyz") := by unfold asc; decide +kernel
  have as : asc (Str.ofString " !\"#$&'()*+,-./0123456789:;<=>?@ABCDEFGHIJKLMNOPQRSTUVWXYZ[\\]^_`{|}~\n") := by unfold asc; decide +kernel
  generalize hlt : Str.ofString "abcdefghijklmnopqrstuvwxyz" = letters at l26 al
  generalize hsg : Str.ofString " !\"#$&'()*+,-./0123456789:;<=>?@ABCDEFGHIJKLMNOPQRSTUVWXYZ[\\]^_`{|}~\n" = signs at lsg as
  simp [wpFn, wpS, we_v, rd1, rd2, rd3, we_k, we_gk, we_tup, we_lst, we_dct, we_bin, we_neg, we_cmp, we_ch, we_and, we_or, we_not, we_ite, we_ix, we_sl, we_rev, we_ixs, we_nes, we_lens, we_bi, we_isi, we_me, we_mu, we_call, we_comp, we_tupI, we_lstI, sa, sa1, sa2, wpF, wpD, wpV, wpT, wpA, wpO, wpAV, wpOV, startD, lockOf, outs, rv1, rv2, fz1, fz2, fz3, fz4, fa1, fa2, mv1, mv2, dt1, dt2, rg1, rg2, so1, so2, so3, so4, so5, lo1, lo2, lo5, wpI, lightAll, light, wipe, back, rng_len, enum_len, bindT, bindTs, peek, peeks, ats, wB1, wB2, wB3, setAll, bI1, bI2, bI3, bI4, bI5, bI6, bI7, bI8, bI9, bS1, bS2, bT1, bL1, bL2, bL3, bL4, bL5, bT2, cI1, cI2, cI3, cI4, cI5, cI6, cS1, cS2, cB1, cB2, cB3, tB1, tI1, tN1, tL1, xL1, xL2, xT1, xS1, xD1, lS1, lL1, lL2, lT1, qI, shaped_ints, c__law_text, N__law_text, meTy, hlt, hsg]
  refine use_draw hm (by omega) (by omega) (by omega) fun r1 m1 a1 b1 h1 => ?_
  simp [wpFn, wpS, we_v, rd1, rd2, rd3, we_k, we_gk, we_tup, we_lst, we_dct, we_bin, we_neg, we_cmp, we_ch, we_and, we_or, we_not, we_ite, we_ix, we_sl, we_rev, we_ixs, we_nes, we_lens, we_bi, we_isi, we_me, we_mu, we_call, we_comp, we_tupI, we_lstI, sa, sa1, sa2, wpF, wpD, wpV, wpT, wpA, wpO, wpAV, wpOV, startD, lockOf, outs, rv1, rv2, fz1, fz2, fz3, fz4, fa1, fa2, mv1, mv2, dt1, dt2, rg1, rg2, so1, so2, so3, so4, so5, lo1, lo2, lo5, wpI, lightAll, light, wipe, back, rng_len, enum_len, bindT, bindTs, peek, peeks, ats, wB1, wB2, wB3, setAll, bI1, bI2, bI3, bI4, bI5, bI6, bI7, bI8, bI9, bS1, bS2, bT1, bL1, bL2, bL3, bL4, bL5, bT2, cI1, cI2, cI3, cI4, cI5, cI6, cS1, cS2, cB1, cB2, cB3, tB1, tI1, tN1, tL1, xL1, xL2, xT1, xS1, xD1, lS1, lL1, lL2, lT1, qI, shaped_ints]
  repeat refine ⟨by omega, ?_⟩
  refine compLoop_inv (fun xs ds δ => ∃ zs : List Str, ds = zs.map .str ∧ (∀ z ∈ zs, z.length = 1 ∧ asc z) ∧ zs.length + xs.length = r1.toNat ∧ ∃ m', mOk (s + 1 + zs.length) m' ∧ δ = [some (.dc m'), some (.p (.str letters)), some (.p (.str signs)), none, none, none, none]) ?_ (rngItems 0 r1) [] _ _ ⟨[], rfl, by simp, by simp [rng_len], m1, by simpa using h1, rfl⟩ ?_
  · rintro x xs ds δ k ⟨zs, rfl, hz, hl, m', hm', rfl⟩ hk
    refine ⟨gdOk_nil, ?_⟩
    simp at hl
    simp [wpFn, wpS, we_v, rd1, rd2, rd3, we_k, we_gk, we_tup, we_lst, we_dct, we_bin, we_neg, we_cmp, we_ch, we_and, we_or, we_not, we_ite, we_ix, we_sl, we_rev, we_ixs, we_nes, we_lens, we_bi, we_isi, we_me, we_mu, we_call, we_comp, we_tupI, we_lstI, sa, sa1, sa2, wpF, wpD, wpV, wpT, wpA, wpO, wpAV, wpOV, startD, lockOf, outs, rv1, rv2, fz1, fz2, fz3, fz4, fa1, fa2, mv1, mv2, dt1, dt2, rg1, rg2, so1, so2, so3, so4, so5, lo1, lo2, lo5, wpI, lightAll, light, wipe, back, rng_len, enum_len, bindT, bindTs, peek, peeks, ats, wB1, wB2, wB3, setAll, bI1, bI2, bI3, bI4, bI5, bI6, bI7, bI8, bI9, bS1, bS2, bT1, bL1, bL2, bL3, bL4, bL5, bT2, cI1, cI2, cI3, cI4, cI5, cI6, cS1, cS2, cB1, cB2, cB3, tB1, tI1, tN1, tL1, xL1, xL2, xT1, xS1, xD1, lS1, lL1, lL2, lT1, qI, shaped_ints, e1__law_text]
    refine use_draw hm' (by omega) (by omega) (by omega) fun r2 m2 a2 b2 h2 => ?_
    obtain ⟨c, ec, hc⟩ := at_strM (z := letters) a2 (by omega) al
    simp [wpFn, wpS, we_v, rd1, rd2, rd3, we_k, we_gk, we_tup, we_lst, we_dct, we_bin, we_neg, we_cmp, we_ch, we_and, we_or, we_not, we_ite, we_ix, we_sl, we_rev, we_ixs, we_nes, we_lens, we_bi, we_isi, we_me, we_mu, we_call, we_comp, we_tupI, we_lstI, sa, sa1, sa2, wpF, wpD, wpV, wpT, wpA, wpO, wpAV, wpOV, startD, lockOf, outs, rv1, rv2, fz1, fz2, fz3, fz4, fa1, fa2, mv1, mv2, dt1, dt2, rg1, rg2, so1, so2, so3, so4, so5, lo1, lo2, lo5, wpI, lightAll, light, wipe, back, rng_len, enum_len, bindT, bindTs, peek, peeks, ats, wB1, wB2, wB3, setAll, bI1, bI2, bI3, bI4, bI5, bI6, bI7, bI8, bI9, bS1, bS2, bT1, bL1, bL2, bL3, bL4, bL5, bT2, cI1, cI2, cI3, cI4, cI5, cI6, cS1, cS2, cB1, cB2, cB3, tB1, tI1, tN1, tL1, xL1, xL2, xT1, xS1, xD1, lS1, lL1, lL2, lT1, qI, shaped_ints, ec]
    refine ⟨by omega, hk _ _ ⟨zs ++ [⟨#[c]⟩], by simp, ?_, by simp; omega, m2, ?_, by simp [wipe]⟩⟩
    · intro z hz'
      rcases List.mem_append.mp hz' with q | q
      · exact hz z q
      · rw [List.mem_singleton] at q; subst q; exact ⟨rfl, hc⟩
    · have : s + 1 + ((zs ++ [⟨#[c]⟩] : List Str).length : Int) = s + 1 + zs.length + 1 := by simp; omega
      rw [this]; exact h2
  rintro ds δ ⟨zs, e, hz, hl, m', hm', rfl⟩
  simp at e hl
  subst e
  refine ⟨gdOk_nil, ?_⟩
  have jl := join_len zs fun z h => (hz z h).1
  have js := sum_one zs fun z h => (hz z h).1
  have ja : asc (Txt.join (Str.ofString "") zs) := by unfold Txt.join; rw [StrLaws.glued_eq_join]; exact asc_join fun z h => (hz z h).2
  have e0 : (Str.ofString "").length = 0 := by decide +kernel
  simp only [mj, js, e0]
  generalize hfd : Txt.join (Str.ofString "") zs = found at jl ja
  simp [wpFn, wpS, we_v, rd1, rd2, rd3, we_k, we_gk, we_tup, we_lst, we_dct, we_bin, we_neg, we_cmp, we_ch, we_and, we_or, we_not, we_ite, we_ix, we_sl, we_rev, we_ixs, we_nes, we_lens, we_bi, we_isi, we_me, we_mu, we_call, we_comp, we_tupI, we_lstI, sa, sa1, sa2, wpF, wpD, wpV, wpT, wpA, wpO, wpAV, wpOV, startD, lockOf, outs, rv1, rv2, fz1, fz2, fz3, fz4, fa1, fa2, mv1, mv2, dt1, dt2, rg1, rg2, so1, so2, so3, so4, so5, lo1, lo2, lo5, wpI, lightAll, light, wipe, back, rng_len, enum_len, bindT, bindTs, peek, peeks, ats, wB1, wB2, wB3, setAll, bI1, bI2, bI3, bI4, bI5, bI6, bI7, bI8, bI9, bS1, bS2, bT1, bL1, bL2, bL3, bL4, bL5, bT2, cI1, cI2, cI3, cI4, cI5, cI6, cS1, cS2, cB1, cB2, cB3, tB1, tI1, tN1, tL1, xL1, xL2, xT1, xS1, xD1, lS1, lL1, lL2, lT1, qI, shaped_ints, mj, hfd, js, e0]
  refine ⟨by omega, by omega, use_draw hm' (by omega) (by omega) (by omega) fun r2 m2 a2 b2 h2 => ?_⟩
  simp [wpFn, wpS, we_v, rd1, rd2, rd3, we_k, we_gk, we_tup, we_lst, we_dct, we_bin, we_neg, we_cmp, we_ch, we_and, we_or, we_not, we_ite, we_ix, we_sl, we_rev, we_ixs, we_nes, we_lens, we_bi, we_isi, we_me, we_mu, we_call, we_comp, we_tupI, we_lstI, sa, sa1, sa2, wpF, wpD, wpV, wpT, wpA, wpO, wpAV, wpOV, startD, lockOf, outs, rv1, rv2, fz1, fz2, fz3, fz4, fa1, fa2, mv1, mv2, dt1, dt2, rg1, rg2, so1, so2, so3, so4, so5, lo1, lo2, lo5, wpI, lightAll, light, wipe, back, rng_len, enum_len, bindT, bindTs, peek, peeks, ats, wB1, wB2, wB3, setAll, bI1, bI2, bI3, bI4, bI5, bI6, bI7, bI8, bI9, bS1, bS2, bT1, bL1, bL2, bL3, bL4, bL5, bT2, cI1, cI2, cI3, cI4, cI5, cI6, cS1, cS2, cB1, cB2, cB3, tB1, tI1, tN1, tL1, xL1, xL2, xT1, xS1, xD1, lS1, lL1, lL2, lT1, qI, shaped_ints]
  refine ⟨by omega, use_draw h2 (by omega) (by omega) (by omega) fun r3 m3 a3 b3 h3 => ?_⟩
  obtain ⟨c, ec, hc⟩ := at_strM (z := signs) a3 (by omega) as
  simp [wpFn, wpS, we_v, rd1, rd2, rd3, we_k, we_gk, we_tup, we_lst, we_dct, we_bin, we_neg, we_cmp, we_ch, we_and, we_or, we_not, we_ite, we_ix, we_sl, we_rev, we_ixs, we_nes, we_lens, we_bi, we_isi, we_me, we_mu, we_call, we_comp, we_tupI, we_lstI, sa, sa1, sa2, wpF, wpD, wpV, wpT, wpA, wpO, wpAV, wpOV, startD, lockOf, outs, rv1, rv2, fz1, fz2, fz3, fz4, fa1, fa2, mv1, mv2, dt1, dt2, rg1, rg2, so1, so2, so3, so4, so5, lo1, lo2, lo5, wpI, lightAll, light, wipe, back, rng_len, enum_len, bindT, bindTs, peek, peeks, ats, wB1, wB2, wB3, setAll, bI1, bI2, bI3, bI4, bI5, bI6, bI7, bI8, bI9, bS1, bS2, bT1, bL1, bL2, bL3, bL4, bL5, bT2, cI1, cI2, cI3, cI4, cI5, cI6, cS1, cS2, cB1, cB2, cB3, tB1, tI1, tN1, tL1, xL1, xL2, xT1, xS1, xD1, lS1, lL1, lL2, lT1, qI, shaped_ints, ec]
  refine ⟨by omega, ?_⟩
  have w1 : (⟨#[c]⟩ : Str).length = 1 := rfl
  have u1 := asc_cut ja none (some r2)
  have u2 := asc_cut ja (some r2) none
  have u3 := asc_cut ja (some (r2 + 1)) none
  have q1 := cutS_length found none (some r2)
  have q2 := cutS_length found (some r2) none
  have q3 := cutS_length found (some (r2 + 1)) none
  simp [wpFn, wpS, we_v, rd1, rd2, rd3, we_k, we_gk, we_tup, we_lst, we_dct, we_bin, we_neg, we_cmp, we_ch, we_and, we_or, we_not, we_ite, we_ix, we_sl, we_rev, we_ixs, we_nes, we_lens, we_bi, we_isi, we_me, we_mu, we_call, we_comp, we_tupI, we_lstI, sa, sa1, sa2, wpF, wpD, wpV, wpT, wpA, wpO, wpAV, wpOV, startD, lockOf, outs, rv1, rv2, fz1, fz2, fz3, fz4, fa1, fa2, mv1, mv2, dt1, dt2, rg1, rg2, so1, so2, so3, so4, so5, lo1, lo2, lo5, wpI, lightAll, light, wipe, back, rng_len, enum_len, bindT, bindTs, peek, peeks, ats, wB1, wB2, wB3, setAll, bI1, bI2, bI3, bI4, bI5, bI6, bI7, bI8, bI9, bS1, bS2, bT1, bL1, bL2, bL3, bL4, bL5, bT2, cI1, cI2, cI3, cI4, cI5, cI6, cS1, cS2, cB1, cB2, cB3, tB1, tI1, tN1, tL1, xL1, xL2, xT1, xS1, xD1, lS1, lL1, lL2, lT1, qI, shaped_ints, oI1, oI2, slS, Str.length_append, w1]
  generalize hA : cutS found none (some r2) = A at q1 u1
  generalize hB : cutS found (some r2) none = B at q2 u2
  generalize hC : cutS found (some (r2 + 1)) none = C' at q3 u3
  refine ⟨by omega, by omega, by omega, by omega, by omega, by omega, by omega, by omega, by omega, ?_⟩
  refine use_draw (s := s + 1 + zs.length + 1 + 1) h3 (by omega) (by omega) (by omega) fun r4 m4 a4 b4 h4 => ?_
  obtain ⟨x, ex, hx⟩ := at4 (a := .str found) (b := .str found) (c := .str (A ++ ⟨#[c]⟩ ++ B)) (d := .str (A ++ ⟨#[c]⟩ ++ C')) a4 b4
  simp [wpFn, wpS, we_v, rd1, rd2, rd3, we_k, we_gk, we_tup, we_lst, we_dct, we_bin, we_neg, we_cmp, we_ch, we_and, we_or, we_not, we_ite, we_ix, we_sl, we_rev, we_ixs, we_nes, we_lens, we_bi, we_isi, we_me, we_mu, we_call, we_comp, we_tupI, we_lstI, sa, sa1, sa2, wpF, wpD, wpV, wpT, wpA, wpO, wpAV, wpOV, startD, lockOf, outs, rv1, rv2, fz1, fz2, fz3, fz4, fa1, fa2, mv1, mv2, dt1, dt2, rg1, rg2, so1, so2, so3, so4, so5, lo1, lo2, lo5, wpI, lightAll, light, wipe, back, rng_len, enum_len, bindT, bindTs, peek, peeks, ats, wB1, wB2, wB3, setAll, bI1, bI2, bI3, bI4, bI5, bI6, bI7, bI8, bI9, bS1, bS2, bT1, bL1, bL2, bL3, bL4, bL5, bT2, cI1, cI2, cI3, cI4, cI5, cI6, cS1, cS2, cB1, cB2, cB3, tB1, tI1, tN1, tL1, xL1, xL2, xT1, xS1, xD1, lS1, lL1, lL2, lT1, qI, shaped_ints, ex]
  have hm4 : mOk (s + 20) m4 := mOk.mono h4 (by omega)
  rcases hx with rfl | rfl | rfl | rfl
  · exact h found m4 (by omega) ja hm4
  · exact h found m4 (by omega) ja hm4
  · exact h (A ++ ⟨#[c]⟩ ++ B) m4 (by rw [Str.length_append, Str.length_append, w1]; omega) (asc_append (asc_append u1 hc) u2) hm4
  · exact h (A ++ ⟨#[c]⟩ ++ C') m4 (by rw [Str.length_append, Str.length_append, w1]; omega) (asc_append (asc_append u1 hc) u3) hm4
/-- what the law tries -/
def okD (d : PyData) : Prop := ∀ z, d = .str z → z.length ≤ 100 ∧ asc z
def sp__law_any_thing : Spec := fun ms Kc _ => ∃ m s, ms = [.dc m] ∧ mOk s m ∧ s < 2 ^ 29 ∧ ∀ d m', okD d → mOk (s + 30) m' → Kc (.p d) [.dc m']
theorem at12 {a b c d e f g h i j k l : PyData} {r : Int} (h0 : 0 ≤ r) (hr : r < 12) : ∃ x, L2.atI [a, b, c, d, e, f, g, h, i, j, k, l] r = some x ∧ x ∈ [a, b, c, d, e, f, g, h, i, j, k, l] := by
  have hl : r.toNat < [a, b, c, d, e, f, g, h, i, j, k, l].length := by simp; omega
  exact ⟨_, atI_ok h0 (List.getElem?_eq_getElem hl), List.getElem_mem hl⟩
theorem h__law_any_thing (ms : List M) (Kc : M → List M → Prop) (h : sp__law_any_thing ms Kc (fun _ _ => False)) : wpFn [sp__law_draw, sp__law_text, sp__law_whole] N__law_any_thing.length c__law_any_thing ms Kc (fun _ _ => False) := by
  obtain ⟨m, s, rfl, hm, hs, h⟩ := h
  have lz : sizeLine = 16777216 := sizeLine_eq
  simp [wpFn, wpS, we_v, rd1, rd2, rd3, we_k, we_gk, we_tup, we_lst, we_dct, we_bin, we_neg, we_cmp, we_ch, we_and, we_or, we_not, we_ite, we_ix, we_sl, we_rev, we_ixs, we_nes, we_lens, we_bi, we_isi, we_me, we_mu, we_call, we_comp, we_tupI, we_lstI, sa, sa1, sa2, wpF, wpD, wpV, wpT, wpA, wpO, wpAV, wpOV, startD, lockOf, outs, rv1, rv2, fz1, fz2, fz3, fz4, fa1, fa2, mv1, mv2, dt1, dt2, rg1, rg2, so1, so2, so3, so4, so5, lo1, lo2, lo5, wpI, lightAll, light, wipe, back, rng_len, enum_len, bindT, bindTs, peek, peeks, ats, wB1, wB2, wB3, setAll, bI1, bI2, bI3, bI4, bI5, bI6, bI7, bI8, bI9, bS1, bS2, bT1, bL1, bL2, bL3, bL4, bL5, bT2, cI1, cI2, cI3, cI4, cI5, cI6, cS1, cS2, cB1, cB2, cB3, tB1, tI1, tN1, tL1, xL1, xL2, xT1, xS1, xD1, lS1, lL1, lL2, lT1, qI, shaped_ints, c__law_any_thing, N__law_any_thing]
  refine use_draw hm (by omega) (by omega) (by omega) fun r1 m1 a1 b1 h1 => ?_
  simp [wpFn, wpS, we_v, rd1, rd2, rd3, we_k, we_gk, we_tup, we_lst, we_dct, we_bin, we_neg, we_cmp, we_ch, we_and, we_or, we_not, we_ite, we_ix, we_sl, we_rev, we_ixs, we_nes, we_lens, we_bi, we_isi, we_me, we_mu, we_call, we_comp, we_tupI, we_lstI, sa, sa1, sa2, wpF, wpD, wpV, wpT, wpA, wpO, wpAV, wpOV, startD, lockOf, outs, rv1, rv2, fz1, fz2, fz3, fz4, fa1, fa2, mv1, mv2, dt1, dt2, rg1, rg2, so1, so2, so3, so4, so5, lo1, lo2, lo5, wpI, lightAll, light, wipe, back, rng_len, enum_len, bindT, bindTs, peek, peeks, ats, wB1, wB2, wB3, setAll, bI1, bI2, bI3, bI4, bI5, bI6, bI7, bI8, bI9, bS1, bS2, bT1, bL1, bL2, bL3, bL4, bL5, bT2, cI1, cI2, cI3, cI4, cI5, cI6, cS1, cS2, cB1, cB2, cB3, tB1, tI1, tN1, tL1, xL1, xL2, xT1, xS1, xD1, lS1, lL1, lL2, lT1, qI, shaped_ints]
  refine use_draw h1 (by omega) (by omega) (by omega) fun r2 m2 a2 b2 h2 => ?_
  simp [wpFn, wpS, we_v, rd1, rd2, rd3, we_k, we_gk, we_tup, we_lst, we_dct, we_bin, we_neg, we_cmp, we_ch, we_and, we_or, we_not, we_ite, we_ix, we_sl, we_rev, we_ixs, we_nes, we_lens, we_bi, we_isi, we_me, we_mu, we_call, we_comp, we_tupI, we_lstI, sa, sa1, sa2, wpF, wpD, wpV, wpT, wpA, wpO, wpAV, wpOV, startD, lockOf, outs, rv1, rv2, fz1, fz2, fz3, fz4, fa1, fa2, mv1, mv2, dt1, dt2, rg1, rg2, so1, so2, so3, so4, so5, lo1, lo2, lo5, wpI, lightAll, light, wipe, back, rng_len, enum_len, bindT, bindTs, peek, peeks, ats, wB1, wB2, wB3, setAll, bI1, bI2, bI3, bI4, bI5, bI6, bI7, bI8, bI9, bS1, bS2, bT1, bL1, bL2, bL3, bL4, bL5, bT2, cI1, cI2, cI3, cI4, cI5, cI6, cS1, cS2, cB1, cB2, cB3, tB1, tI1, tN1, tL1, xL1, xL2, xT1, xS1, xD1, lS1, lL1, lL2, lT1, qI, shaped_ints]
  repeat refine ⟨by omega, ?_⟩
  refine forLoop_inv (fun xs δ => ∃ (ds : List PyData) (b : Option M), δ = [some (.dc m2), some (.p (.tuple ds)), some (.p (.int r1)), b, none]) ?_ ?_ _ _ ⟨[], none, rfl⟩
  · rintro x xs δ N ⟨ds, b, rfl⟩ hN
    refine ⟨gdOk_nil, ?_⟩
    simp [wpFn, wpS, we_v, rd1, rd2, rd3, we_k, we_gk, we_tup, we_lst, we_dct, we_bin, we_neg, we_cmp, we_ch, we_and, we_or, we_not, we_ite, we_ix, we_sl, we_rev, we_ixs, we_nes, we_lens, we_bi, we_isi, we_me, we_mu, we_call, we_comp, we_tupI, we_lstI, sa, sa1, sa2, wpF, wpD, wpV, wpT, wpA, wpO, wpAV, wpOV, startD, lockOf, outs, rv1, rv2, fz1, fz2, fz3, fz4, fa1, fa2, mv1, mv2, dt1, dt2, rg1, rg2, so1, so2, so3, so4, so5, lo1, lo2, lo5, wpI, lightAll, light, wipe, back, rng_len, enum_len, bindT, bindTs, peek, peeks, ats, wB1, wB2, wB3, setAll, bI1, bI2, bI3, bI4, bI5, bI6, bI7, bI8, bI9, bS1, bS2, bT1, bL1, bL2, bL3, bL4, bL5, bT2, cI1, cI2, cI3, cI4, cI5, cI6, cS1, cS2, cB1, cB2, cB3, tB1, tI1, tN1, tL1, xL1, xL2, xT1, xS1, xD1, lS1, lL1, lL2, lT1, qI, shaped_ints, b1__law_any_thing]
    exact ⟨by omega, hN _ ⟨_, _, rfl⟩⟩
  rintro δ ⟨ds, b, rfl⟩
  refine ⟨gdOk_nil, ?_⟩
  simp [wpFn, wpS, we_v, rd1, rd2, rd3, we_k, we_gk, we_tup, we_lst, we_dct, we_bin, we_neg, we_cmp, we_ch, we_and, we_or, we_not, we_ite, we_ix, we_sl, we_rev, we_ixs, we_nes, we_lens, we_bi, we_isi, we_me, we_mu, we_call, we_comp, we_tupI, we_lstI, sa, sa1, sa2, wpF, wpD, wpV, wpT, wpA, wpO, wpAV, wpOV, startD, lockOf, outs, rv1, rv2, fz1, fz2, fz3, fz4, fa1, fa2, mv1, mv2, dt1, dt2, rg1, rg2, so1, so2, so3, so4, so5, lo1, lo2, lo5, wpI, lightAll, light, wipe, back, rng_len, enum_len, bindT, bindTs, peek, peeks, ats, wB1, wB2, wB3, setAll, bI1, bI2, bI3, bI4, bI5, bI6, bI7, bI8, bI9, bS1, bS2, bT1, bL1, bL2, bL3, bL4, bL5, bT2, cI1, cI2, cI3, cI4, cI5, cI6, cS1, cS2, cB1, cB2, cB3, tB1, tI1, tN1, tL1, xL1, xL2, xT1, xS1, xD1, lS1, lL1, lL2, lT1, qI, shaped_ints, pureKvs]
  refine ⟨by omega, by omega, by omega, ?_⟩
  split
  · refine ⟨_, _, rfl, h2, by omega, fun z m3 hz ha h3 => ?_⟩
    simp [wpFn, wpS, we_v, rd1, rd2, rd3, we_k, we_gk, we_tup, we_lst, we_dct, we_bin, we_neg, we_cmp, we_ch, we_and, we_or, we_not, we_ite, we_ix, we_sl, we_rev, we_ixs, we_nes, we_lens, we_bi, we_isi, we_me, we_mu, we_call, we_comp, we_tupI, we_lstI, sa, sa1, sa2, wpF, wpD, wpV, wpT, wpA, wpO, wpAV, wpOV, startD, lockOf, outs, rv1, rv2, fz1, fz2, fz3, fz4, fa1, fa2, mv1, mv2, dt1, dt2, rg1, rg2, so1, so2, so3, so4, so5, lo1, lo2, lo5, wpI, lightAll, light, wipe, back, rng_len, enum_len, bindT, bindTs, peek, peeks, ats, wB1, wB2, wB3, setAll, bI1, bI2, bI3, bI4, bI5, bI6, bI7, bI8, bI9, bS1, bS2, bT1, bL1, bL2, bL3, bL4, bL5, bT2, cI1, cI2, cI3, cI4, cI5, cI6, cS1, cS2, cB1, cB2, cB3, tB1, tI1, tN1, tL1, xL1, xL2, xT1, xS1, xD1, lS1, lL1, lL2, lT1, qI, shaped_ints]
    exact h (.str z) m3 (fun y e => by cases e; exact ⟨hz, ha⟩) (h3.mono (by omega))
  split
  · refine ⟨_, _, rfl, h2, by omega, fun r m3 h3 => ?_⟩
    simp [wpFn, wpS, we_v, rd1, rd2, rd3, we_k, we_gk, we_tup, we_lst, we_dct, we_bin, we_neg, we_cmp, we_ch, we_and, we_or, we_not, we_ite, we_ix, we_sl, we_rev, we_ixs, we_nes, we_lens, we_bi, we_isi, we_me, we_mu, we_call, we_comp, we_tupI, we_lstI, sa, sa1, sa2, wpF, wpD, wpV, wpT, wpA, wpO, wpAV, wpOV, startD, lockOf, outs, rv1, rv2, fz1, fz2, fz3, fz4, fa1, fa2, mv1, mv2, dt1, dt2, rg1, rg2, so1, so2, so3, so4, so5, lo1, lo2, lo5, wpI, lightAll, light, wipe, back, rng_len, enum_len, bindT, bindTs, peek, peeks, ats, wB1, wB2, wB3, setAll, bI1, bI2, bI3, bI4, bI5, bI6, bI7, bI8, bI9, bS1, bS2, bT1, bL1, bL2, bL3, bL4, bL5, bT2, cI1, cI2, cI3, cI4, cI5, cI6, cS1, cS2, cB1, cB2, cB3, tB1, tI1, tN1, tL1, xL1, xL2, xT1, xS1, xD1, lS1, lL1, lL2, lT1, qI, shaped_ints]
    exact h (.int r) m3 (fun y e => by cases e) (h3.mono (by omega))
  · refine use_draw h2 (by omega) (by omega) (by omega) fun r3 m3 a3 b3 h3 => ?_
    obtain ⟨x, ex, hx⟩ := at12 (a := .none) (b := .bool true) (c := .bool false) (d := .list []) (e := .dict []) (f := .tuple []) (g := .tuple [.int 1]) (h := .list [.str (Str.ofString "a")]) (i := .tuple [.str (Str.ofString "a")]) (j := .dict [(.str (Str.ofString "a"), .int 1)]) (k := .tuple ds) (l := .tuple [.int 0, .int 1]) a3 b3
    simp [wpFn, wpS, we_v, rd1, rd2, rd3, we_k, we_gk, we_tup, we_lst, we_dct, we_bin, we_neg, we_cmp, we_ch, we_and, we_or, we_not, we_ite, we_ix, we_sl, we_rev, we_ixs, we_nes, we_lens, we_bi, we_isi, we_me, we_mu, we_call, we_comp, we_tupI, we_lstI, sa, sa1, sa2, wpF, wpD, wpV, wpT, wpA, wpO, wpAV, wpOV, startD, lockOf, outs, rv1, rv2, fz1, fz2, fz3, fz4, fa1, fa2, mv1, mv2, dt1, dt2, rg1, rg2, so1, so2, so3, so4, so5, lo1, lo2, lo5, wpI, lightAll, light, wipe, back, rng_len, enum_len, bindT, bindTs, peek, peeks, ats, wB1, wB2, wB3, setAll, bI1, bI2, bI3, bI4, bI5, bI6, bI7, bI8, bI9, bS1, bS2, bT1, bL1, bL2, bL3, bL4, bL5, bT2, cI1, cI2, cI3, cI4, cI5, cI6, cS1, cS2, cB1, cB2, cB3, tB1, tI1, tN1, tL1, xL1, xL2, xT1, xS1, xD1, lS1, lL1, lL2, lT1, qI, shaped_ints, ex]
    refine h x m3 (fun y e => ?_) (h3.mono (by omega))
    subst e
    simp at hx
end Q.K01
set_option Elab.async false
set_option linter.all false
set_option maxRecDepth 100000
set_option maxHeartbeats 2000000
namespace Q.K01
open PySem PySem.Spec PyProof.Rows L2 Q
abbrev gA : List PyData → List PyData → List PyData := fun ds es => ds ++ es
abbrev gR : List PyData → List PyData → List PyData := fun ds es => ds ++ es.reverse
abbrev g0 : List PyData → List PyData → List PyData := fun ds es => ds ++ es ++ [.int 0]
theorem kw1 {g : List PyData → List PyData → List PyData} {sp : Spec} {a : PyData} {K : M → List M → Prop} {X : Exn → List M → Prop} (h : sp ((g [a] []).map M.p) (fun r _ => K r [.p a]) (fun e _ => X e [.p a])) : kwSp 1 0 g sp [.p a] K X := ⟨[a], [], rfl, rfl, rfl, h⟩
theorem kw2 {g : List PyData → List PyData → List PyData} {sp : Spec} {a : PyData} {K : M → List M → Prop} {X : Exn → List M → Prop} (h : sp ((g [] [a]).map M.p) (fun r _ => K r [.p a]) (fun e _ => X e [.p a])) : kwSp 0 1 g sp [.p a] K X := ⟨[], [a], rfl, rfl, rfl, h⟩
theorem kw3 {g : List PyData → List PyData → List PyData} {sp : Spec} {a b : PyData} {K : M → List M → Prop} {X : Exn → List M → Prop} (h : sp ((g [a] [b]).map M.p) (fun r _ => K r [.p a, .p b]) (fun e _ => X e [.p a, .p b])) : kwSp 1 1 g sp [.p a, .p b] K X := ⟨[a], [b], rfl, rfl, rfl, h⟩
theorem kw4 {g : List PyData → List PyData → List PyData} {sp : Spec} {a b : PyData} {K : M → List M → Prop} {X : Exn → List M → Prop} (h : sp ((g [] [a, b]).map M.p) (fun r _ => K r [.p a, .p b]) (fun e _ => X e [.p a, .p b])) : kwSp 0 2 g sp [.p a, .p b] K X := ⟨[], [a, b], rfl, rfl, rfl, h⟩
theorem rep2 {x : PyData} : rep 2 [x] = [x, x] := rfl
theorem rpB {a b : Bool} {K : M → Prop} : K (.p (.str (PyData.list [.bool a, .bool b]).shown)) → biM .repr [.l [.bool a, .bool b]] K := by
  intro h
  refine ⟨.list [.bool a, .bool b], rfl, ?_, ?_, ?_, ?_, h⟩
  · cases a <;> cases b <;> decide +kernel
  · cases a <;> cases b <;> decide +kernel
  · cases a <;> cases b <;> decide +kernel
  · cases a <;> cases b <;> decide +kernel
def sp__law_bounds_right : Spec := fun ms Kc _ => ∃ m s d, ms = [.dc m, .p d, .p (.bool (isInt d))] ∧ mOk s m ∧ s < 2 ^ 28 ∧ ∀ m', mOk (s + 8) m' → Kc (.p (.bool true)) [.dc m', .p d, .p (.bool (isInt d))]
abbrev Γb : List Spec := [sp__law_whole, kwSp 1 1 gA sp_is_coins, kwSp 0 2 gR sp_is_coins, kwSp 1 1 gA sp_is_among, kwSp 0 2 gR sp_is_among, kwSp 1 0 g0 sp_is_coins, kwSp 0 1 g0 sp_is_coins]
theorem sl2 : 2 ≤ sizeLine := by decide
theorem sl1 : 1 ≤ sizeLine := by decide
theorem h__law_bounds_right (ms : List M) (Kc : M → List M → Prop) (h : sp__law_bounds_right ms Kc (fun _ _ => False)) : wpFn Γb N__law_bounds_right.length c__law_bounds_right ms Kc (fun _ _ => False) := by
  obtain ⟨m, s, d, rfl, hm, hs, h⟩ := h
  simp [wpFn, wpS, we_v, rd1, rd2, rd3, we_k, we_gk, we_tup, we_lst, we_dct, we_bin, we_neg, we_cmp, we_ch, we_and, we_or, we_not, we_ite, we_ix, we_sl, we_rev, we_ixs, we_nes, we_lens, we_bi, we_isi, we_me, we_mu, we_call, we_comp, we_tupI, we_lstI, sa, sa1, sa2, wpF, wpD, wpV, wpT, wpA, wpO, wpAV, wpOV, startD, lockOf, outs, rv1, rv2, fz1, fz2, fz3, fz4, fa1, fa2, mv1, mv2, dt1, dt2, rg1, rg2, so1, so2, so3, so4, so5, lo1, lo2, lo5, wpI, lightAll, light, wipe, back, rng_len, enum_len, bindT, bindTs, peek, peeks, ats, wB1, wB2, wB3, setAll, bI1, bI2, bI3, bI4, bI5, bI6, bI7, bI8, bI9, bS1, bS2, bT1, bL1, bL2, bL3, bL4, bL5, bT2, cI1, cI2, cI3, cI4, cI5, cI6, cS1, cS2, cB1, cB2, cB3, tB1, tI1, tN1, tL1, xL1, xL2, xT1, xS1, xD1, lS1, lL1, lL2, lT1, qI, shaped_ints, c__law_bounds_right, N__law_bounds_right]
  refine ⟨m, s, rfl, hm, by omega, fun r1 m1 h1 => ?_⟩
  simp [wpFn, wpS, we_v, rd1, rd2, rd3, we_k, we_gk, we_tup, we_lst, we_dct, we_bin, we_neg, we_cmp, we_ch, we_and, we_or, we_not, we_ite, we_ix, we_sl, we_rev, we_ixs, we_nes, we_lens, we_bi, we_isi, we_me, we_mu, we_call, we_comp, we_tupI, we_lstI, sa, sa1, sa2, wpF, wpD, wpV, wpT, wpA, wpO, wpAV, wpOV, startD, lockOf, outs, rv1, rv2, fz1, fz2, fz3, fz4, fa1, fa2, mv1, mv2, dt1, dt2, rg1, rg2, so1, so2, so3, so4, so5, lo1, lo2, lo5, wpI, lightAll, light, wipe, back, rng_len, enum_len, bindT, bindTs, peek, peeks, ats, wB1, wB2, wB3, setAll, bI1, bI2, bI3, bI4, bI5, bI6, bI7, bI8, bI9, bS1, bS2, bT1, bL1, bL2, bL3, bL4, bL5, bT2, cI1, cI2, cI3, cI4, cI5, cI6, cS1, cS2, cB1, cB2, cB3, tB1, tI1, tN1, tL1, xL1, xL2, xT1, xS1, xD1, lS1, lL1, lL2, lT1, qI, shaped_ints]
  refine ⟨m1, s + 4, rfl, h1, by omega, fun r2 m2 h2 => ?_⟩
  have hm2 : mOk (s + 8) m2 := h2.mono (by omega)
  simp [wpFn, wpS, we_v, rd1, rd2, rd3, we_k, we_gk, we_tup, we_lst, we_dct, we_bin, we_neg, we_cmp, we_ch, we_and, we_or, we_not, we_ite, we_ix, we_sl, we_rev, we_ixs, we_nes, we_lens, we_bi, we_isi, we_me, we_mu, we_call, we_comp, we_tupI, we_lstI, sa, sa1, sa2, wpF, wpD, wpV, wpT, wpA, wpO, wpAV, wpOV, startD, lockOf, outs, rv1, rv2, fz1, fz2, fz3, fz4, fa1, fa2, mv1, mv2, dt1, dt2, rg1, rg2, so1, so2, so3, so4, so5, lo1, lo2, lo5, wpI, lightAll, light, wipe, back, rng_len, enum_len, bindT, bindTs, peek, peeks, ats, wB1, wB2, wB3, setAll, bI1, bI2, bI3, bI4, bI5, bI6, bI7, bI8, bI9, bS1, bS2, bT1, bL1, bL2, bL3, bL4, bL5, bT2, cI1, cI2, cI3, cI4, cI5, cI6, cS1, cS2, cB1, cB2, cB3, tB1, tI1, tN1, tL1, xL1, xL2, xT1, xS1, xD1, lS1, lL1, lL2, lT1, qI, shaped_ints, sl2]
  have turn : ∀ (es : List Int) (l : Int) (b : Option M) (N Nb : De → Prop) (R : Val → De → Prop), (∀ a' b', N [some (.dc m2), some (.p d), some (.p (.bool (isInt d))), some (.l (es.map .int)), a', b']) →
      wpS Γb (fun e δ => False) [3, 0] b1__law_bounds_right [some (.dc m2), some (.p d), some (.p (.bool (isInt d))), some (.l (es.map .int)), some (.p (.int l)), b] ⟨N, R, Nb, N⟩ := by
    intro es l b N Nb R hN
    cases d with
    | int i =>
      by_cases h0 : 0 ≤ i
      · simp [wpFn, wpS, we_v, rd1, rd2, rd3, we_k, we_gk, we_tup, we_lst, we_dct, we_bin, we_neg, we_cmp, we_ch, we_and, we_or, we_not, we_ite, we_ix, we_sl, we_rev, we_ixs, we_nes, we_lens, we_bi, we_isi, we_me, we_mu, we_call, we_comp, we_tupI, we_lstI, sa, sa1, sa2, wpF, wpD, wpV, wpT, wpA, wpO, wpAV, wpOV, startD, lockOf, outs, rv1, rv2, fz1, fz2, fz3, fz4, fa1, fa2, mv1, mv2, dt1, dt2, rg1, rg2, so1, so2, so3, so4, so5, lo1, lo2, lo5, wpI, lightAll, light, wipe, back, rng_len, enum_len, bindT, bindTs, peek, peeks, ats, wB1, wB2, wB3, setAll, bI1, bI2, bI3, bI4, bI5, bI6, bI7, bI8, bI9, bS1, bS2, bT1, bL1, bL2, bL3, bL4, bL5, bT2, cI1, cI2, cI3, cI4, cI5, cI6, cS1, cS2, cB1, cB2, cB3, tB1, tI1, tN1, tL1, xL1, xL2, xT1, xS1, xD1, lS1, lL1, lL2, lT1, qI, shaped_ints, b1__law_bounds_right, isInt, sl2, sl1, rep2, h0]
        refine kw3 ⟨_, _, rfl, ?_⟩
        try simp [wpFn, wpS, we_v, rd1, rd2, rd3, we_k, we_gk, we_tup, we_lst, we_dct, we_bin, we_neg, we_cmp, we_ch, we_and, we_or, we_not, we_ite, we_ix, we_sl, we_rev, we_ixs, we_nes, we_lens, we_bi, we_isi, we_me, we_mu, we_call, we_comp, we_tupI, we_lstI, sa, sa1, sa2, wpF, wpD, wpV, wpT, wpA, wpO, wpAV, wpOV, startD, lockOf, outs, rv1, rv2, fz1, fz2, fz3, fz4, fa1, fa2, mv1, mv2, dt1, dt2, rg1, rg2, so1, so2, so3, so4, so5, lo1, lo2, lo5, wpI, lightAll, light, wipe, back, rng_len, enum_len, bindT, bindTs, peek, peeks, ats, wB1, wB2, wB3, setAll, bI1, bI2, bI3, bI4, bI5, bI6, bI7, bI8, bI9, bS1, bS2, bT1, bL1, bL2, bL3, bL4, bL5, bT2, cI1, cI2, cI3, cI4, cI5, cI6, cS1, cS2, cB1, cB2, cB3, tB1, tI1, tN1, tL1, xL1, xL2, xT1, xS1, xD1, lS1, lL1, lL2, lT1, qI, shaped_ints, coinsB]
        refine kw4 ⟨_, _, rfl, ?_⟩
        try simp [wpFn, wpS, we_v, rd1, rd2, rd3, we_k, we_gk, we_tup, we_lst, we_dct, we_bin, we_neg, we_cmp, we_ch, we_and, we_or, we_not, we_ite, we_ix, we_sl, we_rev, we_ixs, we_nes, we_lens, we_bi, we_isi, we_me, we_mu, we_call, we_comp, we_tupI, we_lstI, sa, sa1, sa2, wpF, wpD, wpV, wpT, wpA, wpO, wpAV, wpOV, startD, lockOf, outs, rv1, rv2, fz1, fz2, fz3, fz4, fa1, fa2, mv1, mv2, dt1, dt2, rg1, rg2, so1, so2, so3, so4, so5, lo1, lo2, lo5, wpI, lightAll, light, wipe, back, rng_len, enum_len, bindT, bindTs, peek, peeks, ats, wB1, wB2, wB3, setAll, bI1, bI2, bI3, bI4, bI5, bI6, bI7, bI8, bI9, bS1, bS2, bT1, bL1, bL2, bL3, bL4, bL5, bT2, cI1, cI2, cI3, cI4, cI5, cI6, cS1, cS2, cB1, cB2, cB3, tB1, tI1, tN1, tL1, xL1, xL2, xT1, xS1, xD1, lS1, lL1, lL2, lT1, qI, shaped_ints, coinsB, sl2]
        refine rpB ?_
        try simp [wpFn, wpS, we_v, rd1, rd2, rd3, we_k, we_gk, we_tup, we_lst, we_dct, we_bin, we_neg, we_cmp, we_ch, we_and, we_or, we_not, we_ite, we_ix, we_sl, we_rev, we_ixs, we_nes, we_lens, we_bi, we_isi, we_me, we_mu, we_call, we_comp, we_tupI, we_lstI, sa, sa1, sa2, wpF, wpD, wpV, wpT, wpA, wpO, wpAV, wpOV, startD, lockOf, outs, rv1, rv2, fz1, fz2, fz3, fz4, fa1, fa2, mv1, mv2, dt1, dt2, rg1, rg2, so1, so2, so3, so4, so5, lo1, lo2, lo5, wpI, lightAll, light, wipe, back, rng_len, enum_len, bindT, bindTs, peek, peeks, ats, wB1, wB2, wB3, setAll, bI1, bI2, bI3, bI4, bI5, bI6, bI7, bI8, bI9, bS1, bS2, bT1, bL1, bL2, bL3, bL4, bL5, bT2, cI1, cI2, cI3, cI4, cI5, cI6, cS1, cS2, cB1, cB2, cB3, tB1, tI1, tN1, tL1, xL1, xL2, xT1, xS1, xD1, lS1, lL1, lL2, lT1, qI, shaped_ints]
        refine rpB ?_
        try simp [wpFn, wpS, we_v, rd1, rd2, rd3, we_k, we_gk, we_tup, we_lst, we_dct, we_bin, we_neg, we_cmp, we_ch, we_and, we_or, we_not, we_ite, we_ix, we_sl, we_rev, we_ixs, we_nes, we_lens, we_bi, we_isi, we_me, we_mu, we_call, we_comp, we_tupI, we_lstI, sa, sa1, sa2, wpF, wpD, wpV, wpT, wpA, wpO, wpAV, wpOV, startD, lockOf, outs, rv1, rv2, fz1, fz2, fz3, fz4, fa1, fa2, mv1, mv2, dt1, dt2, rg1, rg2, so1, so2, so3, so4, so5, lo1, lo2, lo5, wpI, lightAll, light, wipe, back, rng_len, enum_len, bindT, bindTs, peek, peeks, ats, wB1, wB2, wB3, setAll, bI1, bI2, bI3, bI4, bI5, bI6, bI7, bI8, bI9, bS1, bS2, bT1, bL1, bL2, bL3, bL4, bL5, bT2, cI1, cI2, cI3, cI4, cI5, cI6, cS1, cS2, cB1, cB2, cB3, tB1, tI1, tN1, tL1, xL1, xL2, xT1, xS1, xD1, lS1, lL1, lL2, lT1, qI, shaped_ints, sl2, sl1, rep2, h0, isInt]
        refine kw3 ⟨_, _, rfl, ?_⟩
        try simp [wpFn, wpS, we_v, rd1, rd2, rd3, we_k, we_gk, we_tup, we_lst, we_dct, we_bin, we_neg, we_cmp, we_ch, we_and, we_or, we_not, we_ite, we_ix, we_sl, we_rev, we_ixs, we_nes, we_lens, we_bi, we_isi, we_me, we_mu, we_call, we_comp, we_tupI, we_lstI, sa, sa1, sa2, wpF, wpD, wpV, wpT, wpA, wpO, wpAV, wpOV, startD, lockOf, outs, rv1, rv2, fz1, fz2, fz3, fz4, fa1, fa2, mv1, mv2, dt1, dt2, rg1, rg2, so1, so2, so3, so4, so5, lo1, lo2, lo5, wpI, lightAll, light, wipe, back, rng_len, enum_len, bindT, bindTs, peek, peeks, ats, wB1, wB2, wB3, setAll, bI1, bI2, bI3, bI4, bI5, bI6, bI7, bI8, bI9, bS1, bS2, bT1, bL1, bL2, bL3, bL4, bL5, bT2, cI1, cI2, cI3, cI4, cI5, cI6, cS1, cS2, cB1, cB2, cB3, tB1, tI1, tN1, tL1, xL1, xL2, xT1, xS1, xD1, lS1, lL1, lL2, lT1, qI, shaped_ints, amongB, h0]
        refine kw4 ⟨_, _, rfl, ?_⟩
        try simp [wpFn, wpS, we_v, rd1, rd2, rd3, we_k, we_gk, we_tup, we_lst, we_dct, we_bin, we_neg, we_cmp, we_ch, we_and, we_or, we_not, we_ite, we_ix, we_sl, we_rev, we_ixs, we_nes, we_lens, we_bi, we_isi, we_me, we_mu, we_call, we_comp, we_tupI, we_lstI, sa, sa1, sa2, wpF, wpD, wpV, wpT, wpA, wpO, wpAV, wpOV, startD, lockOf, outs, rv1, rv2, fz1, fz2, fz3, fz4, fa1, fa2, mv1, mv2, dt1, dt2, rg1, rg2, so1, so2, so3, so4, so5, lo1, lo2, lo5, wpI, lightAll, light, wipe, back, rng_len, enum_len, bindT, bindTs, peek, peeks, ats, wB1, wB2, wB3, setAll, bI1, bI2, bI3, bI4, bI5, bI6, bI7, bI8, bI9, bS1, bS2, bT1, bL1, bL2, bL3, bL4, bL5, bT2, cI1, cI2, cI3, cI4, cI5, cI6, cS1, cS2, cB1, cB2, cB3, tB1, tI1, tN1, tL1, xL1, xL2, xT1, xS1, xD1, lS1, lL1, lL2, lT1, qI, shaped_ints, amongB, h0, sl2]
        refine rpB ?_
        try simp [wpFn, wpS, we_v, rd1, rd2, rd3, we_k, we_gk, we_tup, we_lst, we_dct, we_bin, we_neg, we_cmp, we_ch, we_and, we_or, we_not, we_ite, we_ix, we_sl, we_rev, we_ixs, we_nes, we_lens, we_bi, we_isi, we_me, we_mu, we_call, we_comp, we_tupI, we_lstI, sa, sa1, sa2, wpF, wpD, wpV, wpT, wpA, wpO, wpAV, wpOV, startD, lockOf, outs, rv1, rv2, fz1, fz2, fz3, fz4, fa1, fa2, mv1, mv2, dt1, dt2, rg1, rg2, so1, so2, so3, so4, so5, lo1, lo2, lo5, wpI, lightAll, light, wipe, back, rng_len, enum_len, bindT, bindTs, peek, peeks, ats, wB1, wB2, wB3, setAll, bI1, bI2, bI3, bI4, bI5, bI6, bI7, bI8, bI9, bS1, bS2, bT1, bL1, bL2, bL3, bL4, bL5, bT2, cI1, cI2, cI3, cI4, cI5, cI6, cS1, cS2, cB1, cB2, cB3, tB1, tI1, tN1, tL1, xL1, xL2, xT1, xS1, xD1, lS1, lL1, lL2, lT1, qI, shaped_ints]
        refine rpB ?_
        try simp [wpFn, wpS, we_v, rd1, rd2, rd3, we_k, we_gk, we_tup, we_lst, we_dct, we_bin, we_neg, we_cmp, we_ch, we_and, we_or, we_not, we_ite, we_ix, we_sl, we_rev, we_ixs, we_nes, we_lens, we_bi, we_isi, we_me, we_mu, we_call, we_comp, we_tupI, we_lstI, sa, sa1, sa2, wpF, wpD, wpV, wpT, wpA, wpO, wpAV, wpOV, startD, lockOf, outs, rv1, rv2, fz1, fz2, fz3, fz4, fa1, fa2, mv1, mv2, dt1, dt2, rg1, rg2, so1, so2, so3, so4, so5, lo1, lo2, lo5, wpI, lightAll, light, wipe, back, rng_len, enum_len, bindT, bindTs, peek, peeks, ats, wB1, wB2, wB3, setAll, bI1, bI2, bI3, bI4, bI5, bI6, bI7, bI8, bI9, bS1, bS2, bT1, bL1, bL2, bL3, bL4, bL5, bT2, cI1, cI2, cI3, cI4, cI5, cI6, cS1, cS2, cB1, cB2, cB3, tB1, tI1, tN1, tL1, xL1, xL2, xT1, xS1, xD1, lS1, lL1, lL2, lT1, qI, shaped_ints]
        exact hN _ _
      · simp [wpFn, wpS, we_v, rd1, rd2, rd3, we_k, we_gk, we_tup, we_lst, we_dct, we_bin, we_neg, we_cmp, we_ch, we_and, we_or, we_not, we_ite, we_ix, we_sl, we_rev, we_ixs, we_nes, we_lens, we_bi, we_isi, we_me, we_mu, we_call, we_comp, we_tupI, we_lstI, sa, sa1, sa2, wpF, wpD, wpV, wpT, wpA, wpO, wpAV, wpOV, startD, lockOf, outs, rv1, rv2, fz1, fz2, fz3, fz4, fa1, fa2, mv1, mv2, dt1, dt2, rg1, rg2, so1, so2, so3, so4, so5, lo1, lo2, lo5, wpI, lightAll, light, wipe, back, rng_len, enum_len, bindT, bindTs, peek, peeks, ats, wB1, wB2, wB3, setAll, bI1, bI2, bI3, bI4, bI5, bI6, bI7, bI8, bI9, bS1, bS2, bT1, bL1, bL2, bL3, bL4, bL5, bT2, cI1, cI2, cI3, cI4, cI5, cI6, cS1, cS2, cB1, cB2, cB3, tB1, tI1, tN1, tL1, xL1, xL2, xT1, xS1, xD1, lS1, lL1, lL2, lT1, qI, shaped_ints, b1__law_bounds_right, isInt, sl2, sl1, rep2, h0]
        refine kw3 ⟨_, _, rfl, ?_⟩
        try simp [wpFn, wpS, we_v, rd1, rd2, rd3, we_k, we_gk, we_tup, we_lst, we_dct, we_bin, we_neg, we_cmp, we_ch, we_and, we_or, we_not, we_ite, we_ix, we_sl, we_rev, we_ixs, we_nes, we_lens, we_bi, we_isi, we_me, we_mu, we_call, we_comp, we_tupI, we_lstI, sa, sa1, sa2, wpF, wpD, wpV, wpT, wpA, wpO, wpAV, wpOV, startD, lockOf, outs, rv1, rv2, fz1, fz2, fz3, fz4, fa1, fa2, mv1, mv2, dt1, dt2, rg1, rg2, so1, so2, so3, so4, so5, lo1, lo2, lo5, wpI, lightAll, light, wipe, back, rng_len, enum_len, bindT, bindTs, peek, peeks, ats, wB1, wB2, wB3, setAll, bI1, bI2, bI3, bI4, bI5, bI6, bI7, bI8, bI9, bS1, bS2, bT1, bL1, bL2, bL3, bL4, bL5, bT2, cI1, cI2, cI3, cI4, cI5, cI6, cS1, cS2, cB1, cB2, cB3, tB1, tI1, tN1, tL1, xL1, xL2, xT1, xS1, xD1, lS1, lL1, lL2, lT1, qI, shaped_ints, coinsB]
        refine kw4 ⟨_, _, rfl, ?_⟩
        try simp [wpFn, wpS, we_v, rd1, rd2, rd3, we_k, we_gk, we_tup, we_lst, we_dct, we_bin, we_neg, we_cmp, we_ch, we_and, we_or, we_not, we_ite, we_ix, we_sl, we_rev, we_ixs, we_nes, we_lens, we_bi, we_isi, we_me, we_mu, we_call, we_comp, we_tupI, we_lstI, sa, sa1, sa2, wpF, wpD, wpV, wpT, wpA, wpO, wpAV, wpOV, startD, lockOf, outs, rv1, rv2, fz1, fz2, fz3, fz4, fa1, fa2, mv1, mv2, dt1, dt2, rg1, rg2, so1, so2, so3, so4, so5, lo1, lo2, lo5, wpI, lightAll, light, wipe, back, rng_len, enum_len, bindT, bindTs, peek, peeks, ats, wB1, wB2, wB3, setAll, bI1, bI2, bI3, bI4, bI5, bI6, bI7, bI8, bI9, bS1, bS2, bT1, bL1, bL2, bL3, bL4, bL5, bT2, cI1, cI2, cI3, cI4, cI5, cI6, cS1, cS2, cB1, cB2, cB3, tB1, tI1, tN1, tL1, xL1, xL2, xT1, xS1, xD1, lS1, lL1, lL2, lT1, qI, shaped_ints, coinsB, sl2]
        refine rpB ?_
        try simp [wpFn, wpS, we_v, rd1, rd2, rd3, we_k, we_gk, we_tup, we_lst, we_dct, we_bin, we_neg, we_cmp, we_ch, we_and, we_or, we_not, we_ite, we_ix, we_sl, we_rev, we_ixs, we_nes, we_lens, we_bi, we_isi, we_me, we_mu, we_call, we_comp, we_tupI, we_lstI, sa, sa1, sa2, wpF, wpD, wpV, wpT, wpA, wpO, wpAV, wpOV, startD, lockOf, outs, rv1, rv2, fz1, fz2, fz3, fz4, fa1, fa2, mv1, mv2, dt1, dt2, rg1, rg2, so1, so2, so3, so4, so5, lo1, lo2, lo5, wpI, lightAll, light, wipe, back, rng_len, enum_len, bindT, bindTs, peek, peeks, ats, wB1, wB2, wB3, setAll, bI1, bI2, bI3, bI4, bI5, bI6, bI7, bI8, bI9, bS1, bS2, bT1, bL1, bL2, bL3, bL4, bL5, bT2, cI1, cI2, cI3, cI4, cI5, cI6, cS1, cS2, cB1, cB2, cB3, tB1, tI1, tN1, tL1, xL1, xL2, xT1, xS1, xD1, lS1, lL1, lL2, lT1, qI, shaped_ints]
        refine rpB ?_
        try simp [wpFn, wpS, we_v, rd1, rd2, rd3, we_k, we_gk, we_tup, we_lst, we_dct, we_bin, we_neg, we_cmp, we_ch, we_and, we_or, we_not, we_ite, we_ix, we_sl, we_rev, we_ixs, we_nes, we_lens, we_bi, we_isi, we_me, we_mu, we_call, we_comp, we_tupI, we_lstI, sa, sa1, sa2, wpF, wpD, wpV, wpT, wpA, wpO, wpAV, wpOV, startD, lockOf, outs, rv1, rv2, fz1, fz2, fz3, fz4, fa1, fa2, mv1, mv2, dt1, dt2, rg1, rg2, so1, so2, so3, so4, so5, lo1, lo2, lo5, wpI, lightAll, light, wipe, back, rng_len, enum_len, bindT, bindTs, peek, peeks, ats, wB1, wB2, wB3, setAll, bI1, bI2, bI3, bI4, bI5, bI6, bI7, bI8, bI9, bS1, bS2, bT1, bL1, bL2, bL3, bL4, bL5, bT2, cI1, cI2, cI3, cI4, cI5, cI6, cS1, cS2, cB1, cB2, cB3, tB1, tI1, tN1, tL1, xL1, xL2, xT1, xS1, xD1, lS1, lL1, lL2, lT1, qI, shaped_ints, sl2, sl1, rep2, h0, isInt]
        refine kw3 ⟨_, _, rfl, ?_⟩
        try simp [wpFn, wpS, we_v, rd1, rd2, rd3, we_k, we_gk, we_tup, we_lst, we_dct, we_bin, we_neg, we_cmp, we_ch, we_and, we_or, we_not, we_ite, we_ix, we_sl, we_rev, we_ixs, we_nes, we_lens, we_bi, we_isi, we_me, we_mu, we_call, we_comp, we_tupI, we_lstI, sa, sa1, sa2, wpF, wpD, wpV, wpT, wpA, wpO, wpAV, wpOV, startD, lockOf, outs, rv1, rv2, fz1, fz2, fz3, fz4, fa1, fa2, mv1, mv2, dt1, dt2, rg1, rg2, so1, so2, so3, so4, so5, lo1, lo2, lo5, wpI, lightAll, light, wipe, back, rng_len, enum_len, bindT, bindTs, peek, peeks, ats, wB1, wB2, wB3, setAll, bI1, bI2, bI3, bI4, bI5, bI6, bI7, bI8, bI9, bS1, bS2, bT1, bL1, bL2, bL3, bL4, bL5, bT2, cI1, cI2, cI3, cI4, cI5, cI6, cS1, cS2, cB1, cB2, cB3, tB1, tI1, tN1, tL1, xL1, xL2, xT1, xS1, xD1, lS1, lL1, lL2, lT1, qI, shaped_ints, amongB, h0]
        refine kw4 ⟨_, _, rfl, ?_⟩
        try simp [wpFn, wpS, we_v, rd1, rd2, rd3, we_k, we_gk, we_tup, we_lst, we_dct, we_bin, we_neg, we_cmp, we_ch, we_and, we_or, we_not, we_ite, we_ix, we_sl, we_rev, we_ixs, we_nes, we_lens, we_bi, we_isi, we_me, we_mu, we_call, we_comp, we_tupI, we_lstI, sa, sa1, sa2, wpF, wpD, wpV, wpT, wpA, wpO, wpAV, wpOV, startD, lockOf, outs, rv1, rv2, fz1, fz2, fz3, fz4, fa1, fa2, mv1, mv2, dt1, dt2, rg1, rg2, so1, so2, so3, so4, so5, lo1, lo2, lo5, wpI, lightAll, light, wipe, back, rng_len, enum_len, bindT, bindTs, peek, peeks, ats, wB1, wB2, wB3, setAll, bI1, bI2, bI3, bI4, bI5, bI6, bI7, bI8, bI9, bS1, bS2, bT1, bL1, bL2, bL3, bL4, bL5, bT2, cI1, cI2, cI3, cI4, cI5, cI6, cS1, cS2, cB1, cB2, cB3, tB1, tI1, tN1, tL1, xL1, xL2, xT1, xS1, xD1, lS1, lL1, lL2, lT1, qI, shaped_ints, amongB, h0, sl2]
        refine rpB ?_
        try simp [wpFn, wpS, we_v, rd1, rd2, rd3, we_k, we_gk, we_tup, we_lst, we_dct, we_bin, we_neg, we_cmp, we_ch, we_and, we_or, we_not, we_ite, we_ix, we_sl, we_rev, we_ixs, we_nes, we_lens, we_bi, we_isi, we_me, we_mu, we_call, we_comp, we_tupI, we_lstI, sa, sa1, sa2, wpF, wpD, wpV, wpT, wpA, wpO, wpAV, wpOV, startD, lockOf, outs, rv1, rv2, fz1, fz2, fz3, fz4, fa1, fa2, mv1, mv2, dt1, dt2, rg1, rg2, so1, so2, so3, so4, so5, lo1, lo2, lo5, wpI, lightAll, light, wipe, back, rng_len, enum_len, bindT, bindTs, peek, peeks, ats, wB1, wB2, wB3, setAll, bI1, bI2, bI3, bI4, bI5, bI6, bI7, bI8, bI9, bS1, bS2, bT1, bL1, bL2, bL3, bL4, bL5, bT2, cI1, cI2, cI3, cI4, cI5, cI6, cS1, cS2, cB1, cB2, cB3, tB1, tI1, tN1, tL1, xL1, xL2, xT1, xS1, xD1, lS1, lL1, lL2, lT1, qI, shaped_ints]
        refine rpB ?_
        try simp [wpFn, wpS, we_v, rd1, rd2, rd3, we_k, we_gk, we_tup, we_lst, we_dct, we_bin, we_neg, we_cmp, we_ch, we_and, we_or, we_not, we_ite, we_ix, we_sl, we_rev, we_ixs, we_nes, we_lens, we_bi, we_isi, we_me, we_mu, we_call, we_comp, we_tupI, we_lstI, sa, sa1, sa2, wpF, wpD, wpV, wpT, wpA, wpO, wpAV, wpOV, startD, lockOf, outs, rv1, rv2, fz1, fz2, fz3, fz4, fa1, fa2, mv1, mv2, dt1, dt2, rg1, rg2, so1, so2, so3, so4, so5, lo1, lo2, lo5, wpI, lightAll, light, wipe, back, rng_len, enum_len, bindT, bindTs, peek, peeks, ats, wB1, wB2, wB3, setAll, bI1, bI2, bI3, bI4, bI5, bI6, bI7, bI8, bI9, bS1, bS2, bT1, bL1, bL2, bL3, bL4, bL5, bT2, cI1, cI2, cI3, cI4, cI5, cI6, cS1, cS2, cB1, cB2, cB3, tB1, tI1, tN1, tL1, xL1, xL2, xT1, xS1, xD1, lS1, lL1, lL2, lT1, qI, shaped_ints]
        exact hN _ _
    | _ =>
      try simp [wpFn, wpS, we_v, rd1, rd2, rd3, we_k, we_gk, we_tup, we_lst, we_dct, we_bin, we_neg, we_cmp, we_ch, we_and, we_or, we_not, we_ite, we_ix, we_sl, we_rev, we_ixs, we_nes, we_lens, we_bi, we_isi, we_me, we_mu, we_call, we_comp, we_tupI, we_lstI, sa, sa1, sa2, wpF, wpD, wpV, wpT, wpA, wpO, wpAV, wpOV, startD, lockOf, outs, rv1, rv2, fz1, fz2, fz3, fz4, fa1, fa2, mv1, mv2, dt1, dt2, rg1, rg2, so1, so2, so3, so4, so5, lo1, lo2, lo5, wpI, lightAll, light, wipe, back, rng_len, enum_len, bindT, bindTs, peek, peeks, ats, wB1, wB2, wB3, setAll, bI1, bI2, bI3, bI4, bI5, bI6, bI7, bI8, bI9, bS1, bS2, bT1, bL1, bL2, bL3, bL4, bL5, bT2, cI1, cI2, cI3, cI4, cI5, cI6, cS1, cS2, cB1, cB2, cB3, tB1, tI1, tN1, tL1, xL1, xL2, xT1, xS1, xD1, lS1, lL1, lL2, lT1, qI, shaped_ints, b1__law_bounds_right, isInt, sl2, sl1, rep2]
      refine kw3 ⟨_, _, rfl, ?_⟩
      try simp [wpFn, wpS, we_v, rd1, rd2, rd3, we_k, we_gk, we_tup, we_lst, we_dct, we_bin, we_neg, we_cmp, we_ch, we_and, we_or, we_not, we_ite, we_ix, we_sl, we_rev, we_ixs, we_nes, we_lens, we_bi, we_isi, we_me, we_mu, we_call, we_comp, we_tupI, we_lstI, sa, sa1, sa2, wpF, wpD, wpV, wpT, wpA, wpO, wpAV, wpOV, startD, lockOf, outs, rv1, rv2, fz1, fz2, fz3, fz4, fa1, fa2, mv1, mv2, dt1, dt2, rg1, rg2, so1, so2, so3, so4, so5, lo1, lo2, lo5, wpI, lightAll, light, wipe, back, rng_len, enum_len, bindT, bindTs, peek, peeks, ats, wB1, wB2, wB3, setAll, bI1, bI2, bI3, bI4, bI5, bI6, bI7, bI8, bI9, bS1, bS2, bT1, bL1, bL2, bL3, bL4, bL5, bT2, cI1, cI2, cI3, cI4, cI5, cI6, cS1, cS2, cB1, cB2, cB3, tB1, tI1, tN1, tL1, xL1, xL2, xT1, xS1, xD1, lS1, lL1, lL2, lT1, qI, shaped_ints, coinsB]
      refine kw4 ⟨_, _, rfl, ?_⟩
      try simp [wpFn, wpS, we_v, rd1, rd2, rd3, we_k, we_gk, we_tup, we_lst, we_dct, we_bin, we_neg, we_cmp, we_ch, we_and, we_or, we_not, we_ite, we_ix, we_sl, we_rev, we_ixs, we_nes, we_lens, we_bi, we_isi, we_me, we_mu, we_call, we_comp, we_tupI, we_lstI, sa, sa1, sa2, wpF, wpD, wpV, wpT, wpA, wpO, wpAV, wpOV, startD, lockOf, outs, rv1, rv2, fz1, fz2, fz3, fz4, fa1, fa2, mv1, mv2, dt1, dt2, rg1, rg2, so1, so2, so3, so4, so5, lo1, lo2, lo5, wpI, lightAll, light, wipe, back, rng_len, enum_len, bindT, bindTs, peek, peeks, ats, wB1, wB2, wB3, setAll, bI1, bI2, bI3, bI4, bI5, bI6, bI7, bI8, bI9, bS1, bS2, bT1, bL1, bL2, bL3, bL4, bL5, bT2, cI1, cI2, cI3, cI4, cI5, cI6, cS1, cS2, cB1, cB2, cB3, tB1, tI1, tN1, tL1, xL1, xL2, xT1, xS1, xD1, lS1, lL1, lL2, lT1, qI, shaped_ints, coinsB, sl2]
      refine rpB ?_
      try simp [wpFn, wpS, we_v, rd1, rd2, rd3, we_k, we_gk, we_tup, we_lst, we_dct, we_bin, we_neg, we_cmp, we_ch, we_and, we_or, we_not, we_ite, we_ix, we_sl, we_rev, we_ixs, we_nes, we_lens, we_bi, we_isi, we_me, we_mu, we_call, we_comp, we_tupI, we_lstI, sa, sa1, sa2, wpF, wpD, wpV, wpT, wpA, wpO, wpAV, wpOV, startD, lockOf, outs, rv1, rv2, fz1, fz2, fz3, fz4, fa1, fa2, mv1, mv2, dt1, dt2, rg1, rg2, so1, so2, so3, so4, so5, lo1, lo2, lo5, wpI, lightAll, light, wipe, back, rng_len, enum_len, bindT, bindTs, peek, peeks, ats, wB1, wB2, wB3, setAll, bI1, bI2, bI3, bI4, bI5, bI6, bI7, bI8, bI9, bS1, bS2, bT1, bL1, bL2, bL3, bL4, bL5, bT2, cI1, cI2, cI3, cI4, cI5, cI6, cS1, cS2, cB1, cB2, cB3, tB1, tI1, tN1, tL1, xL1, xL2, xT1, xS1, xD1, lS1, lL1, lL2, lT1, qI, shaped_ints]
      refine rpB ?_
      try simp [wpFn, wpS, we_v, rd1, rd2, rd3, we_k, we_gk, we_tup, we_lst, we_dct, we_bin, we_neg, we_cmp, we_ch, we_and, we_or, we_not, we_ite, we_ix, we_sl, we_rev, we_ixs, we_nes, we_lens, we_bi, we_isi, we_me, we_mu, we_call, we_comp, we_tupI, we_lstI, sa, sa1, sa2, wpF, wpD, wpV, wpT, wpA, wpO, wpAV, wpOV, startD, lockOf, outs, rv1, rv2, fz1, fz2, fz3, fz4, fa1, fa2, mv1, mv2, dt1, dt2, rg1, rg2, so1, so2, so3, so4, so5, lo1, lo2, lo5, wpI, lightAll, light, wipe, back, rng_len, enum_len, bindT, bindTs, peek, peeks, ats, wB1, wB2, wB3, setAll, bI1, bI2, bI3, bI4, bI5, bI6, bI7, bI8, bI9, bS1, bS2, bT1, bL1, bL2, bL3, bL4, bL5, bT2, cI1, cI2, cI3, cI4, cI5, cI6, cS1, cS2, cB1, cB2, cB3, tB1, tI1, tN1, tL1, xL1, xL2, xT1, xS1, xD1, lS1, lL1, lL2, lT1, qI, shaped_ints, sl2, sl1, rep2, isInt]
      refine kw3 ⟨_, _, rfl, ?_⟩
      try simp [wpFn, wpS, we_v, rd1, rd2, rd3, we_k, we_gk, we_tup, we_lst, we_dct, we_bin, we_neg, we_cmp, we_ch, we_and, we_or, we_not, we_ite, we_ix, we_sl, we_rev, we_ixs, we_nes, we_lens, we_bi, we_isi, we_me, we_mu, we_call, we_comp, we_tupI, we_lstI, sa, sa1, sa2, wpF, wpD, wpV, wpT, wpA, wpO, wpAV, wpOV, startD, lockOf, outs, rv1, rv2, fz1, fz2, fz3, fz4, fa1, fa2, mv1, mv2, dt1, dt2, rg1, rg2, so1, so2, so3, so4, so5, lo1, lo2, lo5, wpI, lightAll, light, wipe, back, rng_len, enum_len, bindT, bindTs, peek, peeks, ats, wB1, wB2, wB3, setAll, bI1, bI2, bI3, bI4, bI5, bI6, bI7, bI8, bI9, bS1, bS2, bT1, bL1, bL2, bL3, bL4, bL5, bT2, cI1, cI2, cI3, cI4, cI5, cI6, cS1, cS2, cB1, cB2, cB3, tB1, tI1, tN1, tL1, xL1, xL2, xT1, xS1, xD1, lS1, lL1, lL2, lT1, qI, shaped_ints, amongB]
      refine kw4 ⟨_, _, rfl, ?_⟩
      try simp [wpFn, wpS, we_v, rd1, rd2, rd3, we_k, we_gk, we_tup, we_lst, we_dct, we_bin, we_neg, we_cmp, we_ch, we_and, we_or, we_not, we_ite, we_ix, we_sl, we_rev, we_ixs, we_nes, we_lens, we_bi, we_isi, we_me, we_mu, we_call, we_comp, we_tupI, we_lstI, sa, sa1, sa2, wpF, wpD, wpV, wpT, wpA, wpO, wpAV, wpOV, startD, lockOf, outs, rv1, rv2, fz1, fz2, fz3, fz4, fa1, fa2, mv1, mv2, dt1, dt2, rg1, rg2, so1, so2, so3, so4, so5, lo1, lo2, lo5, wpI, lightAll, light, wipe, back, rng_len, enum_len, bindT, bindTs, peek, peeks, ats, wB1, wB2, wB3, setAll, bI1, bI2, bI3, bI4, bI5, bI6, bI7, bI8, bI9, bS1, bS2, bT1, bL1, bL2, bL3, bL4, bL5, bT2, cI1, cI2, cI3, cI4, cI5, cI6, cS1, cS2, cB1, cB2, cB3, tB1, tI1, tN1, tL1, xL1, xL2, xT1, xS1, xD1, lS1, lL1, lL2, lT1, qI, shaped_ints, amongB, sl2]
      refine rpB ?_
      try simp [wpFn, wpS, we_v, rd1, rd2, rd3, we_k, we_gk, we_tup, we_lst, we_dct, we_bin, we_neg, we_cmp, we_ch, we_and, we_or, we_not, we_ite, we_ix, we_sl, we_rev, we_ixs, we_nes, we_lens, we_bi, we_isi, we_me, we_mu, we_call, we_comp, we_tupI, we_lstI, sa, sa1, sa2, wpF, wpD, wpV, wpT, wpA, wpO, wpAV, wpOV, startD, lockOf, outs, rv1, rv2, fz1, fz2, fz3, fz4, fa1, fa2, mv1, mv2, dt1, dt2, rg1, rg2, so1, so2, so3, so4, so5, lo1, lo2, lo5, wpI, lightAll, light, wipe, back, rng_len, enum_len, bindT, bindTs, peek, peeks, ats, wB1, wB2, wB3, setAll, bI1, bI2, bI3, bI4, bI5, bI6, bI7, bI8, bI9, bS1, bS2, bT1, bL1, bL2, bL3, bL4, bL5, bT2, cI1, cI2, cI3, cI4, cI5, cI6, cS1, cS2, cB1, cB2, cB3, tB1, tI1, tN1, tL1, xL1, xL2, xT1, xS1, xD1, lS1, lL1, lL2, lT1, qI, shaped_ints]
      refine rpB ?_
      try simp [wpFn, wpS, we_v, rd1, rd2, rd3, we_k, we_gk, we_tup, we_lst, we_dct, we_bin, we_neg, we_cmp, we_ch, we_and, we_or, we_not, we_ite, we_ix, we_sl, we_rev, we_ixs, we_nes, we_lens, we_bi, we_isi, we_me, we_mu, we_call, we_comp, we_tupI, we_lstI, sa, sa1, sa2, wpF, wpD, wpV, wpT, wpA, wpO, wpAV, wpOV, startD, lockOf, outs, rv1, rv2, fz1, fz2, fz3, fz4, fa1, fa2, mv1, mv2, dt1, dt2, rg1, rg2, so1, so2, so3, so4, so5, lo1, lo2, lo5, wpI, lightAll, light, wipe, back, rng_len, enum_len, bindT, bindTs, peek, peeks, ats, wB1, wB2, wB3, setAll, bI1, bI2, bI3, bI4, bI5, bI6, bI7, bI8, bI9, bS1, bS2, bT1, bL1, bL2, bL3, bL4, bL5, bT2, cI1, cI2, cI3, cI4, cI5, cI6, cS1, cS2, cB1, cB2, cB3, tB1, tI1, tN1, tL1, xL1, xL2, xT1, xS1, xD1, lS1, lL1, lL2, lT1, qI, shaped_ints]
      exact hN _ _
  have l4 : 4 ≤ sizeLine := by decide
  cases d with
  | int i =>
    simp [wpFn, wpS, we_v, rd1, rd2, rd3, we_k, we_gk, we_tup, we_lst, we_dct, we_bin, we_neg, we_cmp, we_ch, we_and, we_or, we_not, we_ite, we_ix, we_sl, we_rev, we_ixs, we_nes, we_lens, we_bi, we_isi, we_me, we_mu, we_call, we_comp, we_tupI, we_lstI, sa, sa1, sa2, wpF, wpD, wpV, wpT, wpA, wpO, wpAV, wpOV, startD, lockOf, outs, rv1, rv2, fz1, fz2, fz3, fz4, fa1, fa2, mv1, mv2, dt1, dt2, rg1, rg2, so1, so2, so3, so4, so5, lo1, lo2, lo5, wpI, lightAll, light, wipe, back, rng_len, enum_len, bindT, bindTs, peek, peeks, ats, wB1, wB2, wB3, setAll, bI1, bI2, bI3, bI4, bI5, bI6, bI7, bI8, bI9, bS1, bS2, bT1, bL1, bL2, bL3, bL4, bL5, bT2, cI1, cI2, cI3, cI4, cI5, cI6, cS1, cS2, cB1, cB2, cB3, tB1, tI1, tN1, tL1, xL1, xL2, xT1, xS1, xD1, lS1, lL1, lL2, lT1, qI, shaped_ints, isInt, sl2, l4]
    refine forLoop_inv (fun xs δ => (∀ x ∈ xs, ∃ l, x = .int l) ∧ ∃ a b : Option M, δ = [some (.dc m2), some (.p (.int i)), some (.p (.bool (isInt (.int i)))), some (.l (([r1, r2, i, i + 1] : List Int).map .int)), a, b]) ?_ ?_ _ _ ⟨by simp, none, none, rfl⟩
    · rintro x xs δ N ⟨hx, a, b, rfl⟩ hN
      obtain ⟨l, rfl⟩ := hx x (List.mem_cons_self ..)
      refine ⟨?_, ?_⟩
      · intro g hg
        rw [List.mem_singleton] at hg
        subst hg
        exact ⟨_, rfl, rfl⟩
      · exact ⟨_, ⟨by simp, rfl⟩, turn [r1, r2, i, i + 1] l b N _ _ fun a' b' => hN _ ⟨fun y hy => hx y (List.mem_cons_of_mem _ hy), a', b', rfl⟩⟩
    · rintro δ ⟨-, a, b, rfl⟩
      refine ⟨?_, ?_⟩
      · intro g hg
        rw [List.mem_singleton] at hg
        subst hg
        exact ⟨_, rfl, rfl⟩
      try simp [wpFn, wpS, we_v, rd1, rd2, rd3, we_k, we_gk, we_tup, we_lst, we_dct, we_bin, we_neg, we_cmp, we_ch, we_and, we_or, we_not, we_ite, we_ix, we_sl, we_rev, we_ixs, we_nes, we_lens, we_bi, we_isi, we_me, we_mu, we_call, we_comp, we_tupI, we_lstI, sa, sa1, sa2, wpF, wpD, wpV, wpT, wpA, wpO, wpAV, wpOV, startD, lockOf, outs, rv1, rv2, fz1, fz2, fz3, fz4, fa1, fa2, mv1, mv2, dt1, dt2, rg1, rg2, so1, so2, so3, so4, so5, lo1, lo2, lo5, wpI, lightAll, light, wipe, back, rng_len, enum_len, bindT, bindTs, peek, peeks, ats, wB1, wB2, wB3, setAll, bI1, bI2, bI3, bI4, bI5, bI6, bI7, bI8, bI9, bS1, bS2, bT1, bL1, bL2, bL3, bL4, bL5, bT2, cI1, cI2, cI3, cI4, cI5, cI6, cS1, cS2, cB1, cB2, cB3, tB1, tI1, tN1, tL1, xL1, xL2, xT1, xS1, xD1, lS1, lL1, lL2, lT1, qI, shaped_ints, isInt]
      refine kw1 ⟨_, _, rfl, ?_⟩
      try simp [wpFn, wpS, we_v, rd1, rd2, rd3, we_k, we_gk, we_tup, we_lst, we_dct, we_bin, we_neg, we_cmp, we_ch, we_and, we_or, we_not, we_ite, we_ix, we_sl, we_rev, we_ixs, we_nes, we_lens, we_bi, we_isi, we_me, we_mu, we_call, we_comp, we_tupI, we_lstI, sa, sa1, sa2, wpF, wpD, wpV, wpT, wpA, wpO, wpAV, wpOV, startD, lockOf, outs, rv1, rv2, fz1, fz2, fz3, fz4, fa1, fa2, mv1, mv2, dt1, dt2, rg1, rg2, so1, so2, so3, so4, so5, lo1, lo2, lo5, wpI, lightAll, light, wipe, back, rng_len, enum_len, bindT, bindTs, peek, peeks, ats, wB1, wB2, wB3, setAll, bI1, bI2, bI3, bI4, bI5, bI6, bI7, bI8, bI9, bS1, bS2, bT1, bL1, bL2, bL3, bL4, bL5, bT2, cI1, cI2, cI3, cI4, cI5, cI6, cS1, cS2, cB1, cB2, cB3, tB1, tI1, tN1, tL1, xL1, xL2, xT1, xS1, xD1, lS1, lL1, lL2, lT1, qI, shaped_ints, coinsB]
      refine kw2 ⟨_, _, rfl, ?_⟩
      try simp [wpFn, wpS, we_v, rd1, rd2, rd3, we_k, we_gk, we_tup, we_lst, we_dct, we_bin, we_neg, we_cmp, we_ch, we_and, we_or, we_not, we_ite, we_ix, we_sl, we_rev, we_ixs, we_nes, we_lens, we_bi, we_isi, we_me, we_mu, we_call, we_comp, we_tupI, we_lstI, sa, sa1, sa2, wpF, wpD, wpV, wpT, wpA, wpO, wpAV, wpOV, startD, lockOf, outs, rv1, rv2, fz1, fz2, fz3, fz4, fa1, fa2, mv1, mv2, dt1, dt2, rg1, rg2, so1, so2, so3, so4, so5, lo1, lo2, lo5, wpI, lightAll, light, wipe, back, rng_len, enum_len, bindT, bindTs, peek, peeks, ats, wB1, wB2, wB3, setAll, bI1, bI2, bI3, bI4, bI5, bI6, bI7, bI8, bI9, bS1, bS2, bT1, bL1, bL2, bL3, bL4, bL5, bT2, cI1, cI2, cI3, cI4, cI5, cI6, cS1, cS2, cB1, cB2, cB3, tB1, tI1, tN1, tL1, xL1, xL2, xT1, xS1, xD1, lS1, lL1, lL2, lT1, qI, shaped_ints, coinsB, sl2]
      refine rpB ?_
      try simp [wpFn, wpS, we_v, rd1, rd2, rd3, we_k, we_gk, we_tup, we_lst, we_dct, we_bin, we_neg, we_cmp, we_ch, we_and, we_or, we_not, we_ite, we_ix, we_sl, we_rev, we_ixs, we_nes, we_lens, we_bi, we_isi, we_me, we_mu, we_call, we_comp, we_tupI, we_lstI, sa, sa1, sa2, wpF, wpD, wpV, wpT, wpA, wpO, wpAV, wpOV, startD, lockOf, outs, rv1, rv2, fz1, fz2, fz3, fz4, fa1, fa2, mv1, mv2, dt1, dt2, rg1, rg2, so1, so2, so3, so4, so5, lo1, lo2, lo5, wpI, lightAll, light, wipe, back, rng_len, enum_len, bindT, bindTs, peek, peeks, ats, wB1, wB2, wB3, setAll, bI1, bI2, bI3, bI4, bI5, bI6, bI7, bI8, bI9, bS1, bS2, bT1, bL1, bL2, bL3, bL4, bL5, bT2, cI1, cI2, cI3, cI4, cI5, cI6, cS1, cS2, cB1, cB2, cB3, tB1, tI1, tN1, tL1, xL1, xL2, xT1, xS1, xD1, lS1, lL1, lL2, lT1, qI, shaped_ints, sl1, sl2, rep2]
      refine rpB ?_
      try simp [wpFn, wpS, we_v, rd1, rd2, rd3, we_k, we_gk, we_tup, we_lst, we_dct, we_bin, we_neg, we_cmp, we_ch, we_and, we_or, we_not, we_ite, we_ix, we_sl, we_rev, we_ixs, we_nes, we_lens, we_bi, we_isi, we_me, we_mu, we_call, we_comp, we_tupI, we_lstI, sa, sa1, sa2, wpF, wpD, wpV, wpT, wpA, wpO, wpAV, wpOV, startD, lockOf, outs, rv1, rv2, fz1, fz2, fz3, fz4, fa1, fa2, mv1, mv2, dt1, dt2, rg1, rg2, so1, so2, so3, so4, so5, lo1, lo2, lo5, wpI, lightAll, light, wipe, back, rng_len, enum_len, bindT, bindTs, peek, peeks, ats, wB1, wB2, wB3, setAll, bI1, bI2, bI3, bI4, bI5, bI6, bI7, bI8, bI9, bS1, bS2, bT1, bL1, bL2, bL3, bL4, bL5, bT2, cI1, cI2, cI3, cI4, cI5, cI6, cS1, cS2, cB1, cB2, cB3, tB1, tI1, tN1, tL1, xL1, xL2, xT1, xS1, xD1, lS1, lL1, lL2, lT1, qI, shaped_ints]
      exact h m2 hm2
  | _ =>
    simp [wpFn, wpS, we_v, rd1, rd2, rd3, we_k, we_gk, we_tup, we_lst, we_dct, we_bin, we_neg, we_cmp, we_ch, we_and, we_or, we_not, we_ite, we_ix, we_sl, we_rev, we_ixs, we_nes, we_lens, we_bi, we_isi, we_me, we_mu, we_call, we_comp, we_tupI, we_lstI, sa, sa1, sa2, wpF, wpD, wpV, wpT, wpA, wpO, wpAV, wpOV, startD, lockOf, outs, rv1, rv2, fz1, fz2, fz3, fz4, fa1, fa2, mv1, mv2, dt1, dt2, rg1, rg2, so1, so2, so3, so4, so5, lo1, lo2, lo5, wpI, lightAll, light, wipe, back, rng_len, enum_len, bindT, bindTs, peek, peeks, ats, wB1, wB2, wB3, setAll, bI1, bI2, bI3, bI4, bI5, bI6, bI7, bI8, bI9, bS1, bS2, bT1, bL1, bL2, bL3, bL4, bL5, bT2, cI1, cI2, cI3, cI4, cI5, cI6, cS1, cS2, cB1, cB2, cB3, tB1, tI1, tN1, tL1, xL1, xL2, xT1, xS1, xD1, lS1, lL1, lL2, lT1, qI, shaped_ints, isInt, sl2]
    refine forLoop_inv (fun xs δ => (∀ x ∈ xs, ∃ l, x = .int l) ∧ ∃ a b : Option M, δ = [some (.dc m2), some (.p _), some (.p (.bool false)), some (.l (([r1, r2] : List Int).map .int)), a, b]) ?_ ?_ _ _ ⟨by simp, none, none, rfl⟩
    · rintro x xs δ N ⟨hx, a, b, rfl⟩ hN
      obtain ⟨l, rfl⟩ := hx x (List.mem_cons_self ..)
      refine ⟨?_, ?_⟩
      · intro g hg
        rw [List.mem_singleton] at hg
        subst hg
        exact ⟨_, rfl, rfl⟩
      · exact ⟨_, ⟨by simp, rfl⟩, turn [r1, r2] l b N _ _ fun a' b' => hN _ ⟨fun y hy => hx y (List.mem_cons_of_mem _ hy), a', b', rfl⟩⟩
    · rintro δ ⟨-, a, b, rfl⟩
      refine ⟨?_, ?_⟩
      · intro g hg
        rw [List.mem_singleton] at hg
        subst hg
        exact ⟨_, rfl, rfl⟩
      try simp [wpFn, wpS, we_v, rd1, rd2, rd3, we_k, we_gk, we_tup, we_lst, we_dct, we_bin, we_neg, we_cmp, we_ch, we_and, we_or, we_not, we_ite, we_ix, we_sl, we_rev, we_ixs, we_nes, we_lens, we_bi, we_isi, we_me, we_mu, we_call, we_comp, we_tupI, we_lstI, sa, sa1, sa2, wpF, wpD, wpV, wpT, wpA, wpO, wpAV, wpOV, startD, lockOf, outs, rv1, rv2, fz1, fz2, fz3, fz4, fa1, fa2, mv1, mv2, dt1, dt2, rg1, rg2, so1, so2, so3, so4, so5, lo1, lo2, lo5, wpI, lightAll, light, wipe, back, rng_len, enum_len, bindT, bindTs, peek, peeks, ats, wB1, wB2, wB3, setAll, bI1, bI2, bI3, bI4, bI5, bI6, bI7, bI8, bI9, bS1, bS2, bT1, bL1, bL2, bL3, bL4, bL5, bT2, cI1, cI2, cI3, cI4, cI5, cI6, cS1, cS2, cB1, cB2, cB3, tB1, tI1, tN1, tL1, xL1, xL2, xT1, xS1, xD1, lS1, lL1, lL2, lT1, qI, shaped_ints, isInt]
      refine kw1 ⟨_, _, rfl, ?_⟩
      try simp [wpFn, wpS, we_v, rd1, rd2, rd3, we_k, we_gk, we_tup, we_lst, we_dct, we_bin, we_neg, we_cmp, we_ch, we_and, we_or, we_not, we_ite, we_ix, we_sl, we_rev, we_ixs, we_nes, we_lens, we_bi, we_isi, we_me, we_mu, we_call, we_comp, we_tupI, we_lstI, sa, sa1, sa2, wpF, wpD, wpV, wpT, wpA, wpO, wpAV, wpOV, startD, lockOf, outs, rv1, rv2, fz1, fz2, fz3, fz4, fa1, fa2, mv1, mv2, dt1, dt2, rg1, rg2, so1, so2, so3, so4, so5, lo1, lo2, lo5, wpI, lightAll, light, wipe, back, rng_len, enum_len, bindT, bindTs, peek, peeks, ats, wB1, wB2, wB3, setAll, bI1, bI2, bI3, bI4, bI5, bI6, bI7, bI8, bI9, bS1, bS2, bT1, bL1, bL2, bL3, bL4, bL5, bT2, cI1, cI2, cI3, cI4, cI5, cI6, cS1, cS2, cB1, cB2, cB3, tB1, tI1, tN1, tL1, xL1, xL2, xT1, xS1, xD1, lS1, lL1, lL2, lT1, qI, shaped_ints, coinsB]
      refine kw2 ⟨_, _, rfl, ?_⟩
      try simp [wpFn, wpS, we_v, rd1, rd2, rd3, we_k, we_gk, we_tup, we_lst, we_dct, we_bin, we_neg, we_cmp, we_ch, we_and, we_or, we_not, we_ite, we_ix, we_sl, we_rev, we_ixs, we_nes, we_lens, we_bi, we_isi, we_me, we_mu, we_call, we_comp, we_tupI, we_lstI, sa, sa1, sa2, wpF, wpD, wpV, wpT, wpA, wpO, wpAV, wpOV, startD, lockOf, outs, rv1, rv2, fz1, fz2, fz3, fz4, fa1, fa2, mv1, mv2, dt1, dt2, rg1, rg2, so1, so2, so3, so4, so5, lo1, lo2, lo5, wpI, lightAll, light, wipe, back, rng_len, enum_len, bindT, bindTs, peek, peeks, ats, wB1, wB2, wB3, setAll, bI1, bI2, bI3, bI4, bI5, bI6, bI7, bI8, bI9, bS1, bS2, bT1, bL1, bL2, bL3, bL4, bL5, bT2, cI1, cI2, cI3, cI4, cI5, cI6, cS1, cS2, cB1, cB2, cB3, tB1, tI1, tN1, tL1, xL1, xL2, xT1, xS1, xD1, lS1, lL1, lL2, lT1, qI, shaped_ints, coinsB, sl2]
      refine rpB ?_
      try simp [wpFn, wpS, we_v, rd1, rd2, rd3, we_k, we_gk, we_tup, we_lst, we_dct, we_bin, we_neg, we_cmp, we_ch, we_and, we_or, we_not, we_ite, we_ix, we_sl, we_rev, we_ixs, we_nes, we_lens, we_bi, we_isi, we_me, we_mu, we_call, we_comp, we_tupI, we_lstI, sa, sa1, sa2, wpF, wpD, wpV, wpT, wpA, wpO, wpAV, wpOV, startD, lockOf, outs, rv1, rv2, fz1, fz2, fz3, fz4, fa1, fa2, mv1, mv2, dt1, dt2, rg1, rg2, so1, so2, so3, so4, so5, lo1, lo2, lo5, wpI, lightAll, light, wipe, back, rng_len, enum_len, bindT, bindTs, peek, peeks, ats, wB1, wB2, wB3, setAll, bI1, bI2, bI3, bI4, bI5, bI6, bI7, bI8, bI9, bS1, bS2, bT1, bL1, bL2, bL3, bL4, bL5, bT2, cI1, cI2, cI3, cI4, cI5, cI6, cS1, cS2, cB1, cB2, cB3, tB1, tI1, tN1, tL1, xL1, xL2, xT1, xS1, xD1, lS1, lL1, lL2, lT1, qI, shaped_ints, sl1, sl2, rep2]
      refine rpB ?_
      try simp [wpFn, wpS, we_v, rd1, rd2, rd3, we_k, we_gk, we_tup, we_lst, we_dct, we_bin, we_neg, we_cmp, we_ch, we_and, we_or, we_not, we_ite, we_ix, we_sl, we_rev, we_ixs, we_nes, we_lens, we_bi, we_isi, we_me, we_mu, we_call, we_comp, we_tupI, we_lstI, sa, sa1, sa2, wpF, wpD, wpV, wpT, wpA, wpO, wpAV, wpOV, startD, lockOf, outs, rv1, rv2, fz1, fz2, fz3, fz4, fa1, fa2, mv1, mv2, dt1, dt2, rg1, rg2, so1, so2, so3, so4, so5, lo1, lo2, lo5, wpI, lightAll, light, wipe, back, rng_len, enum_len, bindT, bindTs, peek, peeks, ats, wB1, wB2, wB3, setAll, bI1, bI2, bI3, bI4, bI5, bI6, bI7, bI8, bI9, bS1, bS2, bT1, bL1, bL2, bL3, bL4, bL5, bT2, cI1, cI2, cI3, cI4, cI5, cI6, cS1, cS2, cB1, cB2, cB3, tB1, tI1, tN1, tL1, xL1, xL2, xT1, xS1, xD1, lS1, lL1, lL2, lT1, qI, shaped_ints]
      exact h m2 hm2
end Q.K01
set_option Elab.async false
set_option linter.all false
set_option maxRecDepth 100000
set_option maxHeartbeats 2000000
namespace Q.K01
open PySem PySem.Spec PyProof.Rows L2 Q
def letters : Str := Str.ofString "abcdefghijklmnopqrstuvwxyz"
def inL (c : Nat) : Bool := !(Builtin.Str.occurrences letters ⟨#[c]⟩ 0 letters.length 1).isEmpty
def nameB : PyData → Bool
  | .str z => decide (1 ≤ (z.length : Int)) && (decide ((z.length : Int) ≤ 8) && z.cps.toList.all inL)
  | _ => false
def sp_is_name : Spec := fun ms Kc _ => ∃ d, ms = [.p d] ∧ okD d ∧ Kc (.p (.bool (nameB d))) ms
theorem boolL_map : ∀ bs : List Bool, boolL (bs.map PyData.bool) = some bs
  | [] => rfl
  | b :: bs => by simp [boolL, boolL_map bs]
theorem allB {bs : List Bool} {K : M → Prop} : K (.p (.bool (bs.all id))) → biM .all [.l (bs.map .bool)] K := fun h => ⟨_, bs, rfl, boolL_map bs, h⟩
theorem h_is_name (ms : List M) (Kc : M → List M → Prop) (h : sp_is_name ms Kc (fun _ _ => False)) : wpFn [] N_is_name.length c_is_name ms Kc (fun _ _ => False) := by
  obtain ⟨d, rfl, ok, h⟩ := h
  cases d with
  | str z =>
    have hz := (ok z rfl).1
    have lz : z.length ≤ sizeLine := by have : sizeLine = 16777216 := sizeLine_eq; omega
    have l1 : z.cps.size ≤ sizeLine := lz
    simp [wpFn, wpS, we_v, rd1, rd2, rd3, we_k, we_gk, we_tup, we_lst, we_dct, we_bin, we_neg, we_cmp, we_ch, we_and, we_or, we_not, we_ite, we_ix, we_sl, we_rev, we_ixs, we_nes, we_lens, we_bi, we_isi, we_me, we_mu, we_call, we_comp, we_tupI, we_lstI, sa, sa1, sa2, wpF, wpD, wpV, wpT, wpA, wpO, wpAV, wpOV, startD, lockOf, outs, rv1, rv2, fz1, fz2, fz3, fz4, fa1, fa2, mv1, mv2, dt1, dt2, rg1, rg2, so1, so2, so3, so4, so5, lo1, lo2, lo5, wpI, lightAll, light, wipe, back, rng_len, enum_len, bindT, bindTs, peek, peeks, ats, wB1, wB2, wB3, setAll, bI1, bI2, bI3, bI4, bI5, bI6, bI7, bI8, bI9, bS1, bS2, bT1, bL1, bL2, bL3, bL4, bL5, bT2, cI1, cI2, cI3, cI4, cI5, cI6, cS1, cS2, cB1, cB2, cB3, tB1, tI1, tN1, tL1, xL1, xL2, xT1, xS1, xD1, lS1, lL1, lL2, lT1, qI, shaped_ints, c_is_name, N_is_name, isiM, isiS, M.kn, lz, l1]
    have key : ∀ Kd : List PyData → De → Prop, (∀ δ, Kd ((z.cps.toList.map inL).map .bool) δ) → compLoop [1] [] (fun x δ2 k => ∃ δ3, (1 < List.length δ2 ∧ List.set δ2 1 (some (M.p x)) = δ3) ∧ wpE [] (fun e δ => False) e1_is_name δ3 fun y δ5 => frz y δ5 fun d δ6 => k (some d) δ6)
          (List.map (fun c => PyData.str { cps := #[c] }) z.cps.toList) [some (M.p (PyData.str z)), none] Kd := by
      intro Kd hKd
      refine compLoop_inv (fun xs ds δ => ∃ (cs : List Nat) (bs : List Bool), xs = cs.map (fun c => PyData.str { cps := #[c] }) ∧ ds = bs.map .bool ∧ bs ++ cs.map inL = z.cps.toList.map inL ∧ δ = [some (M.p (.str z)), none]) ?_ _ [] _ _ ⟨z.cps.toList, [], rfl, rfl, rfl, rfl⟩ ?_
      · rintro x xs ds δ k ⟨cs, bs, e, rfl, eb, rfl⟩ hk
        cases cs with
        | nil => cases e
        | cons c cs =>
          cases e
          refine ⟨gdOk_nil, _, ⟨by simp, rfl⟩, ?_⟩
          simp [wpFn, wpS, we_v, rd1, rd2, rd3, we_k, we_gk, we_tup, we_lst, we_dct, we_bin, we_neg, we_cmp, we_ch, we_and, we_or, we_not, we_ite, we_ix, we_sl, we_rev, we_ixs, we_nes, we_lens, we_bi, we_isi, we_me, we_mu, we_call, we_comp, we_tupI, we_lstI, sa, sa1, sa2, wpF, wpD, wpV, wpT, wpA, wpO, wpAV, wpOV, startD, lockOf, outs, rv1, rv2, fz1, fz2, fz3, fz4, fa1, fa2, mv1, mv2, dt1, dt2, rg1, rg2, so1, so2, so3, so4, so5, lo1, lo2, lo5, wpI, lightAll, light, wipe, back, rng_len, enum_len, bindT, bindTs, peek, peeks, ats, wB1, wB2, wB3, setAll, bI1, bI2, bI3, bI4, bI5, bI6, bI7, bI8, bI9, bS1, bS2, bT1, bL1, bL2, bL3, bL4, bL5, bT2, cI1, cI2, cI3, cI4, cI5, cI6, cS1, cS2, cB1, cB2, cB3, tB1, tI1, tN1, tL1, xL1, xL2, xT1, xS1, xD1, lS1, lL1, lL2, lT1, qI, shaped_ints, e1_is_name, cS3]
          exact hk _ _ ⟨cs, bs ++ [inL c], rfl, by simp [inL, letters], by simpa using eb, by simp [wipe]⟩
      · rintro ds δ ⟨cs, bs, e, e2, eb, rfl⟩
        cases cs with
        | cons _ _ => cases e
        | nil =>
          simp at eb e2
          subst eb
          subst e2
          exact ⟨gdOk_nil, by simpa using hKd _⟩
    by_cases c1 : 1 ≤ (z.length : Int)
    · rw [if_pos c1]
      by_cases c2 : (z.length : Int) ≤ 8
      · refine .inr ⟨c2, key _ fun δ => allB ?_⟩
        have : nameB (.str z) = (z.cps.toList.map inL).all id := by
          simp only [nameB, decide_eq_true c1, decide_eq_true c2, Bool.true_and]
          rw [List.all_map]; rfl
        rw [← this]; exact h
      · refine .inl ⟨by omega, ?_⟩
        have : nameB (.str z) = false := by simp only [nameB, decide_eq_false c2, Bool.false_and, Bool.and_false]
        rw [← this]; exact h
    · rw [if_neg c1]
      have : nameB (.str z) = false := by simp only [nameB, decide_eq_false c1, Bool.false_and]
      rw [← this]; exact h
  | _ => simp [wpFn, wpS, we_v, rd1, rd2, rd3, we_k, we_gk, we_tup, we_lst, we_dct, we_bin, we_neg, we_cmp, we_ch, we_and, we_or, we_not, we_ite, we_ix, we_sl, we_rev, we_ixs, we_nes, we_lens, we_bi, we_isi, we_me, we_mu, we_call, we_comp, we_tupI, we_lstI, sa, sa1, sa2, wpF, wpD, wpV, wpT, wpA, wpO, wpAV, wpOV, startD, lockOf, outs, rv1, rv2, fz1, fz2, fz3, fz4, fa1, fa2, mv1, mv2, dt1, dt2, rg1, rg2, so1, so2, so3, so4, so5, lo1, lo2, lo5, wpI, lightAll, light, wipe, back, rng_len, enum_len, bindT, bindTs, peek, peeks, ats, wB1, wB2, wB3, setAll, bI1, bI2, bI3, bI4, bI5, bI6, bI7, bI8, bI9, bS1, bS2, bT1, bL1, bL2, bL3, bL4, bL5, bT2, cI1, cI2, cI3, cI4, cI5, cI6, cS1, cS2, cB1, cB2, cB3, tB1, tI1, tN1, tL1, xL1, xL2, xT1, xS1, xD1, lS1, lL1, lL2, lT1, qI, shaped_ints, c_is_name, N_is_name, isiM, isiS, M.kn, nameB] at h ⊢ <;> exact h
end Q.K01
set_option Elab.async false
set_option linter.all false
set_option maxRecDepth 100000
set_option maxHeartbeats 2000000
namespace Q.K01
open PySem PySem.Spec PyProof.Rows L2 Q
def seqD (d : PyData) : Prop := ∃ ds, d = .tuple ds ∨ d = .list ds
def sp__law_doubled : Spec := fun ms Kc _ => ∃ w : Int, ms = [.p (.int w)] ∧ 0 ≤ w ∧ w < 2 ∧ ∀ d, seqD d → Kc (.p d) ms
theorem h__law_doubled (ms : List M) (Kc : M → List M → Prop) (h : sp__law_doubled ms Kc (fun _ _ => False)) : wpFn [] N__law_doubled.length c__law_doubled ms Kc (fun _ _ => False) := by
  obtain ⟨w, rfl, w0, w1, h⟩ := h
  have l2 := sl2
  simp [wpFn, wpS, we_v, rd1, rd2, rd3, we_k, we_gk, we_tup, we_lst, we_dct, we_bin, we_neg, we_cmp, we_ch, we_and, we_or, we_not, we_ite, we_ix, we_sl, we_rev, we_ixs, we_nes, we_lens, we_bi, we_isi, we_me, we_mu, we_call, we_comp, we_tupI, we_lstI, sa, sa1, sa2, wpF, wpD, wpV, wpT, wpA, wpO, wpAV, wpOV, startD, lockOf, outs, rv1, rv2, fz1, fz2, fz3, fz4, fa1, fa2, mv1, mv2, dt1, dt2, rg1, rg2, so1, so2, so3, so4, so5, lo1, lo2, lo5, wpI, lightAll, light, wipe, back, rng_len, enum_len, bindT, bindTs, peek, peeks, ats, wB1, wB2, wB3, setAll, bI1, bI2, bI3, bI4, bI5, bI6, bI7, bI8, bI9, bS1, bS2, bT1, bL1, bL2, bL3, bL4, bL5, bT2, cI1, cI2, cI3, cI4, cI5, cI6, cS1, cS2, cB1, cB2, cB3, tB1, tI1, tN1, tL1, xL1, xL2, xT1, xS1, xD1, lS1, lL1, lL2, lT1, qI, shaped_ints, c__law_doubled, N__law_doubled]
  refine forLoop_inv (fun xs δ => ∃ d, seqD d ∧ ∃ b, δ = [some (.p (.int w)), some (.p d), b]) ?_ ?_ _ _ ⟨.tuple [], ⟨[], .inl rfl⟩, none, rfl⟩
  · rintro x xs δ N ⟨d, hd, b, rfl⟩ hN
    refine ⟨gdOk_nil, _, ⟨by simp, rfl⟩, ?_⟩
    have hw : w = 0 ∨ w = 1 := by omega
    rcases hw with rfl | rfl
    · have e : L2.atI [PyData.tuple [d, d], PyData.list [d, d]] 0 = some (.tuple [d, d]) := rfl
      simp [wpFn, wpS, we_v, rd1, rd2, rd3, we_k, we_gk, we_tup, we_lst, we_dct, we_bin, we_neg, we_cmp, we_ch, we_and, we_or, we_not, we_ite, we_ix, we_sl, we_rev, we_ixs, we_nes, we_lens, we_bi, we_isi, we_me, we_mu, we_call, we_comp, we_tupI, we_lstI, sa, sa1, sa2, wpF, wpD, wpV, wpT, wpA, wpO, wpAV, wpOV, startD, lockOf, outs, rv1, rv2, fz1, fz2, fz3, fz4, fa1, fa2, mv1, mv2, dt1, dt2, rg1, rg2, so1, so2, so3, so4, so5, lo1, lo2, lo5, wpI, lightAll, light, wipe, back, rng_len, enum_len, bindT, bindTs, peek, peeks, ats, wB1, wB2, wB3, setAll, bI1, bI2, bI3, bI4, bI5, bI6, bI7, bI8, bI9, bS1, bS2, bT1, bL1, bL2, bL3, bL4, bL5, bT2, cI1, cI2, cI3, cI4, cI5, cI6, cS1, cS2, cB1, cB2, cB3, tB1, tI1, tN1, tL1, xL1, xL2, xT1, xS1, xD1, lS1, lL1, lL2, lT1, qI, shaped_ints, b1__law_doubled, l2, e]
      exact hN _ ⟨_, ⟨_, .inl rfl⟩, _, rfl⟩
    · have e : L2.atI [PyData.tuple [d, d], PyData.list [d, d]] 1 = some (.list [d, d]) := rfl
      simp [wpFn, wpS, we_v, rd1, rd2, rd3, we_k, we_gk, we_tup, we_lst, we_dct, we_bin, we_neg, we_cmp, we_ch, we_and, we_or, we_not, we_ite, we_ix, we_sl, we_rev, we_ixs, we_nes, we_lens, we_bi, we_isi, we_me, we_mu, we_call, we_comp, we_tupI, we_lstI, sa, sa1, sa2, wpF, wpD, wpV, wpT, wpA, wpO, wpAV, wpOV, startD, lockOf, outs, rv1, rv2, fz1, fz2, fz3, fz4, fa1, fa2, mv1, mv2, dt1, dt2, rg1, rg2, so1, so2, so3, so4, so5, lo1, lo2, lo5, wpI, lightAll, light, wipe, back, rng_len, enum_len, bindT, bindTs, peek, peeks, ats, wB1, wB2, wB3, setAll, bI1, bI2, bI3, bI4, bI5, bI6, bI7, bI8, bI9, bS1, bS2, bT1, bL1, bL2, bL3, bL4, bL5, bT2, cI1, cI2, cI3, cI4, cI5, cI6, cS1, cS2, cB1, cB2, cB3, tB1, tI1, tN1, tL1, xL1, xL2, xT1, xS1, xD1, lS1, lL1, lL2, lT1, qI, shaped_ints, b1__law_doubled, l2, e]
      exact hN _ ⟨_, ⟨_, .inr rfl⟩, _, rfl⟩
  · rintro δ ⟨d, hd, b, rfl⟩
    refine ⟨gdOk_nil, ?_⟩
    simp [wpFn, wpS, we_v, rd1, rd2, rd3, we_k, we_gk, we_tup, we_lst, we_dct, we_bin, we_neg, we_cmp, we_ch, we_and, we_or, we_not, we_ite, we_ix, we_sl, we_rev, we_ixs, we_nes, we_lens, we_bi, we_isi, we_me, we_mu, we_call, we_comp, we_tupI, we_lstI, sa, sa1, sa2, wpF, wpD, wpV, wpT, wpA, wpO, wpAV, wpOV, startD, lockOf, outs, rv1, rv2, fz1, fz2, fz3, fz4, fa1, fa2, mv1, mv2, dt1, dt2, rg1, rg2, so1, so2, so3, so4, so5, lo1, lo2, lo5, wpI, lightAll, light, wipe, back, rng_len, enum_len, bindT, bindTs, peek, peeks, ats, wB1, wB2, wB3, setAll, bI1, bI2, bI3, bI4, bI5, bI6, bI7, bI8, bI9, bS1, bS2, bT1, bL1, bL2, bL3, bL4, bL5, bT2, cI1, cI2, cI3, cI4, cI5, cI6, cS1, cS2, cB1, cB2, cB3, tB1, tI1, tN1, tL1, xL1, xL2, xT1, xS1, xD1, lS1, lL1, lL2, lT1, qI, shaped_ints]
    exact h d hd
theorem canLay_strs : ∀ ns : List Str, (∀ n ∈ ns, PyData.strOk n = true) → PyData.canLayAll0 (ns.map PyData.str) = true
  | [], _ => by simp [PyData.canLayAll0]
  | n :: ns, h => by simp [PyData.canLayAll0, PyData.canLay0, canLay_strs ns fun m hm => h m (List.mem_cons_of_mem _ hm), h n (List.mem_cons_self ..)]
theorem depth_strs : ∀ ns : List Str, PyData.depthAll (ns.map PyData.str) ≤ 1
  | [] => by simp [PyData.depthAll]
  | n :: ns => by simp [PyData.depthAll, PyData.depth, depth_strs ns]
theorem shaped_strs (ns : List Str) (h : ∀ n ∈ ns, PyData.strOk n = true) : SeqAt.shaped (.list (ns.map PyData.str)) = true := by
  simp only [SeqAt.shaped, PyData.canLay0, PyData.depth, canLay_strs ns h, Bool.and_eq_true, decide_eq_true_eq, true_and]
  have := depth_strs ns
  exact decide_eq_true (by omega)
theorem eqNil {ds : List PyData} {K : Bool → Prop} (hs : SeqAt.shaped (.list ds) = true) (h : K ds.isEmpty) : cmpM .eq (.l ds) (.l []) K := by
  refine ⟨.list ds, .list [], rfl, rfl, hs, rfl, ?_⟩
  rw [eqv_nil]
  exact h
theorem none_left {cs : List Nat} : (cs.filter fun c => !inL c).isEmpty = cs.all inL := by
  induction cs with
  | nil => rfl
  | cons c cs ih =>
    rw [List.filter_cons, List.all_cons, ← ih]
    cases inL c <;> simp
def sp__law_right : Spec := fun ms Kc _ => ∃ m s d, ms = [.dc m, .p d] ∧ okD d ∧ mOk s m ∧ s < 2 ^ 27 ∧ ∀ m', mOk (s + 8) m' → Kc (.p (.bool true)) [.dc m', .p d]
abbrev Γr : List Spec := [sp_is_number, kwSp 0 1 gR sp_is_number, sp__law_bounds_right, sp_is_name, kwSp 0 1 gR sp_is_name]
theorem h__law_right (ms : List M) (Kc : M → List M → Prop) (h : sp__law_right ms Kc (fun _ _ => False)) : wpFn Γr N__law_right.length c__law_right ms Kc (fun _ _ => False) := by
  obtain ⟨m, s, d, rfl, ok, hm, hs, h⟩ := h
  cases d with
  | str z =>
    have hz := (ok z rfl).1
    have lz : z.length ≤ sizeLine := by have : sizeLine = 16777216 := sizeLine_eq; omega
    simp [wpFn, wpS, we_v, rd1, rd2, rd3, we_k, we_gk, we_tup, we_lst, we_dct, we_bin, we_neg, we_cmp, we_ch, we_and, we_or, we_not, we_ite, we_ix, we_sl, we_rev, we_ixs, we_nes, we_lens, we_bi, we_isi, we_me, we_mu, we_call, we_comp, we_tupI, we_lstI, sa, sa1, sa2, wpF, wpD, wpV, wpT, wpA, wpO, wpAV, wpOV, startD, lockOf, outs, rv1, rv2, fz1, fz2, fz3, fz4, fa1, fa2, mv1, mv2, dt1, dt2, rg1, rg2, so1, so2, so3, so4, so5, lo1, lo2, lo5, wpI, lightAll, light, wipe, back, rng_len, enum_len, bindT, bindTs, peek, peeks, ats, wB1, wB2, wB3, setAll, bI1, bI2, bI3, bI4, bI5, bI6, bI7, bI8, bI9, bS1, bS2, bT1, bL1, bL2, bL3, bL4, bL5, bT2, cI1, cI2, cI3, cI4, cI5, cI6, cS1, cS2, cB1, cB2, cB3, tB1, tI1, tN1, tL1, xL1, xL2, xT1, xS1, xD1, lS1, lL1, lL2, lT1, qI, shaped_ints, c__law_right, N__law_right, isiM, isiS, M.kn, rep2, sl1]
    refine ⟨_, rfl, ?_⟩
    try simp [wpFn, wpS, we_v, rd1, rd2, rd3, we_k, we_gk, we_tup, we_lst, we_dct, we_bin, we_neg, we_cmp, we_ch, we_and, we_or, we_not, we_ite, we_ix, we_sl, we_rev, we_ixs, we_nes, we_lens, we_bi, we_isi, we_me, we_mu, we_call, we_comp, we_tupI, we_lstI, sa, sa1, sa2, wpF, wpD, wpV, wpT, wpA, wpO, wpAV, wpOV, startD, lockOf, outs, rv1, rv2, fz1, fz2, fz3, fz4, fa1, fa2, mv1, mv2, dt1, dt2, rg1, rg2, so1, so2, so3, so4, so5, lo1, lo2, lo5, wpI, lightAll, light, wipe, back, rng_len, enum_len, bindT, bindTs, peek, peeks, ats, wB1, wB2, wB3, setAll, bI1, bI2, bI3, bI4, bI5, bI6, bI7, bI8, bI9, bS1, bS2, bT1, bL1, bL2, bL3, bL4, bL5, bT2, cI1, cI2, cI3, cI4, cI5, cI6, cS1, cS2, cB1, cB2, cB3, tB1, tI1, tN1, tL1, xL1, xL2, xT1, xS1, xD1, lS1, lL1, lL2, lT1, qI, shaped_ints, isInt]
    refine kw2 ⟨_, rfl, ?_⟩
    try simp [wpFn, wpS, we_v, rd1, rd2, rd3, we_k, we_gk, we_tup, we_lst, we_dct, we_bin, we_neg, we_cmp, we_ch, we_and, we_or, we_not, we_ite, we_ix, we_sl, we_rev, we_ixs, we_nes, we_lens, we_bi, we_isi, we_me, we_mu, we_call, we_comp, we_tupI, we_lstI, sa, sa1, sa2, wpF, wpD, wpV, wpT, wpA, wpO, wpAV, wpOV, startD, lockOf, outs, rv1, rv2, fz1, fz2, fz3, fz4, fa1, fa2, mv1, mv2, dt1, dt2, rg1, rg2, so1, so2, so3, so4, so5, lo1, lo2, lo5, wpI, lightAll, light, wipe, back, rng_len, enum_len, bindT, bindTs, peek, peeks, ats, wB1, wB2, wB3, setAll, bI1, bI2, bI3, bI4, bI5, bI6, bI7, bI8, bI9, bS1, bS2, bT1, bL1, bL2, bL3, bL4, bL5, bT2, cI1, cI2, cI3, cI4, cI5, cI6, cS1, cS2, cB1, cB2, cB3, tB1, tI1, tN1, tL1, xL1, xL2, xT1, xS1, xD1, lS1, lL1, lL2, lT1, qI, shaped_ints, isInt, sl2]
    refine rpB ?_
    try simp [wpFn, wpS, we_v, rd1, rd2, rd3, we_k, we_gk, we_tup, we_lst, we_dct, we_bin, we_neg, we_cmp, we_ch, we_and, we_or, we_not, we_ite, we_ix, we_sl, we_rev, we_ixs, we_nes, we_lens, we_bi, we_isi, we_me, we_mu, we_call, we_comp, we_tupI, we_lstI, sa, sa1, sa2, wpF, wpD, wpV, wpT, wpA, wpO, wpAV, wpOV, startD, lockOf, outs, rv1, rv2, fz1, fz2, fz3, fz4, fa1, fa2, mv1, mv2, dt1, dt2, rg1, rg2, so1, so2, so3, so4, so5, lo1, lo2, lo5, wpI, lightAll, light, wipe, back, rng_len, enum_len, bindT, bindTs, peek, peeks, ats, wB1, wB2, wB3, setAll, bI1, bI2, bI3, bI4, bI5, bI6, bI7, bI8, bI9, bS1, bS2, bT1, bL1, bL2, bL3, bL4, bL5, bT2, cI1, cI2, cI3, cI4, cI5, cI6, cS1, cS2, cB1, cB2, cB3, tB1, tI1, tN1, tL1, xL1, xL2, xT1, xS1, xD1, lS1, lL1, lL2, lT1, qI, shaped_ints]
    refine rpB ?_
    try simp [wpFn, wpS, we_v, rd1, rd2, rd3, we_k, we_gk, we_tup, we_lst, we_dct, we_bin, we_neg, we_cmp, we_ch, we_and, we_or, we_not, we_ite, we_ix, we_sl, we_rev, we_ixs, we_nes, we_lens, we_bi, we_isi, we_me, we_mu, we_call, we_comp, we_tupI, we_lstI, sa, sa1, sa2, wpF, wpD, wpV, wpT, wpA, wpO, wpAV, wpOV, startD, lockOf, outs, rv1, rv2, fz1, fz2, fz3, fz4, fa1, fa2, mv1, mv2, dt1, dt2, rg1, rg2, so1, so2, so3, so4, so5, lo1, lo2, lo5, wpI, lightAll, light, wipe, back, rng_len, enum_len, bindT, bindTs, peek, peeks, ats, wB1, wB2, wB3, setAll, bI1, bI2, bI3, bI4, bI5, bI6, bI7, bI8, bI9, bS1, bS2, bT1, bL1, bL2, bL3, bL4, bL5, bT2, cI1, cI2, cI3, cI4, cI5, cI6, cS1, cS2, cB1, cB2, cB3, tB1, tI1, tN1, tL1, xL1, xL2, xT1, xS1, xD1, lS1, lL1, lL2, lT1, qI, shaped_ints]
    refine ⟨m, s, _, rfl, hm, by omega, fun m' hm' => ?_⟩
    try simp [wpFn, wpS, we_v, rd1, rd2, rd3, we_k, we_gk, we_tup, we_lst, we_dct, we_bin, we_neg, we_cmp, we_ch, we_and, we_or, we_not, we_ite, we_ix, we_sl, we_rev, we_ixs, we_nes, we_lens, we_bi, we_isi, we_me, we_mu, we_call, we_comp, we_tupI, we_lstI, sa, sa1, sa2, wpF, wpD, wpV, wpT, wpA, wpO, wpAV, wpOV, startD, lockOf, outs, rv1, rv2, fz1, fz2, fz3, fz4, fa1, fa2, mv1, mv2, dt1, dt2, rg1, rg2, so1, so2, so3, so4, so5, lo1, lo2, lo5, wpI, lightAll, light, wipe, back, rng_len, enum_len, bindT, bindTs, peek, peeks, ats, wB1, wB2, wB3, setAll, bI1, bI2, bI3, bI4, bI5, bI6, bI7, bI8, bI9, bS1, bS2, bT1, bL1, bL2, bL3, bL4, bL5, bT2, cI1, cI2, cI3, cI4, cI5, cI6, cS1, cS2, cB1, cB2, cB3, tB1, tI1, tN1, tL1, xL1, xL2, xT1, xS1, xD1, lS1, lL1, lL2, lT1, qI, shaped_ints, isiM, isiS, M.kn, rep2, sl1, sl2, lz]
    by_cases c1 : 0 < z.length
    · rw [if_pos c1]
      by_cases c2 : (z.length : Int) < 9
      · refine .inr ⟨c2, lz, ?_⟩
        refine compLoop_inv (fun xs ds δ => ∃ (cs : List Nat) (ys : List Nat), xs = cs.map (fun c => PyData.str { cps := #[c] }) ∧ ds = (ys.map (fun c => (⟨#[c]⟩ : Str))).map PyData.str ∧ ys ++ cs.filter (fun c => !inL c) = z.cps.toList.filter (fun c => !inL c) ∧ δ = [some (.dc m'), some (.p (.str z)), some (.p (.bool false)), some (.p (.str letters)), none, none]) ?_ _ [] _ _ ⟨z.cps.toList, [], rfl, rfl, rfl, rfl⟩ ?_
        · rintro x xs ds δ k ⟨cs, ys, e, rfl, eb, rfl⟩ hk
          cases cs with
          | nil => cases e
          | cons c cs =>
            cases e
            refine ⟨gdOk_nil, _, ⟨by simp, rfl⟩, ?_⟩
            cases hc : inL c with
            | true =>
              have hc' := hc
              unfold inL at hc'
              simp [wpFn, wpS, we_v, rd1, rd2, rd3, we_k, we_gk, we_tup, we_lst, we_dct, we_bin, we_neg, we_cmp, we_ch, we_and, we_or, we_not, we_ite, we_ix, we_sl, we_rev, we_ixs, we_nes, we_lens, we_bi, we_isi, we_me, we_mu, we_call, we_comp, we_tupI, we_lstI, sa, sa1, sa2, wpF, wpD, wpV, wpT, wpA, wpO, wpAV, wpOV, startD, lockOf, outs, rv1, rv2, fz1, fz2, fz3, fz4, fa1, fa2, mv1, mv2, dt1, dt2, rg1, rg2, so1, so2, so3, so4, so5, lo1, lo2, lo5, wpI, lightAll, light, wipe, back, rng_len, enum_len, bindT, bindTs, peek, peeks, ats, wB1, wB2, wB3, setAll, bI1, bI2, bI3, bI4, bI5, bI6, bI7, bI8, bI9, bS1, bS2, bT1, bL1, bL2, bL3, bL4, bL5, bT2, cI1, cI2, cI3, cI4, cI5, cI6, cS1, cS2, cB1, cB2, cB3, tB1, tI1, tN1, tL1, xL1, xL2, xT1, xS1, xD1, lS1, lL1, lL2, lT1, qI, shaped_ints, i1__law_right, e2__law_right, cS4] at hc' ⊢
              simp [hc']
              exact hk none _ ⟨cs, ys, rfl, by simp, by simpa [List.filter_cons, hc] using eb, by simp [wipe]⟩
            | false =>
              have hc' := hc
              unfold inL at hc'
              simp [wpFn, wpS, we_v, rd1, rd2, rd3, we_k, we_gk, we_tup, we_lst, we_dct, we_bin, we_neg, we_cmp, we_ch, we_and, we_or, we_not, we_ite, we_ix, we_sl, we_rev, we_ixs, we_nes, we_lens, we_bi, we_isi, we_me, we_mu, we_call, we_comp, we_tupI, we_lstI, sa, sa1, sa2, wpF, wpD, wpV, wpT, wpA, wpO, wpAV, wpOV, startD, lockOf, outs, rv1, rv2, fz1, fz2, fz3, fz4, fa1, fa2, mv1, mv2, dt1, dt2, rg1, rg2, so1, so2, so3, so4, so5, lo1, lo2, lo5, wpI, lightAll, light, wipe, back, rng_len, enum_len, bindT, bindTs, peek, peeks, ats, wB1, wB2, wB3, setAll, bI1, bI2, bI3, bI4, bI5, bI6, bI7, bI8, bI9, bS1, bS2, bT1, bL1, bL2, bL3, bL4, bL5, bT2, cI1, cI2, cI3, cI4, cI5, cI6, cS1, cS2, cB1, cB2, cB3, tB1, tI1, tN1, tL1, xL1, xL2, xT1, xS1, xD1, lS1, lL1, lL2, lT1, qI, shaped_ints, i1__law_right, e2__law_right, cS4] at hc' ⊢
              simp [hc']
              exact hk _ _ ⟨cs, ys ++ [c], rfl, by simp, by simpa [List.filter_cons, hc] using eb, by simp [wipe]⟩
        rintro ds δ ⟨cs, ys, e, e2, eb, rfl⟩
        cases cs with
        | cons _ _ => cases e
        | nil =>
          simp only [List.nil_append, List.filter_nil, List.append_nil] at eb e2
          subst eb e2
          refine ⟨gdOk_nil, ?_⟩
          have hb : nameB (.str z) = (z.cps.toList.filter (fun c => !inL c)).isEmpty := by
            rw [none_left]
            simp only [nameB, decide_eq_true (show 1 ≤ (z.length : Int) by omega), decide_eq_true (show (z.length : Int) ≤ 8 by omega), Bool.true_and]
          refine eqNil (shaped_strs _ fun n hn => ?_) ?_
          · obtain ⟨c, hcm, rfl⟩ := List.mem_map.mp hn
            have := (ok z rfl).2 c (List.mem_filter.mp hcm).1
            simp [PyData.strOk]
            omega
          have he : ∀ cs : List Nat, (List.map PyData.str (List.map (fun c => (⟨#[c]⟩ : Str)) cs)).isEmpty = cs.isEmpty := fun cs => by cases cs <;> rfl
          rw [he, ← hb]
          try simp [wpFn, wpS, we_v, rd1, rd2, rd3, we_k, we_gk, we_tup, we_lst, we_dct, we_bin, we_neg, we_cmp, we_ch, we_and, we_or, we_not, we_ite, we_ix, we_sl, we_rev, we_ixs, we_nes, we_lens, we_bi, we_isi, we_me, we_mu, we_call, we_comp, we_tupI, we_lstI, sa, sa1, sa2, wpF, wpD, wpV, wpT, wpA, wpO, wpAV, wpOV, startD, lockOf, outs, rv1, rv2, fz1, fz2, fz3, fz4, fa1, fa2, mv1, mv2, dt1, dt2, rg1, rg2, so1, so2, so3, so4, so5, lo1, lo2, lo5, wpI, lightAll, light, wipe, back, rng_len, enum_len, bindT, bindTs, peek, peeks, ats, wB1, wB2, wB3, setAll, bI1, bI2, bI3, bI4, bI5, bI6, bI7, bI8, bI9, bS1, bS2, bT1, bL1, bL2, bL3, bL4, bL5, bT2, cI1, cI2, cI3, cI4, cI5, cI6, cS1, cS2, cB1, cB2, cB3, tB1, tI1, tN1, tL1, xL1, xL2, xT1, xS1, xD1, lS1, lL1, lL2, lT1, qI, shaped_ints]
          refine ⟨_, rfl, ok, ?_⟩
          try simp [wpFn, wpS, we_v, rd1, rd2, rd3, we_k, we_gk, we_tup, we_lst, we_dct, we_bin, we_neg, we_cmp, we_ch, we_and, we_or, we_not, we_ite, we_ix, we_sl, we_rev, we_ixs, we_nes, we_lens, we_bi, we_isi, we_me, we_mu, we_call, we_comp, we_tupI, we_lstI, sa, sa1, sa2, wpF, wpD, wpV, wpT, wpA, wpO, wpAV, wpOV, startD, lockOf, outs, rv1, rv2, fz1, fz2, fz3, fz4, fa1, fa2, mv1, mv2, dt1, dt2, rg1, rg2, so1, so2, so3, so4, so5, lo1, lo2, lo5, wpI, lightAll, light, wipe, back, rng_len, enum_len, bindT, bindTs, peek, peeks, ats, wB1, wB2, wB3, setAll, bI1, bI2, bI3, bI4, bI5, bI6, bI7, bI8, bI9, bS1, bS2, bT1, bL1, bL2, bL3, bL4, bL5, bT2, cI1, cI2, cI3, cI4, cI5, cI6, cS1, cS2, cB1, cB2, cB3, tB1, tI1, tN1, tL1, xL1, xL2, xT1, xS1, xD1, lS1, lL1, lL2, lT1, qI, shaped_ints]
          refine kw2 ⟨_, rfl, ok, ?_⟩
          try simp [wpFn, wpS, we_v, rd1, rd2, rd3, we_k, we_gk, we_tup, we_lst, we_dct, we_bin, we_neg, we_cmp, we_ch, we_and, we_or, we_not, we_ite, we_ix, we_sl, we_rev, we_ixs, we_nes, we_lens, we_bi, we_isi, we_me, we_mu, we_call, we_comp, we_tupI, we_lstI, sa, sa1, sa2, wpF, wpD, wpV, wpT, wpA, wpO, wpAV, wpOV, startD, lockOf, outs, rv1, rv2, fz1, fz2, fz3, fz4, fa1, fa2, mv1, mv2, dt1, dt2, rg1, rg2, so1, so2, so3, so4, so5, lo1, lo2, lo5, wpI, lightAll, light, wipe, back, rng_len, enum_len, bindT, bindTs, peek, peeks, ats, wB1, wB2, wB3, setAll, bI1, bI2, bI3, bI4, bI5, bI6, bI7, bI8, bI9, bS1, bS2, bT1, bL1, bL2, bL3, bL4, bL5, bT2, cI1, cI2, cI3, cI4, cI5, cI6, cS1, cS2, cB1, cB2, cB3, tB1, tI1, tN1, tL1, xL1, xL2, xT1, xS1, xD1, lS1, lL1, lL2, lT1, qI, shaped_ints, sl2, sl1, rep2]
          refine rpB ?_
          try simp [wpFn, wpS, we_v, rd1, rd2, rd3, we_k, we_gk, we_tup, we_lst, we_dct, we_bin, we_neg, we_cmp, we_ch, we_and, we_or, we_not, we_ite, we_ix, we_sl, we_rev, we_ixs, we_nes, we_lens, we_bi, we_isi, we_me, we_mu, we_call, we_comp, we_tupI, we_lstI, sa, sa1, sa2, wpF, wpD, wpV, wpT, wpA, wpO, wpAV, wpOV, startD, lockOf, outs, rv1, rv2, fz1, fz2, fz3, fz4, fa1, fa2, mv1, mv2, dt1, dt2, rg1, rg2, so1, so2, so3, so4, so5, lo1, lo2, lo5, wpI, lightAll, light, wipe, back, rng_len, enum_len, bindT, bindTs, peek, peeks, ats, wB1, wB2, wB3, setAll, bI1, bI2, bI3, bI4, bI5, bI6, bI7, bI8, bI9, bS1, bS2, bT1, bL1, bL2, bL3, bL4, bL5, bT2, cI1, cI2, cI3, cI4, cI5, cI6, cS1, cS2, cB1, cB2, cB3, tB1, tI1, tN1, tL1, xL1, xL2, xT1, xS1, xD1, lS1, lL1, lL2, lT1, qI, shaped_ints]
          refine rpB ?_
          try simp [wpFn, wpS, we_v, rd1, rd2, rd3, we_k, we_gk, we_tup, we_lst, we_dct, we_bin, we_neg, we_cmp, we_ch, we_and, we_or, we_not, we_ite, we_ix, we_sl, we_rev, we_ixs, we_nes, we_lens, we_bi, we_isi, we_me, we_mu, we_call, we_comp, we_tupI, we_lstI, sa, sa1, sa2, wpF, wpD, wpV, wpT, wpA, wpO, wpAV, wpOV, startD, lockOf, outs, rv1, rv2, fz1, fz2, fz3, fz4, fa1, fa2, mv1, mv2, dt1, dt2, rg1, rg2, so1, so2, so3, so4, so5, lo1, lo2, lo5, wpI, lightAll, light, wipe, back, rng_len, enum_len, bindT, bindTs, peek, peeks, ats, wB1, wB2, wB3, setAll, bI1, bI2, bI3, bI4, bI5, bI6, bI7, bI8, bI9, bS1, bS2, bT1, bL1, bL2, bL3, bL4, bL5, bT2, cI1, cI2, cI3, cI4, cI5, cI6, cS1, cS2, cB1, cB2, cB3, tB1, tI1, tN1, tL1, xL1, xL2, xT1, xS1, xD1, lS1, lL1, lL2, lT1, qI, shaped_ints]
          exact h m' hm'
      · refine .inl ⟨by omega, ?_⟩
        have hb : nameB (.str z) = false := by simp only [nameB, decide_eq_false (show ¬ (z.length : Int) ≤ 8 by omega), Bool.false_and, Bool.and_false]
        refine ⟨_, rfl, ok, ?_⟩
        try simp [wpFn, wpS, we_v, rd1, rd2, rd3, we_k, we_gk, we_tup, we_lst, we_dct, we_bin, we_neg, we_cmp, we_ch, we_and, we_or, we_not, we_ite, we_ix, we_sl, we_rev, we_ixs, we_nes, we_lens, we_bi, we_isi, we_me, we_mu, we_call, we_comp, we_tupI, we_lstI, sa, sa1, sa2, wpF, wpD, wpV, wpT, wpA, wpO, wpAV, wpOV, startD, lockOf, outs, rv1, rv2, fz1, fz2, fz3, fz4, fa1, fa2, mv1, mv2, dt1, dt2, rg1, rg2, so1, so2, so3, so4, so5, lo1, lo2, lo5, wpI, lightAll, light, wipe, back, rng_len, enum_len, bindT, bindTs, peek, peeks, ats, wB1, wB2, wB3, setAll, bI1, bI2, bI3, bI4, bI5, bI6, bI7, bI8, bI9, bS1, bS2, bT1, bL1, bL2, bL3, bL4, bL5, bT2, cI1, cI2, cI3, cI4, cI5, cI6, cS1, cS2, cB1, cB2, cB3, tB1, tI1, tN1, tL1, xL1, xL2, xT1, xS1, xD1, lS1, lL1, lL2, lT1, qI, shaped_ints, hb]
        refine kw2 ⟨_, rfl, ok, ?_⟩
        try simp [wpFn, wpS, we_v, rd1, rd2, rd3, we_k, we_gk, we_tup, we_lst, we_dct, we_bin, we_neg, we_cmp, we_ch, we_and, we_or, we_not, we_ite, we_ix, we_sl, we_rev, we_ixs, we_nes, we_lens, we_bi, we_isi, we_me, we_mu, we_call, we_comp, we_tupI, we_lstI, sa, sa1, sa2, wpF, wpD, wpV, wpT, wpA, wpO, wpAV, wpOV, startD, lockOf, outs, rv1, rv2, fz1, fz2, fz3, fz4, fa1, fa2, mv1, mv2, dt1, dt2, rg1, rg2, so1, so2, so3, so4, so5, lo1, lo2, lo5, wpI, lightAll, light, wipe, back, rng_len, enum_len, bindT, bindTs, peek, peeks, ats, wB1, wB2, wB3, setAll, bI1, bI2, bI3, bI4, bI5, bI6, bI7, bI8, bI9, bS1, bS2, bT1, bL1, bL2, bL3, bL4, bL5, bT2, cI1, cI2, cI3, cI4, cI5, cI6, cS1, cS2, cB1, cB2, cB3, tB1, tI1, tN1, tL1, xL1, xL2, xT1, xS1, xD1, lS1, lL1, lL2, lT1, qI, shaped_ints, hb, sl2, sl1, rep2]
        refine rpB ?_
        try simp [wpFn, wpS, we_v, rd1, rd2, rd3, we_k, we_gk, we_tup, we_lst, we_dct, we_bin, we_neg, we_cmp, we_ch, we_and, we_or, we_not, we_ite, we_ix, we_sl, we_rev, we_ixs, we_nes, we_lens, we_bi, we_isi, we_me, we_mu, we_call, we_comp, we_tupI, we_lstI, sa, sa1, sa2, wpF, wpD, wpV, wpT, wpA, wpO, wpAV, wpOV, startD, lockOf, outs, rv1, rv2, fz1, fz2, fz3, fz4, fa1, fa2, mv1, mv2, dt1, dt2, rg1, rg2, so1, so2, so3, so4, so5, lo1, lo2, lo5, wpI, lightAll, light, wipe, back, rng_len, enum_len, bindT, bindTs, peek, peeks, ats, wB1, wB2, wB3, setAll, bI1, bI2, bI3, bI4, bI5, bI6, bI7, bI8, bI9, bS1, bS2, bT1, bL1, bL2, bL3, bL4, bL5, bT2, cI1, cI2, cI3, cI4, cI5, cI6, cS1, cS2, cB1, cB2, cB3, tB1, tI1, tN1, tL1, xL1, xL2, xT1, xS1, xD1, lS1, lL1, lL2, lT1, qI, shaped_ints, hb]
        refine rpB ?_
        try simp [wpFn, wpS, we_v, rd1, rd2, rd3, we_k, we_gk, we_tup, we_lst, we_dct, we_bin, we_neg, we_cmp, we_ch, we_and, we_or, we_not, we_ite, we_ix, we_sl, we_rev, we_ixs, we_nes, we_lens, we_bi, we_isi, we_me, we_mu, we_call, we_comp, we_tupI, we_lstI, sa, sa1, sa2, wpF, wpD, wpV, wpT, wpA, wpO, wpAV, wpOV, startD, lockOf, outs, rv1, rv2, fz1, fz2, fz3, fz4, fa1, fa2, mv1, mv2, dt1, dt2, rg1, rg2, so1, so2, so3, so4, so5, lo1, lo2, lo5, wpI, lightAll, light, wipe, back, rng_len, enum_len, bindT, bindTs, peek, peeks, ats, wB1, wB2, wB3, setAll, bI1, bI2, bI3, bI4, bI5, bI6, bI7, bI8, bI9, bS1, bS2, bT1, bL1, bL2, bL3, bL4, bL5, bT2, cI1, cI2, cI3, cI4, cI5, cI6, cS1, cS2, cB1, cB2, cB3, tB1, tI1, tN1, tL1, xL1, xL2, xT1, xS1, xD1, lS1, lL1, lL2, lT1, qI, shaped_ints, hb]
        exact h m' hm'
    · rw [if_neg c1]
      have hb : nameB (.str z) = false := by simp only [nameB, decide_eq_false (show ¬ 1 ≤ (z.length : Int) by omega), Bool.false_and]
      refine ⟨_, rfl, ok, ?_⟩
      try simp [wpFn, wpS, we_v, rd1, rd2, rd3, we_k, we_gk, we_tup, we_lst, we_dct, we_bin, we_neg, we_cmp, we_ch, we_and, we_or, we_not, we_ite, we_ix, we_sl, we_rev, we_ixs, we_nes, we_lens, we_bi, we_isi, we_me, we_mu, we_call, we_comp, we_tupI, we_lstI, sa, sa1, sa2, wpF, wpD, wpV, wpT, wpA, wpO, wpAV, wpOV, startD, lockOf, outs, rv1, rv2, fz1, fz2, fz3, fz4, fa1, fa2, mv1, mv2, dt1, dt2, rg1, rg2, so1, so2, so3, so4, so5, lo1, lo2, lo5, wpI, lightAll, light, wipe, back, rng_len, enum_len, bindT, bindTs, peek, peeks, ats, wB1, wB2, wB3, setAll, bI1, bI2, bI3, bI4, bI5, bI6, bI7, bI8, bI9, bS1, bS2, bT1, bL1, bL2, bL3, bL4, bL5, bT2, cI1, cI2, cI3, cI4, cI5, cI6, cS1, cS2, cB1, cB2, cB3, tB1, tI1, tN1, tL1, xL1, xL2, xT1, xS1, xD1, lS1, lL1, lL2, lT1, qI, shaped_ints, hb]
      refine kw2 ⟨_, rfl, ok, ?_⟩
      try simp [wpFn, wpS, we_v, rd1, rd2, rd3, we_k, we_gk, we_tup, we_lst, we_dct, we_bin, we_neg, we_cmp, we_ch, we_and, we_or, we_not, we_ite, we_ix, we_sl, we_rev, we_ixs, we_nes, we_lens, we_bi, we_isi, we_me, we_mu, we_call, we_comp, we_tupI, we_lstI, sa, sa1, sa2, wpF, wpD, wpV, wpT, wpA, wpO, wpAV, wpOV, startD, lockOf, outs, rv1, rv2, fz1, fz2, fz3, fz4, fa1, fa2, mv1, mv2, dt1, dt2, rg1, rg2, so1, so2, so3, so4, so5, lo1, lo2, lo5, wpI, lightAll, light, wipe, back, rng_len, enum_len, bindT, bindTs, peek, peeks, ats, wB1, wB2, wB3, setAll, bI1, bI2, bI3, bI4, bI5, bI6, bI7, bI8, bI9, bS1, bS2, bT1, bL1, bL2, bL3, bL4, bL5, bT2, cI1, cI2, cI3, cI4, cI5, cI6, cS1, cS2, cB1, cB2, cB3, tB1, tI1, tN1, tL1, xL1, xL2, xT1, xS1, xD1, lS1, lL1, lL2, lT1, qI, shaped_ints, hb, sl2, sl1, rep2]
      refine rpB ?_
      try simp [wpFn, wpS, we_v, rd1, rd2, rd3, we_k, we_gk, we_tup, we_lst, we_dct, we_bin, we_neg, we_cmp, we_ch, we_and, we_or, we_not, we_ite, we_ix, we_sl, we_rev, we_ixs, we_nes, we_lens, we_bi, we_isi, we_me, we_mu, we_call, we_comp, we_tupI, we_lstI, sa, sa1, sa2, wpF, wpD, wpV, wpT, wpA, wpO, wpAV, wpOV, startD, lockOf, outs, rv1, rv2, fz1, fz2, fz3, fz4, fa1, fa2, mv1, mv2, dt1, dt2, rg1, rg2, so1, so2, so3, so4, so5, lo1, lo2, lo5, wpI, lightAll, light, wipe, back, rng_len, enum_len, bindT, bindTs, peek, peeks, ats, wB1, wB2, wB3, setAll, bI1, bI2, bI3, bI4, bI5, bI6, bI7, bI8, bI9, bS1, bS2, bT1, bL1, bL2, bL3, bL4, bL5, bT2, cI1, cI2, cI3, cI4, cI5, cI6, cS1, cS2, cB1, cB2, cB3, tB1, tI1, tN1, tL1, xL1, xL2, xT1, xS1, xD1, lS1, lL1, lL2, lT1, qI, shaped_ints, hb]
      refine rpB ?_
      try simp [wpFn, wpS, we_v, rd1, rd2, rd3, we_k, we_gk, we_tup, we_lst, we_dct, we_bin, we_neg, we_cmp, we_ch, we_and, we_or, we_not, we_ite, we_ix, we_sl, we_rev, we_ixs, we_nes, we_lens, we_bi, we_isi, we_me, we_mu, we_call, we_comp, we_tupI, we_lstI, sa, sa1, sa2, wpF, wpD, wpV, wpT, wpA, wpO, wpAV, wpOV, startD, lockOf, outs, rv1, rv2, fz1, fz2, fz3, fz4, fa1, fa2, mv1, mv2, dt1, dt2, rg1, rg2, so1, so2, so3, so4, so5, lo1, lo2, lo5, wpI, lightAll, light, wipe, back, rng_len, enum_len, bindT, bindTs, peek, peeks, ats, wB1, wB2, wB3, setAll, bI1, bI2, bI3, bI4, bI5, bI6, bI7, bI8, bI9, bS1, bS2, bT1, bL1, bL2, bL3, bL4, bL5, bT2, cI1, cI2, cI3, cI4, cI5, cI6, cS1, cS2, cB1, cB2, cB3, tB1, tI1, tN1, tL1, xL1, xL2, xT1, xS1, xD1, lS1, lL1, lL2, lT1, qI, shaped_ints, hb]
      exact h m' hm'
  | _ =>
    try simp [wpFn, wpS, we_v, rd1, rd2, rd3, we_k, we_gk, we_tup, we_lst, we_dct, we_bin, we_neg, we_cmp, we_ch, we_and, we_or, we_not, we_ite, we_ix, we_sl, we_rev, we_ixs, we_nes, we_lens, we_bi, we_isi, we_me, we_mu, we_call, we_comp, we_tupI, we_lstI, sa, sa1, sa2, wpF, wpD, wpV, wpT, wpA, wpO, wpAV, wpOV, startD, lockOf, outs, rv1, rv2, fz1, fz2, fz3, fz4, fa1, fa2, mv1, mv2, dt1, dt2, rg1, rg2, so1, so2, so3, so4, so5, lo1, lo2, lo5, wpI, lightAll, light, wipe, back, rng_len, enum_len, bindT, bindTs, peek, peeks, ats, wB1, wB2, wB3, setAll, bI1, bI2, bI3, bI4, bI5, bI6, bI7, bI8, bI9, bS1, bS2, bT1, bL1, bL2, bL3, bL4, bL5, bT2, cI1, cI2, cI3, cI4, cI5, cI6, cS1, cS2, cB1, cB2, cB3, tB1, tI1, tN1, tL1, xL1, xL2, xT1, xS1, xD1, lS1, lL1, lL2, lT1, qI, shaped_ints, c__law_right, N__law_right, isiM, isiS, M.kn, rep2, sl1]
    refine ⟨_, rfl, ?_⟩
    try simp [wpFn, wpS, we_v, rd1, rd2, rd3, we_k, we_gk, we_tup, we_lst, we_dct, we_bin, we_neg, we_cmp, we_ch, we_and, we_or, we_not, we_ite, we_ix, we_sl, we_rev, we_ixs, we_nes, we_lens, we_bi, we_isi, we_me, we_mu, we_call, we_comp, we_tupI, we_lstI, sa, sa1, sa2, wpF, wpD, wpV, wpT, wpA, wpO, wpAV, wpOV, startD, lockOf, outs, rv1, rv2, fz1, fz2, fz3, fz4, fa1, fa2, mv1, mv2, dt1, dt2, rg1, rg2, so1, so2, so3, so4, so5, lo1, lo2, lo5, wpI, lightAll, light, wipe, back, rng_len, enum_len, bindT, bindTs, peek, peeks, ats, wB1, wB2, wB3, setAll, bI1, bI2, bI3, bI4, bI5, bI6, bI7, bI8, bI9, bS1, bS2, bT1, bL1, bL2, bL3, bL4, bL5, bT2, cI1, cI2, cI3, cI4, cI5, cI6, cS1, cS2, cB1, cB2, cB3, tB1, tI1, tN1, tL1, xL1, xL2, xT1, xS1, xD1, lS1, lL1, lL2, lT1, qI, shaped_ints, isInt]
    refine kw2 ⟨_, rfl, ?_⟩
    try simp [wpFn, wpS, we_v, rd1, rd2, rd3, we_k, we_gk, we_tup, we_lst, we_dct, we_bin, we_neg, we_cmp, we_ch, we_and, we_or, we_not, we_ite, we_ix, we_sl, we_rev, we_ixs, we_nes, we_lens, we_bi, we_isi, we_me, we_mu, we_call, we_comp, we_tupI, we_lstI, sa, sa1, sa2, wpF, wpD, wpV, wpT, wpA, wpO, wpAV, wpOV, startD, lockOf, outs, rv1, rv2, fz1, fz2, fz3, fz4, fa1, fa2, mv1, mv2, dt1, dt2, rg1, rg2, so1, so2, so3, so4, so5, lo1, lo2, lo5, wpI, lightAll, light, wipe, back, rng_len, enum_len, bindT, bindTs, peek, peeks, ats, wB1, wB2, wB3, setAll, bI1, bI2, bI3, bI4, bI5, bI6, bI7, bI8, bI9, bS1, bS2, bT1, bL1, bL2, bL3, bL4, bL5, bT2, cI1, cI2, cI3, cI4, cI5, cI6, cS1, cS2, cB1, cB2, cB3, tB1, tI1, tN1, tL1, xL1, xL2, xT1, xS1, xD1, lS1, lL1, lL2, lT1, qI, shaped_ints, isInt, sl2]
    refine rpB ?_
    try simp [wpFn, wpS, we_v, rd1, rd2, rd3, we_k, we_gk, we_tup, we_lst, we_dct, we_bin, we_neg, we_cmp, we_ch, we_and, we_or, we_not, we_ite, we_ix, we_sl, we_rev, we_ixs, we_nes, we_lens, we_bi, we_isi, we_me, we_mu, we_call, we_comp, we_tupI, we_lstI, sa, sa1, sa2, wpF, wpD, wpV, wpT, wpA, wpO, wpAV, wpOV, startD, lockOf, outs, rv1, rv2, fz1, fz2, fz3, fz4, fa1, fa2, mv1, mv2, dt1, dt2, rg1, rg2, so1, so2, so3, so4, so5, lo1, lo2, lo5, wpI, lightAll, light, wipe, back, rng_len, enum_len, bindT, bindTs, peek, peeks, ats, wB1, wB2, wB3, setAll, bI1, bI2, bI3, bI4, bI5, bI6, bI7, bI8, bI9, bS1, bS2, bT1, bL1, bL2, bL3, bL4, bL5, bT2, cI1, cI2, cI3, cI4, cI5, cI6, cS1, cS2, cB1, cB2, cB3, tB1, tI1, tN1, tL1, xL1, xL2, xT1, xS1, xD1, lS1, lL1, lL2, lT1, qI, shaped_ints]
    refine rpB ?_
    try simp [wpFn, wpS, we_v, rd1, rd2, rd3, we_k, we_gk, we_tup, we_lst, we_dct, we_bin, we_neg, we_cmp, we_ch, we_and, we_or, we_not, we_ite, we_ix, we_sl, we_rev, we_ixs, we_nes, we_lens, we_bi, we_isi, we_me, we_mu, we_call, we_comp, we_tupI, we_lstI, sa, sa1, sa2, wpF, wpD, wpV, wpT, wpA, wpO, wpAV, wpOV, startD, lockOf, outs, rv1, rv2, fz1, fz2, fz3, fz4, fa1, fa2, mv1, mv2, dt1, dt2, rg1, rg2, so1, so2, so3, so4, so5, lo1, lo2, lo5, wpI, lightAll, light, wipe, back, rng_len, enum_len, bindT, bindTs, peek, peeks, ats, wB1, wB2, wB3, setAll, bI1, bI2, bI3, bI4, bI5, bI6, bI7, bI8, bI9, bS1, bS2, bT1, bL1, bL2, bL3, bL4, bL5, bT2, cI1, cI2, cI3, cI4, cI5, cI6, cS1, cS2, cB1, cB2, cB3, tB1, tI1, tN1, tL1, xL1, xL2, xT1, xS1, xD1, lS1, lL1, lL2, lT1, qI, shaped_ints]
    refine ⟨m, s, _, rfl, hm, by omega, fun m' hm' => ?_⟩
    try simp [wpFn, wpS, we_v, rd1, rd2, rd3, we_k, we_gk, we_tup, we_lst, we_dct, we_bin, we_neg, we_cmp, we_ch, we_and, we_or, we_not, we_ite, we_ix, we_sl, we_rev, we_ixs, we_nes, we_lens, we_bi, we_isi, we_me, we_mu, we_call, we_comp, we_tupI, we_lstI, sa, sa1, sa2, wpF, wpD, wpV, wpT, wpA, wpO, wpAV, wpOV, startD, lockOf, outs, rv1, rv2, fz1, fz2, fz3, fz4, fa1, fa2, mv1, mv2, dt1, dt2, rg1, rg2, so1, so2, so3, so4, so5, lo1, lo2, lo5, wpI, lightAll, light, wipe, back, rng_len, enum_len, bindT, bindTs, peek, peeks, ats, wB1, wB2, wB3, setAll, bI1, bI2, bI3, bI4, bI5, bI6, bI7, bI8, bI9, bS1, bS2, bT1, bL1, bL2, bL3, bL4, bL5, bT2, cI1, cI2, cI3, cI4, cI5, cI6, cS1, cS2, cB1, cB2, cB3, tB1, tI1, tN1, tL1, xL1, xL2, xT1, xS1, xD1, lS1, lL1, lL2, lT1, qI, shaped_ints, isiM, isiS, M.kn, rep2, sl1, sl2]
    refine ⟨_, rfl, ok, ?_⟩
    try simp [wpFn, wpS, we_v, rd1, rd2, rd3, we_k, we_gk, we_tup, we_lst, we_dct, we_bin, we_neg, we_cmp, we_ch, we_and, we_or, we_not, we_ite, we_ix, we_sl, we_rev, we_ixs, we_nes, we_lens, we_bi, we_isi, we_me, we_mu, we_call, we_comp, we_tupI, we_lstI, sa, sa1, sa2, wpF, wpD, wpV, wpT, wpA, wpO, wpAV, wpOV, startD, lockOf, outs, rv1, rv2, fz1, fz2, fz3, fz4, fa1, fa2, mv1, mv2, dt1, dt2, rg1, rg2, so1, so2, so3, so4, so5, lo1, lo2, lo5, wpI, lightAll, light, wipe, back, rng_len, enum_len, bindT, bindTs, peek, peeks, ats, wB1, wB2, wB3, setAll, bI1, bI2, bI3, bI4, bI5, bI6, bI7, bI8, bI9, bS1, bS2, bT1, bL1, bL2, bL3, bL4, bL5, bT2, cI1, cI2, cI3, cI4, cI5, cI6, cS1, cS2, cB1, cB2, cB3, tB1, tI1, tN1, tL1, xL1, xL2, xT1, xS1, xD1, lS1, lL1, lL2, lT1, qI, shaped_ints, nameB]
    refine kw2 ⟨_, rfl, ok, ?_⟩
    try simp [wpFn, wpS, we_v, rd1, rd2, rd3, we_k, we_gk, we_tup, we_lst, we_dct, we_bin, we_neg, we_cmp, we_ch, we_and, we_or, we_not, we_ite, we_ix, we_sl, we_rev, we_ixs, we_nes, we_lens, we_bi, we_isi, we_me, we_mu, we_call, we_comp, we_tupI, we_lstI, sa, sa1, sa2, wpF, wpD, wpV, wpT, wpA, wpO, wpAV, wpOV, startD, lockOf, outs, rv1, rv2, fz1, fz2, fz3, fz4, fa1, fa2, mv1, mv2, dt1, dt2, rg1, rg2, so1, so2, so3, so4, so5, lo1, lo2, lo5, wpI, lightAll, light, wipe, back, rng_len, enum_len, bindT, bindTs, peek, peeks, ats, wB1, wB2, wB3, setAll, bI1, bI2, bI3, bI4, bI5, bI6, bI7, bI8, bI9, bS1, bS2, bT1, bL1, bL2, bL3, bL4, bL5, bT2, cI1, cI2, cI3, cI4, cI5, cI6, cS1, cS2, cB1, cB2, cB3, tB1, tI1, tN1, tL1, xL1, xL2, xT1, xS1, xD1, lS1, lL1, lL2, lT1, qI, shaped_ints, nameB, sl2, sl1, rep2]
    refine rpB ?_
    try simp [wpFn, wpS, we_v, rd1, rd2, rd3, we_k, we_gk, we_tup, we_lst, we_dct, we_bin, we_neg, we_cmp, we_ch, we_and, we_or, we_not, we_ite, we_ix, we_sl, we_rev, we_ixs, we_nes, we_lens, we_bi, we_isi, we_me, we_mu, we_call, we_comp, we_tupI, we_lstI, sa, sa1, sa2, wpF, wpD, wpV, wpT, wpA, wpO, wpAV, wpOV, startD, lockOf, outs, rv1, rv2, fz1, fz2, fz3, fz4, fa1, fa2, mv1, mv2, dt1, dt2, rg1, rg2, so1, so2, so3, so4, so5, lo1, lo2, lo5, wpI, lightAll, light, wipe, back, rng_len, enum_len, bindT, bindTs, peek, peeks, ats, wB1, wB2, wB3, setAll, bI1, bI2, bI3, bI4, bI5, bI6, bI7, bI8, bI9, bS1, bS2, bT1, bL1, bL2, bL3, bL4, bL5, bT2, cI1, cI2, cI3, cI4, cI5, cI6, cS1, cS2, cB1, cB2, cB3, tB1, tI1, tN1, tL1, xL1, xL2, xT1, xS1, xD1, lS1, lL1, lL2, lT1, qI, shaped_ints]
    refine rpB ?_
    try simp [wpFn, wpS, we_v, rd1, rd2, rd3, we_k, we_gk, we_tup, we_lst, we_dct, we_bin, we_neg, we_cmp, we_ch, we_and, we_or, we_not, we_ite, we_ix, we_sl, we_rev, we_ixs, we_nes, we_lens, we_bi, we_isi, we_me, we_mu, we_call, we_comp, we_tupI, we_lstI, sa, sa1, sa2, wpF, wpD, wpV, wpT, wpA, wpO, wpAV, wpOV, startD, lockOf, outs, rv1, rv2, fz1, fz2, fz3, fz4, fa1, fa2, mv1, mv2, dt1, dt2, rg1, rg2, so1, so2, so3, so4, so5, lo1, lo2, lo5, wpI, lightAll, light, wipe, back, rng_len, enum_len, bindT, bindTs, peek, peeks, ats, wB1, wB2, wB3, setAll, bI1, bI2, bI3, bI4, bI5, bI6, bI7, bI8, bI9, bS1, bS2, bT1, bL1, bL2, bL3, bL4, bL5, bT2, cI1, cI2, cI3, cI4, cI5, cI6, cS1, cS2, cB1, cB2, cB3, tB1, tI1, tN1, tL1, xL1, xL2, xT1, xS1, xD1, lS1, lL1, lL2, lT1, qI, shaped_ints]
    exact h m' hm'
end Q.K01
set_option Elab.async false
set_option linter.all false
set_option maxRecDepth 100000
set_option maxHeartbeats 2000000
namespace Q.K01
open PySem PySem.Spec PyProof.Rows L2 Q
def sp_law : Spec := fun ms Kc _ => ∃ ns : List Int, ms = [.p (.list (ns.map .int))] ∧ ns.length ≤ 1000 ∧ ∀ os, Kc (.p (.bool true)) os
abbrev Γl : List Spec := [sp__law_begun, sp__law_right, sp__law_any_thing, sp_is_name, sp__law_doubled, sp_is_number, kwSp 1 0 g0 sp_is_coins, kwSp 1 1 gA sp_is_coins, kwSp 1 1 gA sp_is_among]
theorem okS (z : Str) (h : z.length ≤ 100 ∧ asc z) : okD (.str z) := fun y e => by cases e; exact h
theorem neL {ds es : List PyData} {K : Bool → Prop} {b : Bool} (h1 : SeqAt.shaped (.list ds) = true) (h2 : SeqAt.shaped (.list es) = true) (e : PyData.eqv (.list ds) (.list es) = b) (h : K (!b)) : cmpM .ne (.l ds) (.l es) K := ⟨.list ds, .list es, rfl, rfl, h1, h2, by rw [e]; exact h⟩
theorem eqL {ds es : List PyData} {K : Bool → Prop} {b : Bool} (h1 : SeqAt.shaped (.list ds) = true) (h2 : SeqAt.shaped (.list es) = true) (e : PyData.eqv (.list ds) (.list es) = b) (h : K b) : cmpM .eq (.l ds) (.l es) K := ⟨.list ds, .list es, rfl, rfl, h1, h2, by rw [e]; exact h⟩
theorem h_law (ms : List M) (Kc : M → List M → Prop) (h : sp_law ms Kc (fun _ _ => False)) : wpFn Γl N_law.length c_law ms Kc (fun _ _ => False) := by
  obtain ⟨ns, rfl, hn, h⟩ := h
  simp [wpFn, wpS, we_v, rd1, rd2, rd3, we_k, we_gk, we_tup, we_lst, we_dct, we_bin, we_neg, we_cmp, we_ch, we_and, we_or, we_not, we_ite, we_ix, we_sl, we_rev, we_ixs, we_nes, we_lens, we_bi, we_isi, we_me, we_mu, we_call, we_comp, we_tupI, we_lstI, sa, sa1, sa2, wpF, wpD, wpV, wpT, wpA, wpO, wpAV, wpOV, startD, lockOf, outs, rv1, rv2, fz1, fz2, fz3, fz4, fa1, fa2, mv1, mv2, dt1, dt2, rg1, rg2, so1, so2, so3, so4, so5, lo1, lo2, lo5, wpI, lightAll, light, wipe, back, rng_len, enum_len, bindT, bindTs, peek, peeks, ats, wB1, wB2, wB3, setAll, bI1, bI2, bI3, bI4, bI5, bI6, bI7, bI8, bI9, bS1, bS2, bT1, bL1, bL2, bL3, bL4, bL5, bT2, cI1, cI2, cI3, cI4, cI5, cI6, cS1, cS2, cB1, cB2, cB3, tB1, tI1, tN1, tL1, xL1, xL2, xT1, xS1, xD1, lS1, lL1, lL2, lT1, qI, shaped_ints, c_law, N_law]
  refine ⟨ns, rfl, hn, fun m hm => ?_⟩
  simp [wpFn, wpS, we_v, rd1, rd2, rd3, we_k, we_gk, we_tup, we_lst, we_dct, we_bin, we_neg, we_cmp, we_ch, we_and, we_or, we_not, we_ite, we_ix, we_sl, we_rev, we_ixs, we_nes, we_lens, we_bi, we_isi, we_me, we_mu, we_call, we_comp, we_tupI, we_lstI, sa, sa1, sa2, wpF, wpD, wpV, wpT, wpA, wpO, wpAV, wpOV, startD, lockOf, outs, rv1, rv2, fz1, fz2, fz3, fz4, fa1, fa2, mv1, mv2, dt1, dt2, rg1, rg2, so1, so2, so3, so4, so5, lo1, lo2, lo5, wpI, lightAll, light, wipe, back, rng_len, enum_len, bindT, bindTs, peek, peeks, ats, wB1, wB2, wB3, setAll, bI1, bI2, bI3, bI4, bI5, bI6, bI7, bI8, bI9, bS1, bS2, bT1, bL1, bL2, bL3, bL4, bL5, bT2, cI1, cI2, cI3, cI4, cI5, cI6, cS1, cS2, cB1, cB2, cB3, tB1, tI1, tN1, tL1, xL1, xL2, xT1, xS1, xD1, lS1, lL1, lL2, lT1, qI, shaped_ints]
  refine forLoop_inv (fun xs δ => ∃ m s, mOk s m ∧ s + 38 * (xs.length : Int) ≤ 1520 ∧ ∃ b, δ = [some (.p (.list (ns.map .int))), some (.dc m), b, none, none, none, none]) ?_ ?_ (rngItems 0 40) _ ⟨m, 0, hm, by rw [rng_len]; decide, none, rfl⟩
  · rintro x xs δ N ⟨m, s, hm, hs, b, rfl⟩ hN
    refine ⟨gdOk_nil, _, ⟨by simp, rfl⟩, ?_⟩
    simp at hs
    simp [wpFn, wpS, we_v, rd1, rd2, rd3, we_k, we_gk, we_tup, we_lst, we_dct, we_bin, we_neg, we_cmp, we_ch, we_and, we_or, we_not, we_ite, we_ix, we_sl, we_rev, we_ixs, we_nes, we_lens, we_bi, we_isi, we_me, we_mu, we_call, we_comp, we_tupI, we_lstI, sa, sa1, sa2, wpF, wpD, wpV, wpT, wpA, wpO, wpAV, wpOV, startD, lockOf, outs, rv1, rv2, fz1, fz2, fz3, fz4, fa1, fa2, mv1, mv2, dt1, dt2, rg1, rg2, so1, so2, so3, so4, so5, lo1, lo2, lo5, wpI, lightAll, light, wipe, back, rng_len, enum_len, bindT, bindTs, peek, peeks, ats, wB1, wB2, wB3, setAll, bI1, bI2, bI3, bI4, bI5, bI6, bI7, bI8, bI9, bS1, bS2, bT1, bL1, bL2, bL3, bL4, bL5, bT2, cI1, cI2, cI3, cI4, cI5, cI6, cS1, cS2, cB1, cB2, cB3, tB1, tI1, tN1, tL1, xL1, xL2, xT1, xS1, xD1, lS1, lL1, lL2, lT1, qI, shaped_ints, b1_law]
    refine ⟨m, s, rfl, hm, by omega, fun d m1 hd h1 => ?_⟩
    simp [wpFn, wpS, we_v, rd1, rd2, rd3, we_k, we_gk, we_tup, we_lst, we_dct, we_bin, we_neg, we_cmp, we_ch, we_and, we_or, we_not, we_ite, we_ix, we_sl, we_rev, we_ixs, we_nes, we_lens, we_bi, we_isi, we_me, we_mu, we_call, we_comp, we_tupI, we_lstI, sa, sa1, sa2, wpF, wpD, wpV, wpT, wpA, wpO, wpAV, wpOV, startD, lockOf, outs, rv1, rv2, fz1, fz2, fz3, fz4, fa1, fa2, mv1, mv2, dt1, dt2, rg1, rg2, so1, so2, so3, so4, so5, lo1, lo2, lo5, wpI, lightAll, light, wipe, back, rng_len, enum_len, bindT, bindTs, peek, peeks, ats, wB1, wB2, wB3, setAll, bI1, bI2, bI3, bI4, bI5, bI6, bI7, bI8, bI9, bS1, bS2, bT1, bL1, bL2, bL3, bL4, bL5, bT2, cI1, cI2, cI3, cI4, cI5, cI6, cS1, cS2, cB1, cB2, cB3, tB1, tI1, tN1, tL1, xL1, xL2, xT1, xS1, xD1, lS1, lL1, lL2, lT1, qI, shaped_ints]
    refine ⟨m1, s + 30, d, rfl, hd, h1, by omega, fun m2 h2 => ?_⟩
    simp [wpFn, wpS, we_v, rd1, rd2, rd3, we_k, we_gk, we_tup, we_lst, we_dct, we_bin, we_neg, we_cmp, we_ch, we_and, we_or, we_not, we_ite, we_ix, we_sl, we_rev, we_ixs, we_nes, we_lens, we_bi, we_isi, we_me, we_mu, we_call, we_comp, we_tupI, we_lstI, sa, sa1, sa2, wpF, wpD, wpV, wpT, wpA, wpO, wpAV, wpOV, startD, lockOf, outs, rv1, rv2, fz1, fz2, fz3, fz4, fa1, fa2, mv1, mv2, dt1, dt2, rg1, rg2, so1, so2, so3, so4, so5, lo1, lo2, lo5, wpI, lightAll, light, wipe, back, rng_len, enum_len, bindT, bindTs, peek, peeks, ats, wB1, wB2, wB3, setAll, bI1, bI2, bI3, bI4, bI5, bI6, bI7, bI8, bI9, bS1, bS2, bT1, bL1, bL2, bL3, bL4, bL5, bT2, cI1, cI2, cI3, cI4, cI5, cI6, cS1, cS2, cB1, cB2, cB3, tB1, tI1, tN1, tL1, xL1, xL2, xT1, xS1, xD1, lS1, lL1, lL2, lT1, qI, shaped_ints]
    exact hN _ ⟨m2, s + 38, h2.mono (by omega), by omega, _, rfl⟩
  rintro δ ⟨m, s, hm, hs, b, rfl⟩
  refine ⟨gdOk_nil, ?_⟩
  have l4 : 4 ≤ sizeLine := by decide
  have l5 : 5 ≤ sizeLine := by decide
  have l12 : 12 ≤ sizeLine := by decide
  simp [wpFn, wpS, we_v, rd1, rd2, rd3, we_k, we_gk, we_tup, we_lst, we_dct, we_bin, we_neg, we_cmp, we_ch, we_and, we_or, we_not, we_ite, we_ix, we_sl, we_rev, we_ixs, we_nes, we_lens, we_bi, we_isi, we_me, we_mu, we_call, we_comp, we_tupI, we_lstI, sa, sa1, sa2, wpF, wpD, wpV, wpT, wpA, wpO, wpAV, wpOV, startD, lockOf, outs, rv1, rv2, fz1, fz2, fz3, fz4, fa1, fa2, mv1, mv2, dt1, dt2, rg1, rg2, so1, so2, so3, so4, so5, lo1, lo2, lo5, wpI, lightAll, light, wipe, back, rng_len, enum_len, bindT, bindTs, peek, peeks, ats, wB1, wB2, wB3, setAll, bI1, bI2, bI3, bI4, bI5, bI6, bI7, bI8, bI9, bS1, bS2, bT1, bL1, bL2, bL3, bL4, bL5, bT2, cI1, cI2, cI3, cI4, cI5, cI6, cS1, cS2, cB1, cB2, cB3, tB1, tI1, tN1, tL1, xL1, xL2, xT1, xS1, xD1, lS1, lL1, lL2, lT1, qI, shaped_ints, l4, l5, l12, sl2, sl1]
  refine compLoop_inv (fun xs ds δ => (∀ x ∈ xs, ∃ z, x = .str z ∧ z.length ≤ 100 ∧ asc z ∧ nameB (.str z) = true) ∧ ds = List.replicate ds.length (.bool true) ∧ ds.length + xs.length = 4 ∧ δ = [some (.p (.list (ns.map .int))), some (.dc m), b, none, none, none, none]) ?_ _ [] _ _ ⟨?_, rfl, rfl, rfl⟩ ?_
  · rintro x xs ds δ k ⟨hx, e, hl, rfl⟩ hk
    obtain ⟨z, rfl, z1, z2, z3⟩ := hx x (List.mem_cons_self ..)
    refine ⟨gdOk_nil, _, ⟨by simp, rfl⟩, ?_⟩
    simp at hl
    simp [wpFn, wpS, we_v, rd1, rd2, rd3, we_k, we_gk, we_tup, we_lst, we_dct, we_bin, we_neg, we_cmp, we_ch, we_and, we_or, we_not, we_ite, we_ix, we_sl, we_rev, we_ixs, we_nes, we_lens, we_bi, we_isi, we_me, we_mu, we_call, we_comp, we_tupI, we_lstI, sa, sa1, sa2, wpF, wpD, wpV, wpT, wpA, wpO, wpAV, wpOV, startD, lockOf, outs, rv1, rv2, fz1, fz2, fz3, fz4, fa1, fa2, mv1, mv2, dt1, dt2, rg1, rg2, so1, so2, so3, so4, so5, lo1, lo2, lo5, wpI, lightAll, light, wipe, back, rng_len, enum_len, bindT, bindTs, peek, peeks, ats, wB1, wB2, wB3, setAll, bI1, bI2, bI3, bI4, bI5, bI6, bI7, bI8, bI9, bS1, bS2, bT1, bL1, bL2, bL3, bL4, bL5, bT2, cI1, cI2, cI3, cI4, cI5, cI6, cS1, cS2, cB1, cB2, cB3, tB1, tI1, tN1, tL1, xL1, xL2, xT1, xS1, xD1, lS1, lL1, lL2, lT1, qI, shaped_ints, e2_law]
    refine ⟨.str z, rfl, okS z ⟨z1, z2⟩, ?_⟩
    simp [wpFn, wpS, we_v, rd1, rd2, rd3, we_k, we_gk, we_tup, we_lst, we_dct, we_bin, we_neg, we_cmp, we_ch, we_and, we_or, we_not, we_ite, we_ix, we_sl, we_rev, we_ixs, we_nes, we_lens, we_bi, we_isi, we_me, we_mu, we_call, we_comp, we_tupI, we_lstI, sa, sa1, sa2, wpF, wpD, wpV, wpT, wpA, wpO, wpAV, wpOV, startD, lockOf, outs, rv1, rv2, fz1, fz2, fz3, fz4, fa1, fa2, mv1, mv2, dt1, dt2, rg1, rg2, so1, so2, so3, so4, so5, lo1, lo2, lo5, wpI, lightAll, light, wipe, back, rng_len, enum_len, bindT, bindTs, peek, peeks, ats, wB1, wB2, wB3, setAll, bI1, bI2, bI3, bI4, bI5, bI6, bI7, bI8, bI9, bS1, bS2, bT1, bL1, bL2, bL3, bL4, bL5, bT2, cI1, cI2, cI3, cI4, cI5, cI6, cS1, cS2, cB1, cB2, cB3, tB1, tI1, tN1, tL1, xL1, xL2, xT1, xS1, xD1, lS1, lL1, lL2, lT1, qI, shaped_ints, z3]
    refine hk _ _ ⟨fun y hy => hx y (List.mem_cons_of_mem _ hy), ?_, by simp; omega, by simp [wipe]⟩
    rw [e]
    simp [List.replicate_succ']
  · intro x hx
    simp at hx
    rcases hx with rfl | rfl | rfl | rfl <;> exact ⟨_, rfl, by decide +kernel, by unfold asc; decide +kernel, by decide +kernel⟩
  rintro ds δ ⟨-, e, hl, rfl⟩
  simp at e hl
  rw [hl] at e
  subst e
  refine ⟨gdOk_nil, neL (b := true) (by decide +kernel) (by decide +kernel) (by decide +kernel) ?_⟩
  simp [wpFn, wpS, we_v, rd1, rd2, rd3, we_k, we_gk, we_tup, we_lst, we_dct, we_bin, we_neg, we_cmp, we_ch, we_and, we_or, we_not, we_ite, we_ix, we_sl, we_rev, we_ixs, we_nes, we_lens, we_bi, we_isi, we_me, we_mu, we_call, we_comp, we_tupI, we_lstI, sa, sa1, sa2, wpF, wpD, wpV, wpT, wpA, wpO, wpAV, wpOV, startD, lockOf, outs, rv1, rv2, fz1, fz2, fz3, fz4, fa1, fa2, mv1, mv2, dt1, dt2, rg1, rg2, so1, so2, so3, so4, so5, lo1, lo2, lo5, wpI, lightAll, light, wipe, back, rng_len, enum_len, bindT, bindTs, peek, peeks, ats, wB1, wB2, wB3, setAll, bI1, bI2, bI3, bI4, bI5, bI6, bI7, bI8, bI9, bS1, bS2, bT1, bL1, bL2, bL3, bL4, bL5, bT2, cI1, cI2, cI3, cI4, cI5, cI6, cS1, cS2, cB1, cB2, cB3, tB1, tI1, tN1, tL1, xL1, xL2, xT1, xS1, xD1, lS1, lL1, lL2, lT1, qI, shaped_ints]
  refine forLoop_inv (fun xs δ => (∀ x ∈ xs, ∃ z, x = .str z ∧ z.length ≤ 100 ∧ asc z ∧ nameB (.str z) = false) ∧ ∃ b c, δ = [some (.p (.list (ns.map .int))), some (.dc m), b, c, none, none, none]) ?_ ?_ _ _ ⟨?_, b, none, rfl⟩
  · rintro x xs δ N ⟨hx, b, c, rfl⟩ hN
    obtain ⟨z, rfl, z1, z2, z3⟩ := hx x (List.mem_cons_self ..)
    refine ⟨gdOk_nil, _, ⟨by simp, rfl⟩, ?_⟩
    simp [wpFn, wpS, we_v, rd1, rd2, rd3, we_k, we_gk, we_tup, we_lst, we_dct, we_bin, we_neg, we_cmp, we_ch, we_and, we_or, we_not, we_ite, we_ix, we_sl, we_rev, we_ixs, we_nes, we_lens, we_bi, we_isi, we_me, we_mu, we_call, we_comp, we_tupI, we_lstI, sa, sa1, sa2, wpF, wpD, wpV, wpT, wpA, wpO, wpAV, wpOV, startD, lockOf, outs, rv1, rv2, fz1, fz2, fz3, fz4, fa1, fa2, mv1, mv2, dt1, dt2, rg1, rg2, so1, so2, so3, so4, so5, lo1, lo2, lo5, wpI, lightAll, light, wipe, back, rng_len, enum_len, bindT, bindTs, peek, peeks, ats, wB1, wB2, wB3, setAll, bI1, bI2, bI3, bI4, bI5, bI6, bI7, bI8, bI9, bS1, bS2, bT1, bL1, bL2, bL3, bL4, bL5, bT2, cI1, cI2, cI3, cI4, cI5, cI6, cS1, cS2, cB1, cB2, cB3, tB1, tI1, tN1, tL1, xL1, xL2, xT1, xS1, xD1, lS1, lL1, lL2, lT1, qI, shaped_ints, b3_law]
    refine ⟨.str z, rfl, okS z ⟨z1, z2⟩, ?_⟩
    simp [wpFn, wpS, we_v, rd1, rd2, rd3, we_k, we_gk, we_tup, we_lst, we_dct, we_bin, we_neg, we_cmp, we_ch, we_and, we_or, we_not, we_ite, we_ix, we_sl, we_rev, we_ixs, we_nes, we_lens, we_bi, we_isi, we_me, we_mu, we_call, we_comp, we_tupI, we_lstI, sa, sa1, sa2, wpF, wpD, wpV, wpT, wpA, wpO, wpAV, wpOV, startD, lockOf, outs, rv1, rv2, fz1, fz2, fz3, fz4, fa1, fa2, mv1, mv2, dt1, dt2, rg1, rg2, so1, so2, so3, so4, so5, lo1, lo2, lo5, wpI, lightAll, light, wipe, back, rng_len, enum_len, bindT, bindTs, peek, peeks, ats, wB1, wB2, wB3, setAll, bI1, bI2, bI3, bI4, bI5, bI6, bI7, bI8, bI9, bS1, bS2, bT1, bL1, bL2, bL3, bL4, bL5, bT2, cI1, cI2, cI3, cI4, cI5, cI6, cS1, cS2, cB1, cB2, cB3, tB1, tI1, tN1, tL1, xL1, xL2, xT1, xS1, xD1, lS1, lL1, lL2, lT1, qI, shaped_ints, z3]
    exact hN _ ⟨fun y hy => hx y (List.mem_cons_of_mem _ hy), _, _, rfl⟩
  · rintro δ ⟨-, b, c, rfl⟩
    refine ⟨gdOk_nil, ?_⟩
    refine forLoop_inv (fun xs δ => (∀ x ∈ xs, ∃ w : Int, x = .int w ∧ 0 ≤ w ∧ w < 2) ∧ ∃ b c d e f, δ = [some (.p (.list (ns.map .int))), some (.dc m), b, c, d, e, f]) ?_ ?_ _ _ ⟨fun x hx => mem_rng hx, b, c, none, none, none, rfl⟩
    · rintro x xs δ N ⟨hx, b, c, d, e, f, rfl⟩ hN
      obtain ⟨w, rfl, w0, w1⟩ := hx x (List.mem_cons_self ..)
      refine ⟨gdOk_nil, _, ⟨by simp, rfl⟩, ?_⟩
      simp [wpFn, wpS, we_v, rd1, rd2, rd3, we_k, we_gk, we_tup, we_lst, we_dct, we_bin, we_neg, we_cmp, we_ch, we_and, we_or, we_not, we_ite, we_ix, we_sl, we_rev, we_ixs, we_nes, we_lens, we_bi, we_isi, we_me, we_mu, we_call, we_comp, we_tupI, we_lstI, sa, sa1, sa2, wpF, wpD, wpV, wpT, wpA, wpO, wpAV, wpOV, startD, lockOf, outs, rv1, rv2, fz1, fz2, fz3, fz4, fa1, fa2, mv1, mv2, dt1, dt2, rg1, rg2, so1, so2, so3, so4, so5, lo1, lo2, lo5, wpI, lightAll, light, wipe, back, rng_len, enum_len, bindT, bindTs, peek, peeks, ats, wB1, wB2, wB3, setAll, bI1, bI2, bI3, bI4, bI5, bI6, bI7, bI8, bI9, bS1, bS2, bT1, bL1, bL2, bL3, bL4, bL5, bT2, cI1, cI2, cI3, cI4, cI5, cI6, cS1, cS2, cB1, cB2, cB3, tB1, tI1, tN1, tL1, xL1, xL2, xT1, xS1, xD1, lS1, lL1, lL2, lT1, qI, shaped_ints, b4_law]
      refine ⟨w, rfl, w0, w1, fun far hf => ?_⟩
      have hI : isInt far = false := by obtain ⟨_, rfl | rfl⟩ := hf <;> rfl
      have hC : ∀ l, coinsB far l = false := fun l => by obtain ⟨_, rfl | rfl⟩ := hf <;> rfl
      have hA : ∀ l, amongB far l = false := fun l => by obtain ⟨_, rfl | rfl⟩ := hf <;> rfl
      have hN' : nameB far = false := by obtain ⟨_, rfl | rfl⟩ := hf <;> rfl
      have hO : okD far := fun y e => by obtain ⟨_, rfl | rfl⟩ := hf <;> cases e
      try simp [wpFn, wpS, we_v, rd1, rd2, rd3, we_k, we_gk, we_tup, we_lst, we_dct, we_bin, we_neg, we_cmp, we_ch, we_and, we_or, we_not, we_ite, we_ix, we_sl, we_rev, we_ixs, we_nes, we_lens, we_bi, we_isi, we_me, we_mu, we_call, we_comp, we_tupI, we_lstI, sa, sa1, sa2, wpF, wpD, wpV, wpT, wpA, wpO, wpAV, wpOV, startD, lockOf, outs, rv1, rv2, fz1, fz2, fz3, fz4, fa1, fa2, mv1, mv2, dt1, dt2, rg1, rg2, so1, so2, so3, so4, so5, lo1, lo2, lo5, wpI, lightAll, light, wipe, back, rng_len, enum_len, bindT, bindTs, peek, peeks, ats, wB1, wB2, wB3, setAll, bI1, bI2, bI3, bI4, bI5, bI6, bI7, bI8, bI9, bS1, bS2, bT1, bL1, bL2, bL3, bL4, bL5, bT2, cI1, cI2, cI3, cI4, cI5, cI6, cS1, cS2, cB1, cB2, cB3, tB1, tI1, tN1, tL1, xL1, xL2, xT1, xS1, xD1, lS1, lL1, lL2, lT1, qI, shaped_ints]
      refine ⟨far, rfl, ?_⟩
      try simp [wpFn, wpS, we_v, rd1, rd2, rd3, we_k, we_gk, we_tup, we_lst, we_dct, we_bin, we_neg, we_cmp, we_ch, we_and, we_or, we_not, we_ite, we_ix, we_sl, we_rev, we_ixs, we_nes, we_lens, we_bi, we_isi, we_me, we_mu, we_call, we_comp, we_tupI, we_lstI, sa, sa1, sa2, wpF, wpD, wpV, wpT, wpA, wpO, wpAV, wpOV, startD, lockOf, outs, rv1, rv2, fz1, fz2, fz3, fz4, fa1, fa2, mv1, mv2, dt1, dt2, rg1, rg2, so1, so2, so3, so4, so5, lo1, lo2, lo5, wpI, lightAll, light, wipe, back, rng_len, enum_len, bindT, bindTs, peek, peeks, ats, wB1, wB2, wB3, setAll, bI1, bI2, bI3, bI4, bI5, bI6, bI7, bI8, bI9, bS1, bS2, bT1, bL1, bL2, bL3, bL4, bL5, bT2, cI1, cI2, cI3, cI4, cI5, cI6, cS1, cS2, cB1, cB2, cB3, tB1, tI1, tN1, tL1, xL1, xL2, xT1, xS1, xD1, lS1, lL1, lL2, lT1, qI, shaped_ints, hI]
      refine kw1 ⟨_, _, rfl, ?_⟩
      try simp [wpFn, wpS, we_v, rd1, rd2, rd3, we_k, we_gk, we_tup, we_lst, we_dct, we_bin, we_neg, we_cmp, we_ch, we_and, we_or, we_not, we_ite, we_ix, we_sl, we_rev, we_ixs, we_nes, we_lens, we_bi, we_isi, we_me, we_mu, we_call, we_comp, we_tupI, we_lstI, sa, sa1, sa2, wpF, wpD, wpV, wpT, wpA, wpO, wpAV, wpOV, startD, lockOf, outs, rv1, rv2, fz1, fz2, fz3, fz4, fa1, fa2, mv1, mv2, dt1, dt2, rg1, rg2, so1, so2, so3, so4, so5, lo1, lo2, lo5, wpI, lightAll, light, wipe, back, rng_len, enum_len, bindT, bindTs, peek, peeks, ats, wB1, wB2, wB3, setAll, bI1, bI2, bI3, bI4, bI5, bI6, bI7, bI8, bI9, bS1, bS2, bT1, bL1, bL2, bL3, bL4, bL5, bT2, cI1, cI2, cI3, cI4, cI5, cI6, cS1, cS2, cB1, cB2, cB3, tB1, tI1, tN1, tL1, xL1, xL2, xT1, xS1, xD1, lS1, lL1, lL2, lT1, qI, shaped_ints, hC]
      refine kw3 ⟨_, _, rfl, ?_⟩
      try simp [wpFn, wpS, we_v, rd1, rd2, rd3, we_k, we_gk, we_tup, we_lst, we_dct, we_bin, we_neg, we_cmp, we_ch, we_and, we_or, we_not, we_ite, we_ix, we_sl, we_rev, we_ixs, we_nes, we_lens, we_bi, we_isi, we_me, we_mu, we_call, we_comp, we_tupI, we_lstI, sa, sa1, sa2, wpF, wpD, wpV, wpT, wpA, wpO, wpAV, wpOV, startD, lockOf, outs, rv1, rv2, fz1, fz2, fz3, fz4, fa1, fa2, mv1, mv2, dt1, dt2, rg1, rg2, so1, so2, so3, so4, so5, lo1, lo2, lo5, wpI, lightAll, light, wipe, back, rng_len, enum_len, bindT, bindTs, peek, peeks, ats, wB1, wB2, wB3, setAll, bI1, bI2, bI3, bI4, bI5, bI6, bI7, bI8, bI9, bS1, bS2, bT1, bL1, bL2, bL3, bL4, bL5, bT2, cI1, cI2, cI3, cI4, cI5, cI6, cS1, cS2, cB1, cB2, cB3, tB1, tI1, tN1, tL1, xL1, xL2, xT1, xS1, xD1, lS1, lL1, lL2, lT1, qI, shaped_ints, hC]
      refine kw3 ⟨_, _, rfl, ?_⟩
      try simp [wpFn, wpS, we_v, rd1, rd2, rd3, we_k, we_gk, we_tup, we_lst, we_dct, we_bin, we_neg, we_cmp, we_ch, we_and, we_or, we_not, we_ite, we_ix, we_sl, we_rev, we_ixs, we_nes, we_lens, we_bi, we_isi, we_me, we_mu, we_call, we_comp, we_tupI, we_lstI, sa, sa1, sa2, wpF, wpD, wpV, wpT, wpA, wpO, wpAV, wpOV, startD, lockOf, outs, rv1, rv2, fz1, fz2, fz3, fz4, fa1, fa2, mv1, mv2, dt1, dt2, rg1, rg2, so1, so2, so3, so4, so5, lo1, lo2, lo5, wpI, lightAll, light, wipe, back, rng_len, enum_len, bindT, bindTs, peek, peeks, ats, wB1, wB2, wB3, setAll, bI1, bI2, bI3, bI4, bI5, bI6, bI7, bI8, bI9, bS1, bS2, bT1, bL1, bL2, bL3, bL4, bL5, bT2, cI1, cI2, cI3, cI4, cI5, cI6, cS1, cS2, cB1, cB2, cB3, tB1, tI1, tN1, tL1, xL1, xL2, xT1, xS1, xD1, lS1, lL1, lL2, lT1, qI, shaped_ints, hA]
      refine ⟨far, rfl, hO, ?_⟩
      try simp [wpFn, wpS, we_v, rd1, rd2, rd3, we_k, we_gk, we_tup, we_lst, we_dct, we_bin, we_neg, we_cmp, we_ch, we_and, we_or, we_not, we_ite, we_ix, we_sl, we_rev, we_ixs, we_nes, we_lens, we_bi, we_isi, we_me, we_mu, we_call, we_comp, we_tupI, we_lstI, sa, sa1, sa2, wpF, wpD, wpV, wpT, wpA, wpO, wpAV, wpOV, startD, lockOf, outs, rv1, rv2, fz1, fz2, fz3, fz4, fa1, fa2, mv1, mv2, dt1, dt2, rg1, rg2, so1, so2, so3, so4, so5, lo1, lo2, lo5, wpI, lightAll, light, wipe, back, rng_len, enum_len, bindT, bindTs, peek, peeks, ats, wB1, wB2, wB3, setAll, bI1, bI2, bI3, bI4, bI5, bI6, bI7, bI8, bI9, bS1, bS2, bT1, bL1, bL2, bL3, bL4, bL5, bT2, cI1, cI2, cI3, cI4, cI5, cI6, cS1, cS2, cB1, cB2, cB3, tB1, tI1, tN1, tL1, xL1, xL2, xT1, xS1, xD1, lS1, lL1, lL2, lT1, qI, shaped_ints, hN', l5, sl1]
      refine neL (b := true) (by decide +kernel) (by decide +kernel) (by decide +kernel) ?_
      try simp [wpFn, wpS, we_v, rd1, rd2, rd3, we_k, we_gk, we_tup, we_lst, we_dct, we_bin, we_neg, we_cmp, we_ch, we_and, we_or, we_not, we_ite, we_ix, we_sl, we_rev, we_ixs, we_nes, we_lens, we_bi, we_isi, we_me, we_mu, we_call, we_comp, we_tupI, we_lstI, sa, sa1, sa2, wpF, wpD, wpV, wpT, wpA, wpO, wpAV, wpOV, startD, lockOf, outs, rv1, rv2, fz1, fz2, fz3, fz4, fa1, fa2, mv1, mv2, dt1, dt2, rg1, rg2, so1, so2, so3, so4, so5, lo1, lo2, lo5, wpI, lightAll, light, wipe, back, rng_len, enum_len, bindT, bindTs, peek, peeks, ats, wB1, wB2, wB3, setAll, bI1, bI2, bI3, bI4, bI5, bI6, bI7, bI8, bI9, bS1, bS2, bT1, bL1, bL2, bL3, bL4, bL5, bT2, cI1, cI2, cI3, cI4, cI5, cI6, cS1, cS2, cB1, cB2, cB3, tB1, tI1, tN1, tL1, xL1, xL2, xT1, xS1, xD1, lS1, lL1, lL2, lT1, qI, shaped_ints]
      exact hN _ ⟨fun y hy => hx y (List.mem_cons_of_mem _ hy), _, _, _, _, _, rfl⟩
    · rintro δ ⟨-, b, c, d, e, f, rfl⟩
      refine ⟨gdOk_nil, ?_⟩
      dsimp only
      exact eqL (ds := [PyData.str (Str.ofString "abcdefghijklmnopqrstuvwxyz"), PyData.int 8]) (es := [PyData.str (Str.ofString "abcdefghijklmnopqrstuvwxyz"), PyData.int 8]) (b := true) (by decide +kernel) (by decide +kernel) (by decide +kernel) (h _)
  · intro x hx
    simp at hx
    rcases hx with rfl | rfl | rfl | rfl | rfl | rfl | rfl | rfl | rfl | rfl | rfl | rfl <;> exact ⟨_, rfl, by decide +kernel, by unfold asc; decide +kernel, by decide +kernel⟩
end Q.K01
set_option Elab.async false
set_option linter.all false
set_option maxRecDepth 100000
set_option maxHeartbeats 0
namespace Q
open PySem PySem.Spec PyProof.Rows L2
/-- a call whose arguments all are written, some by name -/
theorem kb0 {K : PySem.W.Frag} {x qual : Str} {params : Arguments} {body : List Stmt} {scope : Scope} {kws : List (Str × V)} {f : Addr} {fd : FuncData} {ps : List Str} (F : FunD K x qual params body scope [] kws f fd) (n : Nat) (ks : List Str) (g : {α : Type} → List α → List α → List α)
    (h : ∀ (kV doc pm : Value) (an : Option Addr) (cdv ct : Value) (us ws : List Value), us.length = n → ws.length = ks.length → bindArgs (PySem.W.fnOf x qual params body scope .none kV doc pm an cdv ct) ⟨us, ks.zip ws⟩ = pure (ps.zip (g us ws)))
    (hrel : ∀ {vs : List V} {us : List Value} {zs : List V} {ws : List Value}, Vals vs us → Vals zs ws → Vals (g vs zs) (g us ws)) : KBn K fd ps n ks (fun us ws => g us ws) (fun vs zs => g vs zs) := by
  obtain ⟨oc, od, dV, kV, doc, pm, an, cdv, ct, osl, rfl, lk, hcd, hD, hK⟩ := F.ex
  rcases hD with ⟨_, rfl⟩ | ⟨e, _⟩
  · exact ⟨fun s us ws _ l1 l2 => .of_eq (h kV doc pm an cdv ct us ws l1 l2), fun r1 r2 => hrel r1 r2⟩
  · exact absurd rfl e
theorem Vals.app {vs : List V} {us : List Value} : ∀ {zs : List V} {ws : List Value}, Vals vs us → Vals zs ws → Vals (vs ++ zs) (us ++ ws) := fun r1 r2 => r1.append r2
theorem RPs.rev {K : PySem.W.Frag} {H : Hp} {vs : List V} {ds : List PyData} (h : RPs K H vs ds) : RPs K H vs.reverse ds.reverse := h.reverse
end Q
namespace Q.K01
open PySem PySem.Spec PyProof.Rows L2 Q
def dD (x : Str) (i : Nat) (kwd : List (Str × He.Dv)) : He.DefD := ⟨(x, none), x, x, defArgs (top i), defBody (top i), defScope (top i), [], kwd⟩
def fn : List He.DefD := [dD "is_number" 3 [], dD "is_coins" 4 [("least", .int 0)], dD "is_among" 5 [], dD "is_name" 6 [], dD "_law_mixed" 8 [], dD "_law_folded" 9 [], dD "_law_draw" 10 [], dD "_law_begun" 11 [], dD "_law_text" 12 [], dD "_law_whole" 13 [], dD "_law_any_thing" 14 [], dD "_law_bounds_right" 15 [], dD "_law_right" 16 [], dD "_law_doubled" 17 [], dD "law" 18 []]
def fa : List He.Fa := [.str "LETTERS" "abcdefghijklmnopqrstuvwxyz", .int "MOST_SIGNS" 8] ++ (fn.map fun d => .glo d.name) ++ bltNames.map fun x => .free x
abbrev R : PySem.W.OpenRow := PySem.W.OpenLaw.row PySem.Challenge.rw_staybonds_k01_names_and_coins
abbrev hk : PySem.W.Hook := He.hookD 4 fa fn
def ob (s : PySem.W.SharedT) : He.AlD := He.obsDG 4 fa fn (HandSHeadRun.getT s)
theorem ob_eq (s : PySem.W.SharedT) : ob s = hk.obs s.abs := He.obsDG_eq (HandSHeadRun.getT_eq s)
theorem run (w : World) : HandSHeadRun.RunEq R (PySem.W.view R.prog [18]) hk ob 4000 ["is_number", "is_coins", "is_among", "is_name", "_law_mixed", "_law_folded", "_law_draw", "_law_begun", "_law_text", "_law_whole", "_law_any_thing", "_law_bounds_right", "_law_right", "_law_doubled", "__name__", "LETTERS", "MOST_SIGNS"] w := by
  intro os
  kernel_rfl
end Q.K01
set_option Elab.async false
set_option linter.all false
set_option maxRecDepth 100000
set_option maxHeartbeats 0
namespace Q.K01
open PySem PySem.Spec PyProof.Rows L2 Q
theorem valsRev {vs : List V} {us : List Value} (h : Vals vs us) : Vals vs.reverse us.reverse := by
  induction h with
  | nil => exact .nil
  | cons a b ih => rw [List.reverse_cons, List.reverse_cons]; exact ih.append (.cons a .nil)
theorem fa_mem {K : PySem.W.Frag} {f : He.Fa} (c : He.SaysD fa fn K) (h : f ∈ fa) : f.ok K = true := by
  obtain ⟨i, hi⟩ := List.mem_iff_getElem?.mp h
  exact c.fact i hi
theorem facts {P : Program} {w : World} {K : PySem.W.Frag} {h : Heap} {mg : Str → Option Value} {f : Addr} (X : K.In h) (G : h.Ns mainGlobals mg) (hfa : mg ("law" : Str) = some (.ref f)) (c : He.SaysD fa fn K) :
    ∃ fd : FuncData, (∀ (s : Shared) (v : Value), BindsTo s fd ⟨[v], []⟩ [("_law_script", v)]) ∧ ∀ base : Heap, K.In base → base.Ns mainGlobals mg → base.NoDigits → FnOkG P w K mg base 7 f fd ["_law_script"] (liftSp K 1 sp_law) := by
  have blt : ∀ x ∈ bltNames, mg x = none := fun x hx => He.free_ok X G (fa_mem c (List.mem_append_right _ (List.mem_map.mpr ⟨x, hx, rfl⟩)))
  obtain ⟨tL, gL⟩ := He.str_ok X G (c.fact 0 (f := .str "LETTERS" "abcdefghijklmnopqrstuvwxyz") rfl)
  obtain ⟨tM, gM⟩ := He.int_ok X G (c.fact 1 (f := .int "MOST_SIGNS" 8) rfl)
  obtain ⟨d0, F0⟩ := c.def_ 0 (d := dD "is_number" 3 []) rfl
  have g0 := He.glo_ok X G (c.fact 2 (f := .glo "is_number") rfl)
  have b0 : Binds K d0 ["thing"] [] := F0.bindsN fun _ _ _ _ _ _ us hl => match us, hl with | [_], _ => rfl
  obtain ⟨d1, F1⟩ := c.def_ 1 (d := dD "is_coins" 4 [("least", .int 0)]) rfl
  have g1 := He.glo_ok X G (c.fact 3 (f := .glo "is_coins") rfl)
  obtain ⟨d2, F2⟩ := c.def_ 2 (d := dD "is_among" 5 []) rfl
  have g2 := He.glo_ok X G (c.fact 4 (f := .glo "is_among") rfl)
  obtain ⟨d3, F3⟩ := c.def_ 3 (d := dD "is_name" 6 []) rfl
  have g3 := He.glo_ok X G (c.fact 5 (f := .glo "is_name") rfl)
  have b3 : Binds K d3 ["thing"] [] := F3.bindsN fun _ _ _ _ _ _ us hl => match us, hl with | [_], _ => rfl
  obtain ⟨d4, F4⟩ := c.def_ 4 (d := dD "_law_mixed" 8 []) rfl
  have g4 := He.glo_ok X G (c.fact 6 (f := .glo "_law_mixed") rfl)
  have b4 : Binds K d4 ["_law_cell", "_law_k"] [] := F4.bindsN fun _ _ _ _ _ _ us hl => match us, hl with | [_, _], _ => rfl
  obtain ⟨d5, F5⟩ := c.def_ 5 (d := dD "_law_folded" 9 []) rfl
  have g5 := He.glo_ok X G (c.fact 7 (f := .glo "_law_folded") rfl)
  have b5 : Binds K d5 ["_law_script"] [] := F5.bindsN fun _ _ _ _ _ _ us hl => match us, hl with | [_], _ => rfl
  obtain ⟨d6, F6⟩ := c.def_ 6 (d := dD "_law_draw" 10 []) rfl
  have g6 := He.glo_ok X G (c.fact 8 (f := .glo "_law_draw") rfl)
  have b6 : Binds K d6 ["_law_m", "_law_top"] [] := F6.bindsN fun _ _ _ _ _ _ us hl => match us, hl with | [_, _], _ => rfl
  obtain ⟨d7, F7⟩ := c.def_ 7 (d := dD "_law_begun" 11 []) rfl
  have g7 := He.glo_ok X G (c.fact 9 (f := .glo "_law_begun") rfl)
  have b7 : Binds K d7 ["_law_script"] [] := F7.bindsN fun _ _ _ _ _ _ us hl => match us, hl with | [_], _ => rfl
  obtain ⟨d8, F8⟩ := c.def_ 8 (d := dD "_law_text" 12 []) rfl
  have g8 := He.glo_ok X G (c.fact 10 (f := .glo "_law_text") rfl)
  have b8 : Binds K d8 ["_law_m"] [] := F8.bindsN fun _ _ _ _ _ _ us hl => match us, hl with | [_], _ => rfl
  obtain ⟨d9, F9⟩ := c.def_ 9 (d := dD "_law_whole" 13 []) rfl
  have g9 := He.glo_ok X G (c.fact 11 (f := .glo "_law_whole") rfl)
  have b9 : Binds K d9 ["_law_m"] [] := F9.bindsN fun _ _ _ _ _ _ us hl => match us, hl with | [_], _ => rfl
  obtain ⟨d10, F10⟩ := c.def_ 10 (d := dD "_law_any_thing" 14 []) rfl
  have g10 := He.glo_ok X G (c.fact 12 (f := .glo "_law_any_thing") rfl)
  have b10 : Binds K d10 ["_law_m"] [] := F10.bindsN fun _ _ _ _ _ _ us hl => match us, hl with | [_], _ => rfl
  obtain ⟨d11, F11⟩ := c.def_ 11 (d := dD "_law_bounds_right" 15 []) rfl
  have g11 := He.glo_ok X G (c.fact 13 (f := .glo "_law_bounds_right") rfl)
  have b11 : Binds K d11 ["_law_m", "_law_it", "_law_is_whole"] [] := F11.bindsN fun _ _ _ _ _ _ us hl => match us, hl with | [_, _, _], _ => rfl
  obtain ⟨d12, F12⟩ := c.def_ 12 (d := dD "_law_right" 16 []) rfl
  have g12 := He.glo_ok X G (c.fact 14 (f := .glo "_law_right") rfl)
  have b12 : Binds K d12 ["_law_m", "_law_it"] [] := F12.bindsN fun _ _ _ _ _ _ us hl => match us, hl with | [_, _], _ => rfl
  obtain ⟨d13, F13⟩ := c.def_ 13 (d := dD "_law_doubled" 17 []) rfl
  have g13 := He.glo_ok X G (c.fact 15 (f := .glo "_law_doubled") rfl)
  have b13 : Binds K d13 ["_law_way"] [] := F13.bindsN fun _ _ _ _ _ _ us hl => match us, hl with | [_], _ => rfl
  obtain ⟨d14, F14⟩ := c.def_ 14 (d := dD "law" 18 []) rfl
  have g14 := He.glo_ok X G (c.fact 16 (f := .glo "law") rfl)
  have b14 : Binds K d14 ["_law_script"] [] := F14.bindsN fun _ _ _ _ _ _ us hl => match us, hl with | [_], _ => rfl
  have kC1 := kb0 (ps := ["thing", "least"]) F1 1 ["least"] (fun us ws => us ++ ws) (fun _ _ _ _ _ _ us ws l1 l2 => match us, ws, l1, l2 with | [_], [_], _, _ => rfl) (fun r1 r2 => r1.append r2)
  have kC2 := kb0 (ps := ["thing", "least"]) F1 0 ["least", "thing"] (fun us ws => us ++ ws.reverse) (fun _ _ _ _ _ _ us ws l1 l2 => match us, ws, l1, l2 with | [], [_, _], _, _ => rfl) (fun r1 r2 => r1.append (valsRev r2))
  have kA1 := kb0 (ps := ["thing", "many"]) F2 1 ["many"] (fun us ws => us ++ ws) (fun _ _ _ _ _ _ us ws l1 l2 => match us, ws, l1, l2 with | [_], [_], _, _ => rfl) (fun r1 r2 => r1.append r2)
  have kA2 := kb0 (ps := ["thing", "many"]) F2 0 ["many", "thing"] (fun us ws => us ++ ws.reverse) (fun _ _ _ _ _ _ us ws l1 l2 => match us, ws, l1, l2 with | [], [_, _], _, _ => rfl) (fun r1 r2 => r1.append (valsRev r2))
  have kN2 := kb0 (ps := ["thing"]) F0 0 ["thing"] (fun us ws => us ++ ws.reverse) (fun _ _ _ _ _ _ us ws l1 l2 => match us, ws, l1, l2 with | [], [_], _, _ => rfl) (fun r1 r2 => r1.append (valsRev r2))
  have kM2 := kb0 (ps := ["thing"]) F3 0 ["thing"] (fun us ws => us ++ ws.reverse) (fun _ _ _ _ _ _ us ws l1 l2 => match us, ws, l1, l2 with | [], [_], _, _ => rfl) (fun r1 r2 => r1.append (valsRev r2))
  obtain ⟨mv3, kC3⟩ := F1.kbinds0 (ps := ["thing", "least"]) 1 [] [("least", V.int 0)] (fun us mv ws => us ++ ws ++ mv) (by simp [dD, He.DefD.kws]) (fun q hq => hq) (fun r1 r2 r3 => (r1.append r3).append r2) (fun D doc pm an cdv ct us mv ws l1 l2 l3 => match us, mv, ws, l1, l2, l3 with | [_], [_], [], _, _, _ => ⟨_, _, _, _, _, _, rfl, rfl, rfl⟩)
  obtain ⟨mv4, kC4⟩ := F1.kbinds0 (ps := ["thing", "least"]) 0 ["thing"] [("least", V.int 0)] (fun us mv ws => us ++ ws ++ mv) (by simp [dD, He.DefD.kws]) (fun q hq => hq) (fun r1 r2 r3 => (r1.append r3).append r2) (fun D doc pm an cdv ct us mv ws l1 l2 l3 => match us, mv, ws, l1, l2, l3 with | [], [_], [_], _, _, _ => ⟨_, _, _, _, _, _, rfl, rfl, rfl⟩)
  have e := hfa.symm.trans g14
  cases e
  refine ⟨d14, fun s v => F14.bindsA (ps := ["_law_script"]) (fun _ _ _ _ _ _ us hl => match us, hl with | [_], _ => rfl) s [v] rfl, fun base hI hN hD => ?_⟩
  have t0 : Tab P w K mg base 0 E_is_number [] := ⟨hD, blt, (fun p hp => by cases hp), fun f x n ks h => by simp [E_is_number] at h⟩
  have o0 : FnOkG P w K mg base 1 _ d0 ["thing"] (liftSp K 1 sp_is_number) := fn_D F0 f_is_number t0 k_is_number fun ms Kc _ h => h_is_number ms Kc h
  have t1 : Tab P w K mg base 1 E_is_coins [sp_is_number] := ⟨hD, blt, (fun p hp => by cases hp), fun f x n ks h => by
    match f, h with
    | 0, h => cases h; exact ⟨_, rfl, CallOk.pos g0 F0.kp (o0.mono (by decide)) rfl b0⟩
    | q + 1, h => simp [E_is_coins] at h⟩
  have o1 : FnOkG P w K mg base 2 _ d1 ["thing", "least"] (liftSp K 2 sp_is_coins) := fn_D F1 f_is_coins t1 k_is_coins fun ms Kc _ h => h_is_coins ms Kc h
  have t2 : Tab P w K mg base 1 E_is_among [sp_is_number] := ⟨hD, blt, (fun p hp => by cases hp), fun f x n ks h => by
    match f, h with
    | 0, h => cases h; exact ⟨_, rfl, CallOk.pos g0 F0.kp (o0.mono (by decide)) rfl b0⟩
    | q + 1, h => simp [E_is_among] at h⟩
  have o2 : FnOkG P w K mg base 2 _ d2 ["thing", "many"] (liftSp K 2 sp_is_among) := fn_D F2 f_is_among t2 k_is_among fun ms Kc _ h => h_is_among ms Kc h
  have t3 : Tab P w K mg base 0 E_is_name [] := ⟨hD, blt, (fun p hp => by
      rcases List.mem_cons.mp hp with rfl | hp
      · exact ⟨_, V.int 8, gM, ⟨tM, rfl⟩, .int _⟩
      rcases List.mem_cons.mp hp with rfl | hp
      · exact ⟨_, V.str _, gL, ⟨tL, rfl⟩, .str _⟩
      cases hp), fun f x n ks h => by simp [E_is_name] at h⟩
  have o3 : FnOkG P w K mg base 1 _ d3 ["thing"] (liftSp K 1 sp_is_name) := fn_D F3 f_is_name t3 k_is_name fun ms Kc _ h => h_is_name ms Kc h
  have t4 : Tab P w K mg base 0 E__law_mixed [] := ⟨hD, blt, (fun p hp => by cases hp), fun f x n ks h => by simp [E__law_mixed] at h⟩
  have o4 : FnOkG P w K mg base 1 _ d4 ["_law_cell", "_law_k"] (liftSp K 2 sp__law_mixed) := fn_D F4 f__law_mixed t4 k__law_mixed fun ms Kc _ h => h__law_mixed ms Kc h
  have t5 : Tab P w K mg base 0 E__law_folded [] := ⟨hD, blt, (fun p hp => by cases hp), fun f x n ks h => by simp [E__law_folded] at h⟩
  have o5 : FnOkG P w K mg base 1 _ d5 ["_law_script"] (liftSp K 1 sp__law_folded) := fn_D F5 f__law_folded t5 k__law_folded fun ms Kc _ h => h__law_folded ms Kc h
  have t6 : Tab P w K mg base 1 E__law_draw [sp__law_mixed] := ⟨hD, blt, (fun p hp => by cases hp), fun f x n ks h => by
    match f, h with
    | 0, h => cases h; exact ⟨_, rfl, CallOk.pos g4 F4.kp (o4.mono (by decide)) rfl b4⟩
    | q + 1, h => simp [E__law_draw] at h⟩
  have o6 : FnOkG P w K mg base 2 _ d6 ["_law_m", "_law_top"] (liftSp K 2 sp__law_draw) := fn_D F6 f__law_draw t6 k__law_draw fun ms Kc _ h => h__law_draw ms Kc h
  have t7 : Tab P w K mg base 1 E__law_begun [sp__law_folded] := ⟨hD, blt, (fun p hp => by cases hp), fun f x n ks h => by
    match f, h with
    | 0, h => cases h; exact ⟨_, rfl, CallOk.pos g5 F5.kp (o5.mono (by decide)) rfl b5⟩
    | q + 1, h => simp [E__law_begun] at h⟩
  have o7 : FnOkG P w K mg base 2 _ d7 ["_law_script"] (liftSp K 1 sp__law_begun) := fn_D F7 f__law_begun t7 k__law_begun fun ms Kc _ h => h__law_begun ms Kc h
  have t8 : Tab P w K mg base 2 E__law_text [sp__law_draw] := ⟨hD, blt, (fun p hp => by cases hp), fun f x n ks h => by
    match f, h with
    | 0, h => cases h; exact ⟨_, rfl, CallOk.pos g6 F6.kp (o6.mono (by decide)) rfl b6⟩
    | q + 1, h => simp [E__law_text] at h⟩
  have o8 : FnOkG P w K mg base 3 _ d8 ["_law_m"] (liftSp K 1 sp__law_text) := fn_D F8 f__law_text t8 k__law_text fun ms Kc _ h => h__law_text ms Kc h
  have t9 : Tab P w K mg base 2 E__law_whole [sp__law_draw] := ⟨hD, blt, (fun p hp => by cases hp), fun f x n ks h => by
    match f, h with
    | 0, h => cases h; exact ⟨_, rfl, CallOk.pos g6 F6.kp (o6.mono (by decide)) rfl b6⟩
    | q + 1, h => simp [E__law_whole] at h⟩
  have o9 : FnOkG P w K mg base 3 _ d9 ["_law_m"] (liftSp K 1 sp__law_whole) := fn_D F9 f__law_whole t9 k__law_whole fun ms Kc _ h => h__law_whole ms Kc h
  have t10 : Tab P w K mg base 3 E__law_any_thing [sp__law_draw, sp__law_text, sp__law_whole] := ⟨hD, blt, (fun p hp => by cases hp), fun f x n ks h => by
    match f, h with
    | 0, h => cases h; exact ⟨_, rfl, CallOk.pos g6 F6.kp (o6.mono (by decide)) rfl b6⟩
    | 1, h => cases h; exact ⟨_, rfl, CallOk.pos g8 F8.kp (o8.mono (by decide)) rfl b8⟩
    | 2, h => cases h; exact ⟨_, rfl, CallOk.pos g9 F9.kp (o9.mono (by decide)) rfl b9⟩
    | q + 3, h => simp [E__law_any_thing] at h⟩
  have o10 : FnOkG P w K mg base 4 _ d10 ["_law_m"] (liftSp K 1 sp__law_any_thing) := fn_D F10 f__law_any_thing t10 k__law_any_thing fun ms Kc _ h => h__law_any_thing ms Kc h
  have t11 : Tab P w K mg base 3 E__law_bounds_right [sp__law_whole, kwSp 1 1 gA sp_is_coins, kwSp 0 2 gR sp_is_coins, kwSp 1 1 gA sp_is_among, kwSp 0 2 gR sp_is_among, kwSp 1 0 Q.K01.g0 sp_is_coins, kwSp 0 1 Q.K01.g0 sp_is_coins] := ⟨hD, blt, (fun p hp => by cases hp), fun f x n ks h => by
    match f, h with
    | 0, h => cases h; exact ⟨_, rfl, CallOk.pos g9 F9.kp (o9.mono (by decide)) rfl b9⟩
    | 1, h => cases h; exact ⟨_, rfl, CallOk.kw (gD := gA) g1 F1.kp (o1.mono (by decide)) kC1 (fun r1 r2 _ _ => r1.append r2) (fun ds es l1 l2 => by rw [List.length_append, l1, l2]; rfl)⟩
    | 2, h => cases h; exact ⟨_, rfl, CallOk.kw (gD := gR) g1 F1.kp (o1.mono (by decide)) kC2 (fun r1 r2 _ _ => r1.append r2.rev) (fun ds es l1 l2 => by rw [List.length_append, List.length_reverse, l1, l2]; rfl)⟩
    | 3, h => cases h; exact ⟨_, rfl, CallOk.kw (gD := gA) g2 F2.kp (o2.mono (by decide)) kA1 (fun r1 r2 _ _ => r1.append r2) (fun ds es l1 l2 => by rw [List.length_append, l1, l2]; rfl)⟩
    | 4, h => cases h; exact ⟨_, rfl, CallOk.kw (gD := gR) g2 F2.kp (o2.mono (by decide)) kA2 (fun r1 r2 _ _ => r1.append r2.rev) (fun ds es l1 l2 => by rw [List.length_append, List.length_reverse, l1, l2]; rfl)⟩
    | 5, h => cases h; exact ⟨_, rfl, CallOk.kw (gD := Q.K01.g0) g1 F1.kp (o1.mono (by decide)) kC3 (fun r1 r2 _ _ => (r1.append r2).append (.cons (.int 0) .nil)) (fun ds es l1 l2 => by rw [List.length_append, List.length_append, l1, l2]; rfl)⟩
    | 6, h => cases h; exact ⟨_, rfl, CallOk.kw (gD := Q.K01.g0) g1 F1.kp (o1.mono (by decide)) kC4 (fun r1 r2 _ _ => (r1.append r2).append (.cons (.int 0) .nil)) (fun ds es l1 l2 => by rw [List.length_append, List.length_append, l1, l2]; rfl)⟩
    | q + 7, h => simp [E__law_bounds_right] at h⟩
  have o11 : FnOkG P w K mg base 4 _ d11 ["_law_m", "_law_it", "_law_is_whole"] (liftSp K 3 sp__law_bounds_right) := fn_D F11 f__law_bounds_right t11 k__law_bounds_right fun ms Kc _ h => h__law_bounds_right ms Kc h
  have t12 : Tab P w K mg base 4 E__law_right [sp_is_number, kwSp 0 1 gR sp_is_number, sp__law_bounds_right, sp_is_name, kwSp 0 1 gR sp_is_name] := ⟨hD, blt, (fun p hp => by cases hp), fun f x n ks h => by
    match f, h with
    | 0, h => cases h; exact ⟨_, rfl, CallOk.pos g0 F0.kp (o0.mono (by decide)) rfl b0⟩
    | 1, h => cases h; exact ⟨_, rfl, CallOk.kw (gD := gR) g0 F0.kp (o0.mono (by decide)) kN2 (fun r1 r2 _ _ => r1.append r2.rev) (fun ds es l1 l2 => by rw [List.length_append, List.length_reverse, l1, l2]; rfl)⟩
    | 2, h => cases h; exact ⟨_, rfl, CallOk.pos g11 F11.kp (o11.mono (by decide)) rfl b11⟩
    | 3, h => cases h; exact ⟨_, rfl, CallOk.pos g3 F3.kp (o3.mono (by decide)) rfl b3⟩
    | 4, h => cases h; exact ⟨_, rfl, CallOk.kw (gD := gR) g3 F3.kp (o3.mono (by decide)) kM2 (fun r1 r2 _ _ => r1.append r2.rev) (fun ds es l1 l2 => by rw [List.length_append, List.length_reverse, l1, l2]; rfl)⟩
    | q + 5, h => simp [E__law_right] at h⟩
  have o12 : FnOkG P w K mg base 5 _ d12 ["_law_m", "_law_it"] (liftSp K 2 sp__law_right) := fn_D F12 f__law_right t12 k__law_right fun ms Kc _ h => h__law_right ms Kc h
  have t13 : Tab P w K mg base 0 E__law_doubled [] := ⟨hD, blt, (fun p hp => by cases hp), fun f x n ks h => by simp [E__law_doubled] at h⟩
  have o13 : FnOkG P w K mg base 1 _ d13 ["_law_way"] (liftSp K 1 sp__law_doubled) := fn_D F13 f__law_doubled t13 k__law_doubled fun ms Kc _ h => h__law_doubled ms Kc h
  have t14 : Tab P w K mg base 5 E_law [sp__law_begun, sp__law_right, sp__law_any_thing, sp_is_name, sp__law_doubled, sp_is_number, kwSp 1 0 Q.K01.g0 sp_is_coins, kwSp 1 1 gA sp_is_coins, kwSp 1 1 gA sp_is_among] := ⟨hD, blt, (fun p hp => by
      rcases List.mem_cons.mp hp with rfl | hp
      · exact ⟨_, V.str _, gL, ⟨tL, rfl⟩, .str _⟩
      rcases List.mem_cons.mp hp with rfl | hp
      · exact ⟨_, V.int 8, gM, ⟨tM, rfl⟩, .int _⟩
      cases hp), fun f x n ks h => by
    match f, h with
    | 0, h => cases h; exact ⟨_, rfl, CallOk.pos g7 F7.kp (o7.mono (by decide)) rfl b7⟩
    | 1, h => cases h; exact ⟨_, rfl, CallOk.pos g12 F12.kp (o12.mono (by decide)) rfl b12⟩
    | 2, h => cases h; exact ⟨_, rfl, CallOk.pos g10 F10.kp (o10.mono (by decide)) rfl b10⟩
    | 3, h => cases h; exact ⟨_, rfl, CallOk.pos g3 F3.kp (o3.mono (by decide)) rfl b3⟩
    | 4, h => cases h; exact ⟨_, rfl, CallOk.pos g13 F13.kp (o13.mono (by decide)) rfl b13⟩
    | 5, h => cases h; exact ⟨_, rfl, CallOk.pos g0 F0.kp (o0.mono (by decide)) rfl b0⟩
    | 6, h => cases h; exact ⟨_, rfl, CallOk.kw (gD := Q.K01.g0) g1 F1.kp (o1.mono (by decide)) kC3 (fun r1 r2 _ _ => (r1.append r2).append (.cons (.int 0) .nil)) (fun ds es l1 l2 => by rw [List.length_append, List.length_append, l1, l2]; rfl)⟩
    | 7, h => cases h; exact ⟨_, rfl, CallOk.kw (gD := gA) g1 F1.kp (o1.mono (by decide)) kC1 (fun r1 r2 _ _ => r1.append r2) (fun ds es l1 l2 => by rw [List.length_append, l1, l2]; rfl)⟩
    | 8, h => cases h; exact ⟨_, rfl, CallOk.kw (gD := gA) g2 F2.kp (o2.mono (by decide)) kA1 (fun r1 r2 _ _ => r1.append r2) (fun ds es l1 l2 => by rw [List.length_append, l1, l2]; rfl)⟩
    | q + 9, h => simp [E_law] at h⟩
  have o14 : FnOkG P w K mg base 6 _ d14 ["_law_script"] (liftSp K 1 sp_law) := fn_D F14 f_law t14 k_law fun ms Kc _ h => h_law ms Kc h
  exact o14.mono (by decide)
end Q.K01
set_option Elab.async false
set_option linter.all false
set_option maxRecDepth 100000
set_option maxHeartbeats 0
open PySem PySem.W PySem.Calls PyProof.Rows
theorem PySem.Challenge.cw_staybonds_k01_names_and_coins_holds : PySem.Challenge.rw_staybonds_k01_names_and_coins.Holds := by
  w_on; o_law
  refine HandSHeadRun.head_any (r := OpenLaw.row PySem.Challenge.rw_staybonds_k01_names_and_coins) (q := view (OpenLaw.row PySem.Challenge.rw_staybonds_k01_names_and_coins).prog [18]) (H := Q.K01.hk) (ob := Q.K01.ob) (M := 4000) (loose := ["is_number", "is_coins", "is_among", "is_name", "_law_mixed", "_law_folded", "_law_draw", "_law_begun", "_law_text", "_law_whole", "_law_any_thing", "_law_bounds_right", "_law_right", "_law_doubled", "__name__", "LETTERS", "MOST_SIGNS"]) (d := HandSHeadRun.topDef (OpenLaw.row PySem.Challenge.rw_staybonds_k01_names_and_coins).prog 18) (kwd := []) Q.K01.ob_eq
    (by kernel_rfl) (fun s => by kernel_rfl) Q.K01.run (by kernel_rfl) (by kernel_rfl) (by kernel_rfl) (by rfl) (by first | assumption | decide +kernel) (by decide +kernel) ⟨rfl, rfl, rfl, rfl, rfl, by decide +kernel⟩ ?hw ?hc
  case hw => w_witness2
  case hc =>
    refine Q.walk_ofG (l := PySem.Challenge.rw_staybonds_k01_names_and_coins) (n := 63) (k := 7) (x := "_law_script") rfl (by decide) (by kernel_rfl) ⟨rfl, by decide, by decide⟩ rfl ?F
    intro w mg fa h Y G hmg0
    obtain ⟨K, KX, c⟩ := Y
    have hmg : mg ("law" : PySem.Str) = some (.ref fa) := by
      have e : (HandSHeadRun.topDef (OpenLaw.row PySem.Challenge.rw_staybonds_k01_names_and_coins).prog 18).name = ("law" : PySem.Str) := by kernel_rfl
      rw [← e]
      exact hmg0
    obtain ⟨fd, hb, hF⟩ := Q.K01.facts (P := (PySem.Challenge.rw_staybonds_k01_names_and_coins).prog) (w := w) KX G hmg c
    exact ⟨K, fd, Q.K01.sp_law, KX, hb, fun ns Kc hl _ hK => ⟨ns, rfl, by omega, fun os => hK os⟩, hF⟩
