import PyProof.Rows.All
import Wide.All
import OpenK.AllK
import Wide.FinOn
import HandS.ForMost
import HandS.Walk
import HandS.IsInst
import HandS.Wide
import HandS.WideBits
import HandS.TupAny
import HandS.TupLe
import HandS.Gcd
import HandS.Zip
import HandS.Style
import HandS.Defaults
import KE.SortData
import KE.DataCmp
import HandS.HeadHook2
import HandS.Dict
import HandS.Conv
import PyProof.ReprRoads
import PyProof.CallFns
import HandS.Strs
import HandS.SetFor
import KE.GoesEnum
import HandS.TryOnly
import HandS.DictComp
import KE.KMathGC
import HandS.HeadEnd
import HandS.EndBits
import HandS.Head2
import HandS.Codes
import HandS.Head3
import Lean
import PyProof.Rows.FactsN_divmod
import PySem.Challenge.RW_chanceplans_k01_whole_grounds_of_anythin
-- RX1
set_option Elab.async false
set_option linter.all false
set_option maxRecDepth 100000
/-! RX1: an own small syntax and what it means, over plain data. -/
namespace RX
open PySem
abbrev D := PyData
abbrev W := List Int
abbrev M := StateT W Option
abbrev Fn := List D → M D
abbrev Env := List (Option D)

def lift {α : Type} (o : Option α) : M α := fun w => o.map fun a => (a, w)
def getv (ρ : Env) (i : Nat) : Option D := (ρ[i]?).join

inductive Bop where | add | sub | mul | fdiv | mod | pow
  deriving DecidableEq
inductive Cop where | eq | ne | lt | le | gt | ge | isin | notin | is | isnot
  deriving DecidableEq
inductive Bi where | len | int | abs | all | any | sum | sorted | tuple | list | setSorted | repr | sortedD
  deriving DecidableEq
inductive Bj where | max | min | gcd | lcm
  deriving DecidableEq

mutual
inductive E where
  | loc (i : Nat)
  | cst (d : D)
  | glb (k : Nat)
  | bin (o : Bop) (a b : E)
  | neg (a : E)
  | not (a : E)
  | and (a b : E)
  | or (a b : E)
  | cmp (o : Cop) (a b : E)
  | chain (o p : Cop) (a b c : E)
  | ite (c a b : E)
  | tup (es : EL)
  | lst (es : EL)
  | idx (a b : E)
  | slc (hl hh : Bool) (a lo hi : E)
  | rev (a : E)
  | ed
  | call (pool : Bool) (k : Nat) (es : EL) (kw : List Nat)
  | b1 (b : Bi) (a : E)
  | b2 (b : Bj) (a c : E)
  | isi (a : E) (T : String)
  | comp (tg : List Nat) (it : It) (hc : Bool) (cond : E) (elt : E)
  | comp2 (tg : List Nat) (it : It) (tg2 : List Nat) (it2 : It) (elt : E)
  | dcomp (tg : List Nat) (it : It) (hc : Bool) (cond : E) (key : E) (val : E)
  | dget (a k z : E)
  | m0 (m : String) (a : E)
inductive It where
  | seq (e : E)
  | rng (a : E)
  | rng2 (a b : E)
  | enum (e : E)
  | zip (a b : E)
inductive EL where
  | nil
  | cons (e : E) (es : EL)
end

/-! ### data -/
def small (n : Nat) : Bool := decide (n ≤ sizeLine)
def ixD {α : Type} (xs : List α) (i : Int) : Option α := L2.atI xs i
def cutD {α : Type} (xs : List α) (lo hi : Option Int) : List α := (xs.drop (HT.sIx xs.length 0 lo)).take (HT.sIx xs.length xs.length hi - HT.sIx xs.length 0 lo)
def bop : Bop → D → D → Option D
  | .add, .int i, .int j => some (.int (i + j))
  | .add, .str x, .str y => if x.length + y.length ≤ sizeLine then some (.str (x ++ y)) else none
  | .add, .list x, .list y => if x.length + y.length ≤ sizeLine then some (.list (x ++ y)) else none
  | .add, .tuple x, .tuple y => if x.length + y.length ≤ sizeLine then some (.tuple (x ++ y)) else none
  | .sub, .int i, .int j => some (.int (i - j))
  | .mul, .int i, .int j => if i.natAbs.log2 + j.natAbs.log2 < 100000000 then some (.int (i * j)) else none
  | .fdiv, .int i, .int j => if 0 < j ∧ j.natAbs.log2 < 9000 then some (.int (i / j)) else none
  | .mod, .int i, .int j => if 0 < j then some (.int (i % j)) else none
  | .pow, .int i, .int j => if 0 ≤ j ∧ j ≤ 1000000 ∧ i.natAbs < 2 ^ 64 then some (.int (i ^ j.toNat)) else none
  | _, _, _ => none
/-! dicts: keys are tuples of ints and texts -/
def keyD : L2.Key → D
  | .inl i => .int i
  | .inr x => .str x
def keysD (ks : List L2.Key) : D := .tuple (ks.map keyD)
def toKey : D → Option L2.Key
  | .int i => some (.inl i)
  | .str x => some (.inr x)
  | _ => none
def toKeys : List D → Option (List L2.Key)
  | [] => some []
  | d :: r => (toKey d).bind fun k => (toKeys r).map (k :: ·)
def toTK : D → Option (List L2.Key)
  | .tuple ds => toKeys ds
  | _ => none
abbrev Dc := List (List L2.Key × D)
def dcD (xs : Dc) : D := .dict (xs.map fun p => (keysD p.1, p.2))
def asDcL : List (D × D) → Option Dc
  | [] => some []
  | (a, b) :: r => (toTK a).bind fun k => (asDcL r).map ((k, b) :: ·)
def asDc : D → Option Dc
  | .dict kvs => asDcL kvs
  | _ => none
def putDc (xs : Dc) (k : List L2.Key) (d : D) : Dc := if xs.any (fun p => decide (p.1 = k)) then xs.map (fun p => if p.1 = k then (p.1, d) else p) else xs ++ [(k, d)]
def atDc (xs : Dc) (k : List L2.Key) : Option D := (xs.find? fun p => decide (p.1 = k)).map (·.2)
/-- two data that can be ordered -/
def ordB (x y : D) : Bool := PySem.W.alike x y && SeqAt.shaped x && SeqAt.shaped y
/-- a list that can be sorted by its data -/
def sortB (xs : List D) : Bool := (xs.all fun x => SeqAt.shaped x && xs.all fun y => PySem.W.alike x y) && ((xs.all fun x => match x with | .tuple (_ :: _) => true | _ => false) || xs.all fun x => match x with | .none => false | .tuple _ => false | _ => true)
def sortD (xs : List D) : List D := xs.mergeSort (PySem.W.dataLe false id)
def m0D (m : String) : D → Option D
  | .str x => if m = "upper" then (if x.length ≤ 5592405 then some (.str (Txt.upper x)) else none) else none
  | _ => none
def lexS (x y : Str) : Bool := decide (x.cps.toList < y.cps.toList)
def shaped (d : D) : Bool := SeqAt.shaped d
def inD (x y : D) : Option Bool :=
  match y with
  | .list ds => if shaped x && shaped y then some (ds.any fun z => PyData.eqv z x) else none
  | .tuple ds => if shaped x && shaped y then some (ds.any fun z => PyData.eqv z x) else none
  | .str j => match x with
    | .str i => some (!(Builtin.Str.occurrences j i 0 j.length 1).isEmpty)
    | _ => none
  | .dict kvs => (asDcL kvs).bind fun xs => (toTK x).map fun k => (atDc xs k).isSome
  | _ => none
/-- any tuple against () -/
def eqNil : D → D → Option Bool
  | .tuple (_ :: _), .tuple [] => some false
  | _, _ => none
def cop : Cop → D → D → Option Bool
  | .eq, x, y => if shaped x && shaped y then some (PyData.eqv x y) else eqNil x y
  | .ne, x, y => if shaped x && shaped y then some (!PyData.eqv x y) else none
  | .lt, .int i, .int j => some (decide (i < j))
  | .le, .int i, .int j => some (decide (i ≤ j))
  | .gt, .int i, .int j => some (decide (j < i))
  | .ge, .int i, .int j => some (decide (j ≤ i))
  | .lt, .str i, .str j => some (lexS i j)
  | .isin, x, y => inD x y
  | .notin, x, y => (inD x y).map (!·)
  | .is, .none, .none => some true
  | .is, .bool a, .bool b => some (decide (a = b))
  | .is, _, .none => some false
  | .isnot, .none, .none => some false
  | .isnot, .bool a, .bool b => some (!decide (a = b))
  | .isnot, _, .none => some true
  | .gt, .str i, .str j => some (PySem.W.dataLt (.str j) (.str i))
  | .le, .str i, .str j => some (!PySem.W.dataLt (.str j) (.str i))
  | .ge, .str i, .str j => some (!PySem.W.dataLt (.str i) (.str j))
  | .lt, .tuple x, .tuple y => if ordB (.tuple x) (.tuple y) then some (PySem.W.dataLt (.tuple x) (.tuple y)) else none
  | .gt, .tuple x, .tuple y => if ordB (.tuple x) (.tuple y) then some (PySem.W.dataLt (.tuple y) (.tuple x)) else none
  | .le, .tuple x, .tuple y => if ordB (.tuple x) (.tuple y) then some (!PySem.W.dataLt (.tuple y) (.tuple x)) else none
  | .ge, .tuple x, .tuple y => if ordB (.tuple x) (.tuple y) then some (!PySem.W.dataLt (.tuple x) (.tuple y)) else none
  | _, _, _ => none
def intsD : List D → Option (List Int)
  | [] => some []
  | .int i :: r => (intsD r).map (i :: ·)
  | _ :: _ => none
def boolsD : List D → Option (List Bool)
  | [] => some []
  | .bool i :: r => (boolsD r).map (i :: ·)
  | _ :: _ => none
/-- sorting of intsD, in order, by insertion -/
def insI (a : Int) : List Int → List Int
  | [] => [a]
  | b :: r => if a ≤ b then a :: b :: r else b :: insI a r
def sortI : List Int → List Int
  | [] => []
  | a :: r => insI a (sortI r)
/-- the unlike ones, in order -/
def insU (a : Int) : List Int → List Int
  | [] => [a]
  | b :: r => if a < b then a :: b :: r else if a = b then b :: r else b :: insU a r
def setI : List Int → List Int
  | [] => []
  | a :: r => insU a (setI r)
/-- data whose text is told -/
def showsB (d : D) : Bool := decide ((PyData.shown d).length ≤ sizeLine) && PyData.showable d && !PyData.hasDict d && decide (PyData.depth d ≤ 60)
def bi1 : Bi → D → Option D
  | .len, .list xs => some (.int xs.length)
  | .len, .tuple xs => some (.int xs.length)
  | .len, .str x => some (.int x.length)
  | .int, .int i => some (.int i)
  | .int, .bool k => some (.int (if k then 1 else 0))
  | .abs, .int i => some (.int (if i < 0 then -i else i))
  | .all, .list xs => (boolsD xs).map fun bs => .bool (bs.all id)
  | .any, .list xs => (boolsD xs).map fun bs => .bool (bs.any id)
  | .sum, .list xs => (intsD xs).map fun ns => .int ns.sum
  | .sorted, .list xs => if xs.length < 64 then (intsD xs).map fun ns => .list ((sortI ns).map .int) else none
  | .tuple, .list xs => some (.tuple xs)
  | .tuple, .tuple xs => some (.tuple xs)
  | .list, .list xs => some (.list xs)
  | .list, .tuple xs => some (.list xs)
  | .repr, .list xs => if showsB (.list xs) then some (.str (PyData.shown (.list xs))) else none
  | .repr, .tuple xs => if showsB (.tuple xs) then some (.str (PyData.shown (.tuple xs))) else none
  | .repr, .bool b => some (.str (if b then "True" else "False"))
  | .repr, .none => some (.str "None")
  | .repr, .int i => if showsB (.int i) then some (.str (PyData.shown (.int i))) else none
  | .repr, .str x => if showsB (.str x) then some (.str (PyData.shown (.str x))) else none
  | .repr, .dict kvs => if kvs.isEmpty then some (.str (PyData.shown (.dict []))) else none
  | .setSorted, .list xs => if xs.length < 64 then (intsD xs).map fun ns => .list ((setI ns).map .int) else none
  | .sortedD, .list xs => if sortB xs then some (.list (sortD xs)) else none
  | _, _ => none
def bi2 : Bj → D → D → Option D
  | .max, .int i, .int j => some (.int (if j > i then j else i))
  | .min, .int i, .int j => some (.int (if j < i then j else i))
  | .gcd, .int i, .int j => some (.int ((Nat.gcd i.natAbs j.natAbs : Nat) : Int))
  | .lcm, .int i, .int j => if i.natAbs.log2 + j.natAbs.log2 < 1000000 ∧ i.natAbs.log2 < 9000 ∧ j.natAbs.log2 < 9000 then some (.int ((Nat.lcm i.natAbs j.natAbs : Nat) : Int)) else none
  | _, _, _ => none
def isInst (T : String) : D → Bool
  | .none => false
  | .bool _ => T == "bool" || T == "int"
  | .int _ => T == "int"
  | .str _ => T == "str"
  | .list _ => T == "list"
  | .tuple _ => T == "tuple"
  | .dict _ => T == "dict"
/-- isinstance, not asked of a def -/
def isO (T : String) : D → Option Bool
  | .none => some (isInst T .none)
  | .bool b => some (isInst T (.bool b))
  | .int i => some (isInst T (.int i))
  | .str x => some (isInst T (.str x))
  | .list xs => some (isInst T (.list xs))
  | .tuple xs => some (isInst T (.tuple xs))
  | .dict [] => some (isInst T (.dict []))
  | .dict (_ :: _) => none
def idx : D → D → Option D
  | .list xs, .int i => ixD xs i
  | .tuple xs, .int i => ixD xs i
  | .str x, .int i => (ixD x.cps.toList i).map fun c => .str ⟨#[c]⟩
  | _, _ => none
def slc : D → Option Int → Option Int → Option D
  | .list xs, lo, hi => some (.list (cutD xs lo hi))
  | .tuple xs, lo, hi => some (.tuple (cutD xs lo hi))
  | .str z, lo, hi => some (.str (L2.cutS z lo hi))
  | _, _, _ => none
def asInt : D → Option Int
  | .int i => some i
  | _ => none
def asBool : D → Option Bool
  | .bool b => some b
  | _ => none
def items : D → Option (List D)
  | .list xs => some xs
  | .tuple xs => some xs
  | .str x => some (x.cps.toList.map fun c => .str ⟨#[c]⟩)
  | .dict kvs => (asDcL kvs).map fun xs => xs.map fun p => keysD p.1
  | _ => none
def rangeD (lo hi : Int) : Option (List D) :=
  if -(2 ^ 62) ≤ lo ∧ lo < 2 ^ 62 ∧ -(2 ^ 62) ≤ hi ∧ hi < 2 ^ 62 ∧ hi - lo ≤ 16777216 then some ((List.range (hi - lo).toNat).map fun (k : Nat) => PyData.int (lo + (k : Int))) else none
def enumD (n : Nat) : List D → List D
  | [] => []
  | x :: r => .tuple [.int n, x] :: enumD (n + 1) r
def zipD : List D → List D → List D
  | x :: xs, y :: ys => .tuple [x, y] :: zipD xs ys
  | _, _ => []

/-! ### names -/
def setAll : List Nat → List D → Env → Option Env
  | [], [], ρ => some ρ
  | i :: is, x :: xs, ρ => setAll is xs (ρ.set i (some x))
  | _, _, _ => none
def bindT (tg : List Nat) (x : D) (ρ : Env) : Option Env :=
  match tg with
  | [i] => some (ρ.set i (some x))
  | _ => match x with
    | .tuple xs => setAll tg xs ρ
    | .list xs => setAll tg xs ρ
    | _ => none
def wipeE (tg : List Nat) (ρ : Env) : Env := tg.foldl (fun r i => r.set i none) ρ
/-! list-free -/
mutual
def noL : D → Bool
  | .list _ => false
  | .dict _ => false
  | .tuple xs => noLs xs
  | _ => true
def noLs : List D → Bool
  | [] => true
  | x :: r => noL x && noLs r
end
def clean (dirty : Bool) (d : D) : Option D := if !dirty || noL d then some d else none
def cleanL (dirty : Bool) (d : D) : Option D :=
  match d with
  | .list xs => if !dirty || noLs xs then some d else none
  | _ => none

/-! ### meanings -/
structure Ctx where
  fns : List Fn
  cs : List D
def compM (f : D → M (Option D)) : List D → M (List D)
  | [] => pure []
  | x :: r => do
    let o ← f x
    let ys ← compM f r
    pure (match o with | some y => y :: ys | none => ys)
def compMM (f : D → M (List D)) : List D → M (List D)
  | [] => pure []
  | x :: r => do
    let a ← f x
    let ys ← compMM f r
    pure (a ++ ys)
def compD (f : D → M (Option (List L2.Key × D))) : List D → Dc → M Dc
  | [], acc => pure acc
  | x :: r, acc => do
    let o ← f x
    compD f r (match o with | some p => putDc acc p.1 p.2 | none => acc)
/-- arguments by keywords: the k-th written one is for the kw[k]-th parameter -/
def permA {α : Type} (kw : List Nat) (xs : List α) : List α :=
  match kw with
  | [] => xs
  | _ => (List.range kw.length).filterMap fun p => (kw.idxOf? p).bind fun k => xs[k]?
variable (C : Ctx)
mutual
def evE : E → Env → M D
  | .loc i, ρ => lift (getv ρ i)
  | .cst d, _ => pure d
  | .glb k, _ => lift C.cs[k]?
  | .bin o a b, ρ => do
    let x ← evE a ρ
    let y ← evE b ρ
    lift (bop o x y)
  | .neg a, ρ => do
    let x ← evE a ρ
    let i ← lift (asInt x)
    pure (.int (-i))
  | .not a, ρ => do
    let x ← evE a ρ
    let b ← lift (asBool x)
    pure (.bool (!b))
  | .and a b, ρ => do
    let x ← evE a ρ
    let c ← lift (asBool x)
    if c then evE b ρ else pure (.bool false)
  | .or a b, ρ => do
    let x ← evE a ρ
    let c ← lift (asBool x)
    if c then pure (.bool true) else evE b ρ
  | .cmp o a b, ρ => do
    let x ← evE a ρ
    let y ← evE b ρ
    let c ← lift (cop o x y)
    pure (.bool c)
  | .chain o p a b c, ρ => do
    let x ← evE a ρ
    let y ← evE b ρ
    let k ← lift (cop o x y)
    if k then (do
      let z ← evE c ρ
      let k ← lift (cop p y z)
      pure (.bool k)) else pure (.bool false)
  | .ite c a b, ρ => do
    let x ← evE c ρ
    let k ← lift (asBool x)
    if k then evE a ρ else evE b ρ
  | .tup es, ρ => do
    let xs ← evL es ρ
    if xs.length ≤ sizeLine then pure (.tuple xs) else lift none
  | .lst es, ρ => do
    let xs ← evL es ρ
    if xs.length ≤ sizeLine then pure (.list xs) else lift none
  | .idx a b, ρ => do
    let x ← evE a ρ
    let y ← evE b ρ
    lift (idx x y)
  | .slc hl hh a lo hi, ρ => do
    let x ← evE a ρ
    let l ← (if hl then (do let y ← evE lo ρ; let i ← lift (asInt y); pure (some i)) else pure none : M (Option Int))
    let h ← (if hh then (do let y ← evE hi ρ; let i ← lift (asInt y); pure (some i)) else pure none : M (Option Int))
    lift (slc x l h)
  | .ed, _ => pure (.dict [])
  | .rev a, ρ => do
    let x ← evE a ρ
    match x with
    | .list xs => pure (.list xs.reverse)
    | .tuple xs => pure (.tuple xs.reverse)
    | _ => lift none
  | .call pl k es kw, ρ => do
    let xs ← evL es ρ
    match C.fns[k]? with
    | some f => if pl then f (permA kw xs) else fun w => ((f (permA kw xs)).run []).map fun r => (r.1, w)
    | none => lift none
  | .b1 b a, ρ => do
    let x ← evE a ρ
    lift (bi1 b x)
  | .b2 b a c, ρ => do
    let x ← evE a ρ
    let y ← evE c ρ
    lift (bi2 b x y)
  | .isi a T, ρ => do
    let x ← evE a ρ
    let b ← lift (isO T x)
    pure (.bool b)
  | .comp tg it hc cond elt, ρ => do
    let xs ← evIt it ρ
    let ys ← compM (fun x => do
      let ρ' ← lift (bindT tg x (wipeE tg ρ))
      let b ← (if hc then (do let c ← evE cond ρ'; lift (asBool c)) else pure true : M Bool)
      if b then (do let y ← evE elt ρ'; pure (some y)) else pure none) xs
    pure (.list ys)
  | .comp2 tg it tg2 it2 elt, ρ => do
    let xs ← evIt it ρ
    let ys ← compMM (fun x => do
      let ρ' ← lift (bindT tg x (wipeE (tg ++ tg2) ρ))
      let zs ← evIt it2 ρ'
      compM (fun z => do
        let ρ'' ← lift (bindT tg2 z (wipeE tg2 ρ'))
        let y ← evE elt ρ''
        pure (some y)) zs) xs
    if ys.length ≤ sizeLine then pure (.list ys) else lift none
  | .dcomp tg it hc cond key val, ρ => do
    let xs ← evIt it ρ
    let ys ← compD (fun x => do
      let ρ' ← lift (bindT tg x (wipeE tg ρ))
      let b ← (if hc then (do let c ← evE cond ρ'; lift (asBool c)) else pure true : M Bool)
      if b then (do
        let k ← evE key ρ'
        let y ← evE val ρ'
        let ks ← lift (toTK k)
        pure (some (ks, y))) else pure none) xs []
    pure (dcD ys)
  | .dget a k z, ρ => do
    let x ← evE a ρ
    let xs ← lift (asDc x)
    let y ← evE k ρ
    let d ← evE z ρ
    let ks ← lift (toTK y)
    pure ((atDc xs ks).getD d)
  | .m0 m a, ρ => do
    let x ← evE a ρ
    lift (m0D m x)
def evIt : It → Env → M (List D)
  | .seq e, ρ => do
    let x ← evE e ρ
    lift (items x)
  | .rng a, ρ => do
    let x ← evE a ρ
    let i ← lift (asInt x)
    lift (rangeD 0 i)
  | .rng2 a b, ρ => do
    let x ← evE a ρ
    let y ← evE b ρ
    let i ← lift (asInt x)
    let j ← lift (asInt y)
    lift (rangeD i j)
  | .enum e, ρ => do
    let x ← evE e ρ
    match x with
    | .list xs => pure (enumD 0 xs)
    | .tuple xs => pure (enumD 0 xs)
    | _ => lift none
  | .zip a b, ρ => do
    let x ← evE a ρ
    let y ← evE b ρ
    match x, y with
    | .list xs, .list ys => pure (zipD xs ys)
    | .tuple xs, .tuple ys => pure (zipD xs ys)
    | _, _ => lift none
def evL : EL → Env → M (List D)
  | .nil, _ => pure []
  | .cons e es, ρ => do
    let x ← evE e ρ
    let xs ← evL es ρ
    pure (x :: xs)
end

def evT (c : E) (ρ : Env) : M Bool := do
  let x ← evE C c ρ
  lift (asBool x)
end RX

-- RX2
set_option Elab.async false
set_option linter.all false
set_option maxRecDepth 100000
/-! RX2: how the small syntax lies in the given text (a check by computation). -/
namespace RX
open PySem PySem.Spec PyProof.Rows L2
/-- what the module's names stand for: the defs that may be called (name, is its first parameter the pool, its parameters), the constants -/
structure Tab where
  fn : List (Str × Bool × List Str × List (List Nat))
  cs : List Str
  bl : List Str
  mt : List Str
def visB (sc : Scope) (x : Str) : Bool := match sc.names.lookup x with
  | some .local => true
  | some .cell => true
  | some .free => true
  | _ => false
def glB (sc : Scope) (x : Str) : Bool := match sc.names.lookup x with
  | some .globalImplicit => true
  | _ => false
def locB (sc : Scope) (x : Str) : Bool := match sc.names.lookup x with
  | some .local => true
  | some .cell => true
  | _ => false
def plainName (x : Str) : Bool := x != "__debug__" && x != "__classdict__" && x != "__name__"
def cstB : D → Const → Bool
  | .none, .none => true
  | .bool b, .bool c => b == c
  | .int i, .int j => decide (i = j)
  | .str x, .str y => decide (x = y) && decide (x.length ≤ sizeLine)
  | _, _ => false
def bopB : Bop → Operator → Bool
  | .add, .Add => true
  | .sub, .Sub => true
  | .mul, .Mult => true
  | .fdiv, .FloorDiv => true
  | .mod, .Mod => true
  | .pow, .Pow => true
  | _, _ => false
def copB : Cop → CmpOp → Bool
  | .eq, .Eq => true
  | .ne, .NotEq => true
  | .lt, .Lt => true
  | .le, .LtE => true
  | .gt, .Gt => true
  | .ge, .GtE => true
  | .isin, .In => true
  | .notin, .NotIn => true
  | .is, .Is => true
  | .isnot, .IsNot => true
  | _, _ => false
/-- the built-ins' names; tells whether it is a type -/
def biN : Bi → Str × Bool
  | .len => ("len", false)
  | .int => ("int", true)
  | .abs => ("abs", false)
  | .all => ("all", false)
  | .any => ("any", false)
  | .sum => ("sum", false)
  | .sorted => ("sorted", false)
  | .tuple => ("tuple", true)
  | .list => ("list", true)
  | .setSorted => ("sorted", false)
  | .repr => ("repr", false)
  | .sortedD => ("sorted", false)
def bjN : Bj → Str
  | .max => "max"
  | .min => "min"
  | .gcd => "gcd"
  | .lcm => "lcm"
variable (T : Tab) (pl : Bool) (N : List Str)
/-- a target's names -/
def tgB (sc : Scope) : List Nat → Expr → Bool
  | [i], .Name x _ => decide (N[i]? = some x) && locB sc x
  | is, .Tuple es _ _ => decide (2 ≤ is.length) && go is es
  | _, _ => false
where go : List Nat → List Expr → Bool
  | [], [] => true
  | i :: is, .Name x _ :: es => decide (N[i]? = some x) && locB sc x && go is es
  | _, _ => false
/-- an object whose method is called -/
def baseOk : Expr → Bool
  | .Call .. => false
  | _ => true
/-- a comprehension's own scope -/
def blkB (sc scope : Scope) (own : List Nat) : Bool :=
  decide (scope.kind = .function) && (scope.names.all fun y => decide (scope.names.lookup y.1 = some y.2)) &&
  (scope.names.all fun y => match y.2 with
    | .free => (match sc.names.lookup y.1 with
      | some .cell => true
      | some .free => true
      | _ => false)
    | .local => own.any (fun i => decide (N[i]? = some y.1)) || !(N.contains y.1)
    | .cell => own.any (fun i => decide (N[i]? = some y.1)) || !(N.contains y.1)
    | _ => true) && own.all fun i => (N[i]?).isSome
/-- enumerate and zip want a written tuple as the target -/
def itTup : It → Bool
  | .enum _ => true
  | .zip _ _ => true
  | _ => false
mutual
def mtE (sc : Scope) : E → Expr → Bool
  | .loc i, pe => match pe with
    | .Name x _ => decide (N[i]? = some x) && visB sc x && plainName x
    | _ => false
  | .cst d, pe => match pe with
    | .Constant c _ _ => cstB d c
    | _ => false
  | .glb k, pe => match pe with
    | .Name x _ => decide (T.cs[k]? = some x) && glB sc x && plainName x
    | _ => false
  | .bin o a b, pe => match pe with
    | .BinOp pa po pb _ => bopB o po && mtE sc a pa && mtE sc b pb
    | _ => false
  | .neg a, pe => match pe with
    | .UnaryOp .USub pa _ => mtE sc a pa
    | _ => false
  | .not a, pe => match pe with
    | .UnaryOp .Not pa _ => mtE sc a pa
    | _ => false
  | .and a b, pe => match pe with
    | .BoolOp .And [pa, pb] _ => mtE sc a pa && mtE sc b pb
    | .BoolOp .And (pa :: pb :: pc :: r) p => mtE sc a pa && mtE sc b (.BoolOp .And (pb :: pc :: r) p)
    | _ => false
  | .or a b, pe => match pe with
    | .BoolOp .Or [pa, pb] _ => mtE sc a pa && mtE sc b pb
    | .BoolOp .Or (pa :: pb :: pc :: r) p => mtE sc a pa && mtE sc b (.BoolOp .Or (pb :: pc :: r) p)
    | _ => false
  | .cmp o a b, pe => match pe with
    | .Compare pa [po] [pb] _ => copB o po && mtE sc a pa && mtE sc b pb && !behindInMarks po pb
    | _ => false
  | .chain o p a b c, pe => match pe with
    | .Compare pa [po, pp] [pb, pc] _ => copB o po && copB p pp && mtE sc a pa && mtE sc b pb && mtE sc c pc && !lastMarks [po, pp] [pb, pc]
    | _ => false
  | .ite c a b, pe => match pe with
    | .IfExp pc pa pb _ => mtE sc c pc && mtE sc a pa && mtE sc b pb
    | _ => false
  | .tup es, pe => match pe with
    | .Tuple ps _ _ => mtL sc es ps
    | _ => false
  | .lst es, pe => match pe with
    | .List ps _ => mtL sc es ps
    | _ => false
  | .idx a b, pe => match pe with
    | .Subscript pa pb _ => mtE sc a pa && mtE sc b pb
    | _ => false
  | .slc hl hh a lo hi, pe => match pe with
    | .Subscript pa (.Slice none none none _) _ => !hl && !hh && mtE sc a pa
    | .Subscript pa (.Slice (some pl) none none _) _ => hl && !hh && mtE sc a pa && mtE sc lo pl
    | .Subscript pa (.Slice none (some ph) none _) _ => !hl && hh && mtE sc a pa && mtE sc hi ph
    | .Subscript pa (.Slice (some pl) (some ph) none _) _ => hl && hh && mtE sc a pa && mtE sc lo pl && mtE sc hi ph
    | _ => false
  | .ed, pe => match pe with
    | .Dict [] [] _ => true
    | _ => false
  | .rev a, pe => match pe with
    | .Subscript pa (.Slice none none (some (.UnaryOp .USub (.Constant (.int i) _ _) _)) _) _ => decide (i = 1) && mtE sc a pa
    | _ => false
  | .call p k es kw, pe => match pe with
    | .Call (.Name x _) ps [] _ => (match T.fn[k]? with
      | some (y, p', ar, _) => decide (x = y) && decide (p = p') && glB sc x && plainName x && decide (kw = []) && (match p with
        | false => mtL sc es ps && decide (ps.length = ar.length)
        | true => (match ps with
          | .Name z _ :: qs => pl && decide (N[0]? = some z) && visB sc z && plainName z && mtL sc es qs && decide (ps.length = ar.length)
          | _ => false))
      | none => false)
    | .Call (.Name x _) [] kws _ => (match T.fn[k]? with
      | some (y, p', ar, ks) => decide (x = y) && decide (kw ∈ ks) && decide (p = false) && decide (p' = false) && glB sc x && plainName x && mtK sc es kws &&
          decide (kws.map (·.arg) = kw.map fun j => ar[j]?) && decide (kw.length = ar.length) && !kws.isEmpty && decide ((permA kw (List.range kw.length)).length = kw.length) && kw.all fun j => decide (j < ar.length)
      | none => false)
    | _ => false
  | .b1 b a, pe => match pe with
    | .Call (.Name x _) [pa] [] _ => decide (x = (biN b).1) && decide (x ∈ T.bl) && glB sc x && (match b with
      | .setSorted => (match pa with
        | .Call (.Name z _) [pc] [] _ => decide (z = "set") && decide (z ∈ T.bl) && glB sc z && mtE sc a pc
        | _ => false)
      | _ => mtE sc a pa)
    | _ => false
  | .b2 b a c, pe => match pe with
    | .Call (.Name x _) [pa, pc] [] _ => decide (x = bjN b) && (match b with | .gcd => decide (x ∈ T.mt) | .lcm => decide (x ∈ T.mt) | _ => decide (x ∈ T.bl)) && glB sc x && mtE sc a pa && mtE sc c pc
    | _ => false
  | .isi a t, pe => match pe with
    | .Call (.Name x _) [pa, .Name y _] [] _ => decide (x = "isinstance") && decide (x ∈ T.bl) && decide (y ∈ T.bl) && decide (y = Str.ofString t) && glB sc x && glB sc y && mtE sc a pa &&
        decide (t ∈ ["int", "bool", "str", "tuple", "list", "dict"])
    | _ => false
  | .comp tg it hc cond elt, pe => match pe with
    | .ListComp pelt [⟨ptg, pit, ifs, 0⟩] scope _ => (!pl || !tg.contains 0) && (!itTup it || decide (2 ≤ tg.length)) && blkB N sc scope tg && tgB N scope tg ptg && mtI sc it pit && (match hc with
      | false => decide (ifs.length = 0)
      | true => (match ifs with
        | [pc] => mtE scope cond pc
        | _ => false)) && mtE scope elt pelt
    | _ => false
  | .comp2 tg it tg2 it2 elt, pe => match pe with
    | .ListComp pelt [⟨ptg, pit, [], 0⟩, ⟨ptg2, pit2, [], 0⟩] scope _ => (!pl || !(tg ++ tg2).contains 0) && (!itTup it || decide (2 ≤ tg.length)) && (!itTup it2 || decide (2 ≤ tg2.length)) && blkB N sc scope (tg ++ tg2) && tgB N scope tg ptg && tgB N scope tg2 ptg2 && mtI sc it pit && mtI scope it2 pit2 && mtE scope elt pelt
    | _ => false
  | .dcomp tg it hc cond key val, pe => match pe with
    | .DictComp pkey pval [⟨ptg, pit, ifs, 0⟩] scope _ => (!pl || !tg.contains 0) && (!itTup it || decide (2 ≤ tg.length)) && blkB N sc scope tg && tgB N scope tg ptg && mtI sc it pit && (match hc with
      | false => decide (ifs.length = 0)
      | true => (match ifs with
        | [pc] => mtE scope cond pc
        | _ => false)) && mtE scope key pkey && mtE scope val pval
    | _ => false
  | .dget a k z, pe => match pe with
    | .Call (.Attribute pa m ap) [pk, pz] [] cp => decide (m = "get") && (ap.endLine == cp.line) && baseOk pa && mtE sc a pa && mtE sc k pk && mtE sc z pz
    | _ => false
  | .m0 m a, pe => match pe with
    | .Call (.Attribute pa m' ap) [] [] cp => decide (m = "upper") && decide (m' = "upper") && (ap.endLine == cp.line) && baseOk pa && mtE sc a pa
    | _ => false
def mtI (sc : Scope) : It → Expr → Bool
  | .seq e, pe => mtE sc e pe
  | .rng a, pe => match pe with
    | .Call (.Name x _) [pa] [] _ => decide (x = "range") && decide (x ∈ T.bl) && glB sc x && mtE sc a pa
    | _ => false
  | .rng2 a b, pe => match pe with
    | .Call (.Name x _) [pa, pb] [] _ => decide (x = "range") && decide (x ∈ T.bl) && glB sc x && mtE sc a pa && mtE sc b pb
    | _ => false
  | .enum a, pe => match pe with
    | .Call (.Name x _) [pa] [] _ => decide (x = "enumerate") && decide (x ∈ T.bl) && glB sc x && mtE sc a pa
    | _ => false
  | .zip a b, pe => match pe with
    | .Call (.Name x _) [pa, pb] [] _ => decide (x = "zip") && decide (x ∈ T.bl) && glB sc x && mtE sc a pa && mtE sc b pb
    | _ => false
def mtL (sc : Scope) : EL → List Expr → Bool
  | .nil, ps => match ps with
    | [] => true
    | _ => false
  | .cons e es, ps => match ps with
    | p :: r => mtE sc e p && mtL sc es r
    | _ => false
def mtK (sc : Scope) : EL → List Keyword → Bool
  | .nil, ps => match ps with
    | [] => true
    | _ => false
  | .cons e es, ps => match ps with
    | ⟨_, p, _⟩ :: r => mtE sc e p && mtK sc es r
    | _ => false
end
end RX

-- RX3
set_option Elab.async false
set_option linter.all false
set_option maxRecDepth 100000
/-! RX3: how plain data lies in the abstract heap; operators by data. -/
namespace RX
open PySem PySem.Spec PyProof.Rows L2
def hide (H : Hp) (P : List Addr) : Hp := fun a => if a ∈ P then none else H a
theorem hide_same (H : Hp) (P : List Addr) : Same (hide H P) H := fun b o h => by
  unfold hide at h
  split at h
  · cases h
  · exact h
theorem hide_at {H : Hp} {P : List Addr} {a : Addr} (h : a ∉ P) : hide H P a = H a := if_neg h
theorem hide_mono {H : Hp} {P P' : List Addr} (h : ∀ a ∈ P, a ∈ P') : Same (hide H P') (hide H P) := fun b o e => by
  unfold hide at e ⊢
  split at e
  · cases e
  · rename_i n
    rw [if_neg fun z => n (h b z)]
    exact e
theorem Same.seqT {K : PySem.W.Frag} {H H' : Hp} {a : Addr} {xs : List V} (e : Same H H') (h : SqT K H a xs) : SqT K H' a xs := by
  rcases h with (h | ⟨o, h⟩) | h
  · exact .inl (.inl (e _ _ h))
  · exact .inl (.inr ⟨o, e _ _ h⟩)
  · exact .inr h
/-- the program and the world that run -/
class PWd where
  P : Program
  w : World
instance (priority := low) pwAny : PWd := ⟨default, ⟨fun _ _ => 0, { strHash := fun _ => 0, shareClass := fun _ => 0, mergeTok := id, idOf := fun _ => 0, idOfShared := fun _ _ => 0, followText := fun _ => false, idOfImm := fun _ => 0 }⟩⟩
abbrev thePW [i : PWd] : PWd := i
variable [PWd]
/-- the object o at a, never written again -/
def fzO (a : Addr) (o : Obj) : HO := .ext fun h => h.get? a = some o
abbrev Ents := List (List Key × Addr × Value)
/-- o is a dict with these entries -/
structure DcObj (a : Addr) (o : Obj) (xs : Ents) : Prop where
  sz : xs.length ≤ sizeLine
  ns : (a == sysModules) = false
  ex : o.ExactDict
  da : ∃ es ep, o.data = .dict es ep ∧ es.toList = xs.map (entryOfKey (tupleKind (mixKind PWd.P PWd.w)))
  nd : (xs.map (·.1)).Nodup
/-- a def of the module as a value, by its name -/
def fnD (x : Str) : D := .dict [(.str x, .none)]
mutual
inductive Rp (K : PySem.W.Frag) (H : Hp) : V → D → Prop
  | non : Rp K H .non .none
  | bl (b : Bool) : Rp K H (.bl b) (.bool b)
  | int (i : Int) : Rp K H (.int i) (.int i)
  | str (x : Str) (h : x.length ≤ sizeLine) : Rp K H (.str x) (.str x)
  | lst {a : Addr} {xs : List V} {ds : List D} : SqL K H a xs → xs.length ≤ sizeLine → RpAll K H xs ds → Rp K H (.ref a) (.list ds)
  | tup {a : Addr} {xs : List V} {ds : List D} : SqT K H a xs → xs.length ≤ sizeLine → RpAll K H xs ds → Rp K H (.ref a) (.tuple ds)
  | dct {a : Addr} {o : Obj} {xs : Ents} {ds : List (D × D)} : H a = some (fzO a o) → DcObj a o xs → RpEnt K H xs ds → Rp K H (.ref a) (.dict ds)
  | fn (x : Str) : Rp K H (.ref (He.ga K x)) (fnD x)
inductive RpAll (K : PySem.W.Frag) (H : Hp) : List V → List D → Prop
  | nil : RpAll K H [] []
  | cons {v : V} {vs : List V} {d : D} {ds : List D} : Rp K H v d → RpAll K H vs ds → RpAll K H (v :: vs) (d :: ds)
inductive RpEnt (K : PySem.W.Frag) (H : Hp) : Ents → List (D × D) → Prop
  | nil : RpEnt K H [] []
  | cons {k : List Key} {q : Addr} {u : Value} {v : V} {d : D} {xs : Ents} {ds : List (D × D)} : SqT K H q (k.map kV) → k.length ≤ sizeLine → RpAll K H (k.map kV) (k.map keyD) → RelV v u → Rp K H v d → RpEnt K H xs ds → RpEnt K H ((k, q, u) :: xs) ((keysD k, d) :: ds)
end
section
variable {K : PySem.W.Frag} {H H' : Hp}
mutual
theorem Rp.mono (e : Same H H') : ∀ {v : V} {d : D}, Rp K H v d → Rp K H' v d
  | _, _, .non => .non
  | _, _, .bl b => .bl b
  | _, _, .int i => .int i
  | _, _, .str x h => .str x h
  | _, _, .lst h l r => .lst (e.seq h) l (RpAll.mono e r)
  | _, _, .tup h l r => .tup (Same.seqT e h) l (RpAll.mono e r)
  | _, _, .dct h o r => .dct (e _ _ h) o (RpEnt.mono e r)
  | _, _, .fn x => .fn x
theorem RpAll.mono (e : Same H H') : ∀ {vs : List V} {ds : List D}, RpAll K H vs ds → RpAll K H' vs ds
  | _, _, .nil => .nil
  | _, _, .cons r t => .cons (Rp.mono e r) (RpAll.mono e t)
theorem RpEnt.mono (e : Same H H') : ∀ {vs : Ents} {ds : List (D × D)}, RpEnt K H vs ds → RpEnt K H' vs ds
  | _, _, .nil => .nil
  | _, _, .cons a l r rv s t => .cons (Same.seqT e a) l (RpAll.mono e r) rv (Rp.mono e s) (RpEnt.mono e t)
end
mutual
theorem Rp.dp : ∀ {v : V} {d : D}, Rp K H v d → PyData.hasDict d = false → Dp K H v d
  | _, _, .non, _ => .non
  | _, _, .bl b, _ => .bl b
  | _, _, .int i, _ => .int i
  | _, _, .str x h, _ => .str x
  | _, _, .lst h l r, n => .lst h (RpAll.dp r (by unfold PyData.hasDict at n; exact n))
  | _, _, .tup h l r, n => .tup h (RpAll.dp r (by unfold PyData.hasDict at n; exact n))
  | _, _, .dct h _ _, n => by
    unfold PyData.hasDict at n
    cases n
  | _, _, .fn x, n => by
    unfold fnD PyData.hasDict at n
    cases n
theorem RpAll.dp : ∀ {vs : List V} {ds : List D}, RpAll K H vs ds → PyData.hasDictAll ds = false → DpAll K H vs ds
  | _, _, .nil, _ => .nil
  | _, _, .cons r t, n => by
    unfold PyData.hasDictAll at n
    rw [Bool.or_eq_false_iff] at n
    exact .cons (Rp.dp r n.1) (RpAll.dp t n.2)
end
theorem nd_of {d : D} (h : SeqAt.shaped d = true) : PyData.hasDict d = false := PyData.hasDict_of_canLay d (SeqAt.canLay_of_shaped h)
theorem RpAll.length : ∀ {vs : List V} {ds : List D}, RpAll K H vs ds → vs.length = ds.length
  | _, _, .nil => rfl
  | _, _, .cons _ t => by simp [RpAll.length t]
theorem RpAll.get : ∀ {vs : List V} {ds : List D} {i : Nat} {d : D}, RpAll K H vs ds → ds[i]? = some d → ∃ v, vs[i]? = some v ∧ Rp K H v d
  | _, _, _, _, .nil, e => by simp at e
  | _, _, 0, _, .cons r _, e => by simp at e; subst e; exact ⟨_, rfl, r⟩
  | _, _, i + 1, d, .cons _ t, e => by
    obtain ⟨v, h1, h2⟩ := RpAll.get (i := i) (d := d) t (by simpa using e)
    exact ⟨v, by simpa using h1, h2⟩
theorem RpAll.getV : ∀ {vs : List V} {ds : List D} {i : Nat} {v : V}, RpAll K H vs ds → vs[i]? = some v → ∃ d, ds[i]? = some d ∧ Rp K H v d
  | _, _, _, _, .nil, e => by simp at e
  | _, _, 0, _, .cons r _, e => by simp at e; subst e; exact ⟨_, rfl, r⟩
  | _, _, i + 1, d, .cons _ t, e => by
    obtain ⟨v, h1, h2⟩ := RpAll.getV (i := i) (v := d) t (by simpa using e)
    exact ⟨v, by simpa using h1, h2⟩
theorem RpAll.append : ∀ {vs ws : List V} {ds es : List D}, RpAll K H vs ds → RpAll K H ws es → RpAll K H (vs ++ ws) (ds ++ es)
  | _, _, _, _, .nil, s => s
  | _, _, _, _, .cons r t, s => .cons r (RpAll.append t s)
theorem RpAll.take : ∀ {vs : List V} {ds : List D} (n : Nat), RpAll K H vs ds → RpAll K H (vs.take n) (ds.take n)
  | _, _, 0, _ => .nil
  | _, _, _ + 1, .nil => .nil
  | _, _, n + 1, .cons r t => .cons r (RpAll.take n t)
theorem RpAll.drop : ∀ {vs : List V} {ds : List D} (n : Nat), RpAll K H vs ds → RpAll K H (vs.drop n) (ds.drop n)
  | _, _, 0, r => r
  | _, _, _ + 1, .nil => .nil
  | _, _, n + 1, .cons _ t => RpAll.drop n t
theorem RpAll.set : ∀ {vs : List V} {ds : List D} (n : Nat) {v : V} {d : D}, RpAll K H vs ds → Rp K H v d → RpAll K H (vs.set n v) (ds.set n d)
  | _, _, _, _, _, .nil, _ => .nil
  | _, _, 0, _, _, .cons _ t, s => .cons s t
  | _, _, n + 1, _, _, .cons r t, s => .cons r (RpAll.set n t s)
theorem RpAll.rev : ∀ {vs : List V} {ds : List D}, RpAll K H vs ds → RpAll K H vs.reverse ds.reverse
  | _, _, .nil => .nil
  | _, _, .cons r t => by
    rw [List.reverse_cons, List.reverse_cons]
    exact (RpAll.rev t).append (.cons r .nil)
theorem RpAll.cut {vs : List V} {ds : List D} (lo hi : Option Int) (r : RpAll K H vs ds) : RpAll K H (cutV vs lo hi) (cutD ds lo hi) := by
  unfold cutV cutD
  rw [r.length]
  exact (r.drop _).take _
theorem RpAll.intsOf : ∀ {vs : List V} {ds : List D} {ns : List Int}, RpAll K H vs ds → intsD ds = some ns → vs = ns.map V.int ∧ ds = ns.map PyData.int
  | _, _, _, .nil, e => by simp [intsD] at e; subst e; exact ⟨rfl, rfl⟩
  | _, _, ns, .cons (v := v) (d := d) r t, e => by
    cases r with
    | int i =>
      simp only [intsD, Option.map_eq_some_iff] at e
      obtain ⟨ms, e1, rfl⟩ := e
      obtain ⟨h1, h2⟩ := RpAll.intsOf t e1
      exact ⟨by rw [h1]; rfl, by rw [h2]; rfl⟩
    | fn _ => exact nomatch (show (none : Option (List Int)) = some ns from e)
    | _ => simp [intsD] at e
theorem RpAll.boolsOf : ∀ {vs : List V} {ds : List D} {ns : List Bool}, RpAll K H vs ds → boolsD ds = some ns → vs = ns.map V.bl ∧ ds = ns.map PyData.bool
  | _, _, _, .nil, e => by simp [boolsD] at e; subst e; exact ⟨rfl, rfl⟩
  | _, _, ns, .cons (v := v) (d := d) r t, e => by
    cases r with
    | bl i =>
      simp only [boolsD, Option.map_eq_some_iff] at e
      obtain ⟨ms, e1, rfl⟩ := e
      obtain ⟨h1, h2⟩ := RpAll.boolsOf t e1
      exact ⟨by rw [h1]; rfl, by rw [h2]; rfl⟩
    | fn _ => exact nomatch (show (none : Option (List Bool)) = some ns from e)
    | _ => simp [boolsD] at e
theorem RpAll.ofInts (K : PySem.W.Frag) (H : Hp) : ∀ ns : List Int, RpAll K H (ns.map V.int) (ns.map PyData.int)
  | [] => .nil
  | i :: r => .cons (.int i) (RpAll.ofInts K H r)
mutual
/-- what holds no list does not lean on the lists' addresses -/
theorem Rp.flat {P : List Addr} (hP : ∀ a ∈ P, ∃ xs, H a = some (.lst xs)) : ∀ {v : V} {d : D}, Rp K H v d → noL d = true → Rp K (hide H P) v d
  | _, _, .non, _ => .non
  | _, _, .bl b, _ => .bl b
  | _, _, .int i, _ => .int i
  | _, _, .str x h, _ => .str x h
  | _, _, .lst h l r, n => by simp [noL] at n
  | _, _, .dct _ _ _, n => by simp [noL] at n
  | _, _, .fn x, n => by simp [noL, fnD] at n
  | _, _, .tup (a := a) (xs := xs) h l r, n => by
    refine .tup ?_ l (RpAll.flat hP r (by simpa [noL] using n))
    rcases h with h | h
    · refine .inl ?_
      have na : a ∉ P := fun z => by
        obtain ⟨ys, e⟩ := hP a z
        rcases h with h | ⟨o, h⟩
        · rw [e] at h; cases h
        · rw [e] at h; cases h
      unfold Rd
      rw [hide_at na]
      exact h
    · exact .inr h
theorem RpAll.flat {P : List Addr} (hP : ∀ a ∈ P, ∃ xs, H a = some (.lst xs)) : ∀ {vs : List V} {ds : List D}, RpAll K H vs ds → noLs ds = true → RpAll K (hide H P) vs ds
  | _, _, .nil, _ => .nil
  | _, _, .cons (d := d) (ds := ds) r t, n => by
    have n' : (noL d && noLs ds) = true := by simpa [noLs] using n
    rw [Bool.and_eq_true] at n'
    exact .cons (Rp.flat hP r n'.1) (RpAll.flat hP t n'.2)
end
end

/-! ### a situation: what is hidden, the pool -/
structure Bs (P : List Addr) (q : Option Addr) (w : W) (H : Hp) : Prop where
  tr : ∀ a ∈ P, H a ≠ none
  pool : ∀ a, q = some a → a ∈ P ∧ H a = some (.lst (w.map V.int))
structure Ext (q : Option Addr) (w' : W) (H H' : Hp) : Prop where
  keep : ∀ a o, some a ≠ q → H a = some o → H' a = some o
  pool : ∀ a, q = some a → H' a = some (.lst (w'.map V.int))
section
variable {P : List Addr} {q : Option Addr} {w w1 w2 : W} {H H1 H2 : Hp} {K : PySem.W.Frag} {v : V} {d : D}
theorem Bs.refl (b : Bs P q w H) : Ext q w H H := ⟨fun _ _ _ h => h, fun a e => (b.pool a e).2⟩
theorem Bs.ext (b : Bs P q w H) (x : Ext q w1 H H1) : Bs P q w1 H1 := by
  refine ⟨fun a ha => ?_, fun a e => ⟨(b.pool a e).1, x.pool a e⟩⟩
  by_cases hq : q = some a
  · rw [x.pool a hq]; simp
  · cases e : H a with
    | none => exact absurd e (b.tr a ha)
    | some o => rw [x.keep a o (fun z => hq z.symm) e]; simp
theorem Ext.trans (x : Ext q w1 H H1) (y : Ext q w2 H1 H2) : Ext q w2 H H2 := ⟨fun a o n h => y.keep a o n (x.keep a o n h), y.pool⟩
theorem Bs.same (b : Bs P q w H) (x : Ext q w1 H H1) : Same (hide H P) (hide H1 P) := fun a o e => by
  unfold hide at e ⊢
  split at e
  · cases e
  · rename_i n
    rw [if_neg n]
    exact x.keep a o (fun z => n (b.pool a z.symm).1) e
theorem Bs.rp (b : Bs P q w H) (x : Ext q w1 H H1) (r : Rp K (hide H P) v d) : Rp K (hide H1 P) v d := r.mono (b.same x)
theorem Bs.rps (b : Bs P q w H) (x : Ext q w1 H H1) {vs : List V} {ds : List D} (r : RpAll K (hide H P) vs ds) : RpAll K (hide H1 P) vs ds := r.mono (b.same x)
/-- a new object -/
theorem Bs.new (b : Bs P q w H) {p : Addr} {o : HO} (n : H p = none) : Ext q w H (upd H p o) := by
  refine ⟨fun a o' _ e => ?_, fun a e => ?_⟩
  · rw [upd_ne (ne_of_none e n)]; exact e
  · have h := (b.pool a e).2
    rw [upd_ne (ne_of_none h n)]; exact h
theorem Bs.notin (b : Bs P q w H) {p : Addr} (n : H p = none) : p ∉ P := fun z => b.tr p z n
theorem Bs.at_new (b : Bs P q w H) {p : Addr} {o : HO} (n : H p = none) : hide (upd H p o) P p = some o := by
  rw [hide_at (b.notin n), upd_same]
theorem Rp.full (r : Rp K (hide H P) v d) : Rp K H v d := r.mono (hide_same H P)
theorem RpAll.full {vs : List V} {ds : List D} (r : RpAll K (hide H P) vs ds) : RpAll K H vs ds := r.mono (hide_same H P)
end

/-! ### dicts -/
theorem RpEnt.length {K : PySem.W.Frag} {H : Hp} : ∀ {xs : Ents} {ds : List (D × D)}, RpEnt K H xs ds → xs.length = ds.length
  | _, _, .nil => rfl
  | _, _, .cons _ _ _ _ _ t => congrArg (· + 1) (RpEnt.length t)
theorem toKeys_map : ∀ k : List Key, toKeys (k.map keyD) = some k
  | [] => rfl
  | .inl i :: r => by show (toKeys (r.map keyD)).map _ = _; rw [toKeys_map r]; rfl
  | .inr x :: r => by show (toKeys (r.map keyD)).map _ = _; rw [toKeys_map r]; rfl
theorem toKeys_inv : ∀ {ds : List D} {k : List Key}, toKeys ds = some k → ds = k.map keyD
  | [], k, h => by cases h; rfl
  | d :: r, k, h => by
    unfold toKeys at h
    rw [Option.bind_eq_some_iff] at h
    obtain ⟨a, h1, h2⟩ := h
    rw [Option.map_eq_some_iff] at h2
    obtain ⟨b, h2, rfl⟩ := h2
    rw [toKeys_inv h2]
    cases d <;> first | (cases h1; rfl) | exact nomatch h1
theorem RpEnt.keys {K : PySem.W.Frag} {H : Hp} : ∀ {xs : Ents} {ds : List (D × D)}, RpEnt K H xs ds → ∃ ks : Dc, asDcL ds = some ks ∧ xs.map (·.1) = ks.map (·.1)
  | _, _, .nil => ⟨[], rfl, rfl⟩
  | _, _, .cons (k := k) (d := d) _ _ _ _ _ t => by
    obtain ⟨ks, h1, h2⟩ := RpEnt.keys t
    refine ⟨(k, d) :: ks, ?_, by simp [h2]⟩
    show (toKeys (k.map keyD)).bind _ = _
    rw [toKeys_map, Option.bind_some, h1]
    rfl
theorem RpEnt.sq {K : PySem.W.Frag} {H : Hp} : ∀ {xs : Ents} {ds : List (D × D)}, RpEnt K H xs ds → ∀ x ∈ xs, SqT K H x.2.1 (x.1.map kV)
  | _, _, .nil, x, h => nomatch h
  | _, _, .cons a _ _ _ _ t, x, h => by
    rcases List.mem_cons.mp h with rfl | h
    · exact a
    · exact RpEnt.sq t x h
/-- what stands at a key -/
theorem RpEnt.at {K : PySem.W.Frag} {H : Hp} : ∀ {xs : Ents} {ds : List (D × D)} {ks : Dc}, RpEnt K H xs ds → asDcL ds = some ks → ∀ k : List Key,
    (atKey xs k = none ∧ atDc ks k = none) ∨ ∃ p v d, atKey xs k = some p ∧ RelV v p.2 ∧ Rp K H v d ∧ atDc ks k = some d
  | _, _, ks, .nil, e, k => by cases e; exact .inl ⟨rfl, rfl⟩
  | _, _, ks, .cons (k := k0) (q := q) (u := u) (v := v) (d := d) (xs := xs) (ds := ds) _ _ _ rv r t, e, k => by
    have e' : (toKeys (k0.map keyD)).bind (fun k => (asDcL ds).map ((k, d) :: ·)) = some ks := e
    rw [toKeys_map, Option.bind_some, Option.map_eq_some_iff] at e'
    obtain ⟨ks', e1, rfl⟩ := e'
    by_cases hk : k0 = k
    · refine .inr ⟨(q, u), v, d, ?_, rv, r, ?_⟩
      · unfold atKey; simp [hk]
      · unfold atDc; simp [hk]
    · have a1 : atKey ((k0, q, u) :: xs) k = atKey xs k := by unfold atKey; simp [hk]
      have a2 : atDc ((k0, d) :: ks') k = atDc ks' k := by unfold atDc; simp [hk]
      rw [a1, a2]
      exact RpEnt.at t e1 k
theorem key_ofS {X : Cx} {pins : List (Addr × Obj)} {σ : L2.St} {H : Hp} {s : Shared} {b : Addr} {k : List Key} (I : Inv X pins σ H s) (e : SqT X.K H b (k.map kV)) : (tupleKind (mixKind X.prog X.w)).is s.heap k b := by
  rcases e with e | ⟨o, its, n, e, h1, h2, _, h3⟩
  · obtain ⟨_, its, r, o, h1, h2, n, h3⟩ := (show ObjOk X.prog X.w H s.heap b (.tup (k.map kV)) from e.ok I.hok)
    exact ⟨o, its.toArray, n, h1, h2, h3, by simpa using items_are r⟩
  · exact ⟨o, its, n, I.kIn b o e, h1, h2, items_are h3⟩
theorem fz_get {X : Cx} {pins : List (Addr × Obj)} {σ : L2.St} {H : Hp} {s : Shared} {a : Addr} {o : Obj} (I : Inv X pins σ H s) (e : H a = some (fzO a o)) : s.heap.get? a = some o := by
  obtain ⟨h, _, _⟩ := (show ObjOk X.prog X.w H s.heap a (fzO a o) from I.hok a _ e)
  exact h
theorem fz_ok {P : Program} {w : World} {H : Hp} {h : Heap} {a : Addr} {o : Obj} (e : h.get? a = some o) : ObjOk P w H h a (fzO a o) := ⟨e, ⟨o, e⟩, fun _ _ q k => k o q⟩
theorem dc_entR {X : Cx} {pins : List (Addr × Obj)} {σ : L2.St} {H : Hp} {s : Shared} {a : Addr} {o : Obj} {xs : Ents} {ds : List (D × D)} (hp : thePW = ⟨X.prog, X.w⟩) (I : Inv X pins σ H s) (e : H a = some (fzO a o)) (g : DcObj a o xs) (r : RpEnt X.K H xs ds) :
    s.heap.DictOfH (tupleKind (mixKind X.prog X.w)) a xs := by
  obtain ⟨es, ep, h1, h2⟩ := g.da
  have a1 := fz_get I e
  have a2 : ∀ x ∈ xs, (tupleKind (mixKind X.prog X.w)).is s.heap x.1 x.2.1 := fun x hx => key_ofS I (r.sq x hx)
  have a3 := g.ex
  have a4 := g.nd
  clear r g
  rename_i i
  have hi : i = ⟨X.prog, X.w⟩ := hp
  subst hi
  exact ⟨o, es, ep, a1, a3, h1, h2, a2, a4⟩
theorem kv_keys {K : PySem.W.Frag} {H : Hp} : ∀ {vs : List V} {k : List Key}, RpAll K H vs (k.map keyD) → vs = k.map kV
  | [], [], _ => rfl
  | v :: vs, .inl i :: k, .cons r t => by
    have e : v = .int i := by cases (show Rp K H v (.int i) from r); rfl
    rw [e, kv_keys t]; rfl
  | v :: vs, .inr x :: k, .cons r t => by
    have e : v = .str x := by cases (show Rp K H v (.str x) from r); rfl
    rw [e, kv_keys t]; rfl
/-- a key that is read -/
theorem key_rp {K : PySem.W.Frag} {H : Hp} {v : V} {d : D} {k : List Key} (r : Rp K H v d) (e : toTK d = some k) : ∃ q, v = .ref q ∧ SqT K H q (k.map kV) ∧ k.length ≤ sizeLine ∧ RpAll K H (k.map kV) (k.map keyD) ∧ d = keysD k := by
  cases r with
  | tup h l r =>
    have e' := toKeys_inv (show toKeys _ = some k from e)
    subst e'
    have ev := kv_keys r
    subst ev
    exact ⟨_, rfl, h, by simpa using l, r, rfl⟩
  | fn x => exact nomatch e
  | _ => cases e
/-! ### operators -/
/-- an operation by data: a function of the two data, the heap grows at most -/
def rD (K : PySem.W.Frag) (f : D → D → Option D) : R2 := fun x y H Q => ∃ P q w dx dy d, Bs P q w H ∧ Rp K (hide H P) x dx ∧ Rp K (hide H P) y dy ∧ f dx dy = some d ∧
  ∀ H' v, Ext q w H H' → Rp K (hide H' P) v d → Q v H'
section
variable {X : Cx}
/-- list + list, of any lists that are read -/
theorem op_catL : OpR X (binaryOp .Add) (fun x y H Q => ∃ a b xs ys, x = .ref a ∧ y = .ref b ∧ SqL X.K H a xs ∧ SqL X.K H b ys ∧ xs.length + ys.length ≤ sizeLine ∧ ∀ p, H p = none → Q (.ref p) (upd H p (.lst (xs ++ ys)))) := by
  intro pins s σ H x y v u Q I rx ry h
  obtain ⟨a, b, xs, ys, rfl, rfl, ha, hb, hz, q⟩ := h
  cases rx
  cases ry
  obtain ⟨its, r1, p1, _⟩ := I.list ha
  obtain ⟨its2, r2, p2, _⟩ := I.list hb
  have l1 := r1.length
  have l2 := r2.length
  obtain ⟨⟨cls, dd, data, sl⟩, ho, hc, n, hd⟩ := p1.isList
  obtain ⟨⟨cls2, dd2, data2, sl2⟩, ho2, hc2, n2, hd2⟩ := p2.isList
  simp only at hc hd hc2 hd2
  subst hc hd hc2 hd2
  have e : its.toArray ++ its2.toArray = (its ++ its2).toArray := by simp
  refine concat_meets ⟨_, ho, rfl⟩ ⟨_, ho2, rfl⟩ noFill_list_add seq_list_add PySem.F.slot_list_add PySem.F.entry_list_add (PySem.F.args_list_add_2 _ _) (list_addW a b its.toArray its2.toArray n n2 dd dd2 sl sl2 (by simp only [List.size_toArray]; omega)) ⟨ho, ho2, ?_⟩
  rw [e]
  exact ⟨.ref _, _, I.lnew (t' := s.toks) (r1.append r2) (by rw [List.length_append]; omega), rfl, q _ I.fresh⟩
theorem len63 {n : Nat} (h : n ≤ sizeLine) : n < 2 ^ 63 := by rw [sizeLine_eq] at h; omega
theorem opD_add : OpR X (binaryOp .Add) (rD X.K (bop .add)) := by
  intro pins s σ H x y v u Q I rx ry h
  obtain ⟨P, q, w, dx, dy, d, b, hx, hy, e, k⟩ := h
  cases hx with
  | int i =>
    cases hy with
    | int j =>
      cases (show some (PyData.int (i + j)) = some d from e)
      exact op_add pins s σ H _ _ v u Q I rx ry ⟨i, j, rfl, rfl, k H _ b.refl (.int _)⟩
    | _ => cases e
  | str i hi =>
    cases hy with
    | str j hj =>
      simp only [bop] at e
      split at e
      · rename_i hl
        cases e
        refine op_add_str pins s σ H _ _ v u Q I rx ry ⟨i, j, rfl, rfl, hl, k H _ b.refl (.str _ ?_)⟩
        have : (i ++ j).length = i.length + j.length := by
          show (i.cps ++ j.cps).size = _
          exact Array.size_append
        omega
      · cases e
    | _ => cases e
  | @lst a xs ds hs hl hr =>
    cases hy with
    | @lst a' xs' ds' hs' hl' hr' =>
      simp only [bop] at e
      split at e
      · rename_i hz
        cases e
        have l1 := hr.length
        have l2 := hr'.length
        have hz' : xs.length + xs'.length ≤ sizeLine := by omega
        refine op_catL pins s σ H _ _ v u Q I rx ry ?_
        refine ⟨a, a', xs, xs', rfl, rfl, (hide_same H P).seq hs, (hide_same H P).seq hs', hz', fun p n => k _ _ (b.new n) (.lst (.inl (.inl (b.at_new n))) (by rw [List.length_append]; exact hz') ?_)⟩
        exact b.rps (b.new n) (hr.append hr')
      · cases e
    | _ => cases e
  | @tup a xs ds hs hl hr =>
    cases hy with
    | @tup a' xs' ds' hs' hl' hr' =>
      simp only [bop] at e
      split at e
      · rename_i hz
        cases e
        have l1 := hr.length
        have l2 := hr'.length
        have hz' : xs.length + xs'.length ≤ sizeLine := by omega
        refine op_catA pins s σ H _ _ v u Q I rx ry ⟨a, a', xs, xs', rfl, rfl, Same.seqT (hide_same H P) hs, Same.seqT (hide_same H P) hs', hz', ?_, ?_, ?_⟩
        · rintro rfl
          cases hr
          exact k H _ b.refl (.tup hs' hl' hr')
        · rintro _ rfl
          cases hr'
          rw [List.append_nil] at k
          exact k H _ b.refl (.tup hs hl hr)
        · intro _ _ p n
          exact k _ _ (b.new n) (.tup (.inl (.inl (b.at_new n))) (by rw [List.length_append]; exact hz') (b.rps (b.new n) (hr.append hr')))
      · cases e
    | _ => cases e
  | _ => cases hy <;> cases e
theorem opD_int {f : Value → Value → Sem Value} {C : Int → Int → Prop} {g : Int → Int → Int} {o : Bop} (r : OpR X f (rI C fun i j => .int (g i j)))
    (h : ∀ dx dy d, bop o dx dy = some d → ∃ i j, dx = .int i ∧ dy = .int j ∧ C i j ∧ d = .int (g i j)) : OpR X f (rD X.K (bop o)) := by
  intro pins s σ H x y v u Q I rx ry h'
  obtain ⟨P, q, w, dx, dy, d, b, hx, hy, e, k⟩ := h'
  obtain ⟨i, j, rfl, rfl, hc, rfl⟩ := h _ _ _ e
  cases hx
  cases hy
  exact r pins s σ H _ _ v u Q I rx ry ⟨i, j, rfl, rfl, hc, k H _ b.refl (.int _)⟩
theorem opD_sub : OpR X (binaryOp .Sub) (rD X.K (bop .sub)) := by
  refine opD_int (C := fun _ _ => True) (g := fun i j => i - j) (opI fun _ _ _ _ _ _ _ _ q => sub_int q) fun dx dy d e => ?_
  cases dx <;> cases dy <;> simp only [bop] at e <;> cases e
  exact ⟨_, _, rfl, rfl, trivial, rfl⟩
theorem bits_log (i : Int) : Builtin.Int.intBits i ≤ i.natAbs.log2 + 1 := by
  unfold Builtin.Int.intBits
  split <;> omega
theorem opD_mul : OpR X (binaryOp .Mult) (rD X.K (bop .mul)) := by
  refine opD_int (C := CMulX) (g := fun i j => i * j) op_mulX fun dx dy d e => ?_
  cases dx <;> cases dy <;> simp only [bop] at e <;> first | cases e | skip
  split at e
  · rename_i i j h
    cases e
    refine ⟨_, _, rfl, rfl, ?_, rfl⟩
    have h1 := bits_log i
    have h2 := bits_log j
    unfold CMulX
    omega
  · cases e
theorem opD_fdiv : OpR X (binaryOp .FloorDiv) (rD X.K (bop .fdiv)) := by
  refine opD_int (C := CDivW) (g := fun i j => i / j) op_fdivW fun dx dy d e => ?_
  cases dx <;> cases dy <;> simp only [bop] at e <;> first | cases e | skip
  split at e
  · cases e
    exact ⟨_, _, rfl, rfl, ‹_›, rfl⟩
  · cases e
theorem opD_mod : OpR X (binaryOp .Mod) (rD X.K (bop .mod)) := by
  refine opD_int (C := fun _ j => 0 < j) (g := fun i j => i % j) op_mod fun dx dy d e => ?_
  cases dx <;> cases dy <;> simp only [bop] at e <;> first | cases e | skip
  split at e
  · cases e
    exact ⟨_, _, rfl, rfl, ‹_›, rfl⟩
  · cases e
theorem opD_pow : OpR X (binaryOp .Pow) (rD X.K (bop .pow)) := by
  refine opD_int (C := CPow) (g := fun i j => i ^ j.toNat) op_pow fun dx dy d e => ?_
  cases dx <;> cases dy <;> simp only [bop] at e <;> first | cases e | skip
  split at e
  · cases e
    exact ⟨_, _, rfl, rfl, ‹_›, rfl⟩
  · cases e
def poOf : Bop → Operator
  | .add => .Add
  | .sub => .Sub
  | .mul => .Mult
  | .fdiv => .FloorDiv
  | .mod => .Mod
  | .pow => .Pow
theorem bopB_po {o : Bop} {po : Operator} (h : bopB o po = true) : po = poOf o := by
  cases o <;> cases po <;> first | rfl | cases h
def cpOf : Cop → CmpOp
  | .eq => .Eq
  | .ne => .NotEq
  | .lt => .Lt
  | .le => .LtE
  | .gt => .Gt
  | .ge => .GtE
  | .isin => .In
  | .notin => .NotIn
  | .is => .Is
  | .isnot => .IsNot
theorem copB_po {o : Cop} {po : CmpOp} (h : copB o po = true) : po = cpOf o := by
  cases o <;> cases po <;> first | rfl | cases h
theorem opD {o : Bop} {po : Operator} (h : bopB o po = true) : OpR X (binaryOp po) (rD X.K (bop o)) := by
  have e := bopB_po h
  subst e
  cases o
  · exact opD_add
  · exact opD_sub
  · exact opD_mul
  · exact opD_fdiv
  · exact opD_mod
  · exact opD_pow
/-! ### comparisons -/
def cD (o : Cop) : D → D → Option D := fun x y => (cop o x y).map .bool
theorem opR_of {f : Value → Value → Sem Value} {r r' : R2} (h : OpR X f r) (i : ∀ x y H Q, r' x y H Q → r x y H Q) : OpR X f r' := fun pins s σ H x y v u Q I rx ry q => h pins s σ H x y v u Q I rx ry (i x y H Q q)
/-- comparisons change nothing -/
theorem opC {f : Value → Value → Sem Value} {o : Cop}
    (h : ∀ (pins : List (Addr × Obj)) (s : Shared) (σ : L2.St) (H : Hp) (x y : V) (v u : Value) (Q : VK) (dx dy : D) (c : Bool), Inv X pins σ H s → RelV x v → RelV y u → Rp X.K H x dx → Rp X.K H y dy → cop o dx dy = some c → Q (.bl c) H →
      wpAny (model X.prog X.w) X.A (f v u) (EP X pins σ Q) X.xe s) : OpR X f (rD X.K (cD o)) := by
  intro pins s σ H x y v u Q I rx ry h'
  obtain ⟨P, q, w, dx, dy, d, b, hx, hy, e, k⟩ := h'
  simp only [cD, Option.map_eq_some_iff] at e
  obtain ⟨c, e, rfl⟩ := e
  exact h pins s σ H x y v u Q dx dy c I rx ry hx.full hy.full e (k H _ b.refl (.bl c))
theorem opC_eq (hu : X.A.units + 64 < cLine) : OpR X (compareOp .Eq) (rD X.K (cD .eq)) := opC fun pins s σ H x y v u Q dx dy c I rx ry hx hy e q => by
  simp only [cop] at e
  split at e
  · rename_i hs
    rw [Bool.and_eq_true] at hs
    cases e
    exact op_eqD hu pins s σ H x y v u Q I rx ry ⟨dx, dy, hx.dp (nd_of hs.1), hy.dp (nd_of hs.2), hs.1, hs.2, q⟩
  · unfold eqNil at e
    split at e
    · cases e
      cases hx with
      | tup h1 l1 r1 =>
        cases hy with
        | tup h2 l2 r2 =>
          cases rx
          cases ry
          cases r1
          cases r2
          obtain ⟨its, rv, t1, _⟩ := I.tuple h1
          obtain ⟨its2, rv2, t2, _⟩ := I.tuple h2
          have e1 : its2 = [] := by cases rv2; rfl
          have e2 : ∃ a b, its = a :: b := by cases rv; exact ⟨_, _, rfl⟩
          subst e1
          obtain ⟨a, b, rfl⟩ := e2
          exact SeqAt.eq_tupleAt t1 t2 (by omega) (e := fun _ => false) (fun j h1 h2 => absurd h2 (by simp)) ⟨.bl _, H, I, rfl, by simpa using q⟩
    · cases e
theorem opC_ne (hu : X.A.units + 64 < cLine) : OpR X (compareOp .NotEq) (rD X.K (cD .ne)) := opC fun pins s σ H x y v u Q dx dy c I rx ry hx hy e q => by
  simp only [cop] at e
  split at e
  · rename_i hs
    rw [Bool.and_eq_true] at hs
    cases e
    exact op_neD hu pins s σ H x y v u Q I rx ry ⟨dx, dy, hx.dp (nd_of hs.1), hy.dp (nd_of hs.2), hs.1, hs.2, q⟩
  · cases e
theorem dp_rd {pins : List (Addr × Obj)} {s : Shared} {σ : L2.St} {H : Hp} {x : V} {v : Value} {d : D} (I : Inv X pins σ H s) (rx : RelV x v) (r : Rp X.K H x d) (h : SeqAt.shaped d = true) : ∃ as, Reads s.heap v d as := Dp.reads I d x v (r.dp (nd_of h)) rx
theorem rd_str {pins : List (Addr × Obj)} {s : Shared} {σ : L2.St} {H : Hp} {x : Str} {v : Value} (I : Inv X pins σ H s) (rx : RelV (.str x) v) : ∃ as, Reads s.heap v (.str x) as := Dp.reads I (.str x) (.str x) v (.str x) rx
theorem ord_inv {x y : D} (h : ordB x y = true) : PySem.W.alike x y = true ∧ SeqAt.shaped x = true ∧ SeqAt.shaped y = true := by
  unfold ordB at h
  rw [Bool.and_eq_true, Bool.and_eq_true] at h
  exact ⟨h.1.1, h.1.2, h.2⟩
theorem str_al (x y : Str) : PySem.W.alike (.str x) (.str y) = true := by unfold PySem.W.alike; rfl
theorem opC_lt (hu : X.A.units + 64 < cLine) : OpR X (compareOp .Lt) (rD X.K (cD .lt)) := opC fun pins s σ H x y v u Q dx dy c I rx ry hx hy e q => by
  cases hx with
  | int i =>
    cases hy with
    | int j =>
      cases (show some (decide (i < j)) = some c from e)
      exact op_lt pins s σ H _ _ v u Q I rx ry ⟨_, _, rfl, rfl, q⟩
    | _ => exact nomatch (show (none : Option Bool) = some c from e)
  | str i hi =>
    cases hy with
    | str j hj =>
      cases (show some (lexS i j) = some c from e)
      exact op_lt_str pins s σ H _ _ v u Q I rx ry ⟨_, _, rfl, rfl, q⟩
    | _ => exact nomatch (show (none : Option Bool) = some c from e)
  | @tup a vs ds h1 l1 g1 =>
    cases hy with
    | @tup b us es h2 l2 g2 =>
      have e' : (if ordB (.tuple ds) (.tuple es) then some (PySem.W.dataLt (.tuple ds) (.tuple es)) else none) = some c := e
      rw [Option.ite_none_right_eq_some] at e'
      obtain ⟨ho, e'⟩ := e'
      cases e'
      obtain ⟨o1, o2, o3⟩ := ord_inv ho
      obtain ⟨as, r1⟩ := dp_rd I rx (.tup h1 l1 g1) o2
      obtain ⟨bs, r2⟩ := dp_rd I ry (.tup h2 l2 g2) o3
      exact PySem.W.lt_data r1 r2 o1 (by simp) (SeqAt.room_of_shaped o2 hu) ⟨.bl _, H, I, rfl, q⟩
    | _ => exact nomatch (show (none : Option Bool) = some c from e)
  | _ => cases hy <;> exact nomatch (show (none : Option Bool) = some c from e)
theorem opC_le (hu : X.A.units + 64 < cLine) : OpR X (compareOp .LtE) (rD X.K (cD .le)) := opC fun pins s σ H x y v u Q dx dy c I rx ry hx hy e q => by
  cases hx with
  | int i =>
    cases hy with
    | int j =>
      cases (show some (decide (i ≤ j)) = some c from e)
      exact op_le pins s σ H _ _ v u Q I rx ry ⟨_, _, rfl, rfl, q⟩
    | _ => exact nomatch (show (none : Option Bool) = some c from e)
  | str i hi =>
    cases hy with
    | str j hj =>
      cases (show some (!PySem.W.dataLt (.str j) (.str i)) = some c from e)
      obtain ⟨as, r1⟩ := rd_str I rx
      obtain ⟨bs, r2⟩ := rd_str I ry
      exact PySem.W.le_data r1 r2 (str_al i j) (by simp) (by show X.A.units + min 0 0 < cLine; omega) ⟨.bl _, H, I, rfl, q⟩
    | _ => exact nomatch (show (none : Option Bool) = some c from e)
  | @tup a vs ds h1 l1 g1 =>
    cases hy with
    | @tup b us es h2 l2 g2 =>
      have e' : (if ordB (.tuple ds) (.tuple es) then some (!PySem.W.dataLt (.tuple es) (.tuple ds)) else none) = some c := e
      rw [Option.ite_none_right_eq_some] at e'
      obtain ⟨ho, e'⟩ := e'
      cases e'
      obtain ⟨o1, o2, o3⟩ := ord_inv ho
      obtain ⟨as, r1⟩ := dp_rd I rx (.tup h1 l1 g1) o2
      obtain ⟨bs, r2⟩ := dp_rd I ry (.tup h2 l2 g2) o3
      exact PySem.W.le_data r1 r2 o1 (by simp) (SeqAt.room_of_shaped o2 hu) ⟨.bl _, H, I, rfl, q⟩
    | _ => exact nomatch (show (none : Option Bool) = some c from e)
  | _ => cases hy <;> exact nomatch (show (none : Option Bool) = some c from e)
theorem opC_gt (hu : X.A.units + 64 < cLine) : OpR X (compareOp .Gt) (rD X.K (cD .gt)) := opC fun pins s σ H x y v u Q dx dy c I rx ry hx hy e q => by
  cases hx with
  | int i =>
    cases hy with
    | int j =>
      cases (show some (decide (j < i)) = some c from e)
      exact op_gt pins s σ H _ _ v u Q I rx ry ⟨_, _, rfl, rfl, q⟩
    | _ => exact nomatch (show (none : Option Bool) = some c from e)
  | str i hi =>
    cases hy with
    | str j hj =>
      cases (show some (PySem.W.dataLt (.str j) (.str i)) = some c from e)
      obtain ⟨as, r1⟩ := rd_str I rx
      obtain ⟨bs, r2⟩ := rd_str I ry
      exact PySem.W.gt_data r1 r2 (str_al i j) (by simp) (by show X.A.units + min 0 0 < cLine; omega) ⟨.bl _, H, I, rfl, q⟩
    | _ => exact nomatch (show (none : Option Bool) = some c from e)
  | @tup a vs ds h1 l1 g1 =>
    cases hy with
    | @tup b us es h2 l2 g2 =>
      have e' : (if ordB (.tuple ds) (.tuple es) then some (PySem.W.dataLt (.tuple es) (.tuple ds)) else none) = some c := e
      rw [Option.ite_none_right_eq_some] at e'
      obtain ⟨ho, e'⟩ := e'
      cases e'
      obtain ⟨o1, o2, o3⟩ := ord_inv ho
      obtain ⟨as, r1⟩ := dp_rd I rx (.tup h1 l1 g1) o2
      obtain ⟨bs, r2⟩ := dp_rd I ry (.tup h2 l2 g2) o3
      exact PySem.W.gt_data r1 r2 o1 (by simp) (SeqAt.room_of_shaped o2 hu) ⟨.bl _, H, I, rfl, q⟩
    | _ => exact nomatch (show (none : Option Bool) = some c from e)
  | _ => cases hy <;> exact nomatch (show (none : Option Bool) = some c from e)
theorem opC_ge (hu : X.A.units + 64 < cLine) : OpR X (compareOp .GtE) (rD X.K (cD .ge)) := opC fun pins s σ H x y v u Q dx dy c I rx ry hx hy e q => by
  cases hx with
  | int i =>
    cases hy with
    | int j =>
      cases (show some (decide (j ≤ i)) = some c from e)
      exact op_ge pins s σ H _ _ v u Q I rx ry ⟨_, _, rfl, rfl, q⟩
    | _ => exact nomatch (show (none : Option Bool) = some c from e)
  | str i hi =>
    cases hy with
    | str j hj =>
      cases (show some (!PySem.W.dataLt (.str i) (.str j)) = some c from e)
      obtain ⟨as, r1⟩ := rd_str I rx
      obtain ⟨bs, r2⟩ := rd_str I ry
      exact PySem.W.ge_data r1 r2 (str_al i j) (by simp) (by show X.A.units + min 0 0 < cLine; omega) ⟨.bl _, H, I, rfl, q⟩
    | _ => exact nomatch (show (none : Option Bool) = some c from e)
  | @tup a vs ds h1 l1 g1 =>
    cases hy with
    | @tup b us es h2 l2 g2 =>
      have e' : (if ordB (.tuple ds) (.tuple es) then some (!PySem.W.dataLt (.tuple ds) (.tuple es)) else none) = some c := e
      rw [Option.ite_none_right_eq_some] at e'
      obtain ⟨ho, e'⟩ := e'
      cases e'
      obtain ⟨o1, o2, o3⟩ := ord_inv ho
      obtain ⟨as, r1⟩ := dp_rd I rx (.tup h1 l1 g1) o2
      obtain ⟨bs, r2⟩ := dp_rd I ry (.tup h2 l2 g2) o3
      exact PySem.W.ge_data r1 r2 o1 (by simp) (SeqAt.room_of_shaped o2 hu) ⟨.bl _, H, I, rfl, q⟩
    | _ => exact nomatch (show (none : Option Bool) = some c from e)
  | _ => cases hy <;> exact nomatch (show (none : Option Bool) = some c from e)
theorem rp_non {K : PySem.W.Frag} {H : Hp} {x : V} {d : D} (r : Rp K H x d) : decide (x = .non) = (match d with | .none => true | _ => false) := by
  cases r <;> rfl
theorem opC_is : OpR X (compareOp .Is) (rD X.K (cD .is)) := opC fun pins s σ H x y v u Q dx dy c I rx ry hx hy e q => by
  have key : dy = .none → wpAny (model X.prog X.w) X.A (compareOp .Is v u) (EP X pins σ Q) X.xe s := by
    rintro rfl
    cases hy
    refine op_isN pins s σ H x _ v u Q I rx ry ⟨rfl, ?_⟩
    rw [rp_non hx]
    cases hx <;> simp only [cop] at e <;> cases e <;> exact q
  cases hy with
  | non => exact key rfl
  | bl b' =>
    cases hx <;> simp only [cop] at e <;> cases e
    exact op_is_bl pins s σ H _ _ v u Q I rx ry ⟨_, _, rfl, rfl, q⟩
  | _ => cases hx <;> simp only [cop] at e <;> cases e
theorem opC_isnot : OpR X (compareOp .IsNot) (rD X.K (cD .isnot)) := opC fun pins s σ H x y v u Q dx dy c I rx ry hx hy e q => by
  have key : dy = .none → wpAny (model X.prog X.w) X.A (compareOp .IsNot v u) (EP X pins σ Q) X.xe s := by
    rintro rfl
    cases hy
    refine op_notN pins s σ H x _ v u Q I rx ry ⟨rfl, ?_⟩
    rw [rp_non hx]
    cases hx <;> simp only [cop] at e <;> cases e <;> exact q
  cases hy with
  | non => exact key rfl
  | bl b' =>
    cases hx <;> simp only [cop] at e <;> cases e
    exact op_isnot_bl pins s σ H _ _ v u Q I rx ry ⟨_, _, rfl, rfl, q⟩
  | _ => cases hx <;> simp only [cop] at e <;> cases e
theorem opC_in (hu : X.A.units + 65 < cLine) (hp : thePW = ⟨X.prog, X.w⟩) : OpR X (compareOp .In) (rD X.K (cD .isin)) := opC fun pins s σ H x y v u Q dx dy c I rx ry hx hy e q => by
  simp only [cop] at e
  have rd : SeqAt.shaped dx = true → SeqAt.shaped dy = true → (∃ as, Reads s.heap v dx as) ∧ ∃ bs, Reads s.heap u dy bs := fun h1 h2 => ⟨Dp.reads I dx x v (hx.dp (nd_of h1)) rx, Dp.reads I dy y u (hy.dp (nd_of h2)) ry⟩
  cases hy with
  | lst hs hl hr =>
    simp only [inD] at e
    split at e
    · rename_i z
      rw [Bool.and_eq_true] at z
      cases e
      obtain ⟨⟨as, r1⟩, bs, r2⟩ := rd z.1 z.2
      exact SeqAt.in_list_reads r2 r1 (SeqAt.canLay_of_shaped z.2) (SeqAt.canLay_of_shaped z.1) (room_in_shaped z.1 hu) ⟨.bl _, H, I, rfl, q⟩
    · cases e
  | tup hs hl hr =>
    simp only [inD] at e
    split at e
    · rename_i z
      rw [Bool.and_eq_true] at z
      cases e
      obtain ⟨⟨as, r1⟩, bs, r2⟩ := rd z.1 z.2
      exact SeqAt.in_tuple_reads r2 r1 (SeqAt.canLay_of_shaped z.2) (SeqAt.canLay_of_shaped z.1) (room_in_shaped z.1 hu) ⟨.bl _, H, I, rfl, q⟩
    · cases e
  | str j hj =>
    cases hx <;> simp only [inD] at e <;> cases e
    exact op_in_str pins s σ H _ _ v u Q I rx ry ⟨_, _, rfl, rfl, q⟩
  | dct g1 g2 g3 =>
    have e2 : (asDcL _).bind (fun xs => (toTK dx).map fun k => (atDc xs k).isSome) = some c := e
    rw [Option.bind_eq_some_iff] at e2
    obtain ⟨ks, e3, e4⟩ := e2
    rw [Option.map_eq_some_iff] at e4
    obtain ⟨k, e5, rfl⟩ := e4
    obtain ⟨b, rfl, kq, _⟩ := key_rp hx e5
    cases rx
    cases ry
    refine wpAny_in_heap (tupleKind_room_in1 (by omega)) (key_ofS I kq) g2.ns (dc_entR hp I g1 g2 g3) ⟨.bl _, H, I.tok _, rfl, ?_⟩
    rcases g3.at e3 k with ⟨a1, a2⟩ | ⟨p, v', d, a1, a2, a3, a4⟩
    · rw [a1]
      rw [a2] at q
      exact q
    · rw [a1]
      rw [a4] at q
      exact q
  | fn x => exact nomatch (show (none : Option Bool) = some c from e)
  | _ => simp only [inD] at e; cases e
theorem opC_notin (hu : X.A.units + 65 < cLine) (hp : thePW = ⟨X.prog, X.w⟩) : OpR X (compareOp .NotIn) (rD X.K (cD .notin)) := opC fun pins s σ H x y v u Q dx dy c I rx ry hx hy e q => by
  simp only [cop, Option.map_eq_some_iff] at e
  obtain ⟨c', e, rfl⟩ := e
  have rd : SeqAt.shaped dx = true → SeqAt.shaped dy = true → (∃ as, Reads s.heap v dx as) ∧ ∃ bs, Reads s.heap u dy bs := fun h1 h2 => ⟨Dp.reads I dx x v (hx.dp (nd_of h1)) rx, Dp.reads I dy y u (hy.dp (nd_of h2)) ry⟩
  cases hy with
  | lst hs hl hr =>
    simp only [inD] at e
    split at e
    · rename_i z
      rw [Bool.and_eq_true] at z
      cases e
      obtain ⟨⟨as, r1⟩, bs, r2⟩ := rd z.1 z.2
      exact SeqAt.notIn_list_reads r2 r1 (SeqAt.canLay_of_shaped z.2) (SeqAt.canLay_of_shaped z.1) (room_in_shaped z.1 hu) ⟨.bl _, H, I, rfl, q⟩
    · cases e
  | tup hs hl hr =>
    simp only [inD] at e
    split at e
    · rename_i z
      rw [Bool.and_eq_true] at z
      cases e
      obtain ⟨⟨as, r1⟩, bs, r2⟩ := rd z.1 z.2
      exact SeqAt.notIn_tuple_reads r2 r1 (SeqAt.canLay_of_shaped z.2) (SeqAt.canLay_of_shaped z.1) (room_in_shaped z.1 hu) ⟨.bl _, H, I, rfl, q⟩
    · cases e
  | str j hj =>
    cases hx <;> simp only [inD] at e <;> cases e
    exact op_notIn_str pins s σ H _ _ v u Q I rx ry ⟨_, _, rfl, rfl, q⟩
  | dct g1 g2 g3 =>
    have e2 : (asDcL _).bind (fun xs => (toTK dx).map fun k => (atDc xs k).isSome) = some c' := e
    rw [Option.bind_eq_some_iff] at e2
    obtain ⟨ks, e3, e4⟩ := e2
    rw [Option.map_eq_some_iff] at e4
    obtain ⟨k, e5, rfl⟩ := e4
    obtain ⟨b, rfl, kq, _⟩ := key_rp hx e5
    cases rx
    cases ry
    refine wpAny_notIn_heap (tupleKind_room_in1 (by omega)) (key_ofS I kq) g2.ns (dc_entR hp I g1 g2 g3) ⟨.bl _, H, I.tok _, rfl, ?_⟩
    rcases g3.at e3 k with ⟨a1, a2⟩ | ⟨p, v', d, a1, a2, a3, a4⟩
    · rw [a1]
      rw [a2] at q
      exact q
    · rw [a1]
      rw [a4] at q
      exact q
  | fn x => exact nomatch (show (none : Option Bool) = some c' from e)
  | _ => simp only [inD] at e; cases e
theorem opCD {o : Cop} {po : CmpOp} (hu : X.A.units + 65 < cLine) (hp : thePW = ⟨X.prog, X.w⟩) (h : copB o po = true) : OpR X (compareOp po) (rD X.K (cD o)) := by
  have hu' : X.A.units + 64 < cLine := by omega
  have e := copB_po h
  subst e
  cases o
  · exact opC_eq hu'
  · exact opC_ne hu'
  · exact opC_lt hu'
  · exact opC_le hu'
  · exact opC_gt hu'
  · exact opC_ge hu'
  · exact opC_in hu hp
  · exact opC_notin hu hp
  · exact opC_is
  · exact opC_isnot
end
end RX

-- RX4
set_option Elab.async false
set_option linter.all false
set_option maxRecDepth 100000
set_option maxHeartbeats 1000000
/-! RX4: what a piece of the small syntax means for the machine: definitions and small cases. -/
namespace RX
open PySem PySem.Spec PyProof.Rows L2
variable [PWd]
/-! ### the monad -/
section
variable {α β : Type} {x : M α} {f : α → M β} {w w' : W} {a : α} {b : β}
theorem bind_inv (h : (x >>= f).run w = some (b, w')) : ∃ a w1, x.run w = some (a, w1) ∧ (f a).run w1 = some (b, w') := by
  have h' : (x.run w).bind (fun p => (f p.1).run p.2) = some (b, w') := h
  cases e : x.run w with
  | none => rw [e] at h'; cases h'
  | some p => rw [e] at h'; exact ⟨p.1, p.2, rfl, h'⟩
theorem pure_inv (h : (pure a : M α).run w = some (a', w')) : a = a' ∧ w = w' := by
  have h' : some (a, w) = some (a', w') := h
  cases h'
  exact ⟨rfl, rfl⟩
theorem lift_inv {o : Option α} (h : (lift o).run w = some (a, w')) : o = some a ∧ w = w' := by
  have h' : (o.map fun a => (a, w)) = some (a, w') := h
  cases o with
  | none => cases h'
  | some c => cases h'; exact ⟨rfl, rfl⟩
theorem none_inv {P : Prop} (h : (lift (none : Option α)).run w = some (a, w')) : P := by
  obtain ⟨e, _⟩ := lift_inv h
  cases e
end
/-! ### situations -/
def ER (K : PySem.W.Frag) (P : List Addr) (ρ : Env) (σ : L2.St) (H : Hp) : Prop := ∀ i d, getv ρ i = some d → ∃ v, σ[i]? = some (some v) ∧ Rp K (hide H P) v d
structure Sit (K : PySem.W.Frag) (pl : Bool) (P : List Addr) (q : Option Addr) (ρ : Env) (w : W) (σ : L2.St) (H : Hp) : Prop where
  b : Bs P q w H
  isP : q.isSome = pl
  at0 : ∀ a, q = some a → σ[0]? = some (some (.ref a))
  er : ER K P ρ σ H
  ln : ρ.length ≤ σ.length
theorem Sit.ext {K : PySem.W.Frag} {pl : Bool} {P : List Addr} {q : Option Addr} {ρ : Env} {w w' : W} {σ : L2.St} {H H' : Hp} (s : Sit K pl P q ρ w σ H) (x : Ext q w' H H') : Sit K pl P q ρ w' σ H' :=
  ⟨s.b.ext x, s.isP, s.at0, fun i d e => let ⟨v, h1, h2⟩ := s.er i d e; ⟨v, h1, s.b.rp x h2⟩, s.ln⟩
section
variable (K : PySem.W.Frag) (C : Ctx) (pl : Bool)
def tE (e : E) : TE := fun σ H Q => ∃ P q ρ w d w', Sit K pl P q ρ w σ H ∧ (evE C e ρ).run w = some (d, w') ∧ ∀ H' v, Ext q w' H H' → Rp K (hide H' P) v d → Q v H'
def tT (e : E) : TT := fun σ H Q => ∃ P q ρ w c w', Sit K pl P q ρ w σ H ∧ (evT C e ρ).run w = some (c, w') ∧ ∀ H', Ext q w' H H' → Q c H'
def tL (es : EL) : TA := fun σ H Q => ∃ P q ρ w ds w', Sit K pl P q ρ w σ H ∧ (evL C es ρ).run w = some (ds, w') ∧ ∀ H' vs, Ext q w' H H' → RpAll K (hide H' P) vs ds → Q vs H'
def Grows (H H' : Hp) : Prop := H' = H ∨ ∃ T o, H T = none ∧ H' = upd H T o
/-- what is walked: the data xs; as: the objects that it reads -/
structure WalkD (J : L2.It) (xs : List D) (P : List Addr) (H0 : Hp) (as : List Addr) (G : Hp → Prop) (Y : Nat → Hp → V → Hp → Prop) : Prop where
  wk : Walk J xs.length G Y
  len : xs.length ≤ sizeLine
  out : ∀ a ∈ as, a ∉ P
  g0 : G H0
  stay : ∀ H H', G H → (∀ a ∈ as, ∀ o, H a = some o → H' a = some o) → G H'
  item : ∀ i H x H' d P', i < xs.length → G H → Same (hide H0 P) (hide H P') → (∀ a ∈ P', H a ≠ none) → Y i H x H' → xs[i]? = some d → Grows H H' ∧ Rp K (hide H' P') x d
def tI (it : RX.It) : TI := fun σ H R => ∃ P q ρ w xs w', Sit K pl P q ρ w σ H ∧ (evIt C it ρ).run w = some (xs, w') ∧ ∀ J H1 as G Y, Ext q w' H H1 → WalkD K J xs P H1 as G Y → R J H1
end
/-- a constant of the module -/
def GlFact (X : Cx) (x : Str) (d : D) : Prop := ∃ u v, X.mg x = some u ∧ RelV v u ∧ ∀ H, Rp X.K H v d
/-- a def's promise by a function of data -/
def spD (K : PySem.W.Frag) (p : Bool) (n : Nat) (m : Fn) : Sp := fun vs H Q _ => ∃ P q w ds d w', Bs P q w H ∧ vs.length = n ∧
  (if p = true then ∃ a us, q = some a ∧ vs = .ref a :: us ∧ RpAll K (hide H P) us ds else q = none ∧ RpAll K (hide H P) vs ds) ∧ (m ds).run w = some (d, w') ∧
  ∀ H' v, Ext q w' H H' → Rp K (hide H' P) v d → Q v H'
/-- a def keeps a promise, called where no list's text is under way -/
structure FnOkG (P : Program) (w : World) (K : PySem.W.Frag) (mg : Str → Option Value) (base : Heap) (k : Nat) (f : Addr) (fd : FuncData) (ps : List Str) (sp : Sp) : Prop where
  len : ∀ vs H Q E, sp vs H Q E → vs.length = ps.length
  run : ∀ (A : Around) (outer : List PySem.Env) (s : Shared) (H : Hp) (args : Args) (us : List Value) (vs : List V) (Q : VK) (E : XK), Room k A → A.guards = some [] → Env0 P w K mg base A outer s H → BindsTo s fd args (ps.zip us) → Vals vs us → sp vs H Q E →
    codeAny (model P w) A (.call (.ref f) args) (CR CX0 outer P w H s Q E) s
theorem FnOkG.mono {P : Program} {w : World} {K : PySem.W.Frag} {mg : Str → Option Value} {base : Heap} {j k : Nat} {f : Addr} {fd : FuncData} {ps : List Str} {sp : Sp} (F : FnOkG P w K mg base j f fd ps sp) (h : j ≤ k) : FnOkG P w K mg base k f fd ps sp :=
  ⟨F.len, fun A outer s H args us vs Q E hr => F.run A outer s H args us vs Q E (hr.mono h)⟩
structure FnFact (X : Cx) (k : Nat) (x : Str) (p : Bool) (ar : List Str) (ks : List (List Nat)) (m : Fn) : Prop where
  ex : ∃ f fd, FnOkG X.prog X.w X.K X.mg X.base k f fd ar (spD X.K p ar.length m) ∧ X.mg x = some (.ref f) ∧ PySem.W.keepIn X.K (.ref f) = true ∧ Binds X.K fd ar [] ∧
    ∀ kw ∈ ks, ∀ ws : List Value, ws.length = kw.length → bindArgs fd ⟨[], ((kw.filterMap fun j => ar[j]?)).zip ws⟩ = pure (ar.zip (permA kw ws))
structure XOk (X : Cx) (C : Ctx) (T : Tab) (k : Nat) : Prop where
  calm : X.calm = true
  nd : X.N.Nodup
  room : Room k X.A
  gd : X.A.guards = some []
  fns : ∀ (j : Nat) (f : Fn), C.fns[j]? = some f → ∀ x p ar ks, T.fn[j]? = some (x, p, ar, ks) → FnFact X k x p ar ks f
  cs : ∀ (j : Nat) (d : D), C.cs[j]? = some d → ∀ x, T.cs[j]? = some x → GlFact X x d
  bl : ∀ x ∈ T.bl, X.mg x = none
  mt : ∀ x ∈ T.mt, X.mg x = some (.builtin (if x = "gcd" then "math.gcd" else "math.lcm"))
  pw : thePW = ⟨X.prog, X.w⟩
theorem XOk.blk {X : Cx} {C : Ctx} {T : Tab} {k : Nat} (h : XOk X C T k) (s : Shared) (H : Hp) (scope : Scope) (cenv : PySem.Env) (fp : List Addr) : XOk (X.blk s H scope cenv fp) C T k :=
  ⟨h.calm, h.nd, h.room, h.gd, fun j f e x p ar ks e2 => ⟨(h.fns j f e x p ar ks e2).ex⟩, fun j d e x e2 => h.cs j d e x e2, h.bl, h.mt, h.pw⟩
theorem XOk.hu {X : Cx} {C : Ctx} {T : Tab} {k : Nat} (h : XOk X C T k) : X.A.units + 65 < cLine := by
  have := h.room.un
  omega
theorem XOk.hu1 {X : Cx} {C : Ctx} {T : Tab} {k : Nat} (h : XOk X C T k) : X.A.units < cLine := by
  have := h.room.un
  omega
/-- the written scope and the one that runs -/
structure ScRel (X : Cx) (sc : Scope) : Prop where
  vis : ∀ x, visB sc x = true → Vis X.env.scope x
  gl : ∀ x, glB sc x = true → Gl X x
  loc : ∀ x, locB sc x = true → L2.Loc X.env.scope x ∧ (X.fn x = true ∨ X.env.scope.names.lookup x = some .local)
  cf : ∀ x, (sc.names.lookup x = some .cell ∨ sc.names.lookup x = some .free) → (X.env.scope.names.lookup x = some .cell ∨ X.env.scope.names.lookup x = some .free)
theorem visB_iff {sc : Scope} {x : Str} (h : visB sc x = true) : Vis sc x := by
  unfold visB at h
  unfold Vis
  split at h
  · exact .inl ‹_›
  · exact .inr (.inl ‹_›)
  · exact .inr (.inr ‹_›)
  · cases h
theorem glB_iff {sc : Scope} {x : Str} (h : glB sc x = true) : sc.names.lookup x = some .globalImplicit := by
  unfold glB at h
  split at h
  · assumption
  · cases h
theorem locB_iff {sc : Scope} {x : Str} (h : locB sc x = true) : L2.Loc sc x := by
  unfold locB at h
  unfold L2.Loc
  split at h
  · exact .inl ‹_›
  · exact .inr ‹_›
  · cases h
theorem ScRel.self {X : Cx} (hf : ∀ x, X.fn x = true) : ScRel X X.env.scope :=
  ⟨fun x h => visB_iff h, fun x h => glB_iff h, fun x h => ⟨locB_iff h, .inl (hf x)⟩, fun x h => h⟩
theorem relS_free {scope sc : Scope} : ∀ {names : List (Str × NameKind)} {x : Str}, names.lookup x = some .free →
    ((names.map fun (n, k) => if (k == NameKind.free && sc.kind == .function && sc.names.lookup n == some .cell) then (n, NameKind.cell) else (n, k)).lookup x = some .free ∨
     (names.map fun (n, k) => if (k == NameKind.free && sc.kind == .function && sc.names.lookup n == some .cell) then (n, NameKind.cell) else (n, k)).lookup x = some .cell)
  | [], x, h => by simp at h
  | (n, k) :: r, x, h => by
    have ih := @relS_free scope sc r x
    show List.lookup x ((if (k == NameKind.free && sc.kind == .function && sc.names.lookup n == some .cell) = true then (n, NameKind.cell) else (n, k)) :: _) = some .free ∨ List.lookup x ((if (k == NameKind.free && sc.kind == .function && sc.names.lookup n == some .cell) = true then (n, NameKind.cell) else (n, k)) :: _) = some .cell
    cases hx : x == n with
    | true =>
      simp only [List.lookup_cons, hx] at h
      cases h
      by_cases hc : (NameKind.free == NameKind.free && sc.kind == .function && sc.names.lookup n == some .cell) = true
      · rw [if_pos hc]; right; simp only [List.lookup_cons, hx]
      · rw [if_neg hc]; left; simp only [List.lookup_cons, hx]
    | false =>
      simp only [List.lookup_cons, hx] at h
      by_cases hc : (k == NameKind.free && sc.kind == .function && sc.names.lookup n == some .cell) = true
      · rw [if_pos hc]; simp only [List.lookup_cons, hx]; exact ih h
      · rw [if_neg hc]; simp only [List.lookup_cons, hx]; exact ih h
theorem ScRel.blk {X : Cx} {scope : Scope} (s : Shared) (H : Hp) (C : Addr) (cl : List (Str × Addr)) (fp : List Addr) : ScRel (X.blk s H scope (compEnvC scope cl C X.env) fp) scope := by
  have hs : (compEnvC scope cl C X.env).scope = relS scope X.env.scope := rfl
  have keep : ∀ x k, k ≠ .free → scope.names.lookup x = some k → (relS scope X.env.scope).names.lookup x = some k := fun x k hk e => lookup_relS_keep hk e
  have fr : ∀ x, scope.names.lookup x = some .free → (relS scope X.env.scope).names.lookup x = some .free ∨ (relS scope X.env.scope).names.lookup x = some .cell := fun x e => relS_free (scope := scope) e
  refine ⟨fun x h => ?_, fun x h => ?_, fun x h => ?_, fun x h => ?_⟩
  · show Vis (relS scope X.env.scope) x
    rcases visB_iff h with e | e | e
    · exact .inl (keep x _ (by decide) e)
    · exact .inr (.inl (keep x _ (by decide) e))
    · rcases fr x e with e | e
      · exact .inr (.inr e)
      · exact .inr (.inl e)
  · show (relS scope X.env.scope).names.lookup x = _
    exact keep x _ (by decide) (glB_iff h)
  · show L2.Loc (relS scope X.env.scope) x ∧ ((scope.names.lookup x == some .cell) = true ∨ (relS scope X.env.scope).names.lookup x = some .local)
    rcases locB_iff h with e | e
    · exact ⟨.inl (keep x _ (by decide) e), .inr (keep x _ (by decide) e)⟩
    · exact ⟨.inr (keep x _ (by decide) e), .inl (by rw [e]; rfl)⟩
  · show (relS scope X.env.scope).names.lookup x = _ ∨ (relS scope X.env.scope).names.lookup x = _
    rcases h with e | e
    · exact .inl (keep x _ (by decide) e)
    · exact (fr x e).symm
/-! ### weaker readings -/
section
variable {X : Cx} {e : Expr}
theorem PE.wk {t t' : TE} (h : PE X e t) (i : ∀ σ H Q, t' σ H Q → t σ H Q) : PE X e t' := ⟨fun pins s σ H Q I q => h.run pins s σ H Q I (i σ H Q q)⟩
theorem PT.wk {t t' : TT} (h : PT X e t) (i : ∀ σ H Q, t' σ H Q → t σ H Q) : PT X e t' := ⟨fun pins s σ H Q I q => h.run pins s σ H Q I (i σ H Q q)⟩
theorem PA.wk {es : List Expr} {t t' : TA} (h : PA X es t) (i : ∀ σ H Q, t' σ H Q → t σ H Q) : PA X es t' := ⟨fun pos pins s σ H Q I q => h.run pos pins s σ H Q I (i σ H Q q)⟩
theorem PI.wk {tg : Expr} {t t' : TI} (h : PI X tg e t) (i : ∀ σ H R, t' σ H R → t σ H R) : PI X tg e t' := ⟨fun pins s σ H Q I q => h.run pins s σ H Q I (i σ H Q q)⟩
end
/-! ### small cases -/
section
variable {X : Cx} {C : Ctx} {T : Tab} {pl : Bool} {k : Nat}
theorem se_loc {i : Nat} {x : Str} {pos : Pos} (hN : X.N[i]? = some x) (hv : Vis X.env.scope x) (hp : plainName x = true) : PE X (.Name x pos) (tE X.K C pl (.loc i)) := by
  unfold plainName at hp
  simp only [Bool.and_eq_true, bne_iff_ne, ne_eq] at hp
  refine PE.wk (pe_var hN hv (by simpa using hp.1.1) (by simpa using hp.1.2)) fun σ H Q h => ?_
  obtain ⟨P, q, ρ, w, d, w', st, ev, kk⟩ := h
  obtain ⟨e, rfl⟩ := lift_inv ev
  obtain ⟨v, h1, h2⟩ := st.er _ _ e
  exact ⟨v, h1, kk H v st.b.refl h2⟩
theorem se_cst {d : D} {c : Const} {j : Nat} {pos : Pos} (h : cstB d c = true) : PE X (.Constant c j pos) (tE X.K C pl (.cst d)) := by
  have key : ∀ v, (∀ H, Rp X.K H v d) → PE X (.Constant c j pos) (tC v) → PE X (.Constant c j pos) (tE X.K C pl (.cst d)) := fun v r p => PE.wk p fun σ H Q h => by
    obtain ⟨P, q, ρ, w, d', w', st, ev, kk⟩ := h
    obtain ⟨rfl, rfl⟩ := pure_inv ev
    exact kk H v st.b.refl (r _)
  unfold cstB at h
  split at h
  · exact key .non (fun _ => .non) pe_non
  · rename_i b c'
    have e : b = c' := by simpa using h
    subst e
    exact key (.bl b) (fun _ => .bl b) pe_bl
  · rename_i i j'
    have e : i = j' := by simpa using h
    subst e
    exact key (.int i) (fun _ => .int i) pe_int
  · rename_i x y
    simp only [Bool.and_eq_true, decide_eq_true_eq] at h
    obtain ⟨rfl, hl⟩ := h
    exact key (.str x) (fun _ => .str x hl) pe_str
  · cases h
theorem se_glb {j : Nat} {x : Str} {pos : Pos} (xo : XOk X C T k) (hT : T.cs[j]? = some x) (hg : Gl X x) (hp : plainName x = true) : PE X (.Name x pos) (tE X.K C pl (.glb j)) := by
  unfold plainName at hp
  simp only [Bool.and_eq_true, bne_iff_ne, ne_eq] at hp
  cases e : C.cs[j]? with
  | none =>
    refine ⟨fun pins s σ H Q I h => ?_⟩
    obtain ⟨P, q, ρ, w, d, w', st, ev, kk⟩ := h
    obtain ⟨e', rfl⟩ := lift_inv ev
    rw [e] at e'
    cases e'
  | some d =>
    obtain ⟨u, v, h1, h2, h3⟩ := xo.cs j d e x hT
    refine PE.wk (pe_glob hg h1 h2 (by simpa using hp.1.1)) fun σ H Q h => ?_
    obtain ⟨P, q, ρ, w, d', w', st, ev, kk⟩ := h
    obtain ⟨e', rfl⟩ := lift_inv ev
    rw [e] at e'
    cases e'
    exact kk H v st.b.refl (h3 _)
/-- two parts, one behind the other -/
theorem two {a b : E} {σ : L2.St} {H : Hp} {Q : V → V → Hp → Prop} {P : List Addr} {q : Option Addr} {ρ : Env} {w w1 w2 : W} {da db : D} (st : Sit X.K pl P q ρ w σ H) (ea : (evE C a ρ).run w = some (da, w1)) (eb : (evE C b ρ).run w1 = some (db, w2))
    (kk : ∀ H2 x y, Ext q w2 H H2 → Bs P q w2 H2 → Rp X.K (hide H2 P) x da → Rp X.K (hide H2 P) y db → Q x y H2) :
    tE X.K C pl a σ H fun x H1 => tE X.K C pl b σ H1 fun y H2 => Q x y H2 := by
  refine ⟨P, q, ρ, w, da, w1, st, ea, fun H1 x x1 r1 => ?_⟩
  have st1 := st.ext x1
  refine ⟨P, q, ρ, w1, db, w2, st1, eb, fun H2 y x2 r2 => ?_⟩
  exact kk H2 x y (x1.trans x2) (st1.b.ext x2) (st1.b.rp x2 r1) r2
theorem se_bin {o : Bop} {po : Operator} {a b : E} {pa pb : Expr} {pos : Pos} (h : bopB o po = true) (ha : PE X pa (tE X.K C pl a)) (hb : PE X pb (tE X.K C pl b)) : PE X (.BinOp pa po pb pos) (tE X.K C pl (.bin o a b)) := by
  refine PE.wk (pe_op (opD h) ha hb) fun σ H Q h => ?_
  obtain ⟨P, q, ρ, w, d, w', st, ev, kk⟩ := h
  obtain ⟨da, w1, ea, ev⟩ := bind_inv ev
  obtain ⟨db, w2, eb, ev⟩ := bind_inv ev
  obtain ⟨e, rfl⟩ := lift_inv ev
  exact two st ea eb fun H2 x y x2 b2 r1 r2 => ⟨P, q, _, da, db, d, b2, r1, r2, e, fun H3 v x3 r => kk H3 v (x2.trans x3) r⟩
theorem se_cmp {o : Cop} {po : CmpOp} {a b : E} {pa pb : Expr} {pos : Pos} (xo : XOk X C T k) (h : copB o po = true) (hm : behindInMarks po pb = false) (ha : PE X pa (tE X.K C pl a)) (hb : PE X pb (tE X.K C pl b)) : PE X (.Compare pa [po] [pb] pos) (tE X.K C pl (.cmp o a b)) := by
  refine PE.wk (pe_cmpR (opCD xo.hu xo.pw h) ha hb hm) fun σ H Q h => ?_
  obtain ⟨P, q, ρ, w, d, w', st, ev, kk⟩ := h
  obtain ⟨da, w1, ea, ev⟩ := bind_inv ev
  obtain ⟨db, w2, eb, ev⟩ := bind_inv ev
  obtain ⟨c, w3, ec, ev⟩ := bind_inv ev
  obtain ⟨e, rfl⟩ := lift_inv ec
  obtain ⟨rfl, rfl⟩ := pure_inv ev
  exact two st ea eb fun H2 x y x2 b2 r1 r2 => ⟨P, q, _, da, db, _, b2, r1, r2, congrArg (Option.map PyData.bool) e, fun H3 v x3 r => kk H3 v (x2.trans x3) r⟩
theorem st_cmp {o : Cop} {po : CmpOp} {a b : E} {pa pb : Expr} {pos : Pos} (xo : XOk X C T k) (h : copB o po = true) (hm : behindInMarks po pb = false) (ha : PE X pa (tE X.K C pl a)) (hb : PE X pb (tE X.K C pl b)) : PT X (.Compare pa [po] [pb] pos) (tT X.K C pl (.cmp o a b)) := by
  refine PT.wk (pt_cmpR (opCD xo.hu xo.pw h) ha hb hm) fun σ H Q h => ?_
  obtain ⟨P, q, ρ, w, d, w', st, ev, kk⟩ := h
  obtain ⟨dd, w0, ev, ev2⟩ := bind_inv ev
  obtain ⟨da, w1, ea, ev⟩ := bind_inv ev
  obtain ⟨db, w2, eb, ev⟩ := bind_inv ev
  obtain ⟨c, w3, ec, ev⟩ := bind_inv ev
  obtain ⟨e, rfl⟩ := lift_inv ec
  obtain ⟨rfl, rfl⟩ := pure_inv ev
  obtain ⟨e2, rfl⟩ := lift_inv ev2
  cases e2
  refine two (Q := fun x y H2 => rD X.K (cD o) x y H2 fun x H1 => ∃ c, x = .bl c ∧ Q c H1) st ea eb fun H2 x y x2 b2 r1 r2 => ⟨P, q, _, da, db, _, b2, r1, r2, congrArg (Option.map PyData.bool) e, fun H3 v x3 r => ?_⟩
  cases r
  exact ⟨_, rfl, kk H3 (x2.trans x3)⟩
theorem chain_core {o p : Cop} {po pp : CmpOp} {a b c : E} {σ : L2.St} {H : Hp} {Q : VK} {P : List Addr} {q : Option Addr} {ρ : Env} {w w' : W} {d : D} (st : Sit X.K pl P q ρ w σ H)
    (ev : (evE C (.chain o p a b c) ρ).run w = some (d, w')) (kk : ∀ H' v, Ext q w' H H' → Rp X.K (hide H' P) v d → Q v H') :
    tChain (rD X.K (cD o)) (rD X.K (cD p)) (tE X.K C pl a) (tE X.K C pl b) (tE X.K C pl c) σ H Q := by
  obtain ⟨da, w1, ea, ev⟩ := bind_inv ev
  obtain ⟨db, w2, eb, ev⟩ := bind_inv ev
  obtain ⟨k1, w3, ec, ev⟩ := bind_inv ev
  obtain ⟨e, rfl⟩ := lift_inv ec
  refine two (Q := fun x y H2 => rD X.K (cD o) x y H2 fun z H3 => ∃ k, z = .bl k ∧ (if k = true then tE X.K C pl c σ H3 fun w' H4 => rD X.K (cD p) y w' H4 Q else Q (.bl false) H3)) st ea eb fun H2 x y x2 b2 r1 r2 => ⟨P, q, _, da, db, _, b2, r1, r2, congrArg (Option.map PyData.bool) e, fun H3 v x3 r => ?_⟩
  cases r
  refine ⟨_, rfl, ?_⟩
  cases k1 with
  | false =>
    obtain ⟨rfl, rfl⟩ := pure_inv ev
    exact kk H3 _ (x2.trans x3) (.bl false)
  | true =>
    obtain ⟨dc, w4, ec, ev⟩ := bind_inv ev
    obtain ⟨k2, w5, e2l, ev⟩ := bind_inv ev
    obtain ⟨e2, rfl⟩ := lift_inv e2l
    obtain ⟨rfl, rfl⟩ := pure_inv ev
    have st3 := st.ext (x2.trans x3)
    refine ⟨P, q, ρ, _, dc, _, st3, ec, fun H4 z x4 r4 => ?_⟩
    have b4 := st3.b.ext x4
    exact ⟨P, q, _, db, dc, _, b4, (b2.ext x3).rp x4 (b2.rp x3 r2), r4, congrArg (Option.map PyData.bool) e2, fun H5 v x5 r => kk H5 v ((x2.trans x3).trans (x4.trans x5)) r⟩
theorem se_chain {o p : Cop} {po pp : CmpOp} {a b c : E} {pa pb pc : Expr} {pos : Pos} (xo : XOk X C T k) (h : copB o po = true) (h' : copB p pp = true) (hm : lastMarks [po, pp] [pb, pc] = false)
    (ha : PE X pa (tE X.K C pl a)) (hb : PE X pb (tE X.K C pl b)) (hc : PE X pc (tE X.K C pl c)) : PE X (.Compare pa [po, pp] [pb, pc] pos) (tE X.K C pl (.chain o p a b c)) := by
  refine PE.wk (pe_chain (opCD xo.hu xo.pw h) (opCD xo.hu xo.pw h') ha hb hc hm) fun σ H Q h => ?_
  obtain ⟨P, q, ρ, w, d, w', st, ev, kk⟩ := h
  exact chain_core (po := po) (pp := pp) st ev kk
theorem se_neg {a : E} {pa : Expr} {pos : Pos} (ha : PE X pa (tE X.K C pl a)) : PE X (.UnaryOp .USub pa pos) (tE X.K C pl (.neg a)) := by
  refine PE.wk (pe_un un_neg ha) fun σ H Q h => ?_
  obtain ⟨P, q, ρ, w, d, w', st, ev, kk⟩ := h
  obtain ⟨da, w1, ea, ev⟩ := bind_inv ev
  obtain ⟨i, w2, el, ev⟩ := bind_inv ev
  obtain ⟨e, rfl⟩ := lift_inv el
  obtain ⟨rfl, rfl⟩ := pure_inv ev
  refine ⟨P, q, ρ, w, da, _, st, ea, fun H1 x x1 r1 => ?_⟩
  cases r1 <;> simp only [asInt] at e <;> cases e
  exact ⟨_, rfl, kk H1 _ x1 (.int _)⟩
theorem asB {d : D} {c : Bool} (h : asBool d = some c) : d = .bool c := by
  cases d <;> simp only [asBool] at h <;> cases h
  rfl
theorem asI {d : D} {c : Int} (h : asInt d = some c) : d = .int c := by
  cases d <;> simp only [asInt] at h <;> cases h
  rfl
theorem se_not {a : E} {pa : Expr} {pos : Pos} (ha : PE X pa (tE X.K C pl a)) : PE X (.UnaryOp .Not pa pos) (tE X.K C pl (.not a)) := by
  refine PE.wk (pe_not ha) fun σ H Q h => ?_
  obtain ⟨P, q, ρ, w, d, w', st, ev, kk⟩ := h
  obtain ⟨da, w1, ea, ev⟩ := bind_inv ev
  obtain ⟨i, w2, el, ev⟩ := bind_inv ev
  obtain ⟨e, rfl⟩ := lift_inv el
  obtain ⟨rfl, rfl⟩ := pure_inv ev
  cases asB e
  refine ⟨P, q, ρ, w, _, _, st, ea, fun H1 x x1 r1 => ?_⟩
  cases r1
  exact ⟨_, rfl, kk H1 _ x1 (.bl _)⟩
theorem st_not {a : E} {pa : Expr} {pos : Pos} (ha : PT X pa (tT X.K C pl a)) : PT X (.UnaryOp .Not pa pos) (tT X.K C pl (.not a)) := by
  refine PT.wk (pt_not ha) fun σ H Q h => ?_
  obtain ⟨P, q, ρ, w, d, w', st, ev, kk⟩ := h
  obtain ⟨dd, w0, ev, ev2⟩ := bind_inv ev
  obtain ⟨da, w1, ea, ev⟩ := bind_inv ev
  obtain ⟨i, w2, el, ev⟩ := bind_inv ev
  obtain ⟨e, rfl⟩ := lift_inv el
  obtain ⟨rfl, rfl⟩ := pure_inv ev
  obtain ⟨e2, rfl⟩ := lift_inv ev2
  cases e2
  refine ⟨P, q, ρ, w, i, _, st, ?_, fun H1 x1 => kk H1 x1⟩
  show (evE C a ρ >>= fun x => lift (asBool x)).run w = _
  show ((evE C a ρ).run w).bind _ = _
  rw [ea]
  show (asBool da).map _ = _
  rw [e]
  rfl
/-- from a value to a test -/
theorem st_val {e : E} {pe : Expr} (h : PE X pe (tE X.K C pl e)) (he : ∀ whole, isTrue pe X.env whole = (do let v ← whole; standAt pe.pos; holding [v] (truthy v))) : PT X pe (tT X.K C pl e) := by
  refine PT.wk (pt_val h he) fun σ H Q h => ?_
  obtain ⟨P, q, ρ, w, c, w', st, ev, kk⟩ := h
  obtain ⟨d, w1, ea, ev⟩ := bind_inv ev
  obtain ⟨e, rfl⟩ := lift_inv ev
  cases asB e
  refine ⟨P, q, ρ, w, _, _, st, ea, fun H1 x x1 r1 => ?_⟩
  cases r1
  exact ⟨_, rfl, kk H1 x1⟩
theorem se_and {a b : E} {pa pb : Expr} {rest : List Expr} {pos : Pos} (ha : PE X pa (tE X.K C pl a)) (hb : PE X (.BoolOp .And (pb :: rest) pos) (tE X.K C pl b)) : PE X (.BoolOp .And (pa :: pb :: rest) pos) (tE X.K C pl (.and a b)) := by
  refine PE.wk (pe_and ha hb) fun σ H Q h => ?_
  obtain ⟨P, q, ρ, w, d, w', st, ev, kk⟩ := h
  obtain ⟨da, w1, ea, ev⟩ := bind_inv ev
  obtain ⟨c, w2, el, ev⟩ := bind_inv ev
  obtain ⟨e, rfl⟩ := lift_inv el
  cases asB e
  refine ⟨P, q, ρ, w, _, _, st, ea, fun H1 x x1 r1 => ?_⟩
  cases r1
  refine ⟨_, rfl, ?_⟩
  cases c with
  | true => exact ⟨P, q, ρ, _, d, w', st.ext x1, ev, fun H2 v x2 r2 => kk H2 v (x1.trans x2) r2⟩
  | false =>
    obtain ⟨rfl, rfl⟩ := pure_inv ev
    exact kk H1 _ x1 (.bl _)
theorem se_or {a b : E} {pa pb : Expr} {rest : List Expr} {pos : Pos} (ha : PE X pa (tE X.K C pl a)) (hb : PE X (.BoolOp .Or (pb :: rest) pos) (tE X.K C pl b)) : PE X (.BoolOp .Or (pa :: pb :: rest) pos) (tE X.K C pl (.or a b)) := by
  refine PE.wk (pe_or ha hb) fun σ H Q h => ?_
  obtain ⟨P, q, ρ, w, d, w', st, ev, kk⟩ := h
  obtain ⟨da, w1, ea, ev⟩ := bind_inv ev
  obtain ⟨c, w2, el, ev⟩ := bind_inv ev
  obtain ⟨e, rfl⟩ := lift_inv el
  cases asB e
  refine ⟨P, q, ρ, w, _, _, st, ea, fun H1 x x1 r1 => ?_⟩
  cases r1
  refine ⟨_, rfl, ?_⟩
  cases c with
  | false => exact ⟨P, q, ρ, _, d, w', st.ext x1, ev, fun H2 v x2 r2 => kk H2 v (x1.trans x2) r2⟩
  | true =>
    obtain ⟨rfl, rfl⟩ := pure_inv ev
    exact kk H1 _ x1 (.bl _)
theorem evT_intro {e : E} {ρ : Env} {w w' : W} {d : D} {c : Bool} (h : (evE C e ρ).run w = some (d, w')) (hc : asBool d = some c) : (evT C e ρ).run w = some (c, w') := by
  show ((evE C e ρ).run w).bind _ = _
  rw [h]
  show (asBool d).map _ = _
  rw [hc]
  rfl
theorem pw_wk {e : Expr} {t t' : TT} (h : PW X e t) (i : ∀ σ H Q, t' σ H Q → t σ H Q) : PW X e t' := ⟨fun wh pins s σ H Q I q => h.run wh pins s σ H Q I (i σ H Q q)⟩
theorem st_and {a b : E} {pa pb : Expr} {rest : List Expr} {pos : Pos} (ha : PT X pa (tT X.K C pl a)) (hb : PW X (.BoolOp .And (pb :: rest) pos) (tT X.K C pl b)) : PW X (.BoolOp .And (pa :: pb :: rest) pos) (tT X.K C pl (.and a b)) := by
  refine pw_wk (pw_and ha hb) fun σ H Q h => ?_
  obtain ⟨P, q, ρ, w, d, w', st, ev, kk⟩ := h
  obtain ⟨dd, w0, ev, ev2⟩ := bind_inv ev
  obtain ⟨da, w1, ea, ev⟩ := bind_inv ev
  obtain ⟨c, w2, el, ev⟩ := bind_inv ev
  obtain ⟨e, rfl⟩ := lift_inv el
  obtain ⟨e2, rfl⟩ := lift_inv ev2
  refine ⟨P, q, ρ, w, _, _, st, evT_intro ea e, fun H1 x1 => ?_⟩
  cases c with
  | true => exact ⟨P, q, ρ, _, d, _, st.ext x1, evT_intro ev e2, fun H2 x2 => kk H2 (x1.trans x2)⟩
  | false =>
    obtain ⟨rfl, rfl⟩ := pure_inv ev
    cases e2
    exact kk H1 x1
theorem st_or {a b : E} {pa pb : Expr} {rest : List Expr} {pos : Pos} (ha : PT X pa (tT X.K C pl a)) (hb : PW X (.BoolOp .Or (pb :: rest) pos) (tT X.K C pl b)) : PW X (.BoolOp .Or (pa :: pb :: rest) pos) (tT X.K C pl (.or a b)) := by
  refine pw_wk (pw_or ha hb) fun σ H Q h => ?_
  obtain ⟨P, q, ρ, w, d, w', st, ev, kk⟩ := h
  obtain ⟨dd, w0, ev, ev2⟩ := bind_inv ev
  obtain ⟨da, w1, ea, ev⟩ := bind_inv ev
  obtain ⟨c, w2, el, ev⟩ := bind_inv ev
  obtain ⟨e, rfl⟩ := lift_inv el
  obtain ⟨e2, rfl⟩ := lift_inv ev2
  refine ⟨P, q, ρ, w, _, _, st, evT_intro ea e, fun H1 x1 => ?_⟩
  cases c with
  | false => exact ⟨P, q, ρ, _, d, _, st.ext x1, evT_intro ev e2, fun H2 x2 => kk H2 (x1.trans x2)⟩
  | true =>
    obtain ⟨rfl, rfl⟩ := pure_inv ev
    cases e2
    exact kk H1 x1
theorem se_ite {c a b : E} {pc pa pb : Expr} {pos : Pos} (hc : PT X pc (tT X.K C pl c)) (ha : PE X pa (tE X.K C pl a)) (hb : PE X pb (tE X.K C pl b)) : PE X (.IfExp pc pa pb pos) (tE X.K C pl (.ite c a b)) := by
  refine PE.wk (pe_ifExp hc ha hb) fun σ H Q h => ?_
  obtain ⟨P, q, ρ, w, d, w', st, ev, kk⟩ := h
  obtain ⟨da, w1, ea, ev⟩ := bind_inv ev
  obtain ⟨c, w2, el, ev⟩ := bind_inv ev
  obtain ⟨e, rfl⟩ := lift_inv el
  refine ⟨P, q, ρ, w, _, _, st, evT_intro ea e, fun H1 x1 => ?_⟩
  cases c with
  | true => exact ⟨P, q, ρ, _, d, w', st.ext x1, ev, fun H2 v x2 r2 => kk H2 v (x1.trans x2) r2⟩
  | false => exact ⟨P, q, ρ, _, d, w', st.ext x1, ev, fun H2 v x2 r2 => kk H2 v (x1.trans x2) r2⟩
theorem st_ite {c a b : E} {pc pa pb : Expr} {pos : Pos} (hc : PT X pc (tT X.K C pl c)) (ha : PT X pa (tT X.K C pl a)) (hb : PT X pb (tT X.K C pl b)) : PT X (.IfExp pc pa pb pos) (tT X.K C pl (.ite c a b)) := by
  refine ⟨fun pins s σ H Q I h => ?_⟩
  obtain ⟨P, q, ρ, w, d, w', st, ev, kk⟩ := h
  obtain ⟨dd, w0, ev, ev2⟩ := bind_inv ev
  obtain ⟨da, w1, ea, ev⟩ := bind_inv ev
  obtain ⟨c', w2, el, ev⟩ := bind_inv ev
  obtain ⟨e, rfl⟩ := lift_inv el
  obtain ⟨e2, rfl⟩ := lift_inv ev2
  have arm : isTrue (.IfExp pc pa pb pos) X.env (eval (.IfExp pc pa pb pos) X.env) = (do
    if ← isTrue pc X.env (eval pc X.env) then isTrue pa X.env (eval pa X.env) else isTrue pb X.env (eval pb X.env)) := rfl
  rw [arm]
  refine wpAny_bind (thn (hc.run pins s σ H (fun c2 H1 => c2 = c' ∧ Ext q w1 H H1) I ⟨P, q, ρ, w, c', _, st, evT_intro ea e, fun H1 x1 => ⟨rfl, x1⟩⟩) fun c2 s1 ⟨H1, I1, ec, x1⟩ => ?_)
  subst ec
  cases c2 with
  | true => exact ha.run pins s1 σ H1 Q I1 ⟨P, q, ρ, _, d, _, st.ext x1, evT_intro ev e2, fun H2 x2 => kk H2 (x1.trans x2)⟩
  | false => exact hb.run pins s1 σ H1 Q I1 ⟨P, q, ρ, _, d, _, st.ext x1, evT_intro ev e2, fun H2 x2 => kk H2 (x1.trans x2)⟩
/-! ### displays, items, slices -/
theorem sl_nil : PA X [] (tL X.K C pl .nil) := PA.wk pa_nil fun σ H Q h => by
  obtain ⟨P, q, ρ, w, d, w', st, ev, kk⟩ := h
  obtain ⟨rfl, rfl⟩ := pure_inv ev
  exact kk H [] st.b.refl .nil
theorem sl_cons {e : E} {es : EL} {pe : Expr} {ps : List Expr} (h : PE X pe (tE X.K C pl e)) (hs : PA X ps (tL X.K C pl es)) (hst : starEach (pe :: ps) X.env = (false, eval pe X.env) :: starEach ps X.env) : PA X (pe :: ps) (tL X.K C pl (.cons e es)) :=
  PA.wk (pa_cons h hs hst) fun σ H Q h => by
    obtain ⟨P, q, ρ, w, d, w', st, ev, kk⟩ := h
    obtain ⟨da, w1, ea, ev⟩ := bind_inv ev
    obtain ⟨ds, w2, eb, ev⟩ := bind_inv ev
    obtain ⟨rfl, rfl⟩ := pure_inv ev
    refine ⟨P, q, ρ, w, da, w1, st, ea, fun H1 x x1 r1 => ?_⟩
    exact ⟨P, q, ρ, w1, ds, _, st.ext x1, eb, fun H2 xs x2 r2 => kk H2 (x :: xs) (x1.trans x2) (.cons ((st.ext x1).b.rp x2 r1) r2)⟩
theorem se_tup {es : EL} {ps : List Expr} {x1 : Nat} {pos : Pos} (h : PA X ps (tL X.K C pl es)) : PE X (.Tuple ps x1 pos) (tE X.K C pl (.tup es)) :=
  PE.wk (pe_tup h) fun σ H Q h => by
    obtain ⟨P, q, ρ, w, d, w', st, ev, kk⟩ := h
    obtain ⟨ds, w1, ea, ev⟩ := bind_inv ev
    split at ev
    · rename_i hl
      obtain ⟨rfl, rfl⟩ := pure_inv ev
      refine ⟨P, q, ρ, w, ds, _, st, ea, fun H1 xs x1 r1 => ?_⟩
      have l := r1.length
      have b1 := st.b.ext x1
      exact ⟨by omega, fun p n => kk _ _ (x1.trans (b1.new n)) (.tup (.inl (.inl (b1.at_new n))) (by omega) (b1.rps (b1.new n) r1))⟩
    · exact none_inv ev
theorem se_lst {es : EL} {ps : List Expr} {pos : Pos} (h : PA X ps (tL X.K C pl es)) : PE X (.List ps pos) (tE X.K C pl (.lst es)) :=
  PE.wk (pe_lst h) fun σ H Q h => by
    obtain ⟨P, q, ρ, w, d, w', st, ev, kk⟩ := h
    obtain ⟨ds, w1, ea, ev⟩ := bind_inv ev
    split at ev
    · rename_i hl
      obtain ⟨rfl, rfl⟩ := pure_inv ev
      refine ⟨P, q, ρ, w, ds, _, st, ea, fun H1 xs x1 r1 => ?_⟩
      have l := r1.length
      have b1 := st.b.ext x1
      exact ⟨by omega, fun p n => kk _ _ (x1.trans (b1.new n)) (.lst (.inl (.inl (b1.at_new n))) (by omega) (b1.rps (b1.new n) r1))⟩
    · exact none_inv ev
theorem atI_ix {K : PySem.W.Frag} {H : Hp} {vs : List V} {ds : List D} {i : Int} {d : D} (r : RpAll K H vs ds) (e : L2.atI ds i = some d) : ∃ v, L2.atI vs i = some v ∧ Rp K H v d := by
  unfold L2.atI at e ⊢
  rw [← r.length] at e
  cases h : ixN vs.length i with
  | none => rw [h] at e; cases e
  | some j =>
    rw [h] at e
    exact r.get e
theorem se_idx {a b : E} {pa pb : Expr} {pos : Pos} (ha : PE X pa (tE X.K C pl a)) (hb : PE X pb (tE X.K C pl b)) (hs : PlainIx pb) : PE X (.Subscript pa pb pos) (tE X.K C pl (.idx a b)) :=
  PE.wk (pe_ix ix_seq ha hb hs) fun σ H Q h => by
    obtain ⟨P, q, ρ, w, d, w', st, ev, kk⟩ := h
    obtain ⟨da, w1, ea, ev⟩ := bind_inv ev
    obtain ⟨db, w2, eb, ev⟩ := bind_inv ev
    obtain ⟨e, rfl⟩ := lift_inv ev
    refine two st ea eb fun H2 x y x2 b2 r1 r2 => ?_
    cases r1 with
    | lst hs hl hr =>
      cases r2 with
      | int i =>
        obtain ⟨v, h1, h2⟩ := atI_ix hr e
        exact .inl ⟨_, _, _, v, rfl, rfl, (hide_same H2 P).seq hs, h1, kk H2 v x2 h2⟩
      | _ => cases e
    | tup hs hl hr =>
      cases r2 with
      | int i =>
        obtain ⟨v, h1, h2⟩ := atI_ix hr e
        exact .inr (.inl ⟨_, _, _, v, rfl, rfl, Same.seqT (hide_same H2 P) hs, h1, kk H2 v x2 h2⟩)
      | _ => cases e
    | str z hz =>
      cases r2 with
      | int i =>
        simp only [idx, Option.map_eq_some_iff] at e
        obtain ⟨c, e, rfl⟩ := e
        exact .inr (.inr ⟨z, i, c, rfl, rfl, hz, e, kk H2 _ x2 (.str _ (by show 1 ≤ sizeLine; decide))⟩)
      | _ => cases e
    | _ => cases r2 <;> cases e
end
end RX

-- RXRev
set_option Elab.async false
set_option linter.all false
set_option maxRecDepth 100000
set_option maxHeartbeats 1000000
/-! RXRev: t[::-1] of a tuple. -/
namespace RX
open PySem PySem.Spec PyProof.Rows L2
variable [PWd]
section
variable {prog : Program} {w : World} {A : Around} {E : Value → Shared → Prop} {s : Shared}
theorem places_rev (n : Nat) : Builtin.Slice.slicePlaces ((n : Int) - 1) (-1) (-1) = n := by
  unfold Builtin.Slice.slicePlaces
  rw [if_neg (by decide)]
  by_cases h : n = 0
  · subst h; decide
  · rw [if_pos (by omega)]
    have : ((n : Int) - 1 - -1 - 1) / (- -1) + 1 = n := by
      have e : (- -1 : Int) = 1 := by decide
      rw [e, Int.ediv_one]; omega
    rw [this]; simp
theorem applied_rev {sl : Addr} {vs : Value} {n : Nat} {Q : Int × Int × Nat → Shared → Prop} (hs : s.heap.IsSliceOf sl .none .none vs) (ps : IsPart vs (some (-1))) (h : Q ((n : Int) - 1, -1, n) s) :
    wpAny (model prog w) A (Builtin.Slice.sliceApplied (.ref sl) (pure (n : Int))) Q E s := by
  obtain ⟨os, hos, hcs, hds⟩ := id hs
  unfold Builtin.Slice.sliceApplied Builtin.Slice.sliceFields
  refine wpAny_bind (wpAny_bind (wpAny_field hos hds (x := .none) rfl (wpAny_bind (wpAny_field hos hds (x := .none) rfl (wpAny_bind (wpAny_field hos hds (x := vs) rfl (wpAny_pure ?_)))))))
  refine wpAny_bind (HT.slicePart_ ps ?_)
  show wpAny _ _ (if ((-1 : Int) == 0) = true then _ else _) _ _ s
  rw [if_neg (by decide)]
  refine wpAny_bind (HT.slicePart_ .none (wpAny_bind (HT.slicePart_ .none (wpAny_bind (wpAny_pure ?_)))))
  show wpAny _ _ (pure ((n : Int) - 1, (-1 : Int), Builtin.Slice.slicePlaces ((n : Int) - 1) (-1) (-1))) _ _ s
  rw [places_rev]
  exact wpAny_pure h
theorem fm_congr {α β : Type} {f g : α → Option β} : ∀ {l : List α}, (∀ x ∈ l, f x = g x) → l.filterMap f = l.filterMap g
  | [], _ => rfl
  | x :: r, h => by
    rw [List.filterMap_cons, List.filterMap_cons, h x (by simp), fm_congr fun y hy => h y (by simp [hy])]
theorem pick_rev (xs : Array Value) : ((List.range xs.size).filterMap fun (m : Nat) => xs[((xs.size : Int) - 1 + (m : Int) * (-1)).toNat]?).toArray = xs.toList.reverse.toArray := by
  congr 1
  have e : ((List.range xs.size).filterMap fun (m : Nat) => xs[((xs.size : Int) - 1 + (m : Int) * (-1)).toNat]?) = (List.range xs.size).filterMap fun m => xs.toList.reverse[m]? := by
    apply fm_congr
    intro m hm
    have hm := List.mem_range.mp hm
    have : ((xs.size : Int) - 1 + (m : Int) * (-1)).toNat = xs.size - 1 - m := by omega
    rw [this, List.getElem?_reverse (by simpa using hm), Array.getElem?_toList, Array.length_toList]
  rw [e]
  apply List.ext_getElem?
  intro i
  by_cases hi : i < xs.size
  · have : (List.range xs.size).filterMap (fun m => xs.toList.reverse[m]?) = (List.range xs.size).map (fun m => xs.toList.reverse.getD m .none) := by
      rw [← List.filterMap_eq_map]
      apply fm_congr
      intro m hm
      have hm := List.mem_range.mp hm
      have hl : m < xs.toList.reverse.length := by simpa using hm
      rw [List.getElem?_eq_getElem hl]
      simp [List.getD, List.getElem?_eq_getElem hl]
    rw [this, List.getElem?_map, List.getElem?_range hi]
    have hl : i < xs.toList.reverse.length := by simpa using hi
    simp only [Option.map_some, List.getD, List.getElem?_eq_getElem hl, Option.getD_some]
  · have h1 : ((List.range xs.size).filterMap fun m => xs.toList.reverse[m]?).length ≤ xs.size := by
      have := List.length_filterMap_le (fun m => xs.toList.reverse[m]?) (List.range xs.size)
      simpa using this
    rw [List.getElem?_eq_none (by omega), List.getElem?_eq_none (by simp; omega)]
theorem item_rev {t sl : Addr} {items : Array Value} {vs : Value} {Q : Value → Shared → Prop} (ht : IsTup s.heap t items) (hs : s.heap.IsSliceOf sl .none .none vs) (ps : IsPart vs (some (-1)))
    (h : Q (.ref s.heap.objs.size) { s with heap := s.heap.push { cls := .type "tuple", data := .seq items.toList.reverse.toArray } }) (hsz : items.size ≤ sizeLine) : wpAny (model prog w) A (getItem (.ref t) (.ref sl)) Q E s := by
  have hz : sizeOk (.seq items.toList.reverse.toArray) := by
    show items.toList.reverse.toArray.size ≤ sizeLine
    simpa using hsz
  obtain ⟨os, hos, hcs, hds⟩ := id hs
  have hTs : s.TypeIs (.ref sl) "slice" := ⟨os, hos, hcs⟩
  unfold getItem
  try with_reducible refine wpAny_holding ?_
  first | refine wpAny_bind (wpAny_pure ?_) | skip
  refine wpAny_bind (wpAny_sequenceKey ht.typeIs (by decide) ?_)
  refine wpAny_bind (wpAny_callSpecial?_slot (name := Str.ofString "__getitem__") ht.typeIs PyProof.Rows.slot_tuple_getitem (wpAny_call_entry PyProof.Rows.slot_tuple_getitem ht.typeIs PyProof.Rows.entry_tuple_getitem ?_ (PyProof.Rows.args_tuple_getitem _ _)))
  show wpAny _ _ (Builtin.Tuple.tupleItemsOf (.ref t) >>= _) _ _ s
  refine wpAny_bind (tupleItemsOf_ ht ?_)
  refine wpAny_bind (wpAny_typeOf hTs ?_)
  rw [if_pos (by decide)]
  refine wpAny_bind (applied_rev hs ps ?_)
  show wpAny _ _ (if (((items.size : Int) - 1) == 0 && (-1 : Int) == 1 && items.size == items.size) = true then _ else _) _ _ s
  rw [if_neg (by simp), pick_rev]
  first
    | exact wpAny_bind (m := Builtin.Tuple.tupleExact _) (wpAny_newObj_type (wpAny_pure ⟨_, rfl, wpAny_pure h⟩) hz)
    | exact wpAny_bind (m := Builtin.Tuple.tupleExact _) (wpAny_newObj_type (wpAny_bind (wpAny_pure (wpAny_pure ⟨_, rfl, wpAny_pure h⟩))) hz)
    | exact wpAny_bind (wpAny_bind (m := Builtin.Tuple.tupleExact _) (wpAny_newObj_type (wpAny_pure (wpAny_pure ⟨_, rfl, wpAny_pure h⟩)) hz))
    | exact wpAny_bind (wpAny_bind (m := Builtin.Tuple.tupleExact _) (wpAny_newObj_type (wpAny_pure ⟨_, rfl, wpAny_pure h⟩) hz))
end
/-- of a list or a tuple -/
def tRv (K : PySem.W.Frag) (te : TE) : TE := fun σ H Q => te σ H fun x H1 => ∃ a xs, x = .ref a ∧ ((SqL K H1 a xs ∧ ∀ p, H1 p = none → Q (.ref p) (upd H1 p (.lst xs.reverse))) ∨ (SqT K H1 a xs ∧ ∀ p, H1 p = none → Q (.ref p) (upd H1 p (.tup xs.reverse))))
theorem pe_rv {X : Cx} {e : Expr} {te : TE} {k : Nat} {p1 p2 p3 pos : Pos} (he : PE X e te) : PE X (.Subscript e (.Slice none none (some (.UnaryOp .USub (.Constant (.int 1) k p1) p2)) p3) pos) (tRv X.K te) := by
  refine ⟨fun pins s σ H Q I h => Subscript_ (thn (he.run pins s σ H _ I h) fun v s1 ⟨x, H1, I1, r1, a, xs, ex, q⟩ => ?_)⟩
  subst ex
  cases r1
  have step : PO X (some (.UnaryOp .USub (.Constant (.int 1) k p1) p2)) (tPart (tUn (rU fun i => .int (-i)) (tC (.int 1)))) := po_some (pe_un un_neg pe_int)
  refine wpAny_Slice (thn (po_none.run pins s1 σ H1 (fun o H2 => o = none ∧ H2 = H1) I1 ⟨rfl, rfl⟩) fun vl s2 ⟨l, H2, I2, pl, el, e2⟩ => thn (po_none.run pins s2 σ H2 (fun o H3 => o = none ∧ H3 = H2) I2 ⟨rfl, rfl⟩) fun vu s3 ⟨u, H3, I3, pu, eu, e3⟩ =>
    thn (step.run pins s3 σ H3 (fun o H4 => o = some (-1) ∧ H4 = H3) I3 ⟨1, rfl, -1, rfl, rfl, rfl⟩) fun vs s4 ⟨o, H4, I4, ps, eo, e4⟩ => ?_)
  subst el e2 eu e3 eo e4
  have I5 : Inv X pins σ H4 { s4 with heap := s4.heap.push { cls := .type "slice", data := .fields #[vl, vu, vs] } } := I4.kept (t' := s4.toks) fun b ob q => Heap.get?_push_of_some _ q
  have tl : ∀ {T : String} {L : Value}, True := fun {_ _} => trivial
  show wpAny (model X.prog X.w) X.A (subscriptTail e (.Slice none none (some (.UnaryOp .USub (.Constant (.int 1) k p1) p2)) p3) (.ref a) (.ref s4.heap.objs.size)) (EP X pins σ Q) X.xe { s4 with heap := s4.heap.push { cls := .type "slice", data := .fields #[vl, vu, vs] } }
  rcases q with ⟨hx, q⟩ | ⟨hx, q⟩
  · obtain ⟨its, r, ht, hz⟩ := I5.list hx
    have hlen := r.length
    refine tail_any (ops := [.ref a, .ref s4.heap.objs.size]) ht.isList.typeIs (PySem.slot_list_getitem.lookup) ?_ (by with_unfolding_all rfl)
    refine wpAny_getItem_list_slice ht.isList (Heap.IsSliceOf.new _ vl vu vs) pl pu ps (by decide) ?_ (by rw [List.size_toArray]; omega)
    rw [PySem.W.krv_pick]
    exact ⟨.ref _, _, I5.laid (t' := s4.toks) (o := .lst xs.reverse) (fun b ob q => Heap.get?_push_of_some _ q) (Nat.le_refl _) ⟨by rw [List.length_reverse]; exact hz, _, 0, r.reverse, Heap.get?_push_size _ rfl⟩, rfl, q _ (I5.hok.fresh (Nat.le_refl _))⟩
  · obtain ⟨its, r, ht, hz⟩ := I5.tuple hx
    have hlen := r.length
    refine tail_any (ops := [.ref a, .ref s4.heap.objs.size]) ht.typeIs (PyProof.Rows.slot_tuple_getitem.lookup) ?_ (by with_unfolding_all rfl)
    obtain rfl : vl = .none := by cases pl; rfl
    obtain rfl : vu = .none := by cases pu; rfl
    refine item_rev ht (Heap.IsSliceOf.new _ .none .none vs) ps ?_ (by rw [List.size_toArray]; omega)
    exact ⟨.ref _, _, I5.laid (t' := s4.toks) (o := .tup xs.reverse) (fun b ob q => Heap.get?_push_of_some _ q) (Nat.le_refl _) ⟨by rw [List.length_reverse]; exact hz, _, r.reverse, ⟨_, Heap.get?_push_size _ rfl, rfl, _, rfl⟩⟩, rfl, q _ (I5.hok.fresh (Nat.le_refl _))⟩
end RX

-- RX5
set_option Elab.async false
set_option linter.all false
set_option maxRecDepth 100000
set_option maxHeartbeats 1000000
/-! RX5: slices, built-ins, calls. -/
namespace RX
open PySem PySem.Spec PyProof.Rows L2
variable [PWd]
section
variable {X : Cx} {C : Ctx} {T : Tab} {pl : Bool} {k : Nat}
/-! ### slices -/
theorem cutS_len (z : Str) (lo hi : Option Int) : (cutS z lo hi).length ≤ z.length := by
  show (cutS z lo hi).cps.size ≤ z.cps.size
  unfold cutS
  rw [List.size_toArray, List.length_take, List.length_drop, Array.length_toList]
  omega
theorem slD : SlR X (fun x lo hi H Q => ∃ P q w dx d, Bs P q w H ∧ Rp X.K (hide H P) x dx ∧ slc dx lo hi = some d ∧ ∀ H' v, Ext q w H H' → Rp X.K (hide H' P) v d → Q v H') := by
  intro pins s σ H x v vl vu lo hi sl Q I rx hs pl pu h
  obtain ⟨P, q, w, dx, d, b, r, e, kk⟩ := h
  cases r with
  | lst h1 h2 h3 =>
    cases e
    refine sl_list pins s σ H _ v vl vu lo hi sl Q I rx hs pl pu ⟨_, _, rfl, (hide_same H P).seq h1, fun p n => ?_⟩
    exact kk _ _ (b.new n) (.lst (.inl (.inl (b.at_new n))) (Nat.le_trans (cutV_length _ _ _) h2) (b.rps (b.new n) (h3.cut lo hi)))
  | @tup a xs ds h1 h2 h3 =>
    cases e
    refine sl_tupA pins s σ H _ v vl vu lo hi sl Q I rx hs pl pu ⟨_, _, rfl, Same.seqT (hide_same H P) h1, fun hw => ?_, fun hw p n => ?_⟩
    · refine kk _ _ b.refl (.tup h1 h2 ?_)
      have e : cutD ds lo hi = ds := by
        unfold cutD
        rw [← h3.length, hw.1, hw.2, List.drop_zero, Nat.sub_zero, h3.length]
        exact List.take_length
      rw [e]
      exact h3
    · exact kk _ _ (b.new n) (.tup (.inl (.inl (b.at_new n))) (Nat.le_trans (cutV_length _ _ _) h2) (b.rps (b.new n) (h3.cut lo hi)))
  | str z hz =>
    cases e
    exact sl_str pins s σ H _ v vl vu lo hi sl Q I rx hs pl pu ⟨_, rfl, hz, kk _ _ b.refl (.str _ (Nat.le_trans (cutS_len _ _ _) hz))⟩
  | _ => cases e
/-- a part of a slice: written or not -/
def tPt (K : PySem.W.Frag) (C : Ctx) (pl : Bool) (has : Bool) (e : E) : TO := fun σ H Q => ∃ P q ρ w o w', Sit K pl P q ρ w σ H ∧
  ((if has then (do let y ← evE C e ρ; let i ← lift (asInt y); pure (some i)) else pure none : M (Option Int))).run w = some (o, w') ∧ ∀ H', Ext q w' H H' → Q o H'
theorem PO.wk {e : Option Expr} {t t' : TO} (h : PO X e t) (i : ∀ σ H Q, t' σ H Q → t σ H Q) : PO X e t' := ⟨fun pins s σ H Q I q => h.run pins s σ H Q I (i σ H Q q)⟩
theorem so_none {e : E} : PO X none (tPt X.K C pl false e) := PO.wk po_none fun σ H Q h => by
  obtain ⟨P, q, ρ, w, o, w', st, ev, kk⟩ := h
  obtain ⟨rfl, rfl⟩ := pure_inv ev
  exact kk H st.b.refl
theorem so_some {e : E} {pe : Expr} (h : PE X pe (tE X.K C pl e)) : PO X (some pe) (tPt X.K C pl true e) := PO.wk (po_some h) fun σ H Q h => by
  obtain ⟨P, q, ρ, w, o, w', st, ev, kk⟩ := h
  obtain ⟨d, w1, ea, ev⟩ := bind_inv ev
  obtain ⟨i, w2, el, ev⟩ := bind_inv ev
  obtain ⟨e, rfl⟩ := lift_inv el
  obtain ⟨rfl, rfl⟩ := pure_inv ev
  cases asI e
  refine ⟨P, q, ρ, w, _, _, st, ea, fun H1 x x1 r1 => ?_⟩
  cases r1
  exact ⟨i, rfl, kk H1 x1⟩
theorem se_slc {hl hh : Bool} {a lo hi : E} {pa : Expr} {plo phi : Option Expr} {p2 pos : Pos} (ha : PE X pa (tE X.K C pl a)) (h1 : PO X plo (tPt X.K C pl hl lo)) (h2 : PO X phi (tPt X.K C pl hh hi)) :
    PE X (.Subscript pa (.Slice plo phi none p2) pos) (tE X.K C pl (.slc hl hh a lo hi)) :=
  PE.wk (pe_slice slD ha h1 h2) fun σ H Q h => by
    obtain ⟨P, q, ρ, w, d, w', st, ev, kk⟩ := h
    obtain ⟨da, w1, ea, ev⟩ := bind_inv ev
    obtain ⟨l, w2, el, ev⟩ := bind_inv ev
    obtain ⟨u, w3, eh, ev⟩ := bind_inv ev
    obtain ⟨e, rfl⟩ := lift_inv ev
    refine ⟨P, q, ρ, w, da, w1, st, ea, fun H1 x x1 r1 => ?_⟩
    have st1 := st.ext x1
    refine ⟨P, q, ρ, w1, l, w2, st1, el, fun H2 x2 => ?_⟩
    have st2 := st1.ext x2
    refine ⟨P, q, ρ, w2, u, _, st2, eh, fun H3 x3 => ?_⟩
    have st3 := st2.ext x3
    exact ⟨P, q, _, da, d, st3.b, st2.b.rp x3 (st1.b.rp x2 r1), e, fun H4 v x4 r => kk H4 v ((x1.trans x2).trans (x3.trans x4)) r⟩
theorem se_rev {a : E} {pa : Expr} {kk : Nat} {p1 p2 p3 pos : Pos} (ha : PE X pa (tE X.K C pl a)) : PE X (.Subscript pa (.Slice none none (some (.UnaryOp .USub (.Constant (.int 1) kk p1) p2)) p3) pos) (tE X.K C pl (.rev a)) :=
  PE.wk (pe_rv ha) fun σ H Q h => by
    obtain ⟨P, q, ρ, w, d, w', st, ev, kk⟩ := h
    obtain ⟨da, w1, ea, ev⟩ := bind_inv ev
    split at ev
    · obtain ⟨rfl, rfl⟩ := pure_inv ev
      refine ⟨P, q, ρ, w, _, _, st, ea, fun H1 x x1 r1 => ?_⟩
      have b1 := st.b.ext x1
      cases r1 with
      | lst h1 h2 h3 =>
        exact ⟨_, _, rfl, .inl ⟨(hide_same H1 P).seq h1, fun p n => kk _ _ (x1.trans (b1.new n)) (.lst (.inl (.inl (b1.at_new n))) (by rw [List.length_reverse]; exact h2) (b1.rps (b1.new n) h3.rev))⟩⟩
    · obtain ⟨rfl, rfl⟩ := pure_inv ev
      refine ⟨P, q, ρ, w, _, _, st, ea, fun H1 x x1 r1 => ?_⟩
      have b1 := st.b.ext x1
      cases r1 with
      | tup h1 h2 h3 =>
        exact ⟨_, _, rfl, .inr ⟨Same.seqT (hide_same H1 P) h1, fun p n => kk _ _ (x1.trans (b1.new n)) (.tup (.inl (.inl (b1.at_new n))) (by rw [List.length_reverse]; exact h2) (b1.rps (b1.new n) h3.rev))⟩⟩
    · exact none_inv ev
/-! ### built-ins -/
def rB (K : PySem.W.Frag) (f : D → Option D) : List V → Hp → VK → Prop := fun xs H Q => ∃ P q w x dx d, xs = [x] ∧ Bs P q w H ∧ Rp K (hide H P) x dx ∧ f dx = some d ∧ ∀ H' v, Ext q w H H' → Rp K (hide H' P) v d → Q v H'
def rB2 (K : PySem.W.Frag) (f : D → D → Option D) : List V → Hp → VK → Prop := fun xs H Q => ∃ P q w x y dx dy d, xs = [x, y] ∧ Bs P q w H ∧ Rp K (hide H P) x dx ∧ Rp K (hide H P) y dy ∧ f dx dy = some d ∧ ∀ H' v, Ext q w H H' → Rp K (hide H' P) v d → Q v H'
def biV (b : Bi) : Value := if (biN b).2 then .type ((biN b).1.toString) else .builtin ((biN b).1.toString)
theorem insI_perm (a : Int) : ∀ l, (insI a l).Perm (a :: l)
  | [] => .refl _
  | b :: r => by
    unfold insI
    split
    · exact .refl _
    · exact ((insI_perm a r).cons b).trans (.swap a b r)
theorem sortI_perm : ∀ l, (sortI l).Perm l
  | [] => .refl _
  | a :: r => (insI_perm a (sortI r)).trans ((sortI_perm r).cons a)
theorem insI_rises (a : Int) : ∀ l : List Int, l.Pairwise (· ≤ ·) → (insI a l).Pairwise (· ≤ ·)
  | [], _ => .cons (fun _ h => nomatch h) .nil
  | b :: r, h => by
    unfold insI
    split
    · rename_i hab
      refine .cons (fun c hc => ?_) h
      rcases List.mem_cons.mp hc with rfl | hc
      · exact hab
      · exact Int.le_trans hab (List.rel_of_pairwise_cons h hc)
    · rename_i hab
      refine .cons (fun c hc => ?_) (insI_rises a r (List.Pairwise.of_cons h))
      rcases List.mem_cons.mp ((insI_perm a r).mem_iff.mp hc) with rfl | hc
      · omega
      · exact List.rel_of_pairwise_cons h hc
theorem sortI_rises : ∀ l, (sortI l).Pairwise (· ≤ ·)
  | [] => .nil
  | a :: r => insI_rises a _ (sortI_rises r)
theorem sortI_uniq {l l' : List Int} (p : l'.Perm l) (h : l'.Pairwise (· ≤ ·)) : l' = sortI l :=
  List.Perm.eq_of_pairwise (fun _ _ _ _ h1 h2 => Int.le_antisymm h1 h2) h (sortI_rises l) (p.trans (sortI_perm l).symm)
theorem crD_len : CallR X (.builtin "len") (rB X.K (bi1 .len)) := by
  intro pins s σ H xs us Q I r h
  obtain ⟨P, q, w, x, dx, d, rfl, b, rx, e, kk⟩ := h
  cases rx with
  | lst h1 h2 h3 =>
    cases e
    rw [← h3.length] at kk
    exact call_len_seq pins s σ H _ us Q I r ⟨_, _, rfl, .inl ((hide_same H P).seq h1), kk H _ b.refl (.int _)⟩
  | tup h1 h2 h3 =>
    cases e
    rw [← h3.length] at kk
    exact call_len_seq pins s σ H _ us Q I r ⟨_, _, rfl, .inr (Same.seqT (hide_same H P) h1), kk H _ b.refl (.int _)⟩
  | str z hz =>
    cases e
    exact call_len_str pins s σ H _ us Q I r ⟨_, rfl, hz, kk H _ b.refl (.int _)⟩
  | _ => cases e
theorem crD_int : CallR X (.type "int") (rB X.K (bi1 .int)) := by
  intro pins s σ H xs us Q I r h
  obtain ⟨P, q, w, x, dx, d, rfl, b, rx, e, kk⟩ := h
  cases rx <;> cases e
  · exact call_int1 pins s σ H _ us Q I r (.inr ⟨_, rfl, kk H _ b.refl (.int _)⟩)
  · exact call_int1 pins s σ H _ us Q I r (.inl ⟨_, rfl, kk H _ b.refl (.int _)⟩)
theorem crD_abs : CallR X (.builtin "abs") (rB X.K (bi1 .abs)) := by
  intro pins s σ H xs us Q I r h
  obtain ⟨P, q, w, x, dx, d, rfl, b, rx, e, kk⟩ := h
  cases rx <;> cases e
  exact call_abs pins s σ H _ us Q I r ⟨_, rfl, kk H _ b.refl (.int _)⟩
theorem crD_all (hc : X.calm = true) : CallR X (.builtin "all") (rB X.K (bi1 .all)) := by
  intro pins s σ H xs us Q I r h
  obtain ⟨P, q, w, x, dx, d, rfl, b, rx, e, kk⟩ := h
  cases rx with
  | lst h1 h2 h3 =>
    simp only [bi1, Option.map_eq_some_iff] at e
    obtain ⟨bs, e, rfl⟩ := e
    obtain ⟨rfl, _⟩ := h3.boolsOf e
    exact cr_all hc pins s σ H _ us Q I r ⟨_, bs, rfl, (hide_same H P).seq h1, kk H _ b.refl (.bl _)⟩
  | _ => cases e
theorem showsB_ok {d : D} (h : showsB d = true) : (PyData.shown d).length ≤ sizeLine ∧ PyData.showable d = true ∧ PyData.hasDict d = false ∧ PyData.depth d ≤ 60 := by
  unfold showsB at h
  simp only [Bool.and_eq_true, decide_eq_true_eq, Bool.not_eq_true'] at h
  exact ⟨h.1.1.1, h.1.1.2, h.1.2, h.2⟩
/-- texts of values -/
theorem crD_repr (gd : X.A.guards = some []) (hu : X.A.units + 65 < cLine) : CallR X (.builtin "repr") (rB X.K (bi1 .repr)) := by
  intro pins s σ H xs us Q I r h
  obtain ⟨P, q, w, x, dx, d, rfl, b, rx, e, kk⟩ := h
  have dp := rx.full.dp
  cases rx with
  | @lst a vs ds hs hl hr =>
    simp only [bi1] at e
    split at e
    · rename_i hsh
      cases e
      obtain ⟨h1, h2, h3, h4⟩ := showsB_ok hsh
      obtain ⟨u, rfl, ru⟩ := r.one
      obtain ⟨as, rd⟩ := Dp.reads I _ _ _ (dp h3) ru
      cases (show u = .ref a from ru)
      refine repr_of_reads' rd h2 (fun z => by rw [h3] at z; cases z) gd (by omega) (fun _ _ z => z) (fun h' u tk hk => ?_) h1
      exact ⟨.str _, H, I.kept hk, ⟨_, rfl⟩, kk H _ b.refl (.str _ h1)⟩
    · cases e
  | @tup a vs ds hs hl hr =>
    simp only [bi1] at e
    split at e
    · rename_i hsh
      cases e
      obtain ⟨h1, h2, h3, h4⟩ := showsB_ok hsh
      obtain ⟨u, rfl, ru⟩ := r.one
      obtain ⟨as, rd⟩ := Dp.reads I _ _ _ (dp h3) ru
      cases (show u = .ref a from ru)
      refine repr_of_reads' rd h2 (fun z => by rw [h3] at z; cases z) gd (by omega) (fun _ _ z => z) (fun h' u tk hk => ?_) h1
      exact ⟨.str _, H, I.kept hk, ⟨_, rfl⟩, kk H _ b.refl (.str _ h1)⟩
    · cases e
  | bl c =>
    cases e
    obtain ⟨u, rfl, ru⟩ := r.one
    cases (show u = .bool c from ru)
    exact PySem.P.repr_of_bool ⟨.str _, H, I.tok _, ⟨_, rfl⟩, kk H _ b.refl (.str _ (by cases c <;> decide))⟩
  | non =>
    cases e
    obtain ⟨u, rfl, ru⟩ := r.one
    cases (show u = .none from ru)
    exact PySem.P.repr_of_none ⟨.str _, H, I.tok _, ⟨_, rfl⟩, kk H _ b.refl (.str _ (by decide))⟩
  | int i =>
    simp only [bi1] at e
    split at e
    · rename_i hsh
      cases e
      obtain ⟨h1, h2, h3, h4⟩ := showsB_ok hsh
      obtain ⟨u, rfl, ru⟩ := r.one
      obtain ⟨t, rfl⟩ := (show ∃ t, u = .int i t from ru)
      have h2 : i.natAbs.log2 < 1920 := by
        unfold PyData.showable at h2
        exact of_decide_eq_true h2
      refine PySem.P.repr_of_int h2 ⟨.str _, H, I.tok _, ⟨_, rfl⟩, kk H _ b.refl ?_⟩
      exact .str _ h1
    · cases e
  | str x hx =>
    simp only [bi1] at e
    split at e
    · rename_i hsh
      cases e
      obtain ⟨h1, h2, h3, h4⟩ := showsB_ok hsh
      obtain ⟨u, rfl, ru⟩ := r.one
      obtain ⟨t, rfl⟩ := (show ∃ t, u = .str x t from ru)
      refine PySem.P.repr_of_str ⟨.str _, H, I.tok _, ⟨_, rfl⟩, kk H _ b.refl ?_⟩ ?_
      · exact .str _ h1
      · exact h1
    · cases e
  | @dct a o xs ds ha ho hr =>
    have e1 : (if ds.isEmpty then some (.str (PyData.shown (.dict []))) else none) = some d := e
    rw [Option.ite_none_right_eq_some] at e1
    obtain ⟨e2, e1⟩ := e1
    cases e1
    have e3 : ds = [] := by simpa using e2
    subst e3
    cases hr
    obtain ⟨u, rfl, ru⟩ := r.one
    cases (show u = .ref a from ru)
    have h1 := fz_get I (hide_same H P a _ ha)
    obtain ⟨es, ep, h3, h4⟩ := ho.da
    have h2 := ho.ex
    have hz := ho.ns
    have h4 : es.toList = [] := h4
    have rd : Reads s.heap (.ref a) (.dict []) (a :: [] ++ []) := Reads.dict h1 h2.1 h3 (by rw [h4]; exact .nil) (by rw [h4]; exact .nil)
    refine repr_of_reads' rd (by decide +kernel) (fun _ => ?_) gd (by rw [show PyData.depth (.dict []) = 1 by decide +kernel]; omega) (fun _ _ z => z) (fun h' u tk hk => ?_) (by decide +kernel)
    · intro hm
      simp at hm
      rw [hm] at hz
      simp at hz
    · exact ⟨.str _, H, I.kept hk, ⟨_, rfl⟩, kk H _ b.refl (.str _ (by decide +kernel))⟩
  | _ => cases e
theorem crD_any (hc : X.calm = true) : CallR X (.builtin "any") (rB X.K (bi1 .any)) := by
  intro pins s σ H xs us Q I r h
  obtain ⟨P, q, w, x, dx, d, rfl, b, rx, e, kk⟩ := h
  cases rx with
  | lst h1 h2 h3 =>
    simp only [bi1, Option.map_eq_some_iff] at e
    obtain ⟨bs, e, rfl⟩ := e
    obtain ⟨rfl, _⟩ := h3.boolsOf e
    exact cr_any hc pins s σ H _ us Q I r ⟨_, bs, rfl, (hide_same H P).seq h1, kk H _ b.refl (.bl _)⟩
  | _ => cases e
theorem crD_sum (hc : X.calm = true) : CallR X (.builtin "sum") (rB X.K (bi1 .sum)) := by
  intro pins s σ H xs us Q I r h
  obtain ⟨P, q, w, x, dx, d, rfl, b, rx, e, kk⟩ := h
  cases rx with
  | lst h1 h2 h3 =>
    simp only [bi1, Option.map_eq_some_iff] at e
    obtain ⟨bs, e, rfl⟩ := e
    obtain ⟨rfl, _⟩ := h3.intsOf e
    exact cr_sum hc pins s σ H _ us Q I r ⟨_, bs, rfl, (hide_same H P).seq h1, kk H _ b.refl (.int _)⟩
  | _ => cases e
theorem crD_sorted : CallR X (.builtin "sorted") (rB X.K (bi1 .sorted)) := by
  intro pins s σ H xs us Q I r h
  obtain ⟨P, q, w, x, dx, d, rfl, b, rx, e, kk⟩ := h
  cases rx with
  | @lst a xs ds h1 h2 h3 =>
    simp only [bi1] at e
    split at e
    · rename_i hl
      simp only [Option.map_eq_some_iff] at e
      obtain ⟨bs, e, rfl⟩ := e
      obtain ⟨rfl, rfl⟩ := h3.intsOf e
      have hl' : bs.length < 64 := by simpa using hl
      refine cr_sorted pins s σ H _ us Q I r ⟨_, bs, rfl, (hide_same H P).seq h1, hl', fun ns' p h4 h5 n => ?_⟩
      cases sortI_uniq h4 h5
      refine kk _ _ (b.new n) (.lst (.inl (.inl (b.at_new n))) ?_ (RpAll.ofInts _ _ _))
      rw [List.length_map, (sortI_perm bs).length_eq]
      exact small64 hl'
    · cases e
  | _ => cases e
theorem sort_each {K : PySem.W.Frag} {H : Hp} {R : Value → D → Prop} : ∀ {vs : List V} {us : List Value} {ds : List D}, Vals vs us → RpAll K H vs ds → (∀ v u d, RelV v u → Rp K H v d → d ∈ ds → R u d) → PySem.W.EachIs R us ds
  | _, _, _, .nil, .nil, _ => .nil
  | _, _, _, .cons r t, .cons s z, h => .cons (h _ _ _ r s (by simp)) (sort_each t z fun v u d a b c => h v u d a b (by simp [c]))
theorem each_sort {K : PySem.W.Frag} {H : Hp} : ∀ {us : List Value} {ds : List D}, PySem.W.EachIs (fun u d => ∃ v, RelV v u ∧ Rp K H v d) us ds → ∃ vs, Vals vs us ∧ RpAll K H vs ds
  | _, _, .nil => ⟨[], .nil, .nil⟩
  | _, _, .cons ⟨v, h1, h2⟩ t => by
    obtain ⟨vs, h3, h4⟩ := each_sort t
    exact ⟨v :: vs, .cons h1 h3, .cons h2 h4⟩
theorem sortB_inv {ds : List D} (h : sortB ds = true) : (∀ d ∈ ds, SeqAt.shaped d = true) ∧ PySem.W.AllAlike (ds.map id) ∧ PySem.W.Sortable (ds.map id) := by
  unfold sortB at h
  rw [Bool.and_eq_true, Bool.or_eq_true, List.all_eq_true, List.all_eq_true, List.all_eq_true] at h
  rw [List.map_id]
  refine ⟨fun d hd => ?_, fun d hd d' hd' => ?_, ?_⟩
  · have z := h.1 d hd
    rw [Bool.and_eq_true] at z
    exact z.1
  · have z := h.1 d hd
    rw [Bool.and_eq_true, List.all_eq_true] at z
    exact z.2 d' hd'
  · rcases h.2 with z | z
    · refine .inl fun d hd => ?_
      have z := z d hd
      split at z
      · exact ⟨_, _, rfl⟩
      · cases z
    · refine .inr fun d hd => ⟨?_, ?_⟩
      · rintro rfl
        exact nomatch z _ hd
      · rintro xs rfl
        exact nomatch z _ hd
theorem crD_sortedD (hu : X.A.units + 66 < cLine) : CallR X (.builtin "sorted") (rB X.K (bi1 .sortedD)) := by
  intro pins s σ H xs us Q I r h
  obtain ⟨P, q, w, x, dx, d, rfl, b, rx, e, kk⟩ := h
  cases rx with
  | @lst a xs ds h1 h2 h3 =>
    have e' : (if sortB ds then some (.list (sortD ds)) else none) = some d := e
    rw [Option.ite_none_right_eq_some] at e'
    obtain ⟨hb, e'⟩ := e'
    cases e'
    obtain ⟨s1, s2, s3⟩ := sortB_inv hb
    obtain ⟨its, rv, hl, hz⟩ := I.list ((hide_same H P).seq h1)
    rw [Vals.ref1 r]
    refine PySem.W.sorted_data (enc := id) (bs := ds) (vs := its) (R := fun u d => ∃ v, RelV v u ∧ Rp X.K (hide H P) v d) hl.isList (sort_each rv h3 fun v u d a b _ => ⟨v, a, b⟩)
      (sort_each rv h3 fun v u d a b c => dp_rd I a b.full (s1 d c)) s2 s3 (by rw [← h3.length]; exact h2) (fun d hd => ?_) fun out o1 o2 => ?_
    · have := SeqAt.depth_of_shaped (s1 d hd)
      show X.A.units + 2 + d.depth < cLine
      omega
    · obtain ⟨vs', k1, k2⟩ := each_sort o2
      obtain ⟨ep, he'⟩ := PyProof.Rows.sortedAll_at s.heap its out.toArray
      have lz : vs'.length ≤ sizeLine := by rw [k1.length, o1, ← h3.length]; exact h2
      have nn : H (s.heap.objs.size + 1) = none := I.hok.fresh (Nat.le_succ _)
      exact ⟨.ref _, upd H (s.heap.objs.size + 1) (.lst vs'), I.laid (t' := s.toks) (fun _ _ => PyProof.Rows.sortedAll_old) (Nat.le_succ _) ⟨lz, out, ep, k1, he'⟩, rfl, kk _ _ (b.new nn) (.lst (.inl (.inl (b.at_new nn))) lz (b.rps (b.new nn) k2))⟩
  | _ => cases e
theorem crD_tuple : CallR X (.type "tuple") (rB X.K (bi1 .tuple)) := by
  intro pins s σ H xs us Q I r h
  obtain ⟨P, q, w, x, dx, d, rfl, b, rx, e, kk⟩ := h
  cases rx with
  | lst h1 h2 h3 =>
    cases e
    exact call_tuple_of pins s σ H _ us Q I r ⟨_, _, rfl, .inl ⟨(hide_same H P).seq h1, fun p n => kk _ _ (b.new n) (.tup (.inl (.inl (b.at_new n))) h2 (b.rps (b.new n) h3))⟩⟩
  | tup h1 h2 h3 =>
    cases e
    exact call_tuple_of pins s σ H _ us Q I r ⟨_, _, rfl, .inr ⟨Same.seqT (hide_same H P) h1, kk H _ b.refl (.tup h1 h2 h3)⟩⟩
  | _ => cases e
theorem crD_list : CallR X (.type "list") (rB X.K (bi1 .list)) := by
  intro pins s σ H xs us Q I r h
  obtain ⟨P, q, w, x, dx, d, rfl, b, rx, e, kk⟩ := h
  cases rx with
  | lst h1 h2 h3 =>
    cases e
    exact call_list_of pins s σ H _ us Q I r ⟨_, _, rfl, .inl ((hide_same H P).seq h1), fun p n => kk _ _ (b.new n) (.lst (.inl (.inl (b.at_new n))) h2 (b.rps (b.new n) h3))⟩
  | tup h1 h2 h3 =>
    cases e
    exact call_list_of pins s σ H _ us Q I r ⟨_, _, rfl, .inr (Same.seqT (hide_same H P) h1), fun p n => kk _ _ (b.new n) (.lst (.inl (.inl (b.at_new n))) h2 (b.rps (b.new n) h3))⟩
  | _ => cases e
theorem crD_max (hc : X.calm = true) : CallR X (.builtin "max") (rB2 X.K (bi2 .max)) := by
  intro pins s σ H xs us Q I r h
  obtain ⟨P, q, w, x, y, dx, dy, d, rfl, b, rx, ry, e, kk⟩ := h
  cases rx <;> cases ry <;> cases e
  exact call_max2 hc pins s σ H _ us Q I r ⟨_, _, rfl, kk H _ b.refl (.int _)⟩
theorem crD_min (hc : X.calm = true) : CallR X (.builtin "min") (rB2 X.K (bi2 .min)) := by
  intro pins s σ H xs us Q I r h
  obtain ⟨P, q, w, x, y, dx, dy, d, rfl, b, rx, ry, e, kk⟩ := h
  cases rx <;> cases ry <;> cases e
  exact call_min2 hc pins s σ H _ us Q I r ⟨_, _, rfl, kk H _ b.refl (.int _)⟩
theorem crD_gcd : CallR X (.builtin "math.gcd") (rB2 X.K (bi2 .gcd)) := by
  intro pins s σ H xs us Q I r h
  obtain ⟨P, q, w, x, y, dx, dy, d, rfl, b, rx, ry, e, kk⟩ := h
  cases rx <;> cases ry <;> cases e
  exact cr_gcd pins s σ H _ us Q I r ⟨_, _, rfl, kk H _ b.refl (.int _)⟩
end
end RX

-- RX6
set_option Elab.async false
set_option linter.all false
set_option maxRecDepth 100000
set_option maxHeartbeats 1000000
/-! RX6: calls, isinstance, what is walked. -/
namespace RX
open PySem PySem.Spec PyProof.Rows L2
variable [PWd]
/-! ### argument lists without a star -/
def unstar : Expr → Bool
  | .Starred .. => false
  | _ => true
theorem star_cons {pe : Expr} {ps : List Expr} {env : PySem.Env} (h : unstar pe = true) : starEach (pe :: ps) env = (false, eval pe env) :: starEach ps env := by
  cases pe <;> first | rfl | cases h
theorem star_any {env : PySem.Env} {pos : Pos} : ∀ {ps : List Expr}, ps.all unstar = true → (backTo pos (starEach ps env)).any (·.1) = false
  | [], _ => rfl
  | p :: r, h => by
    rw [List.all_cons, Bool.and_eq_true] at h
    rw [star_cons h.1]
    show (false || (backTo pos (starEach r env)).any (·.1)) = false
    rw [star_any h.2] <;> rfl
def EL.len : EL → Nat
  | .nil => 0
  | .cons _ es => es.len + 1
theorem evL_len {C : Ctx} : ∀ (es : EL) {ρ : Env} {w w' : W} {ds : List D}, (evL C es ρ).run w = some (ds, w') → ds.length = es.len
  | .nil, _, _, _, _, h => by
    obtain ⟨rfl, _⟩ := pure_inv h
    rfl
  | .cons e es, _, _, _, _, h => by
    obtain ⟨da, w1, ea, ev⟩ := bind_inv h
    obtain ⟨ds, w2, eb, ev⟩ := bind_inv ev
    obtain ⟨rfl, _⟩ := pure_inv ev
    exact congrArg (· + 1) (evL_len es eb)
section
variable (T : Tab) (pl : Bool) (N : List Str)
theorem mtL_len {sc : Scope} : ∀ {es : EL} {ps : List Expr}, mtL T pl N sc es ps = true → es.len = ps.length
  | .nil, [], _ => rfl
  | .nil, _ :: _, h => by simp [mtL] at h
  | .cons e es, [], h => by simp [mtL] at h
  | .cons e es, p :: r, h => by
    simp only [mtL, Bool.and_eq_true] at h
    exact congrArg (· + 1) (mtL_len h.2)
theorem mtK_len {sc : Scope} : ∀ {es : EL} {ps : List Keyword}, mtK T pl N sc es ps = true → es.len = ps.length
  | .nil, [], _ => rfl
  | .nil, _ :: _, h => by simp [mtK] at h
  | .cons e es, [], h => by simp [mtK] at h
  | .cons e es, ⟨_, p, _⟩ :: r, h => by
    simp only [mtK, Bool.and_eq_true] at h
    exact congrArg (· + 1) (mtK_len h.2)
theorem mtE_unstar {sc : Scope} {e : E} {pe : Expr} (h : mtE T pl N sc e pe = true) : unstar pe = true := by
  cases pe <;> first | rfl | (cases e <;> simp [mtE] at h)
theorem mtL_unstar {sc : Scope} : ∀ {es : EL} {ps : List Expr}, mtL T pl N sc es ps = true → ps.all unstar = true
  | .nil, [], _ => rfl
  | .nil, _ :: _, h => by simp [mtL] at h
  | .cons e es, [], h => by simp [mtL] at h
  | .cons e es, p :: r, h => by
    simp only [mtL, Bool.and_eq_true] at h
    rw [List.all_cons, mtE_unstar T pl N h.1, mtL_unstar h.2] <;> rfl
end
theorem kw_some {env : PySem.Env} {pos : Pos} : ∀ {kws : List Keyword}, (kws.all fun z => z.arg.isSome) = true → (backToKw pos (keywordEach kws env)).all (·.1.isSome) = true
  | [], _ => rfl
  | ⟨n, v, p⟩ :: r, h => by
    rw [List.all_cons, Bool.and_eq_true] at h
    show (n.isSome && (backToKw pos (keywordEach r env)).all (·.1.isSome)) = true
    rw [kw_some h.2, Bool.and_true]
    exact h.1
theorem kw_names {env : PySem.Env} {pos : Pos} : ∀ {kws : List Keyword}, (backToKw pos (keywordEach kws env)).filterMap (·.1) = (kws.map (·.arg)).filterMap id
  | [] => rfl
  | ⟨n, v, p⟩ :: r => by
    show List.filterMap (·.1) ((n, _) :: backToKw pos (keywordEach r env)) = List.filterMap id (n :: r.map (·.arg))
    cases n with
    | none => exact kw_names
    | some x =>
      rw [List.filterMap_cons, List.filterMap_cons]
      exact congrArg (x :: ·) kw_names
theorem kw_plain {env : PySem.Env} {pos : Pos} {kws : List Keyword} (h : (backToKw pos (keywordEach kws env)).all (·.1.isSome) = true) : ((backTo pos (starEach [] env)).any (·.1) || (backToKw pos (keywordEach kws env)).any (·.1.isNone)) = false := by
  show (false || _) = false
  rw [Bool.false_or]
  rw [Bool.eq_false_iff]
  intro hc
  obtain ⟨z, hz, hn⟩ := List.any_eq_true.mp hc
  have := List.all_eq_true.mp h z hz
  cases e : z.1 with
  | none => rw [e] at this; cases this
  | some v => rw [e] at hn; cases hn
section
variable {X : Cx} {C : Ctx} {T : Tab} {pl : Bool} {k : Nat}
/-! ### calls -/
theorem RpAll.perm {K : PySem.W.Frag} {H : Hp} {kw : List Nat} {vs : List V} {ds : List D} (r : RpAll K H vs ds) : RpAll K H (permA kw vs) (permA kw ds) := by
  unfold permA
  split
  · exact r
  · have key : ∀ l : List Nat, RpAll K H (l.filterMap fun p => (kw.idxOf? p).bind fun k => vs[k]?) (l.filterMap fun p => (kw.idxOf? p).bind fun k => ds[k]?) := by
      intro l
      induction l with
      | nil => exact .nil
      | cons p l ih =>
        rw [List.filterMap_cons, List.filterMap_cons]
        cases h : kw.idxOf? p with
        | none => exact ih
        | some j =>
          simp only [Option.bind_some]
          cases hv : vs[j]? with
          | none =>
            have hd : ds[j]? = none := by
              rw [List.getElem?_eq_none_iff] at hv ⊢
              rw [← r.length]; exact hv
            rw [hd]
            exact ih
          | some v =>
            obtain ⟨d, hd, rr⟩ := r.getV hv
            rw [hd]
            exact .cons rr ih
    exact key _
theorem Vals.perm {kw : List Nat} {vs : List V} {us : List Value} (r : Vals vs us) : Vals (permA kw vs) (permA kw us) := by
  unfold permA
  split
  · exact r
  · have key : ∀ l : List Nat, Vals (l.filterMap fun p => (kw.idxOf? p).bind fun k => vs[k]?) (l.filterMap fun p => (kw.idxOf? p).bind fun k => us[k]?) := by
      intro l
      induction l with
      | nil => exact .nil
      | cons p l ih =>
        rw [List.filterMap_cons, List.filterMap_cons]
        cases h : kw.idxOf? p with
        | none => exact ih
        | some j =>
          simp only [Option.bind_some]
          cases hv : vs[j]? with
          | none =>
            rw [r.none_of hv]
            exact ih
          | some v =>
            obtain ⟨d, hd, rr⟩ := r.get hv
            rw [hd]
            exact .cons rr ih
    exact key _
theorem perm_len2 {α β : Type} (kw : List Nat) : ∀ (l : List Nat) (ys : List α) (zs : List β), ys.length = zs.length →
    (l.filterMap fun p => (kw.idxOf? p).bind fun k => ys[k]?).length = (l.filterMap fun p => (kw.idxOf? p).bind fun k => zs[k]?).length
  | [], _, _, _ => rfl
  | p :: l, ys, zs, h => by
    have ih := perm_len2 kw l ys zs h
    rw [List.filterMap_cons, List.filterMap_cons]
    cases hp : kw.idxOf? p with
    | none => exact ih
    | some i =>
      simp only [Option.bind_some]
      by_cases hi : i < ys.length
      · rw [List.getElem?_eq_getElem hi, List.getElem?_eq_getElem (h ▸ hi : i < zs.length)]
        exact congrArg (· + 1) ih
      · rw [List.getElem?_eq_none (by omega), List.getElem?_eq_none (by omega)]
        exact ih
theorem sp_intro {P : List Addr} {q : Option Addr} {w w' : W} {H : Hp} {K : PySem.W.Frag} {vs : List V} {ds : List D} {d : D} {m : Fn} {n : Nat} {Q : VK} {E : XK} (b : Bs P q w H) (r : RpAll K (hide H P) vs ds) (hn : vs.length = n)
    (e : ((m ds).run []).map (fun r => (r.1, w)) = some (d, w')) (kk : ∀ H' v, Ext q w' H H' → Rp K (hide H' P) v d → Q v H') : spD K false n m vs H Q E := by
  rw [Option.map_eq_some_iff] at e
  obtain ⟨⟨d', w1⟩, e1, e2⟩ := e
  cases e2
  refine ⟨P, none, [], ds, _, w1, ⟨b.tr, fun a z => nomatch z⟩, hn, ?_, e1, fun H' v x r => ?_⟩
  · rw [if_neg Bool.false_ne_true]
    exact ⟨rfl, ‹_›⟩
  · exact kk H' v ⟨fun a o _ e => x.keep a o (by simp) e, fun a e => x.keep a _ (by simp) (b.pool a e).2⟩ r
/-- a call of a def by its name -/
theorem pe_callG {kk : Nat} {f : Addr} {fd : FuncData} {ar : List Str} {sp : Sp} {x : Str} {e : Expr} {es : List Expr} {t : TA} {p pos : Pos} (F : FnOkG X.prog X.w X.K X.mg X.base kk f fd ar sp) (hr : Room kk X.A) (gd : X.A.guards = some []) (hg : Gl X x) (hm : X.mg x = some (.ref f)) (hk : PySem.W.keepIn X.K (.ref f) = true) (hb : Binds X.K fd ar [])
    (ha : PA X (e :: es) t) (hdb : (x == ("__debug__" : Str)) = false) (he : starEach (e :: es) X.env = (false, eval e X.env) :: starEach es X.env) (hpl : (backTo pos (starEach es X.env)).any (·.1) = false) :
    PE X (.Call (.Name x p) (e :: es) [] pos) (fun σ H Q => t σ H fun vs H1 => sp vs H1 Q E0) := by
  refine ⟨fun pins s σ H Q I h => wpAny_Call_Name_kw (ld_glob I hg hm ?_ hdb)⟩
  refine PySem.W.callWith_K (h₀ := X.base) I.ok.mod.kin hk (thn (ha.run pos pins s σ H _ I h) fun us s1 ⟨vs, H1, I1, r, q⟩ => ⟨I1.kIn, ?_⟩) he hpl
  have hl : us.length = ar.length := by rw [← r.length]; exact F.len _ _ _ _ q
  have bt : BindsTo s1 fd ⟨us, []⟩ (ar.zip us) := by
    have := hb s1 us I1.kIn (by simpa using hl)
    simpa using this
  refine wpAny_call (codeAny_mono (F.run X.A X.stack s1 H1 ⟨us, []⟩ us vs Q E0 hr gd I1.env0 bt r q) fun r s' hq => ?_)
  cases r with
  | error e => exact pass0 pins σ H1 s1 e s' I1 hq
  | ok fl =>
    cases fl with
    | ret u => exact I1.after hq
    | _ => exact False.elim hq
/-- a call without arguments -/
theorem pe_callG0 {kk : Nat} {f : Addr} {fd : FuncData} {ar : List Str} {sp : Sp} {x : Str} {p pos : Pos} (F : FnOkG X.prog X.w X.K X.mg X.base kk f fd ar sp) (hr : Room kk X.A) (gd : X.A.guards = some []) (hg : Gl X x) (hm : X.mg x = some (.ref f)) (hk : PySem.W.keepIn X.K (.ref f) = true) (hb : Binds X.K fd ar []) (hdb : (x == ("__debug__" : Str)) = false) :
    PE X (.Call (.Name x p) [] [] pos) (fun σ H Q => sp [] H Q E0) := by
  refine ⟨fun pins s σ H Q I q => wpAny_Call_Name_kw (ld_glob I hg hm ?_ hdb)⟩
  refine PySem.W.callWith_K0 I.kIn hk ?_
  have hl : ([] : List Value).length = ar.length := F.len _ _ _ _ q
  have bt : BindsTo s fd ⟨[], []⟩ (ar.zip []) := by
    have := hb s [] I.kIn (by simpa using hl)
    simpa using this
  refine wpAny_call (codeAny_mono (F.run X.A X.stack s H ⟨[], []⟩ [] [] Q E0 hr gd I.env0 bt .nil q) fun r s' hq => ?_)
  cases r with
  | error e => exact pass0 pins σ H s e s' I hq
  | ok fl =>
    cases fl with
    | ret u => exact I.after hq
    | _ => exact False.elim hq
theorem se_call {j : Nat} {es : EL} {x : Str} {ar : List Str} {ks : List (List Nat)} {ps : List Expr} {p pos : Pos} (xo : XOk X C T k) (hT : T.fn[j]? = some (x, false, ar, ks)) (hg : Gl X x) (hp : plainName x = true) (hl : ps.length = ar.length)
    (hn : es.len = ps.length) (hu : ps.all unstar = true) (hs : PA X ps (tL X.K C pl es)) : PE X (.Call (.Name x p) ps [] pos) (tE X.K C pl (.call false j es [])) := by
  unfold plainName at hp
  simp only [Bool.and_eq_true, bne_iff_ne, ne_eq] at hp
  cases hf : C.fns[j]? with
  | none =>
    refine ⟨fun pins s σ H Q I h => ?_⟩
    obtain ⟨P, q, ρ, w, d, w', st, ev, kk⟩ := h
    obtain ⟨ds, w1, ea, ev⟩ := bind_inv ev
    rw [hf] at ev
    exact none_inv ev
  | some f =>
    obtain ⟨fa, fd, F, hm, hk, hb, _⟩ := (xo.fns j f hf x false ar ks hT).ex
    cases ps with
    | nil =>
      refine PE.wk (pe_callG0 F xo.room xo.gd hg hm hk hb (by simpa using hp.1.1)) fun σ H Q h => ?_
      obtain ⟨P, q, ρ, w, d, w', st, ev, kk⟩ := h
      obtain ⟨ds, w1, ea, ev⟩ := bind_inv ev
      rw [hf] at ev
      have e0 : es = .nil := by cases es with
        | nil => rfl
        | cons _ _ => simp [EL.len] at hn
      subst e0
      obtain ⟨rfl, rfl⟩ := pure_inv ea
      exact sp_intro st.b .nil hl ev fun H2 v x2 r2 => kk H2 v x2 r2
    | cons e0 r0 =>
      have hu' := hu
      rw [List.all_cons, Bool.and_eq_true] at hu'
      refine PE.wk (pe_callG F xo.room xo.gd hg hm hk hb hs (by simpa using hp.1.1) (star_cons hu'.1) (star_any hu'.2)) fun σ H Q h => ?_
      obtain ⟨P, q, ρ, w, d, w', st, ev, kk⟩ := h
      obtain ⟨ds, w1, ea, ev⟩ := bind_inv ev
      rw [hf] at ev
      refine ⟨P, q, ρ, w, ds, w1, st, ea, fun H1 vs x1 r1 => ?_⟩
      have st1 := st.ext x1
      show spD X.K false ar.length f vs H1 Q E0
      have hln : vs.length = ar.length := by
        rw [r1.length, ← hl, ← hn]
        exact evL_len es ea
      exact sp_intro st1.b r1 hln ev fun H2 v x2 r2 => kk H2 v (x1.trans x2) r2
/-- the first argument is the pool -/
theorem se_callP {j : Nat} {es : EL} {x z : Str} {ar : List Str} {ks : List (List Nat)} {ps : List Expr} {p p0 pos : Pos} (xo : XOk X C T k) (hT : T.fn[j]? = some (x, true, ar, ks)) (hg : Gl X x) (hp : plainName x = true) (hpl : pl = true)
    (hz : X.N[0]? = some z) (hv : Vis X.env.scope z) (hpz : plainName z = true) (hl : ps.length + 1 = ar.length) (hn : es.len = ps.length) (hu : ps.all unstar = true) (hs : PA X ps (tL X.K C pl es)) :
    PE X (.Call (.Name x p) (.Name z p0 :: ps) [] pos) (tE X.K C pl (.call true j es [])) := by
  unfold plainName at hp hpz
  simp only [Bool.and_eq_true, bne_iff_ne, ne_eq] at hp hpz
  cases hf : C.fns[j]? with
  | none =>
    refine ⟨fun pins s σ H Q I h => ?_⟩
    obtain ⟨P, q, ρ, w, d, w', st, ev, kk⟩ := h
    obtain ⟨ds, w1, ea, ev⟩ := bind_inv ev
    rw [hf] at ev
    exact none_inv ev
  | some f =>
    obtain ⟨fa, fd, F, hm, hk, hb, _⟩ := (xo.fns j f hf x true ar ks hT).ex
    refine PE.wk (pe_callG F xo.room xo.gd hg hm hk hb (pa_cons (pe_var hz hv (by simpa using hpz.1.1) (by simpa using hpz.1.2)) hs rfl) (by simpa using hp.1.1) rfl (star_any hu)) fun σ H Q h => ?_
    obtain ⟨P, q, ρ, w, d, w', st, ev, kk⟩ := h
    obtain ⟨ds, w1, ea, ev⟩ := bind_inv ev
    rw [hf] at ev
    have ev : (f ds).run w1 = some (d, w') := ev
    have hq : q.isSome = true := by rw [st.isP, hpl]
    obtain ⟨a, rfl⟩ := Option.isSome_iff_exists.mp hq
    refine ⟨.ref a, st.at0 a rfl, P, some a, ρ, w, ds, w1, st, ea, fun H1 vs x1 r1 => ?_⟩
    have st1 := st.ext x1
    show spD X.K true ar.length f (V.ref a :: vs) H1 Q E0
    have hln : (V.ref a :: vs).length = ar.length := by
      rw [List.length_cons, r1.length, ← hl, ← hn, evL_len es ea]
    refine ⟨P, some a, w1, ds, d, w', st1.b, hln, ?_, ev, fun H2 v x2 r2 => kk H2 v (x1.trans x2) r2⟩
    rw [if_pos rfl]
    exact ⟨a, vs, rfl, rfl, r1⟩
theorem sk_nil : PK X [] (tL X.K C pl .nil) := ⟨fun pos pins s σ H Q I h => pk_nil.run pos pins s σ H Q I (by
  obtain ⟨P, q, ρ, w, d, w', st, ev, kk⟩ := h
  obtain ⟨rfl, rfl⟩ := pure_inv ev
  exact kk H [] st.b.refl .nil)⟩
theorem sk_cons {e : E} {es : EL} {pe : Expr} {ps : List Keyword} {nm : Option Str} {kpos : Pos} (h : PE X pe (tE X.K C pl e)) (hs : PK X ps (tL X.K C pl es)) : PK X (⟨nm, pe, kpos⟩ :: ps) (tL X.K C pl (.cons e es)) :=
  ⟨fun pos pins s σ H Q I hh => (pk_cons h hs).run pos pins s σ H Q I (by
    obtain ⟨P, q, ρ, w, d, w', st, ev, kk⟩ := hh
    obtain ⟨da, w1, ea, ev⟩ := bind_inv ev
    obtain ⟨ds, w2, eb, ev⟩ := bind_inv ev
    obtain ⟨rfl, rfl⟩ := pure_inv ev
    refine ⟨P, q, ρ, w, da, w1, st, ea, fun H1 x x1 r1 => ?_⟩
    exact ⟨P, q, ρ, w1, ds, _, st.ext x1, eb, fun H2 xs x2 r2 => kk H2 (x :: xs) (x1.trans x2) (.cons ((st.ext x1).b.rp x2 r1) r2)⟩)⟩
/-- all arguments by keywords -/
theorem se_callK {j : Nat} {es : EL} {x : Str} {ar : List Str} {ks : List (List Nat)} {kw : List Nat} {kws : List Keyword} {p pos : Pos} (xo : XOk X C T k) (hT : T.fn[j]? = some (x, false, ar, ks)) (hg : Gl X x) (hp : plainName x = true) (hkw : kw ∈ ks)
    (hnm : kws.map (·.arg) = kw.map fun j => ar[j]?) (hl : kw.length = ar.length) (hlt : ∀ j ∈ kw, j < ar.length) (hn : es.len = kws.length) (hpm : (permA kw (List.range kw.length)).length = kw.length) (hs : PK X kws (tL X.K C pl es)) :
    PE X (.Call (.Name x p) [] kws pos) (tE X.K C pl (.call false j es kw)) := by
  unfold plainName at hp
  simp only [Bool.and_eq_true, bne_iff_ne, ne_eq] at hp
  cases hf : C.fns[j]? with
  | none =>
    refine ⟨fun pins s σ H Q I h => ?_⟩
    obtain ⟨P, q, ρ, w, d, w', st, ev, kk⟩ := h
    obtain ⟨ds, w1, ea, ev⟩ := bind_inv ev
    rw [hf] at ev
    exact none_inv ev
  | some f =>
    obtain ⟨fa, fd, F, hm, hk, _, hb⟩ := (xo.fns j f hf x false ar ks hT).ex
    have hsome : (kws.all fun z => z.arg.isSome) = true := by
      rw [List.all_eq_true]
      intro z hz
      have h1 : z.arg ∈ kws.map (·.arg) := List.mem_map.mpr ⟨z, hz, rfl⟩
      rw [hnm] at h1
      obtain ⟨i, hi, e⟩ := List.mem_map.mp h1
      rw [← e, List.getElem?_eq_getElem (hlt i hi)]
      rfl
    have hkl : kws.length = kw.length := by
      have := congrArg List.length hnm
      rwa [List.length_map, List.length_map] at this
    have permLen : ∀ {α : Type} (ys : List α), ys.length = kw.length → (permA kw ys).length = kw.length := fun {α} ys hy => by
      rw [← hpm]
      unfold permA
      split
      · rw [hy]; simp
      · exact perm_len2 kw _ ys _ (by rw [hy, List.length_range])
    refine ⟨fun pins s σ H Q I h => ?_⟩
    obtain ⟨P, q, ρ, w, d, w', st, ev, kk⟩ := h
    obtain ⟨ds, w1, ea, ev⟩ := bind_inv ev
    rw [hf] at ev
    refine wpAny_Call_Name_kw (ld_glob I hg hm ?_ (by simpa using hp.1.1))
    refine PySem.W.callWith_KW0 (h₀ := X.base) I.ok.mod.kin hk (kw_some hsome) ?_ (kw_plain (kw_some hsome))
    refine thn (hs.run pos pins s σ H (fun vs H1 => Ext q w1 H H1 ∧ RpAll X.K (hide H1 P) vs ds) I ⟨P, q, ρ, w, ds, w1, st, ea, fun H1 vs x1 r1 => ⟨x1, r1⟩⟩) fun ws s2 ⟨zs, H1, I1, rz, x1, r1⟩ => ⟨I1.kIn, ?_⟩
    rw [kw_names, hnm, List.filterMap_map]
    have st1 := st.ext x1
    have zl : zs.length = kw.length := by rw [r1.length, evL_len es ea, hn, hkl]
    have wl : ws.length = kw.length := by rw [← rz.length, zl]
    have hsp : spD X.K false ar.length f (permA kw zs) H1 Q E0 := sp_intro st1.b r1.perm (by rw [permLen zs zl, hl]) ev fun H2 v x2 r2 => kk H2 v (x1.trans x2) r2
    refine wpAny_call (codeAny_mono (F.run X.A X.stack s2 H1 ⟨[], ((kw.filterMap fun j => ar[j]?)).zip ws⟩ (permA kw ws) (permA kw zs) Q E0 xo.room xo.gd I1.env0 (BindsTo.of_eq (hb kw hkw ws wl)) (Vals.perm rz) hsp) fun r s' hq => ?_)
    cases r with
    | error e => exact pass0 pins σ H1 s2 e s' I1 hq
    | ok fl =>
      cases fl with
      | ret u => exact I1.after hq
      | next => exact False.elim hq
      | brk => exact False.elim hq
      | cont => exact False.elim hq
/-! ### isinstance -/
def tyN : D → String
  | .none => "NoneType"
  | .bool _ => "bool"
  | .int _ => "int"
  | .str _ => "str"
  | .list _ => "list"
  | .tuple _ => "tuple"
  | .dict _ => "dict"
theorem kx_of {X : Cx} {pins : List (Addr × Obj)} {σ : L2.St} {H : Hp} {s : Shared} {v : V} {u : Value} {d : D} (I : Inv X pins σ H s) (rx : RelV v u) (r : Rp X.K H v d) {t : String} {b : Bool} (hb : isO t d = some b) :
    ∃ P : Heap → Prop, PySem.W.KitX X.K u (.type (tyN d)) P ∧ P s.heap ∧ u ≠ .builtin "__main__.__loader__#opaque" := by
  cases r with
  | non => exact kit_of I rx (.base .non)
  | bl b => exact kit_of I rx (.base (.bl b))
  | int i => exact kit_of I rx (.base (.int i))
  | str z h => exact kit_of I rx (.base (.str z))
  | lst h _ _ =>
    refine kit_of I rx ?_
    rcases h with (h | ⟨o, h⟩) | ⟨o, its, n, hk, hc, _⟩
    · exact .base (.lst h)
    · exact .base (.frz h)
    · exact .kList hk hc
  | tup h _ _ =>
    refine kit_of I rx ?_
    rcases h with (h | ⟨o, h⟩) | ⟨o, its, n, hk, hc, _⟩
    · exact .base (.tup h)
    · exact .fTuple h
    · exact .kTuple hk hc
  | dct h ho _ =>
    cases (show u = .ref _ from rx)
    exact ⟨_, PySem.W.kitx_dict, ⟨_, fz_get I h, ho.ex.1⟩, fun z => nomatch z⟩
  | fn x => exact nomatch (show (none : Option Bool) = some b from hb)
theorem kit_data {t : String} (ht : t ∈ ["int", "bool", "str", "tuple", "list", "dict"]) : ∀ n ∈ ["NoneType", "bool", "int", "str", "list", "tuple", "dict"], kitB n t = some (match n with
    | "bool" => t == "bool" || t == "int"
    | n => n == t) := by
  have key : ∀ t ∈ ["int", "bool", "str", "tuple", "list", "dict"], ∀ n ∈ ["NoneType", "bool", "int", "str", "list", "tuple", "dict"], kitB n t = some (match n with
    | "bool" => t == "bool" || t == "int"
    | n => n == t) := by decide +kernel
  exact key t ht
theorem kit_rp {K : PySem.W.Frag} {H : Hp} {v : V} {d : D} {t : String} (ht : t ∈ ["int", "bool", "str", "tuple", "list", "dict"]) (r : Rp K H v d) {b : Bool} (hb : isO t d = some b) : kitB (tyN d) t = some b := by
  have key : isO t d = some (isInst t d) := by
    cases r with
    | @dct a o xs ds _ _ _ =>
      cases ds with
      | nil => rfl
      | cons _ _ => exact nomatch (show (none : Option Bool) = some b from hb)
    | fn x => exact nomatch (show (none : Option Bool) = some b from hb)
    | _ => rfl
  rw [key] at hb
  cases hb
  cases r with
  | non =>
    have h := kit_data ht "NoneType" (by decide)
    rw [show tyN PyData.none = "NoneType" from rfl, h]
    rcases List.mem_cons.mp ht with rfl | ht <;> first | rfl | skip
    all_goals (rcases List.mem_cons.mp ht with rfl | ht <;> first | rfl | skip)
    all_goals (rcases List.mem_cons.mp ht with rfl | ht <;> first | rfl | skip)
    all_goals (rcases List.mem_cons.mp ht with rfl | ht <;> first | rfl | skip)
    all_goals (rcases List.mem_cons.mp ht with rfl | ht <;> first | rfl | skip)
    all_goals (rcases List.mem_cons.mp ht with rfl | ht <;> first | rfl | cases ht)
  | bl b => exact kit_data ht "bool" (by decide)
  | int i =>
    rw [show tyN (PyData.int i) = "int" from rfl, kit_data ht "int" (by decide)]
    exact congrArg some (Bool.beq_comm ..)
  | str z h =>
    rw [show tyN (PyData.str z) = "str" from rfl, kit_data ht "str" (by decide)]
    exact congrArg some (Bool.beq_comm ..)
  | lst _ _ _ =>
    rw [show tyN (PyData.list _) = "list" from rfl, kit_data ht "list" (by decide)]
    exact congrArg some (Bool.beq_comm ..)
  | tup _ _ _ =>
    rw [show tyN (PyData.tuple _) = "tuple" from rfl, kit_data ht "tuple" (by decide)]
    exact congrArg some (Bool.beq_comm ..)
  | dct _ _ _ =>
    rw [show tyN (PyData.dict _) = "dict" from rfl, kit_data ht "dict" (by decide)]
    exact congrArg some (Bool.beq_comm ..)
  | fn x => exact nomatch key
theorem boot_ty {t : String} (ht : t ∈ ["int", "bool", "str", "tuple", "list", "dict"]) : bootBuiltins (Str.ofString t) = some (.type t) ∧ (Str.ofString t) ≠ "__name__" ∧ ((Str.ofString t) == ("__debug__" : Str)) = false := by
  have key : ∀ t ∈ ["int", "bool", "str", "tuple", "list", "dict"], bootBuiltins (Str.ofString t) = some (.type t) ∧ (Str.ofString t) ≠ "__name__" ∧ ((Str.ofString t) == ("__debug__" : Str)) = false := by
    intro t ht
    simp only [List.mem_cons, List.not_mem_nil, or_false] at ht
    rcases ht with rfl | rfl | rfl | rfl | rfl | rfl <;> exact ⟨by decide +kernel, by decide +kernel, by decide +kernel⟩
  exact key t ht
theorem call_isi2 : CallR X (.builtin "isinstance") (fun xs H Q => ∃ (x c : V) (d : D) (u : Value) (t : String) (b b2 : Bool), xs = [x, c] ∧ ClsV c u ∧ Rp X.K H x d ∧ isO t d = some b2 ∧ PySem.W.kitOne X.K (.type (tyN d)) u = some b ∧ Q (.bl b) H) := by
  intro pins s σ H xs us Q I r h
  obtain ⟨x, c, d, u, t, b, b2, rfl, k, ty, hb, e, q⟩ := h
  obtain ⟨u1, u2, rfl, r1, r2⟩ := vals2 r
  have e2 := k.eq r2
  subst e2
  obtain ⟨P, Z, p, hx⟩ := kx_of I r1 ty hb
  exact PySem.W.kia_one Z I.kIn p e hx fun tk => ⟨.bl b, H, I.tok tk, rfl, q⟩
theorem se_isi {a : E} {pa : Expr} {t : String} {p p2 pos : Pos} (xo : XOk X C T k) (hg : Gl X "isinstance") (hm : X.mg "isinstance" = none) (hg2 : Gl X (Str.ofString t)) (hm2 : X.mg (Str.ofString t) = none) (ht : t ∈ ["int", "bool", "str", "tuple", "list", "dict"])
    (hu : unstar pa = true) (ha : PE X pa (tE X.K C pl a)) : PE X (.Call (.Name "isinstance" p) [pa, .Name (Str.ofString t) p2] [] pos) (tE X.K C pl (.isi a t)) := by
  obtain ⟨b1, b2, b3⟩ := boot_ty ht
  refine PE.wk (pe_callB call_isi2 hg hm boot_isinstance (pa_cons ha (pa_cons (pe_bltn (v := .ty t) hg2 hm2 b1 rfl b2 b3) pa_nil rfl) (star_cons hu)) (by decide) (by decide) (star_cons hu) (by rfl)) fun σ H Q h => ?_
  obtain ⟨P, q, ρ, w, d, w', st, ev, kk⟩ := h
  obtain ⟨da, w1, ea, ev⟩ := bind_inv ev
  obtain ⟨b, w2, eb, ev⟩ := bind_inv ev
  obtain ⟨eb2, rfl⟩ := lift_inv eb
  obtain ⟨rfl, rfl⟩ := pure_inv ev
  refine ⟨P, q, ρ, w, da, _, st, ea, fun H1 x x1 r1 => ?_⟩
  exact ⟨x, .ty t, da, _, t, b, b, rfl, .ty t, r1.full, eb2, kit_ty (kit_rp ht r1 eb2), kk H1 _ x1 (.bl _)⟩
/-! ### a built-in of one or two arguments -/
theorem rb1 {a : E} {σ : L2.St} {H : Hp} {Q : VK} {b : Bi} {pa : Expr} (h : tE X.K C pl (.b1 b a) σ H Q) : tCB (rB X.K (bi1 b)) (tCons (tE X.K C pl a) tNil) σ H Q := by
  obtain ⟨P, q, ρ, w, d, w', st, ev, kk⟩ := h
  obtain ⟨da, w1, ea, ev⟩ := bind_inv ev
  obtain ⟨e, rfl⟩ := lift_inv ev
  refine ⟨P, q, ρ, w, da, _, st, ea, fun H1 x x1 r1 => ?_⟩
  exact ⟨P, q, _, x, da, d, rfl, (st.ext x1).b, r1, e, fun H2 v x2 r2 => kk H2 v (x1.trans x2) r2⟩
theorem se_b1f {b : Bi} {id : String} {x : Str} {a : E} {pa : Expr} {p pos : Pos} (cr : CallR X (.builtin id) (rB X.K (bi1 b))) (hg : Gl X x) (hm : X.mg x = none) (hv : bootBuiltins x = some (.builtin id)) (hn : x ≠ "__name__") (hdb : (x == ("__debug__" : Str)) = false)
    (hu : unstar pa = true) (ha : PE X pa (tE X.K C pl a)) : PE X (.Call (.Name x p) [pa] [] pos) (tE X.K C pl (.b1 b a)) :=
  PE.wk (pe_callB cr hg hm hv (pa_cons ha pa_nil (star_cons hu)) hn hdb (star_cons hu) (by rfl)) fun σ H Q h => rb1 (pa := pa) h
theorem se_b1t {b : Bi} {id : String} {x : Str} {a : E} {pa : Expr} {p pos : Pos} (cr : CallR X (.type id) (rB X.K (bi1 b))) (hg : Gl X x) (hm : X.mg x = none) (hv : bootBuiltins x = some (.type id)) (hn : x ≠ "__name__") (hdb : (x == ("__debug__" : Str)) = false)
    (hu : unstar pa = true) (ha : PE X pa (tE X.K C pl a)) : PE X (.Call (.Name x p) [pa] [] pos) (tE X.K C pl (.b1 b a)) :=
  PE.wk (pe_callTy cr hg hm hv (pa_cons ha pa_nil (star_cons hu)) hn hdb (star_cons hu) (by rfl)) fun σ H Q h => rb1 (pa := pa) h
theorem rb2 {a c : E} {σ : L2.St} {H : Hp} {Q : VK} {b : Bj} (h : tE X.K C pl (.b2 b a c) σ H Q) : tCB (rB2 X.K (bi2 b)) (tCons (tE X.K C pl a) (tCons (tE X.K C pl c) tNil)) σ H Q := by
  obtain ⟨P, q, ρ, w, d, w', st, ev, kk⟩ := h
  obtain ⟨da, w1, ea, ev⟩ := bind_inv ev
  obtain ⟨db, w2, eb, ev⟩ := bind_inv ev
  obtain ⟨e, rfl⟩ := lift_inv ev
  refine ⟨P, q, ρ, w, da, _, st, ea, fun H1 x x1 r1 => ?_⟩
  have st1 := st.ext x1
  refine ⟨P, q, ρ, _, db, _, st1, eb, fun H2 y x2 r2 => ?_⟩
  exact ⟨P, q, _, x, y, da, db, d, rfl, (st1.ext x2).b, st1.b.rp x2 r1, r2, e, fun H3 v x3 r3 => kk H3 v ((x1.trans x2).trans x3) r3⟩
theorem se_b2f {b : Bj} {id : String} {x : Str} {a c : E} {pa pc : Expr} {p pos : Pos} (cr : CallR X (.builtin id) (rB2 X.K (bi2 b))) (hg : Gl X x) (hm : X.mg x = none) (hv : bootBuiltins x = some (.builtin id)) (hn : x ≠ "__name__") (hdb : (x == ("__debug__" : Str)) = false)
    (hu : unstar pa = true) (hu2 : unstar pc = true) (ha : PE X pa (tE X.K C pl a)) (hc : PE X pc (tE X.K C pl c)) : PE X (.Call (.Name x p) [pa, pc] [] pos) (tE X.K C pl (.b2 b a c)) :=
  PE.wk (pe_callB cr hg hm hv (pa_cons ha (pa_cons hc pa_nil (star_cons hu2)) (star_cons hu)) hn hdb (star_cons hu) (by rw [star_cons hu2]; rfl)) fun σ H Q h => rb2 h
theorem se_b2m {b : Bj} {id : String} {x : Str} {a c : E} {pa pc : Expr} {p pos : Pos} (cr : CallR X (.builtin id) (rB2 X.K (bi2 b))) (hg : Gl X x) (hm : X.mg x = some (.builtin id)) (hdb : (x == ("__debug__" : Str)) = false)
    (hu : unstar pa = true) (hu2 : unstar pc = true) (ha : PE X pa (tE X.K C pl a)) (hc : PE X pc (tE X.K C pl c)) : PE X (.Call (.Name x p) [pa, pc] [] pos) (tE X.K C pl (.b2 b a c)) :=
  PE.wk (pe_callBfun cr hg hm (pa_cons ha (pa_cons hc pa_nil (star_cons hu2)) (star_cons hu)) hdb (star_cons hu) (by rw [star_cons hu2]; rfl)) fun σ H Q h => rb2 h
end
end RX

-- RX7
set_option Elab.async false
set_option linter.all false
set_option maxRecDepth 100000
set_option maxHeartbeats 2000000
/-! RX7: what is walked: lists, tuples, texts, ranges, enumerate, zip. -/
namespace RX
open PySem PySem.Spec PyProof.Rows L2
variable [PWd]
/-! ### enumerate of a tuple -/
theorem enum_new1 {v : Value} {o : Obj} {G : Heap → Prop} (B : Begins v o G) :
    Meets (Builtin.«enumerate.__new__» ⟨[.type "enumerate", v], []⟩) (fun _ R s => G s.heap ∧
      R (.ok (.ret (.ref (s.heap.push o).objs.size))) { s with heap := (s.heap.push o).push { cls := .type "enumerate", data := .fields #[.none, .bool false, .ref s.heap.objs.size, rawInt 0, .none, .none] } }) :=
  .of_wp fun prog w A R s h => by
    obtain ⟨hp, g, d, tk, os⟩ := s
    obtain ⟨h1, h⟩ := h
    have hsub := sub_enumerate
    have goes : ∀ {A' : Around} {E : Value → Shared → Prop} {Q : Value → Shared → Prop}, Q (.ref hp.objs.size) ⟨hp.push o, g, d, tk, os⟩ → wpAny (model prog w) A' (pyIter v) Q E ⟨hp, g, d, tk, os⟩ :=
      fun q => B.iter prog w _ _ ⟨hp, g, d, tk, os⟩ _ h1 q
    wp_walk using goes
    refine wpAny_stack_any fun st => wpAny_pure ?_
    split
    · rename_i c _ _ _ _ _
      cases (c == Value.type "enumerate") <;> (wp_walk using goes; exact ⟨_, rfl, h⟩)
    · wp_walk using goes
      exact ⟨_, rfl, h⟩
theorem enum_made {prog : Program} {w : World} {A : Around} {E : Value → Shared → Prop} {s : Shared} {v : Value} {o : Obj} {G : Heap → Prop} {Q : Value → Shared → Prop} (B : Begins v o G) (h1 : G s.heap)
    (h : ∀ h', IsEnum h' (s.heap.objs.size + 1) s.heap.objs.size 0 .none → h'.get? s.heap.objs.size = some o → (∀ b o, s.heap.get? b = some o → h'.get? b = some o) → Q (.ref (s.heap.objs.size + 1)) { s with heap := h' }) :
    wpAny (model prog w) A (call (.type "enumerate") [v]) Q E s := by
  refine callType_new F.called_enumerate (by decide) (F.typeCall_enumerate_1 _) (F.newCall_enumerate_1 _) (fun obj => F.args_object_init_2 obj _) F.entry_enumerate_new (enum_new1 B) ⟨h1, ?_⟩
  have sz : (s.heap.push o).objs.size = s.heap.objs.size + 1 := Heap.size_push ..
  have he : IsEnum ((s.heap.push o).push { cls := .type "enumerate", data := .fields #[.none, .bool false, .ref s.heap.objs.size, rawInt 0, .none, .none] }) (s.heap.objs.size + 1) s.heap.objs.size 0 .none := by
    have z := Heap.get?_push_size (s.heap.push o) (o := { cls := .type "enumerate", data := .fields #[.none, .bool false, .ref s.heap.objs.size, rawInt 0, .none, .none] }) rfl
    rwa [sz] at z
  show _ ∧ _
  rw [sz]
  exact ⟨⟨_, he, rfl⟩, h _ he (Heap.get?_push_of_some _ (Heap.get?_push_size _ B.free)) fun b o x => Heap.get?_push_of_some _ (Heap.get?_push_of_some _ x)⟩
/-- the tuple at a, each item in a new pair -/
def IteT (K : PySem.W.Frag) (a : Addr) : L2.It :=
  ⟨fun i H => ∃ (xs : List V) (x : V), SqT K H a xs ∧ xs[i]? = some x, fun i H v H' => ∃ T x, v = .ref T ∧ H T = none ∧ H' = upd H T (.tup [.int (i : Nat), x]) ∧ ∀ xs, SqT K H a xs → xs[i]? = some x, fun i H => ∃ xs : List V, SqT K H a xs ∧ xs.length ≤ i⟩
theorem turn_enumT {P : Program} {w : World} {K : PySem.W.Frag} {elts : List Expr} {kk : Nat} {tpos : Pos} (a e it : Addr) :
    Turn P w K (.Tuple elts kk tpos) (IteT K a) [e, it] e (fun i h => (∃ old, IsEnum h e it ((i : Nat) : Int) old) ∧ h.IsTupleIter it a i ∧ e ≠ it) where
  mem := by simp
  obj := fun i h st b hb => by
    obtain ⟨⟨old, he⟩, ⟨o, ho, hc, hd⟩, _⟩ := st
    have z : b = e ∨ b = it := by simpa using hb
    rcases z with rfl | rfl
    · exact ⟨_, he, fun v q => nomatch q⟩
    · exact ⟨o, ho, fun v q => by rw [hd] at q; cases q⟩
  keep := fun i h h' st k => let ⟨⟨old, he⟩, hi, hne⟩ := st; ⟨⟨old, k e (by simp) _ he⟩, hi.at fun o q => k it (by simp) o q, hne⟩
  item := by
    intro X hP hw hK hc i pins s σ H E I hf st hg
    subst hP hw hK
    obtain ⟨⟨old, he⟩, hit, hne⟩ := st
    obtain ⟨xs, x, hq, hx⟩ := hg
    obtain ⟨its, rv, p, hz⟩ := I.tuple hq
    obtain ⟨u, hu, ru⟩ := rv.get hx
    have hel : e < s.heap.objs.size := Heap.lt_size he
    have hil : it < s.heap.objs.size := by obtain ⟨_, q, _⟩ := hit; exact Heap.lt_size q
    have hi : i < its.toArray.size := by
      have := (List.getElem?_eq_some_iff.mp hu).1
      simpa using this
    -- the iterator and the tuple are two
    have nea : a ≠ it := fun z => by
      obtain ⟨o, ho, hc', _⟩ := p
      obtain ⟨o', ho', hc2, _⟩ := hit
      rw [z, ho'] at ho
      cases ho
      rw [hc2] at hc'
      exact absurd (Value.type.inj hc') (by decide)
    have neae : a ≠ e := fun z => by
      obtain ⟨o, ho, hc', _⟩ := p
      rw [z, show s.heap.get? e = _ from he] at ho
      cases ho
      exact absurd (Value.type.inj hc') (by decide)
    have D := Draws.tuple (prog := X.prog) (w := X.w) (A := X.A.in1) (I.ok.hd hc) it a nea its.toArray
    refine wpAny_pyNext_enum_itemD D he ⟨hit, p⟩ hi hne (by simp [hne, neae.symm]) fun y h' tk hy ho hit' hT hsz hk => ?_
    obtain ⟨hit', p'⟩ := hit'
    have ey : y = u := by
      have hu' : its.toArray[i]? = some u := by simpa using hu
      rw [hu'] at hy
      exact (Option.some.inj hy).symm
    subst ey
    refine ⟨_, rfl, wpAny_letOwnedTupleGo_enum (s := { s with heap := h', toks := tk + 1 }) ho fun h'' he' sb => ?_⟩
    have hT2 : h''.get? s.heap.objs.size = some { cls := .type "tuple", data := .seq #[.int i tk, y] } := (sb.2 _ (Nat.ne_of_gt hel)).trans hT
    have new : ObjOk X.prog X.w (upd H s.heap.objs.size (.tup [.int (i : Nat), x])) h'' s.heap.objs.size (.tup [.int (i : Nat), x]) :=
      ⟨by show 2 ≤ sizeLine; decide, [.int i tk, y], .cons ⟨_, rfl⟩ (.cons ru .nil), ⟨_, hT2, rfl, _, rfl⟩⟩
    have I1 : Inv X pins σ (upd H s.heap.objs.size (.tup [.int (i : Nat), x])) { s with heap := h'', toks := tk + 1 } :=
      I.turnedNew (ch := [e, it]) (fun b ob hb q => (sb.2 b (fun z => hb (by simp [z]))).trans (hk b ob (fun z => hb (by simp [z])) (fun z => hb (by simp [z])) q)) hf (Nat.le_refl _) new
    refine ⟨.ref s.heap.objs.size, _, I1, rfl, ⟨_, x, rfl, I.hok.fresh (Nat.le_refl _), rfl, fun ys hy => by rw [I.tuple_inj hy hq]; exact hx⟩, ⟨⟨y, ?_⟩, hit'.at fun o q => (sb.2 it (Ne.symm hne)).trans q, hne⟩, fun b hb => ?_⟩
    · have e1 : ((i + 1 : Nat) : Int) = (i : Int) + 1 := by omega
      rw [e1]
      exact he'
    · have z : b = e ∨ b = it := by simpa using hb
      have lt : b < s.heap.objs.size := by
        rcases z with rfl | rfl
        · exact hel
        · exact hil
      rw [upd_ne (Nat.ne_of_lt lt)]
      exact (hf b hb).1
  done := by
    intro X hP hw hK hc i pins s σ H E I hf st hg
    subst hP hw hK
    obtain ⟨⟨old, he⟩, hit, hne⟩ := st
    obtain ⟨xs, hq, hx⟩ := hg
    obtain ⟨its, rv, p, hz⟩ := I.tuple hq
    obtain ⟨f0, f1, f2, f3, f4, f5⟩ := hf it (by simp)
    have hl := rv.length
    have hn : its.toArray[i]? = none := by simp; omega
    have hTy : s.TypeIs (.ref e) "enumerate" := ⟨_, he, rfl⟩
    unfold pyNext
    refine wpAny_bind (wpAny_attempt (wpAny_callSpecial?_slot (name := Str.ofString "__next__") hTy F.slot_enumerate_next (wpAny_call_entry F.slot_enumerate_next hTy F.entry_enumerate_next ?_ (F.args_enumerate_next_1 _))))
    show wpAny _ _ (field (.ref e) 2 >>= _) _ _ _
    refine wpAny_bind (wpAny_field he rfl (x := .ref it) rfl ?_)
    refine wpAny_bind (wpAny_nextOf_tuple_end (I.ok.hd hc) hit p hn fun h' x he' hx' => ?_)
    obtain ⟨o, ho, hcc⟩ := hx'
    refine wpAny_bind (wpAny_isInstance (T := "StopIteration") (b := true) ⟨o, ho, hcc⟩ isSubtype_stop ?_)
    exact wpAny_pure ⟨rfl, I.turned (t' := s.toks) (fun b o hb q => he' b o hb q) f0 f1 f3 f4 f5⟩
  self := fun A i s Q E st h => let ⟨⟨_, he⟩, _⟩ := st; wpAny_pyIter_enum he h
def iEnumA (K : PySem.W.Frag) (ta : TA) : TI := fun σ H R => ta σ H fun vs H1 => ∃ a xs, vs = [.ref a] ∧ ((SqL K H1 a xs ∧ R (Ite K a) H1) ∨ (SqT K H1 a xs ∧ R (IteT K a) H1))
theorem pi_enumA {X : Cx} {e : Expr} {ta : TA} {p pos tpos : Pos} {elts : List Expr} {kk : Nat} (hg : Gl X "enumerate") (hm : X.mg "enumerate" = none) (ha : PA X [e] ta) (hs : starEach [e] X.env = [(false, eval e X.env)]) :
    PI X (.Tuple elts kk tpos) (.Call (.Name "enumerate" p) [e] [] pos) (iEnumA X.K ta) := by
  refine ⟨fun pins s σ H R I h => ?_⟩
  refine Call_ (ld_blt I hg hm boot_enumerate (PyProof.Rows.callWith_type1 (thn (ha.run pos pins s σ H _ I h) fun us s1 ⟨vs, H1, I1, r1, q1⟩ => ?_) hs rfl))
  obtain ⟨a, xs, rfl, q1⟩ := q1
  have ok2 : ∀ b ∈ [s1.heap.objs.size + 1, s1.heap.objs.size], FpOk X pins H1 b := fun b hb => by
    have z : b = s1.heap.objs.size + 1 ∨ b = s1.heap.objs.size := by simpa using hb
    have hle : s1.heap.objs.size ≤ b := by omega
    exact I1.fpOk hle (I1.hok.fresh hle)
  cases r1 with
  | cons r rr =>
    cases rr
    cases r
    rcases q1 with ⟨hq, q⟩ | ⟨hq, q⟩
    · obtain ⟨its, rv, p', hz⟩ := I1.list hq
      refine enum_made (begins_list a its.toArray) p'.isList fun h' he hit hk => wpAny_pyIter_enum he ?_
      exact ⟨s1.heap.objs.size + 1, [s1.heap.objs.size + 1, s1.heap.objs.size], _, _, H1, rfl, I1.kept (t' := s1.toks) hk, turn_enum a (s1.heap.objs.size + 1) s1.heap.objs.size, ⟨⟨.none, he⟩, ⟨_, hit, rfl, rfl⟩, Nat.succ_ne_self _⟩, ok2, q⟩
    · obtain ⟨its, rv, p', hz⟩ := I1.tuple hq
      refine enum_made (begins_tuple a its.toArray) p' fun h' he hit hk => wpAny_pyIter_enum he ?_
      exact ⟨s1.heap.objs.size + 1, [s1.heap.objs.size + 1, s1.heap.objs.size], _, _, H1, rfl, I1.kept (t' := s1.toks) hk, turn_enumT a (s1.heap.objs.size + 1) s1.heap.objs.size, ⟨⟨.none, he⟩, ⟨_, hit, rfl, rfl⟩, Nat.succ_ne_self _⟩, ok2, q⟩
theorem walk_enumT {K : PySem.W.Frag} {a : Addr} {xs : List V} : Walk (IteT K a) xs.length (fun H => SqT K H a xs) (YPair (fun i => some (.int (i : Nat))) (fun i => xs[i]?)) := by
  refine ⟨fun i _ hi q => ⟨xs, xs[i], q, by simp [hi]⟩, fun _ q => ⟨xs, q, Nat.le_refl _⟩, fun i H v H' _ q y => ?_⟩
  obtain ⟨T, x, h1, h2, h3, h4⟩ := y
  exact ⟨T, .int (i : Nat), x, h1, h2, h3, rfl, h4 xs q⟩
theorem walk_zipT {K : PySem.W.Frag} {a b : Addr} {xs ys : List V} {n : Nat} (hn : n = min xs.length ys.length) : Walk (RZ.ItzT K a b) n (fun H => SqT K H a xs ∧ SqT K H b ys) (YPair (fun i => xs[i]?) (fun i => ys[i]?)) := by
  subst hn
  refine ⟨fun i _ hi q => ?_, fun _ q => ⟨xs, ys, q.1, q.2, by omega⟩, fun i H v H' _ q y => ?_⟩
  · have h1 : i < xs.length := by omega
    have h2 : i < ys.length := by omega
    exact ⟨xs, ys, xs[i], ys[i], q.1, q.2, by simp [h1], by simp [h2]⟩
  · obtain ⟨T, x, z, h1, h2, h3, h4, h5⟩ := y
    exact ⟨T, x, z, h1, h2, h3, h4 xs q.1, h5 ys q.2⟩
/-! ### the keys of a dict that is not written again -/
def ItD (d : Addr) (o : Obj) (xs : Ents) : L2.It := ⟨fun i H => H d = some (fzO d o) ∧ i < xs.length, fun i H x H' => H' = H ∧ ∃ p, xs[i]? = some p ∧ x = .ref p.2.1, fun i H => H d = some (fzO d o) ∧ xs.length ≤ i⟩
theorem turn_dc {P : Program} {w : World} {K : PySem.W.Frag} {tg : Expr} {d : Addr} {o : Obj} {xs : Ents} {es : Array DictEntry} {ep : Nat} (it : Addr) (hod : o.data = .dict es ep) (hs : es.toList = xs.map (entryOfKey (tupleKind (mixKind PWd.P PWd.w)))) : Turn P w K tg (ItD d o xs) [it] it (fun i h => h.IsKeyIter it d i xs.length ep) where
  mem := by simp
  obj := fun i h st b hb => by
    obtain rfl : b = it := by simpa using hb
    obtain ⟨oi, e, c, dd⟩ := st
    exact ⟨oi, e, fun v z => by rw [dd] at z; cases z⟩
  keep := fun i h h' st kp => st.at fun oi e => kp it (by simp) oi e
  item := by
    intro X hP hw hK hc i pins s σ H E I hf st hg
    subst hP hw hK
    obtain ⟨f0, f1, f2, f3, f4, f5⟩ := hf it (by simp)
    have hgd := fz_get I hg.1
    have hx : es[i]? = some (entryOfKey (tupleKind (mixKind PWd.P PWd.w)) (xs[i]'hg.2)) := by
      rw [← Array.getElem?_toList, hs, List.getElem?_map, List.getElem?_eq_getElem hg.2]; rfl
    have hsz : es.size = xs.length := by rw [← Array.length_toList, hs, List.length_map]
    refine next_key_item st hgd hod hsz hx fun h' st' sb => ?_
    have I1 : Inv X pins σ H { s with heap := h' } := I.turned (t' := s.toks) (fun b ob hb e => (sb.2 b hb).trans e) f0 f1 f3 f4 f5
    obtain ⟨oi, e, c, dd⟩ := id st'
    exact ⟨_, rfl, go_of (s := { s with heap := h' }) e c dd (by decide) ⟨.ref (xs[i]'hg.2).2.1, H, I1, rfl, ⟨rfl, _, List.getElem?_eq_getElem hg.2, rfl⟩, st', fun b hb => (hf b hb).1⟩⟩
  done := by
    intro X hP hw hK hc i pins s σ H E I hf st hg
    subst hP hw hK
    obtain ⟨f0, f1, f2, f3, f4, f5⟩ := hf it (by simp)
    have hgd := fz_get I hg.1
    have hsz : es.size = xs.length := by rw [← Array.length_toList, hs, List.length_map]
    exact next_key_end (I.ok.hd hc) st hgd hod hsz hg.2 fun h' eb => ⟨rfl, I.turned (t' := s.toks) (fun b ob hb e => eb b ob hb e) f0 f1 f3 f4 f5⟩
  self := fun A i s Q E st h => wpAny_pyIter_keyiter st h
def iDc (td : TE) : TI := fun σ H R => td σ H fun x H1 => ∃ d o xs, x = .ref d ∧ H1 d = some (fzO d o) ∧ DcObj d o xs ∧ R (ItD d o xs) H1
theorem pi_dc {X : Cx} {tg e : Expr} {td : TE} (he : PE X e td) : PI X tg e (iDc td) := by
  refine ⟨fun pins s σ H R I h => thn (he.run pins s σ H _ I h) fun u s1 ⟨x, H1, I1, rx, d, o, xs, ex, hd, g, q⟩ => ?_⟩
  subst ex
  obtain rfl : u = Value.ref d := rx
  obtain ⟨es, ep, hdt, hs⟩ := g.da
  have hsz : es.size = xs.length := by rw [← Array.length_toList, hs, List.length_map]
  refine iter_keys g.ns (fz_get I1 hd) g.ex hdt (pi_one (tk := s1.toks) I1 _ (turn_dc _ hdt hs) ⟨_, Heap.get?_push_size _ rfl, rfl, ?_⟩ q)
  rw [hsz] <;> rfl
theorem walk_dc {d : Addr} {o : Obj} {xs : Ents} : Walk (ItD d o xs) xs.length (fun H => H d = some (fzO d o)) (fun i H x H' => H' = H ∧ ∃ p, xs[i]? = some p ∧ x = .ref p.2.1) :=
  ⟨fun i _ hi q => ⟨q, hi⟩, fun _ q => ⟨q, Nat.le_refl _⟩, fun i H x H' _ q y => y⟩
theorem RpEnt.get {K : PySem.W.Frag} {H : Hp} : ∀ {xs : Ents} {ds : List (D × D)} {ks : Dc} {i : Nat} {p : List Key × Addr × Value} {d : D}, RpEnt K H xs ds → asDcL ds = some ks → xs[i]? = some p → (ks.map fun p => keysD p.1)[i]? = some d → Rp K H (.ref p.2.1) d
  | _, _, ks, i, p, d, .nil, e, h, h2 => by simp at h
  | _, _, ks, i, p, d, .cons (k := k0) (q := q) (u := u) (v := v) (d := dv) (xs := xs) (ds := ds) a l r rv rr t, e, h, h2 => by
    have e' : (toKeys (k0.map keyD)).bind (fun k => (asDcL ds).map ((k, dv) :: ·)) = some ks := e
    rw [toKeys_map, Option.bind_some, Option.map_eq_some_iff] at e'
    obtain ⟨ks', e1, rfl⟩ := e'
    cases i with
    | zero =>
      simp at h h2
      subst h h2
      exact .tup a (by simpa using l) r
    | succ i => exact RpEnt.get t e1 (by simpa using h) (by simpa using h2)
section
variable {X : Cx} {C : Ctx} {T : Tab} {pl : Bool} {k : Nat} {tg : Expr}
/-- the objects that a list or tuple leans on -/
theorem seqL_keep {K : PySem.W.Frag} {H0 : Hp} {P : List Addr} {a : Addr} {xs : List V} (h : SqL K (hide H0 P) a xs) :
    ∃ as : List Addr, (∀ b ∈ as, b ∉ P) ∧ SqL K H0 a xs ∧ ∀ H H' : Hp, SqL K H a xs → (∀ b ∈ as, ∀ o, H b = some o → H' b = some o) → SqL K H' a xs := by
  have full := (hide_same H0 P).seq h
  rcases h with h | ⟨o, its, n, hk, h'⟩
  · have na : a ∉ P := fun z => by
      have e : hide H0 P a = none := if_pos z
      rcases h with h | ⟨o, h⟩ <;> rw [e] at h <;> cases h
    refine ⟨[a], fun b hb => by rw [List.mem_singleton.mp hb]; exact na, full, fun H H' q kk => ?_⟩
    rcases q with (q | ⟨o, q⟩) | q
    · exact .inl (.inl (kk a (by simp) _ q))
    · exact .inl (.inr ⟨o, kk a (by simp) _ q⟩)
    · exact .inr q
  · exact ⟨[], fun b hb => (nomatch hb), full, fun H H' q kk => .inr ⟨o, its, n, hk, h'⟩⟩
theorem seqT_keep {K : PySem.W.Frag} {H0 : Hp} {P : List Addr} {a : Addr} {xs : List V} (h : SqT K (hide H0 P) a xs) :
    ∃ as : List Addr, (∀ b ∈ as, b ∉ P) ∧ SqT K H0 a xs ∧ ∀ H H' : Hp, SqT K H a xs → (∀ b ∈ as, ∀ o, H b = some o → H' b = some o) → SqT K H' a xs := by
  have full := Same.seqT (hide_same H0 P) h
  rcases h with h | ⟨o, its, n, hk, h'⟩
  · have na : a ∉ P := fun z => by
      have e : hide H0 P a = none := if_pos z
      rcases h with h | ⟨o, h⟩ <;> rw [e] at h <;> cases h
    refine ⟨[a], fun b hb => by rw [List.mem_singleton.mp hb]; exact na, full, fun H H' q kk => ?_⟩
    rcases q with (q | ⟨o, q⟩) | q
    · exact .inl (.inl (kk a (by simp) _ q))
    · exact .inl (.inr ⟨o, kk a (by simp) _ q⟩)
    · exact .inr q
  · exact ⟨[], fun b hb => (nomatch hb), full, fun H H' q kk => .inr ⟨o, its, n, hk, h'⟩⟩
theorem enum_at : ∀ (xs : List D) (n i : Nat), (enumD n xs)[i]? = (xs[i]?).map fun x => .tuple [.int (n + i : Nat), x]
  | [], _, _ => by simp [enumD]
  | x :: r, n, 0 => by simp [enumD]
  | x :: r, n, i + 1 => by
    have := enum_at r (n + 1) i
    simp only [enumD, List.getElem?_cons_succ]
    rw [this, show n + 1 + i = n + (i + 1) by omega]
theorem enum_len : ∀ (xs : List D) (n : Nat), (enumD n xs).length = xs.length
  | [], _ => rfl
  | x :: r, n => congrArg (· + 1) (enum_len r (n + 1))
theorem zip_at : ∀ (xs ys : List D) (i : Nat) (d : D), (zipD xs ys)[i]? = some d → ∃ x y, xs[i]? = some x ∧ ys[i]? = some y ∧ d = .tuple [x, y]
  | [], _, _, _, h => by simp [zipD] at h
  | _ :: _, [], _, _, h => by simp [zipD] at h
  | x :: r, y :: s, 0, d, h => by
    simp [zipD] at h
    exact ⟨x, y, rfl, rfl, h.symm⟩
  | x :: r, y :: s, i + 1, d, h => zip_at r s i d (by simpa [zipD] using h)
theorem zip_len : ∀ (xs ys : List D), (zipD xs ys).length = min xs.length ys.length
  | [], _ => by simp [zipD]
  | _ :: _, [] => by simp [zipD]
  | x :: r, y :: s => by
    simp only [zipD, List.length_cons, zip_len r s]
    omega
theorem grow_pair {K : PySem.W.Frag} {P' : List Addr} {H H' : Hp} {xs ys : Nat → Option V} {i : Nat} {x : V} {dx dy : D} (tr : ∀ a ∈ P', H a ≠ none) (hy : YPair xs ys i H x H') (h1 : ∀ v, xs i = some v → Rp K (hide H P') v dx) (h2 : ∀ v, ys i = some v → Rp K (hide H P') v dy) :
    Grows H H' ∧ Rp K (hide H' P') x (.tuple [dx, dy]) := by
  obtain ⟨T, v1, v2, rfl, nT, rfl, e1, e2⟩ := hy
  have nP : T ∉ P' := fun z => tr T z nT
  have sm : Same (hide H P') (hide (upd H T (.tup [v1, v2])) P') := fun b o e => by
    unfold hide at e ⊢
    split at e
    · cases e
    · rename_i n
      rw [if_neg n, upd_ne (ne_of_none e nT)]
      exact e
  refine ⟨.inr ⟨T, _, nT, rfl⟩, .tup (.inl (.inl ?_)) (by show 2 ≤ sizeLine; decide) (.cons ((h1 v1 e1).mono sm) (.cons ((h2 v2 e2).mono sm) .nil))⟩
  rw [hide_at nP, upd_same]
theorem si_seq {e : E} {pe : Expr} (h : PE X pe (tE X.K C pl e)) : PI X tg pe (tI X.K C pl (.seq e)) := by
  refine ⟨fun pins s σ H R I hh => ?_⟩
  obtain ⟨P, q, ρ, w, xs, w', st, ev, kk⟩ := hh
  obtain ⟨d, w1, ea, ev⟩ := bind_inv ev
  obtain ⟨e, rfl⟩ := lift_inv ev
  cases d with
  | list ds =>
    cases e
    refine (pi_list h).run pins s σ H R I ⟨P, q, ρ, w, _, _, st, ea, fun H1 x x1 r1 => ?_⟩
    cases r1 with
    | @lst a vs _ h1 h2 h3 =>
      obtain ⟨as, o1, o2, o3⟩ := seqL_keep h1
      refine ⟨a, rfl, ⟨vs, o2⟩, kk _ H1 as (fun H => SqL X.K H a vs) (YAt vs) x1 ⟨by rw [← h3.length]; exact walk_list, by rw [← h3.length]; exact h2, o1, o2, o3, fun i H x H' d P' hi hG hs tr hy hd => ?_⟩⟩
      obtain ⟨rfl, hy⟩ := hy
      obtain ⟨v, e1, e2⟩ := h3.get hd
      rw [hy] at e1
      cases e1
      exact ⟨.inl rfl, e2.mono hs⟩
  | tuple ds =>
    cases e
    refine (pi_tup h).run pins s σ H R I ⟨P, q, ρ, w, _, _, st, ea, fun H1 x x1 r1 => ?_⟩
    cases r1 with
    | @tup a vs _ h1 h2 h3 =>
      obtain ⟨as, o1, o2, o3⟩ := seqT_keep h1
      refine ⟨a, rfl, ⟨vs, o2⟩, kk _ H1 as (fun H => SqT X.K H a vs) (YAt vs) x1 ⟨by rw [← h3.length]; exact walk_tup, by rw [← h3.length]; exact h2, o1, o2, o3, fun i H x H' d P' hi hG hs tr hy hd => ?_⟩⟩
      obtain ⟨rfl, hy⟩ := hy
      obtain ⟨v, e1, e2⟩ := h3.get hd
      rw [hy] at e1
      cases e1
      exact ⟨.inl rfl, e2.mono hs⟩
  | str z =>
    cases e
    refine (pi_str h).run pins s σ H R I ⟨P, q, ρ, w, _, _, st, ea, fun H1 x x1 r1 => ?_⟩
    cases r1 with
    | str _ hz =>
      have hl : (z.cps.toList.map fun c => (PyData.str ⟨#[c]⟩ : D)).length = z.cps.size := by simp
      refine ⟨z, rfl, kk _ H1 [] (fun _ => True) _ x1 ⟨by rw [hl]; exact walk_str, by rw [hl]; exact hz, fun b hb => (nomatch hb), trivial, fun _ _ _ _ => trivial, fun i H x H' d P' hi hG hs tr hy hd => ?_⟩⟩
      obtain ⟨rfl, c, hc, rfl⟩ := hy
      refine ⟨.inl rfl, ?_⟩
      rw [List.getElem?_map, Array.getElem?_toList, hc] at hd
      cases hd
      exact .str _ (by show 1 ≤ sizeLine; decide)
  | dict kvs =>
    have e' : (asDcL kvs).map (fun xs => xs.map fun p => keysD p.1) = some xs := e
    rw [Option.map_eq_some_iff] at e'
    obtain ⟨ks, e1, rfl⟩ := e'
    refine (pi_dc h).run pins s σ H R I ⟨P, q, ρ, w, _, _, st, ea, fun H1 x x1 r1 => ?_⟩
    cases r1 with
    | @dct d o es _ h1 h2 h3 =>
      have lk : (ks.map fun p => keysD p.1).length = es.length := by
        obtain ⟨ks2, f1, f2⟩ := h3.keys
        rw [e1] at f1
        cases f1
        have := congrArg List.length f2
        simpa using this.symm
      have nd : d ∉ P := fun z => by
        have e : hide H1 P d = none := if_pos z
        rw [e] at h1
        cases h1
      refine ⟨d, o, es, rfl, hide_same H1 P _ _ h1, h2, kk _ H1 [d] (fun H => H d = some (fzO d o)) _ x1 ⟨by rw [lk]; exact walk_dc, by rw [lk]; exact h2.sz, fun b hb => by rw [List.mem_singleton.mp hb]; exact nd, hide_same H1 P _ _ h1, fun H H' q kk => kk d (by simp) _ q, fun i H x H' dd P' hi hG hs tr hy hd => ?_⟩⟩
      obtain ⟨rfl, p, hp, rfl⟩ := hy
      exact ⟨.inl rfl, (h3.get e1 hp hd).mono hs⟩
    | fn x => exact nomatch e1
  | _ => cases e
theorem range_wd {K : PySem.W.Frag} {P : List Addr} {H : Hp} {lo hi : Int} {xs : List D} (e : rangeD lo hi = some xs) : (-(2 ^ 62) ≤ lo ∧ lo < 2 ^ 62 ∧ -(2 ^ 62) ≤ hi ∧ hi < 2 ^ 62) ∧ WalkD K (Itr lo (hi - lo).toNat) xs P H [] (fun _ => True) (YFn fun i => .int (lo + i)) := by
  unfold rangeD at e
  split at e
  · rename_i c
    obtain ⟨c1, c2, c3, c4, c5⟩ := c
    cases e
    have hl : ((List.range (hi - lo).toNat).map fun (k : Nat) => (PyData.int (lo + (k : Int)) : D)).length = (hi - lo).toNat := by simp
    refine ⟨⟨c1, c2, c3, c4⟩, ⟨by rw [hl]; exact walk_range, by rw [hl, sizeLine_eq]; omega, fun b hb => (nomatch hb), trivial, fun _ _ _ _ => trivial, fun i H x H' d P' hi hG hs tr hy hd => ?_⟩⟩
    obtain ⟨rfl, rfl⟩ := hy
    refine ⟨.inl rfl, ?_⟩
    rw [hl] at hi
    rw [List.getElem?_map, List.getElem?_range hi] at hd
    cases hd
    exact .int _
  · cases e
theorem si_rng {a : E} {pa : Expr} {p pos : Pos} (hg : Gl X "range") (hm : X.mg "range" = none) (hu : unstar pa = true) (h : PE X pa (tE X.K C pl a)) : PI X tg (.Call (.Name "range" p) [pa] [] pos) (tI X.K C pl (.rng a)) :=
  PI.wk (pi_range1 hg hm (pa_cons h pa_nil (star_cons hu)) (star_cons hu)) fun σ H R hh => by
    obtain ⟨P, q, ρ, w, xs, w', st, ev, kk⟩ := hh
    obtain ⟨d, w1, ea, ev⟩ := bind_inv ev
    obtain ⟨i, w2, el, ev⟩ := bind_inv ev
    obtain ⟨ei, rfl⟩ := lift_inv el
    obtain ⟨e, rfl⟩ := lift_inv ev
    cases asI ei
    refine ⟨P, q, ρ, w, _, _, st, ea, fun H1 x x1 r1 => ?_⟩
    cases r1
    obtain ⟨⟨_, _, c3, c4⟩, wd⟩ := range_wd (K := X.K) (P := P) (H := H1) e
    rw [show (i - 0).toNat = i.toNat by omega] at wd
    exact ⟨i, rfl, c3, c4, kk _ H1 _ _ _ x1 wd⟩
theorem si_rng2 {a b : E} {pa pb : Expr} {p pos : Pos} (hg : Gl X "range") (hm : X.mg "range" = none) (hu : unstar pa = true) (hu2 : unstar pb = true) (h : PE X pa (tE X.K C pl a)) (h2 : PE X pb (tE X.K C pl b)) :
    PI X tg (.Call (.Name "range" p) [pa, pb] [] pos) (tI X.K C pl (.rng2 a b)) :=
  PI.wk (pi_range2 hg hm (pa_cons h (pa_cons h2 pa_nil (star_cons hu2)) (star_cons hu)) (by rw [star_cons hu, star_cons hu2]; rfl) (star_cons hu2)) fun σ H R hh => by
    obtain ⟨P, q, ρ, w, xs, w', st, ev, kk⟩ := hh
    obtain ⟨da, w1, ea, ev⟩ := bind_inv ev
    obtain ⟨db, w2, eb, ev⟩ := bind_inv ev
    obtain ⟨i, w3, el, ev⟩ := bind_inv ev
    obtain ⟨ei, rfl⟩ := lift_inv el
    obtain ⟨j, w3, el2, ev⟩ := bind_inv ev
    obtain ⟨ej, rfl⟩ := lift_inv el2
    obtain ⟨e, rfl⟩ := lift_inv ev
    cases asI ei
    cases asI ej
    refine two (Q := fun x y H2 => ∃ i j : Int, [x, y] = [V.int i, V.int j] ∧ (-(2 ^ 62) ≤ i ∧ i < 2 ^ 62 ∧ -(2 ^ 62) ≤ j ∧ j < 2 ^ 62) ∧ R (Itr i (j - i).toNat) H2) st ea eb fun H2 x y x2 b2 r1 r2 => ?_
    cases r1
    cases r2
    obtain ⟨c, wd⟩ := range_wd (K := X.K) (P := P) (H := H2) e
    exact ⟨i, j, rfl, c, kk _ H2 _ _ _ x2 wd⟩
theorem si_enum {e : E} {pe : Expr} {p pos tpos : Pos} {elts : List Expr} {kk : Nat} (hg : Gl X "enumerate") (hm : X.mg "enumerate" = none) (hu : unstar pe = true) (h : PE X pe (tE X.K C pl e)) :
    PI X (.Tuple elts kk tpos) (.Call (.Name "enumerate" p) [pe] [] pos) (tI X.K C pl (.enum e)) :=
  PI.wk (pi_enumA hg hm (pa_cons h pa_nil (star_cons hu)) (star_cons hu)) fun σ H R hh => by
    obtain ⟨P, q, ρ, w, xs, w', st, ev, kk⟩ := hh
    obtain ⟨d, w1, ea, ev⟩ := bind_inv ev
    refine ⟨P, q, ρ, w, d, _, st, ea, fun H1 x x1 r1 => ?_⟩
    have fin : ∀ (vs : List V) (ds : List D) (i : Nat) (H : Hp) (x : V) (H' : Hp) (d : D) (P' : List Addr), RpAll X.K (hide H1 P) vs ds → Same (hide H1 P) (hide H P') → (∀ a ∈ P', H a ≠ none) → YPair (fun i => some (.int (i : Nat))) (fun i => vs[i]?) i H x H' → (enumD 0 ds)[i]? = some d → Grows H H' ∧ Rp X.K (hide H' P') x d := by
      intro vs ds i H x H' d P' h3 hs tr hy hd
      rw [enum_at, Option.map_eq_some_iff] at hd
      obtain ⟨dv, hd, rfl⟩ := hd
      refine grow_pair tr hy (fun v ev => ?_) fun v ev => ?_
      · cases ev
        rw [Nat.zero_add]
        exact .int _
      · obtain ⟨v', e1, e2⟩ := h3.get hd
        rw [e1] at ev
        cases ev
        exact e2.mono hs
    cases r1 with
    | @lst a vs ds h1 h2 h3 =>
      obtain ⟨rfl, rfl⟩ := pure_inv ev
      obtain ⟨as, o1, o2, o3⟩ := seqL_keep h1
      have hl : (enumD 0 ds).length = vs.length := (enum_len ds 0).trans h3.length.symm
      exact ⟨a, vs, rfl, .inl ⟨o2, kk _ H1 as (fun H => SqL X.K H a vs) _ x1 ⟨by rw [hl]; exact walk_enum, by rw [hl]; exact h2, o1, o2, o3, fun i H x H' d P' hi hG hs tr hy hd => fin vs ds i H x H' d P' h3 hs tr hy hd⟩⟩⟩
    | @tup a vs ds h1 h2 h3 =>
      obtain ⟨rfl, rfl⟩ := pure_inv ev
      obtain ⟨as, o1, o2, o3⟩ := seqT_keep h1
      have hl : (enumD 0 ds).length = vs.length := (enum_len ds 0).trans h3.length.symm
      exact ⟨a, vs, rfl, .inr ⟨o2, kk _ H1 as (fun H => SqT X.K H a vs) _ x1 ⟨by rw [hl]; exact walk_enumT, by rw [hl]; exact h2, o1, o2, o3, fun i H x H' d P' hi hG hs tr hy hd => fin vs ds i H x H' d P' h3 hs tr hy hd⟩⟩⟩
    | _ => exact none_inv ev
theorem si_zip {a b : E} {pa pb : Expr} {p pos tpos : Pos} {elts : List Expr} {kk : Nat} (hg : Gl X "zip") (hm : X.mg "zip" = none) (hu : unstar pa = true) (hu2 : unstar pb = true) (h : PE X pa (tE X.K C pl a)) (h' : PE X pb (tE X.K C pl b)) :
    PI X (.Tuple elts kk tpos) (.Call (.Name "zip" p) [pa, pb] [] pos) (tI X.K C pl (.zip a b)) :=
  PI.wk (RZ.pi_zipA hg hm (pa_cons h (pa_cons h' pa_nil (star_cons hu2)) (star_cons hu)) (star_cons hu) (by rw [star_cons hu2]; rfl)) fun σ H R hh => by
    obtain ⟨P, q, ρ, w, xs, w', st, ev, kk⟩ := hh
    obtain ⟨da, w1, ea, ev⟩ := bind_inv ev
    obtain ⟨db, w2, eb, ev⟩ := bind_inv ev
    refine two (Q := fun x y H2 => ∃ a b xs ys, [x, y] = [V.ref a, V.ref b] ∧ ((SqL X.K H2 a xs ∧ SqL X.K H2 b ys ∧ R (Itz X.K a b) H2) ∨ (SqT X.K H2 a xs ∧ SqT X.K H2 b ys ∧ R (RZ.ItzT X.K a b) H2))) st ea eb fun H2 x y x2 b2 r1 r2 => ?_
    have fin : ∀ (vs us : List V) (ds es : List D) (i : Nat) (H : Hp) (x : V) (H' : Hp) (d : D) (P' : List Addr), RpAll X.K (hide H2 P) vs ds → RpAll X.K (hide H2 P) us es → Same (hide H2 P) (hide H P') → (∀ a ∈ P', H a ≠ none) → YPair (fun i => vs[i]?) (fun i => us[i]?) i H x H' → (zipD ds es)[i]? = some d → Grows H H' ∧ Rp X.K (hide H' P') x d := by
      intro vs us ds es i H x H' d P' h3 h4 hs tr hy hd
      obtain ⟨dx, dy, hd1, hd2, rfl⟩ := zip_at _ _ _ _ hd
      refine grow_pair tr hy (fun v ev => ?_) fun v ev => ?_
      · obtain ⟨v', e1, e2⟩ := h3.get hd1
        rw [e1] at ev
        cases ev
        exact e2.mono hs
      · obtain ⟨v', e1, e2⟩ := h4.get hd2
        rw [e1] at ev
        cases ev
        exact e2.mono hs
    cases r1 with
    | @lst a1 vs ds h1 h2 h3 =>
      cases r2 with
      | @lst a2 us es g1 g2 g3 =>
        obtain ⟨rfl, rfl⟩ := pure_inv ev
        obtain ⟨as, o1, o2, o3⟩ := seqL_keep h1
        obtain ⟨bs, p1, p2, p3⟩ := seqL_keep g1
        have l1 := h3.length
        have l2 := g3.length
        have hl : (zipD ds es).length = min vs.length us.length := by rw [zip_len, l1, l2]
        refine ⟨a1, a2, vs, us, rfl, .inl ⟨o2, p2, kk _ H2 (as ++ bs) (fun H => SqL X.K H a1 vs ∧ SqL X.K H a2 us) _ x2 ⟨walk_zip hl, by rw [hl]; omega, fun b hb => (List.mem_append.mp hb).elim (o1 b) (p1 b), ⟨o2, p2⟩, fun H H' hG hk => ⟨o3 H H' hG.1 fun b hb => hk b (List.mem_append_left _ hb), p3 H H' hG.2 fun b hb => hk b (List.mem_append_right _ hb)⟩, fun i H x H' d P' hi hG hs tr hy hd => fin vs us ds es i H x H' d P' h3 g3 hs tr hy hd⟩⟩⟩
      | _ => exact none_inv ev
    | @tup a1 vs ds h1 h2 h3 =>
      cases r2 with
      | @tup a2 us es g1 g2 g3 =>
        obtain ⟨rfl, rfl⟩ := pure_inv ev
        obtain ⟨as, o1, o2, o3⟩ := seqT_keep h1
        obtain ⟨bs, p1, p2, p3⟩ := seqT_keep g1
        have l1 := h3.length
        have l2 := g3.length
        have hl : (zipD ds es).length = min vs.length us.length := by rw [zip_len, l1, l2]
        refine ⟨a1, a2, vs, us, rfl, .inr ⟨o2, p2, kk _ H2 (as ++ bs) (fun H => SqT X.K H a1 vs ∧ SqT X.K H a2 us) _ x2 ⟨walk_zipT hl, by rw [hl]; omega, fun b hb => (List.mem_append.mp hb).elim (o1 b) (p1 b), ⟨o2, p2⟩, fun H H' hG hk => ⟨o3 H H' hG.1 fun b hb => hk b (List.mem_append_left _ hb), p3 H H' hG.2 fun b hb => hk b (List.mem_append_right _ hb)⟩, fun i H x H' d P' hi hG hs tr hy hd => fin vs us ds es i H x H' d P' h3 g3 hs tr hy hd⟩⟩⟩
      | _ => exact none_inv ev
    | _ => exact none_inv ev
end
end RX

-- RX8
set_option Elab.async false
set_option linter.all false
set_option maxRecDepth 100000
set_option maxHeartbeats 2000000
/-! RX8: targets, comprehensions. -/
namespace RX
open PySem PySem.Spec PyProof.Rows L2
variable [PWd]
/-! ### wiping -/
theorem wipe_at (σ : L2.St) : ∀ (vs : List Nat) (i : Nat), (wipe σ vs)[i]? = if i ∈ vs then (σ[i]?).map (fun _ => none) else σ[i]?
  | [], i => by simp [wipe]
  | v :: vs, i => by
    unfold wipe
    rw [List.getElem?_set]
    have ih := wipe_at σ vs
    by_cases hv : v = i
    · subst hv
      rw [if_pos rfl, wipe_length]
      by_cases hl : v < σ.length
      · rw [if_pos hl, if_pos (by simp), List.getElem?_eq_getElem hl]; rfl
      · rw [if_neg hl, if_pos (by simp), List.getElem?_eq_none (by omega)]; rfl
    · rw [if_neg hv, ih i]
      by_cases hm : i ∈ vs
      · rw [if_pos hm, if_pos (by simp [hm])]
      · rw [if_neg hm, if_neg (by simp [hm, Ne.symm hv])]
theorem wipe_eq {σ σ' : L2.St} {vs : List Nat} (hl : σ'.length = σ.length) (h : ∀ i, i ∉ vs → σ'[i]? = σ[i]?) : wipe σ' vs = wipe σ vs := by
  apply List.ext_getElem?
  intro i
  rw [wipe_at, wipe_at]
  by_cases hi : i ∈ vs
  · rw [if_pos hi, if_pos hi]
    by_cases hl' : i < σ.length
    · rw [List.getElem?_eq_getElem hl', List.getElem?_eq_getElem (hl ▸ hl' : i < σ'.length)]; rfl
    · rw [List.getElem?_eq_none (by omega), List.getElem?_eq_none (by omega)]
  · rw [if_neg hi, if_neg hi, h i hi]
theorem getv_set {ρ : Env} {i j : Nat} {d : Option D} : getv (ρ.set i d) j = if i = j ∧ i < ρ.length then d else getv ρ j := by
  unfold getv
  rw [List.getElem?_set]
  by_cases h : i = j
  · subst h
    by_cases hl : i < ρ.length
    · rw [if_pos rfl, if_pos hl, if_pos ⟨rfl, hl⟩]; rfl
    · rw [if_pos rfl, if_neg hl, if_neg (fun z => hl z.2), List.getElem?_eq_none (by omega)]
  · rw [if_neg h, if_neg (fun z => h z.1)]
theorem wipeE_len : ∀ (tg : List Nat) (ρ : Env), (wipeE tg ρ).length = ρ.length
  | [], _ => rfl
  | i :: r, ρ => by
    show (wipeE r (ρ.set i none)).length = _
    rw [wipeE_len r, List.length_set]
theorem wipeE_get : ∀ (tg : List Nat) (ρ : Env) (j : Nat) (d : D), getv (wipeE tg ρ) j = some d → j ∉ tg ∧ getv ρ j = some d
  | [], _, _, _, h => ⟨by simp, h⟩
  | i :: r, ρ, j, d, h => by
    obtain ⟨h1, h2⟩ := wipeE_get r (ρ.set i none) j d h
    rw [getv_set] at h2
    split at h2
    · cases h2
    · rename_i hn
      refine ⟨?_, h2⟩
      rw [List.mem_cons, not_or]
      refine ⟨fun e => ?_, h1⟩
      by_cases hl : i < ρ.length
      · exact hn ⟨e.symm, hl⟩
      · subst e
        unfold getv at h2
        rw [List.getElem?_eq_none (by omega)] at h2
        cases h2
theorem ER.wiped {K : PySem.W.Frag} {P : List Addr} {ρ : Env} {σ : L2.St} {H : Hp} (er : ER K P ρ σ H) (tg : List Nat) : ER K P (wipeE tg ρ) (wipe σ tg) H := fun i d e => by
  obtain ⟨h1, h2⟩ := wipeE_get tg ρ i d e
  obtain ⟨v, h3, h4⟩ := er i d h2
  exact ⟨v, by rw [wipe_at, if_neg h1]; exact h3, h4⟩
/-! ### targets -/
def gNames : List Nat → TGs
  | [] => gNil
  | i :: r => gCons (gName i) (gNames r)
/-- a tuple or a list, parted -/
def gTL (K : PySem.W.Frag) (n : Nat) (t : TGs) : TG := fun v σ H Q => gTup K n t v σ H Q ∨ gLst K n t v σ H Q
theorem pg_tl {X : Cx} {es : List Expr} {k : Nat} {t : TGs} {n : Nat} {pos : Pos} (hc : X.calm = true) (h : PGs X es t)
    (hn : (assignEach es X.env).length = n) (hst : (assignEach es X.env).findIdx? (·.1) = none) : PG X (.Tuple es k pos) (gTL X.K n t) :=
  ⟨fun pins s σ H v u Q I r hw => hw.elim (fun z => (pg_tup hc h hn hst).run pins s σ H v u Q I r z) fun z => (pg_lst hc h hn hst).run pins s σ H v u Q I r z⟩
def gT (K : PySem.W.Frag) : List Nat → TG
  | [i] => gName i
  | is => gTL K is.length (gNames is)
theorem ER.set {K : PySem.W.Frag} {P : List Addr} {ρ : Env} {σ : L2.St} {H : Hp} (er : ER K P ρ σ H) (ln : ρ.length ≤ σ.length) {i : Nat} {x : V} {d : D} (r : Rp K (hide H P) x d) : ER K P (ρ.set i (some d)) (σ.set i (some x)) H := fun j e h => by
  rw [getv_set] at h
  split at h
  · rename_i c
    obtain ⟨rfl, hl⟩ := c
    cases h
    exact ⟨x, List.getElem?_set_self (by omega), r⟩
  · rename_i c
    obtain ⟨v, h1, h2⟩ := er j e h
    refine ⟨v, ?_, h2⟩
    by_cases hij : i = j
    · subst hij
      exfalso
      apply c
      refine ⟨rfl, ?_⟩
      unfold getv at h
      by_cases hl : i < ρ.length
      · exact hl
      · rw [List.getElem?_eq_none (by omega)] at h
        cases h
    · rw [List.getElem?_set_ne hij]
      exact h1
theorem names_g {K : PySem.W.Frag} {P : List Addr} {H : Hp} {Q : L2.St → Hp → Prop} : ∀ {tg : List Nat} {vs : List V} {ds : List D} {ρ ρ' : Env} {σ : L2.St}, RpAll K (hide H P) vs ds → setAll tg ds ρ = some ρ' → ER K P ρ σ H → ρ.length ≤ σ.length →
    (∀ σ', ER K P ρ' σ' H → ρ'.length = ρ.length → σ'.length = σ.length → (∀ i, i ∉ tg → σ'[i]? = σ[i]?) → Q σ' H) → gNames tg vs σ H Q
  | [], [], [], ρ, ρ', σ, _, e, er, ln, h => by
    cases e
    exact ⟨rfl, h σ er rfl rfl fun _ _ => rfl⟩
  | i :: tg, v :: vs, d :: ds, ρ, ρ', σ, .cons r rr, e, er, ln, h => by
    refine ⟨v, vs, rfl, ?_⟩
    refine names_g (tg := tg) (ρ := ρ.set i (some d)) rr e (er.set ln r) (by rw [List.length_set, List.length_set]; exact ln) fun σ' h1 h2 h3 h4 => ?_
    rw [List.length_set] at h2 h3
    refine h σ' h1 h2 h3 fun j hj => ?_
    rw [List.mem_cons, not_or] at hj
    rw [h4 j hj.2, List.getElem?_set_ne (Ne.symm hj.1)]
  | [], _ :: _, _ :: _, _, _, _, _, e, _, _, _ => by cases e
  | _ :: _, [], [], _, _, _, _, e, _, _, _ => by cases e
theorem setAll_len : ∀ {tg : List Nat} {ds : List D} {ρ ρ' : Env}, setAll tg ds ρ = some ρ' → tg.length = ds.length
  | [], [], _, _, _ => rfl
  | _ :: _, _ :: _, _, _, e => congrArg (· + 1) (setAll_len e)
  | [], _ :: _, _, _, e => by cases e
  | _ :: _, [], _, _, e => by cases e
theorem bind_g {K : PySem.W.Frag} {P : List Addr} {H : Hp} {Q : L2.St → Hp → Prop} {tg : List Nat} {x : V} {d : D} {ρ ρ' : Env} {σ : L2.St} (r : Rp K (hide H P) x d) (e : bindT tg d ρ = some ρ') (er : ER K P ρ σ H) (ln : ρ.length ≤ σ.length)
    (h : ∀ σ', ER K P ρ' σ' H → ρ'.length = ρ.length → σ'.length = σ.length → (∀ i, i ∉ tg → σ'[i]? = σ[i]?) → Q σ' H) : gT K tg x σ H Q := by
  have one : ∀ i, tg = [i] → gName i x σ H Q := by
    rintro i rfl
    cases e
    exact h _ (er.set ln r) (List.length_set) (List.length_set) fun j hj => List.getElem?_set_ne (by simpa [eq_comm] using hj)
  have many : (∀ i, tg ≠ [i]) → gTL K tg.length (gNames tg) x σ H Q := by
    intro hn
    have key : ∀ dd : D, bindT tg dd ρ = some ρ' → ∃ xs, (dd = .tuple xs ∨ dd = .list xs) ∧ setAll tg xs ρ = some ρ' := fun dd ed => by
      unfold bindT at ed
      split at ed
      · exact absurd rfl (hn _)
      · split at ed
        · exact ⟨_, .inl rfl, ed⟩
        · exact ⟨_, .inr rfl, ed⟩
        · cases ed
    obtain ⟨xs, rfl | rfl, e'⟩ := key d e
    · cases r with
      | tup h1 h2 h3 =>
        refine .inl ⟨_, _, rfl, Same.seqT (hide_same H P) h1, ?_, names_g h3 e' er ln h⟩
        rw [h3.length, setAll_len e']
    · cases r with
      | lst h1 h2 h3 =>
        refine .inr ⟨_, _, rfl, (hide_same H P).seq h1, ?_, names_g h3 e' er ln h⟩
        rw [h3.length, setAll_len e']
  unfold gT
  split
  · exact one _ rfl
  · rename_i hn
    exact many fun i hi => hn i hi
section
variable {X : Cx} {C : Ctx} {T : Tab} {pl : Bool} {k : Nat}
theorem pgs_names {sc : Scope} (sr : ScRel X sc) (nd : X.N.Nodup) : ∀ {is : List Nat} {es : List Expr}, tgB.go X.N sc is es = true → PGs X es (gNames is) ∧ (assignEach es X.env).length = is.length ∧ (assignEach es X.env).findIdx? (·.1) = none
  | [], [], _ => ⟨pgs_nil, rfl, rfl⟩
  | [], _ :: _, h => by simp [tgB.go] at h
  | _ :: _, [], h => by simp [tgB.go] at h
  | i :: is, e :: es, h => by
    cases e with
    | Name x p =>
      simp only [tgB.go, Bool.and_eq_true, decide_eq_true_eq] at h
      obtain ⟨⟨h1, h2⟩, h3⟩ := h
      obtain ⟨g1, g2, g3⟩ := pgs_names sr nd h3
      obtain ⟨l1, l2⟩ := sr.loc x h2
      refine ⟨pgs_cons (pg_name nd h1 l1 l2) g1 rfl, ?_, ?_⟩
      · show (assignEach es X.env).length + 1 = _
        rw [g2] <;> rfl
      · show ((false, assign (.Name x p) X.env) :: assignEach es X.env).findIdx? (·.1) = none
        rw [List.findIdx?_cons]
        simp [g3]
    | _ => simp [tgB.go] at h
theorem sg {sc : Scope} (sr : ScRel X sc) (nd : X.N.Nodup) (hc : X.calm = true) {tg : List Nat} {pt : Expr} (h : tgB X.N sc tg pt = true) : PG X pt (gT X.K tg) := by
  unfold tgB at h
  split at h
  · rename_i i x p
    simp only [Bool.and_eq_true, decide_eq_true_eq] at h
    obtain ⟨l1, l2⟩ := sr.loc x h.2
    exact pg_name nd h.1 l1 l2
  · rename_i is es kk p
    simp only [Bool.and_eq_true, decide_eq_true_eq] at h
    obtain ⟨h0, h⟩ := h
    obtain ⟨g1, g2, g3⟩ := pgs_names sr nd h
    have e : gT X.K tg = gTL X.K tg.length (gNames tg) := by
      unfold gT
      split
      · simp at h0
      · rfl
    rw [e]
    exact pg_tl hc g1 g2 g3
  · cases h
/-! ### blocks -/
def ownOf (N : List Str) (tg : List Nat) : List (Str × Nat) := tg.filterMap fun i => (N[i]?).map fun x => (x, i)
theorem ownOf_snd {N : List Str} : ∀ {tg : List Nat}, (tg.all fun i => (N[i]?).isSome) = true → (ownOf N tg).map (·.2) = tg
  | [], _ => rfl
  | i :: r, h => by
    rw [List.all_cons, Bool.and_eq_true] at h
    obtain ⟨x, hx⟩ := Option.isSome_iff_exists.mp h.1
    unfold ownOf
    rw [List.filterMap_cons, hx]
    show i :: (ownOf N r).map (·.2) = _
    rw [ownOf_snd h.2]
theorem blk_ok {sc scope : Scope} (sr : ScRel X sc) {tg : List Nat} (h : blkB X.N sc scope tg = true) : BlkOk X.N X.env.scope scope (ownOf X.N tg) ∧ (ownOf X.N tg).map (·.2) = tg := by
  unfold blkB at h
  simp only [Bool.and_eq_true, decide_eq_true_eq] at h
  obtain ⟨⟨⟨h1, h2⟩, h3⟩, h4⟩ := h
  have own : ∀ y : Str, (tg.any (fun i => decide (X.N[i]? = some y)) || !(X.N.contains y)) = true → y ∈ (ownOf X.N tg).map (·.1) ∨ y ∉ X.N := fun y hy => by
    rw [Bool.or_eq_true] at hy
    rcases hy with hy | hy
    · obtain ⟨i, hi, e⟩ := List.any_eq_true.mp hy
      have e := of_decide_eq_true e
      exact .inl (List.mem_map.mpr ⟨(y, i), List.mem_filterMap.mpr ⟨i, hi, by rw [e]; rfl⟩, rfl⟩)
    · exact .inr fun hm => by
        rw [List.contains_iff_mem.mpr hm] at hy
        cases hy
  refine ⟨⟨h1, fun y hy => of_decide_eq_true (List.all_eq_true.mp h2 y hy), fun p hp => ?_, fun y hy e => ?_, fun y hy e => ?_⟩, ownOf_snd h4⟩
  · obtain ⟨i, hi, e⟩ := List.mem_filterMap.mp hp
    cases hx : X.N[i]? with
    | none => rw [hx] at e; cases e
    | some x => rw [hx] at e; cases e; exact hx
  · have q := List.all_eq_true.mp h3 y hy
    rw [e] at q
    refine sr.cf y.1 ?_
    have q' : (match sc.names.lookup y.1 with | some .cell => true | some .free => true | _ => false) = true := q
    cases hl : sc.names.lookup y.1 with
    | none => rw [hl] at q'; cases q'
    | some kd =>
      rw [hl] at q'
      cases kd with
      | cell => exact .inl rfl
      | free => exact .inr rfl
      | _ => cases q'
  · have q := List.all_eq_true.mp h3 y hy
    rcases e with e | e
    · rw [e] at q
      exact own y.1 q
    · rw [e] at q
      exact own y.1 q
def notSet : Expr → Bool
  | .Set .. => false
  | _ => true
theorem fold_ok {e : Expr} {env : PySem.Env} (h : notSet e = true) (x : Value) : foldedSetIterable e env x = pure x := by
  cases e <;> first | rfl | cases h
theorem mtI_notSet {N : List Str} {sc : Scope} {it : RX.It} {pe : Expr} (h : mtI T pl N sc it pe = true) : notSet pe = true := by
  cases pe <;> first | rfl | (cases it <;> first | (simp [mtI] at h; done) | (rename_i e; cases e <;> simp [mtI, mtE] at h))
/-! ### a comprehension -/
theorem comp_inv {f : D → M (Option D)} {x : D} {xs : List D} {w w' : W} {ys : List D} (h : (compM f (x :: xs)).run w = some (ys, w')) :
    ∃ o w1 zs, (f x).run w = some (o, w1) ∧ (compM f xs).run w1 = some (zs, w') ∧ ys = (match o with | some y => y :: zs | none => zs) := by
  obtain ⟨o, w1, h1, h⟩ := bind_inv h
  obtain ⟨zs, w2, h2, h⟩ := bind_inv h
  obtain ⟨rfl, rfl⟩ := pure_inv h
  exact ⟨o, w1, zs, h1, h2, rfl⟩
def ttOf (K : PySem.W.Frag) (C : Ctx) (pl : Bool) (hc : Bool) (c : E) : TT := if hc then tT K C pl c else tYes
theorem hide_grow {H H' : Hp} {P : List Addr} (g : Grows H H') (tr : ∀ a ∈ P, H a ≠ none) : Same (hide H P) (hide H' P) ∧ (∀ a ∈ P, H' a = H a) ∧ (∀ a o, H a = some o → H' a = some o) := by
  rcases g with rfl | ⟨T, o, n, rfl⟩
  · exact ⟨fun _ _ h => h, fun _ _ => rfl, fun _ _ h => h⟩
  · have nP : T ∉ P := fun z => tr T z n
    refine ⟨fun b o' e => ?_, fun a ha => upd_ne fun z => nP (z ▸ ha), fun a o' e => by rw [upd_ne (ne_of_none e n)]; exact e⟩
    unfold hide at e ⊢
    split at e
    · cases e
    · rename_i nb
      rw [if_neg nb, upd_ne (ne_of_none e n)]
      exact e
/-- as tE, of what makes a new list -/
def tF (K : PySem.W.Frag) (C : Ctx) (pl : Bool) (e : E) : TE := fun σ H Q => ∃ P q ρ w ds w', Sit K pl P q ρ w σ H ∧ (evE C e ρ).run w = some (.list ds, w') ∧
  ∀ H' a xs, Ext q w' H H' → H a = none → H' a = some (.lst xs) → xs.length ≤ sizeLine → RpAll K (hide H' (a :: P)) xs ds → Q (.ref a) H'
theorem tF_of {K : PySem.W.Frag} {C : Ctx} {pl : Bool} {e : E} (hl : ∀ ρ w d w', (evE C e ρ).run w = some (d, w') → ∃ ds, d = .list ds) {σ : L2.St} {H : Hp} {Q : VK} (h : tE K C pl e σ H Q) : tF K C pl e σ H Q := by
  obtain ⟨P, q, ρ, w, d, w', st, ev, kk⟩ := h
  obtain ⟨ds, rfl⟩ := hl _ _ _ _ ev
  refine ⟨P, q, ρ, w, ds, w', st, ev, fun H' a xs x n e l r => kk H' _ x (.lst (.inl (.inl ?_)) l (r.mono (hide_mono fun b hb => List.mem_cons_of_mem _ hb)))⟩
  rw [hide_at (st.b.notin n)]
  exact e
theorem se_comp {sc scope : Scope} {tg : List Nat} {it : RX.It} {hcn : Bool} {cond elt : E} {pelt ptg pit : Expr} {ifs : List Expr} {pos : Pos} (xo : XOk X C T k) (sr : ScRel X sc) (h0 : (!pl || !tg.contains 0) = true) (hb : blkB X.N sc scope tg = true) (ht : tgB X.N scope tg ptg = true)
    (hns : notSet pit = true) (hi : PI X ptg pit (tI X.K C pl it))
    (hif : ∀ (s : Shared) (H : Hp) (Cc : Addr) (cl : List (Str × Addr)) (fp : List Addr), PTs (X.blk s H scope (compEnvC scope cl Cc X.env) fp) ifs (ttOf X.K C pl hcn cond))
    (he : ∀ (s : Shared) (H : Hp) (Cc : Addr) (cl : List (Str × Addr)) (fp : List Addr), PE (X.blk s H scope (compEnvC scope cl Cc X.env) fp) pelt (tE X.K C pl elt)) :
    BlkOk X.N X.env.scope scope (ownOf X.N tg) ∧ (∀ (s : Shared) (H : Hp) (Cc : Addr) (cl : List (Str × Addr)) (fp : List Addr), PG (X.blk s H scope (compEnvC scope cl Cc X.env) fp) ptg (gT X.K tg)) ∧
    ∀ σ H Q, tF X.K C pl (.comp tg it hcn cond elt) σ H Q → tLc (tI X.K C pl it) (gT X.K tg) (ttOf X.K C pl hcn cond) (tE X.K C pl elt) ((ownOf X.N tg).map (·.2)) σ H Q := by
  obtain ⟨ok, eo⟩ := blk_ok sr hb
  refine ⟨ok, fun s H Cc cl fp => sg (ScRel.blk s H Cc cl fp) xo.nd xo.calm ht, fun σ H Q h => ?_⟩
  rw [eo]
  obtain ⟨P, q, ρ, w, d, w', st, ev, kk⟩ := h
  obtain ⟨xs, w1, exs, ev⟩ := bind_inv ev
  obtain ⟨ys, w2, eys, ev⟩ := bind_inv ev
  obtain ⟨e0, rfl⟩ := pure_inv ev
  have e0 := PyData.list.inj e0
  subst e0
  refine ⟨P, q, ρ, w, xs, w1, st, exs, fun J H1 as G Y x1 wd => fun Dd hD => ?_⟩
  have st1 := st.ext x1
  have hDP : Dd ∉ P := st1.b.notin hD
  have hDq : ∀ a, q = some a → a ≠ Dd := fun a e z => hDP (z ▸ (st1.b.pool a e).1)
  generalize hf : (fun x => do
      let ρ' ← lift (bindT tg x (wipeE tg ρ))
      let b ← (if hcn then (do let c ← evE C cond ρ'; lift (asBool c)) else pure true : M Bool)
      if b then (do let y ← evE C elt ρ'; pure (some y)) else pure none : D → M (Option D)) = f at eys
  -- at turn i
  let Pv : Nat → Hp → Prop := fun i Hc => ∃ acc ds wi zs, Hc Dd = some (.lst acc) ∧ acc.length ≤ i ∧ RpAll X.K (hide Hc (Dd :: P)) acc ds ∧ (∀ a o, some a ≠ q → a ≠ Dd → H1 a = some o → Hc a = some o) ∧
    (∀ a, q = some a → Hc a = some (.lst (wi.map V.int))) ∧ (compM f (xs.drop i)).run wi = some (zs, w2) ∧ ys = ds ++ zs
  have keepG : ∀ i Hc, Pv i Hc → G Hc := fun i Hc ⟨acc, ds, wi, zs, p1, p2, p3, p4, p5, p6, p7⟩ => wd.stay H1 Hc wd.g0 fun a ha o e => p4 a o (fun z => (wd.out a ha) (st1.b.pool a z.symm).1) (fun z => by rw [z, hD] at e; cases e) e
  refine lc_it wd.wk Pv ⟨[], [], w1, ys, upd_same, Nat.le_refl _, .nil, fun a o n1 n2 e => by rw [upd_ne n2]; exact e, fun a e => by rw [upd_ne (hDq a e)]; exact (st1.b.pool a e).2, by rw [List.drop_zero]; exact eys, rfl⟩ (fun i Hc _ p => keepG i Hc p) (fun i x Hc Hc' hlt p hy => ?_) fun Hc p => ?_
  · have hG := keepG i Hc p
    obtain ⟨acc, ds, wi, zs, p1, p2, p3, p4, p5, p6, p7⟩ := p
    have tr : ∀ a ∈ Dd :: P, Hc a ≠ none := fun a ha => by
      rcases List.mem_cons.mp ha with rfl | ha
      · rw [p1]; simp
      · by_cases hq : q = some a
        · rw [p5 a hq]; simp
        · cases e : H1 a with
          | none => exact absurd e (st1.b.tr a ha)
          | some o => rw [p4 a o (fun z => hq z.symm) (fun z => hDP (z ▸ ha)) e]; simp
    have sm : Same (hide H1 P) (hide Hc (Dd :: P)) := fun b o e => by
      unfold hide at e ⊢
      split at e
      · cases e
      · rename_i nb
        have nD : b ≠ Dd := fun z => by rw [z, hD] at e; cases e
        rw [if_neg (by simp [nD, nb])]
        exact p4 b o (fun z => nb (st1.b.pool b z.symm).1) nD e
    obtain ⟨gr, rx⟩ := wd.item i Hc x Hc' xs[i] (Dd :: P) hlt hG sm tr hy (List.getElem?_eq_getElem hlt)
    obtain ⟨sm2, eqP, kp2⟩ := hide_grow gr tr
    rw [List.drop_eq_getElem_cons hlt] at p6
    obtain ⟨o, w3, zs', f1, f2, f3⟩ := comp_inv p6
    subst hf
    obtain ⟨ρ', w4, e1l, f1⟩ := bind_inv f1
    obtain ⟨e1, rfl⟩ := lift_inv e1l
    have ers : ER X.K (Dd :: P) ρ σ Hc' := fun j dj ej => by
      obtain ⟨v, g1, g2⟩ := st1.er j dj ej
      exact ⟨v, g1, (g2.mono sm).mono sm2⟩
    have bs' : Bs (Dd :: P) q wi Hc' := by
      refine ⟨fun a ha => ?_, fun a e => ⟨List.mem_cons_of_mem _ (st1.b.pool a e).1, ?_⟩⟩
      · rw [eqP a ha]; exact tr a ha
      · rw [eqP a (List.mem_cons_of_mem _ (st1.b.pool a e).1)]; exact p5 a e
    refine bind_g rx e1 (ers.wiped tg) (by rw [wipeE_len, wipe_length]; exact st1.ln) fun σ2 er2 l1 l2 o2 => ?_
    have ws : wipe σ2 tg = wipe σ tg := wipe_eq (by rw [l2, wipe_length]) fun j hj => by rw [o2 j hj, wipe_at, if_neg hj]
    refine ⟨ws, ?_⟩
    have st2 : Sit X.K pl (Dd :: P) q ρ' wi σ2 Hc' := by
      refine ⟨bs', st.isP, fun a e => ?_, er2, by rw [l1, wipeE_len, l2, wipe_length]; exact st1.ln⟩
      have n0 : 0 ∉ tg := fun z => by
        have hp : pl = true := by rw [← st.isP, e]; rfl
        rw [hp, List.contains_iff_mem.mpr z] at h0
        cases h0
      rw [o2 0 n0, wipe_at, if_neg n0]
      exact st.at0 a e
    -- the test
    have after : ∀ (b : Bool) (w5 : W) (H3 : Hp), Ext q w5 Hc' H3 → ((if b then (do let y ← evE C elt ρ'; pure (some y)) else pure none : M (Option D))).run w5 = some (o, w3) →
        (if b = true then tE X.K C pl elt σ2 H3 fun y H4 => ∃ acc, H4 Dd = some (.lst acc) ∧ acc.length < sizeLine ∧ Pv (i + 1) (upd H4 Dd (.lst (acc ++ [y]))) else Pv (i + 1) H3) := by
      intro b w5 H3 x3 f5
      have st3 := st2.ext x3
      have hD3 : H3 Dd = some (.lst acc) := by
        refine x3.keep Dd _ (fun z => hDq Dd z.symm rfl) ?_
        rw [eqP Dd (by simp)]; exact p1
      have ra3 : RpAll X.K (hide H3 (Dd :: P)) acc ds := bs'.rps x3 (p3.mono sm2)
      have p43 : ∀ a o, some a ≠ q → a ≠ Dd → H1 a = some o → H3 a = some o := fun a o n1 n2 e => x3.keep a o n1 (kp2 a o (p4 a o n1 n2 e))
      cases b with
      | false =>
        rw [if_neg Bool.false_ne_true]
        obtain ⟨rfl, rfl⟩ := pure_inv f5
        subst f3
        exact ⟨acc, ds, w5, _, hD3, by omega, ra3, p43, x3.pool, f2, p7⟩
      | true =>
        rw [if_pos rfl]
        obtain ⟨yd, w6, ey, f6⟩ := bind_inv f5
        obtain ⟨rfl, rfl⟩ := pure_inv f6
        subst f3
        refine ⟨Dd :: P, q, ρ', w5, yd, _, st3, ey, fun H4 y x4 r4 => ?_⟩
        have hD4 : H4 Dd = some (.lst acc) := x4.keep Dd _ (fun z => hDq Dd z.symm rfl) hD3
        have hlen : acc.length < sizeLine := by have := wd.len; omega
        have smD : Same (hide H4 (Dd :: P)) (hide (upd H4 Dd (.lst (acc ++ [y]))) (Dd :: P)) := fun b o e => by
          unfold hide at e ⊢
          split at e
          · cases e
          · rename_i nb
            rw [if_neg nb, upd_ne (fun z => nb (by simp [z]))]
            exact e
        refine ⟨acc, hD4, hlen, acc ++ [y], ds ++ [yd], _, _, upd_same, by rw [List.length_append]; exact Nat.succ_le_succ p2, ?_, fun a o n1 n2 e => by rw [upd_ne n2]; exact x4.keep a o n1 (p43 a o n1 n2 e), fun a e => by rw [upd_ne (hDq a e)]; exact x4.pool a e, f2, ?_⟩
        · exact ((st3.b.rps x4 ra3).append (.cons r4 .nil)).mono smD
        · rw [p7, List.append_assoc]; rfl
    cases hcn with
    | false =>
      obtain ⟨b, w5, f4, f5⟩ := bind_inv f1
      obtain ⟨rfl, rfl⟩ := pure_inv f4
      exact after true _ Hc' bs'.refl f5
    | true =>
      obtain ⟨b, w5, f4, f5⟩ := bind_inv f1
      show tT X.K C pl cond σ2 Hc' _
      exact ⟨Dd :: P, q, ρ', _, b, w5, st2, f4, fun H3 x3 => after b w5 H3 x3 f5⟩
  · obtain ⟨acc, ds, wi, zs, p1, p2, p3, p4, p5, p6, p7⟩ := p
    rw [List.drop_length] at p6
    obtain ⟨rfl, rfl⟩ := pure_inv p6
    rw [List.append_nil] at p7
    subst p7
    refine kk Hc Dd acc ⟨fun a o n e => ?_, p5⟩ ?_ p1 (by have := wd.len; omega) p3
    · have e1 := x1.keep a o n e
      exact p4 a o n (fun z => by rw [z, hD] at e1; cases e1) e1
    · cases e : H Dd with
      | none => rfl
      | some o =>
        have := x1.keep Dd o (fun z => hDq Dd z.symm rfl) e
        rw [hD] at this
        cases this
end
end RX

-- RX9
set_option Elab.async false
set_option linter.all false
set_option maxRecDepth 100000
set_option maxHeartbeats 4000000
/-! RX9: a comprehension with two clauses. -/
namespace RX
open PySem PySem.Spec PyProof.Rows L2
variable [PWd]
theorem turns_it {J : L2.It} {n : Nat} {G : Hp → Prop} {Y : Nat → Hp → V → Hp → Prop} (w : Walk J n G Y) {Body : V → Hp → (Hp → Prop) → Prop} {H1 : Hp} {Qd : Hp → Prop} (Pv : Nat → Hp → Prop) (h0 : Pv 0 H1) (hG : ∀ i H, i ≤ n → Pv i H → G H)
    (hs : ∀ i x H H', i < n → Pv i H → Y i H x H' → Body x H' (Pv (i + 1))) (hd : ∀ H, Pv n H → Qd H) :
    ∃ W : Nat → Nat → Hp → Prop, (∃ m, W 0 m H1) ∧ ∀ i m H, W i m H → (J.stop i H ∧ Qd H) ∨ (J.go i H ∧ ∃ Nx : Hp → Prop, (∀ H', Nx H' → ∃ m', m' < m ∧ W (i + 1) m' H') ∧ ∀ x H', J.yld i H x H' → Body x H' Nx) := by
  refine ⟨fun i m H => m = n - i ∧ i ≤ n ∧ Pv i H, ⟨n, by simp, Nat.zero_le _, h0⟩, ?_⟩
  rintro i m H ⟨rfl, hi, p⟩
  have q := hG i H hi p
  by_cases hlt : i < n
  · exact .inr ⟨w.goes i H hlt q, Pv (i + 1), fun H' p' => ⟨n - (i + 1), by omega, rfl, hlt, p'⟩, fun x H' y => hs i x H H' hlt p (w.yields i H x H' hlt q y)⟩
  · have e : i = n := by omega
    subst e
    exact .inl ⟨w.stops H q, hd H p⟩
theorem tYes_of {σ : L2.St} {H : Hp} {A B : Hp → Prop} (h : A H) : tYes σ H (fun b H3 => if b = true then A H3 else B H3) := h
theorem compMM_inv {f : D → M (List D)} {x : D} {xs : List D} {w w' : W} {ys : List D} (h : (compMM f (x :: xs)).run w = some (ys, w')) :
    ∃ a w1 zs, (f x).run w = some (a, w1) ∧ (compMM f xs).run w1 = some (zs, w') ∧ ys = a ++ zs := by
  obtain ⟨o, w1, h1, h⟩ := bind_inv h
  obtain ⟨zs, w2, h2, h⟩ := bind_inv h
  obtain ⟨rfl, rfl⟩ := pure_inv h
  exact ⟨o, w1, zs, h1, h2, rfl⟩
section
variable {X : Cx} {C : Ctx} {T : Tab} {pl : Bool} {k : Nat}
/-- the list so far at Dd, over what stood at H1 -/
structure Sofar (K : PySem.W.Frag) (P : List Addr) (q : Option Addr) (Dd : Addr) (H1 : Hp) (ds : List D) (w : W) (Hc : Hp) : Prop where
  ex : ∃ acc, Hc Dd = some (.lst acc) ∧ RpAll K (hide Hc (Dd :: P)) acc ds
  kp : ∀ a o, some a ≠ q → a ≠ Dd → H1 a = some o → Hc a = some o
  pool : ∀ a, q = some a → Hc a = some (.lst (w.map V.int))
theorem Sofar.bs {K : PySem.W.Frag} {P : List Addr} {q : Option Addr} {Dd : Addr} {H1 Hc : Hp} {ds : List D} {w w1 : W} (s : Sofar K P q Dd H1 ds w Hc) (b : Bs P q w1 H1) (hD : H1 Dd = none) : Bs (Dd :: P) q w Hc := by
  have hDP : Dd ∉ P := b.notin hD
  refine ⟨fun a ha => ?_, fun a e => ⟨List.mem_cons_of_mem _ (b.pool a e).1, s.pool a e⟩⟩
  rcases List.mem_cons.mp ha with rfl | ha
  · obtain ⟨acc, e, _⟩ := s.ex
    rw [e]; simp
  · by_cases hq : q = some a
    · rw [s.pool a hq]; simp
    · cases e : H1 a with
      | none => exact absurd e (b.tr a ha)
      | some o => rw [s.kp a o (fun z => hq z.symm) (fun z => hDP (z ▸ ha)) e]; simp
theorem Sofar.same {K : PySem.W.Frag} {P : List Addr} {q : Option Addr} {Dd : Addr} {H1 Hc : Hp} {ds : List D} {w w1 : W} (s : Sofar K P q Dd H1 ds w Hc) (b : Bs P q w1 H1) (hD : H1 Dd = none) : Same (hide H1 P) (hide Hc (Dd :: P)) := fun x o e => by
  unfold hide at e ⊢
  split at e
  · cases e
  · rename_i nb
    have nD : x ≠ Dd := fun z => by rw [z, hD] at e; cases e
    rw [if_neg (by simp [nD, nb])]
    exact s.kp x o (fun z => nb (b.pool x z.symm).1) nD e
theorem Sofar.grow {K : PySem.W.Frag} {P : List Addr} {q : Option Addr} {Dd : Addr} {H1 Hc Hc' : Hp} {ds : List D} {w w1 : W} (s : Sofar K P q Dd H1 ds w Hc) (b : Bs P q w1 H1) (hD : H1 Dd = none) (g : Grows Hc Hc') : Sofar K P q Dd H1 ds w Hc' := by
  have bb := s.bs b hD
  obtain ⟨sm2, eqP, kp2⟩ := hide_grow g bb.tr
  obtain ⟨acc, e1, e2⟩ := s.ex
  exact ⟨⟨acc, kp2 _ _ e1, e2.mono sm2⟩, fun a o n1 n2 e => kp2 a o (s.kp a o n1 n2 e), fun a e => kp2 a _ (s.pool a e)⟩
theorem Sofar.ext {K : PySem.W.Frag} {P : List Addr} {q : Option Addr} {Dd : Addr} {H1 Hc Hc' : Hp} {ds : List D} {w w1 w2 : W} (s : Sofar K P q Dd H1 ds w Hc) (b : Bs P q w1 H1) (hD : H1 Dd = none) (x : Ext q w2 Hc Hc') : Sofar K P q Dd H1 ds w2 Hc' := by
  have bb := s.bs b hD
  have hDq : some Dd ≠ q := fun z => (b.notin hD) (b.pool Dd z.symm).1
  obtain ⟨acc, e1, e2⟩ := s.ex
  exact ⟨⟨acc, x.keep _ _ hDq e1, bb.rps x e2⟩, fun a o n1 n2 e => x.keep a o n1 (s.kp a o n1 n2 e), x.pool⟩
theorem Sofar.push {K : PySem.W.Frag} {P : List Addr} {q : Option Addr} {Dd : Addr} {H1 Hc : Hp} {ds : List D} {w w1 : W} {acc : List V} {y : V} {d : D} (s : Sofar K P q Dd H1 ds w Hc) (b : Bs P q w1 H1) (hD : H1 Dd = none) (ha : Hc Dd = some (.lst acc)) (hr : RpAll K (hide Hc (Dd :: P)) acc ds) (r : Rp K (hide Hc (Dd :: P)) y d) :
    Sofar K P q Dd H1 (ds ++ [d]) w (upd Hc Dd (.lst (acc ++ [y]))) := by
  have hDq : ∀ a, q = some a → a ≠ Dd := fun a e z => (b.notin hD) (z ▸ (b.pool a e).1)
  have smD : Same (hide Hc (Dd :: P)) (hide (upd Hc Dd (.lst (acc ++ [y]))) (Dd :: P)) := fun x o e => by
    unfold hide at e ⊢
    split at e
    · cases e
    · rename_i nb
      rw [if_neg nb, upd_ne (fun z => nb (by simp [z]))]
      exact e
  exact ⟨⟨_, upd_same, (hr.append (.cons r .nil)).mono smD⟩, fun a o n1 n2 e => by rw [upd_ne n2]; exact s.kp a o n1 n2 e, fun a e => by rw [upd_ne (hDq a e)]; exact s.pool a e⟩
theorem se_comp2 {sc scope : Scope} {tg tg2 : List Nat} {it it2 : RX.It} {elt : E} {pelt ptg pit ptg2 pit2 : Expr} {pos : Pos} (xo : XOk X C T k) (sr : ScRel X sc) (h0 : (!pl || !(tg ++ tg2).contains 0) = true) (hb : blkB X.N sc scope (tg ++ tg2) = true)
    (ht : tgB X.N scope tg ptg = true) (ht2 : tgB X.N scope tg2 ptg2 = true) (hns : notSet pit = true) (hns2 : notSet pit2 = true) (hi : PI X ptg pit (tI X.K C pl it))
    (hi2 : ∀ (s : Shared) (H : Hp) (Cc : Addr) (cl : List (Str × Addr)) (fp : List Addr), PI (X.blk s H scope (compEnvC scope cl Cc X.env) fp) ptg2 pit2 (tI X.K C pl it2))
    (he : ∀ (s : Shared) (H : Hp) (Cc : Addr) (cl : List (Str × Addr)) (fp : List Addr), PE (X.blk s H scope (compEnvC scope cl Cc X.env) fp) pelt (tE X.K C pl elt)) :
    BlkOk X.N X.env.scope scope (ownOf X.N (tg ++ tg2)) ∧ (∀ i ∈ tg2, i ∈ (ownOf X.N (tg ++ tg2)).map (·.2)) ∧ ∀ σ H Q, tF X.K C pl (.comp2 tg it tg2 it2 elt) σ H Q →
      tLc2 (tI X.K C pl it) (gT X.K tg) tYes (tI X.K C pl it2) (gT X.K tg2) tYes (tE X.K C pl elt) ((ownOf X.N (tg ++ tg2)).map (·.2)) tg2 σ H Q := by
  obtain ⟨ok, eo⟩ := blk_ok sr hb
  refine ⟨ok, fun i hi => by rw [eo]; exact List.mem_append_right _ hi, fun σ H Q h => ?_⟩
  rw [eo]
  obtain ⟨P, q, ρ, w, d, w', st, ev, kk⟩ := h
  obtain ⟨xs, w1, exs, ev⟩ := bind_inv ev
  obtain ⟨ys, w2, eys, ev⟩ := bind_inv ev
  split at ev
  rotate_left
  · exact none_inv ev
  rename_i hsz
  obtain ⟨e0, rfl⟩ := pure_inv ev
  have e0 := PyData.list.inj e0
  subst e0
  refine ⟨P, q, ρ, w, xs, w1, st, exs, fun J H1 as G Y x1 wd => fun Dd hD => ?_⟩
  have st1 := st.ext x1
  have b1 := st1.b
  have hDP : Dd ∉ P := b1.notin hD
  have n0 : q.isSome = true → 0 ∉ tg ++ tg2 := fun hq z => by
    have hp : pl = true := by rw [← st.isP]; exact hq
    rw [hp, List.contains_iff_mem.mpr z] at h0
    cases h0
  generalize hf : (fun x => do
      let ρ' ← lift (bindT tg x (wipeE (tg ++ tg2) ρ))
      let zs ← evIt C it2 ρ'
      compM (fun z => do
        let ρ'' ← lift (bindT tg2 z (wipeE tg2 ρ'))
        let y ← evE C elt ρ''
        pure (some y)) zs : D → M (List D)) = f at eys
  let Pv : Nat → Hp → Prop := fun i Hc => ∃ ds wi zs, Sofar X.K P q Dd H1 ds wi Hc ∧ (compMM f (xs.drop i)).run wi = some (zs, w2) ∧ ys = ds ++ zs
  have hDn : ∀ a, q = some a → a ≠ Dd := fun a e z => hDP (z ▸ (b1.pool a e).1)
  have start : Sofar X.K P q Dd H1 [] w1 (upd H1 Dd (.lst [])) := ⟨⟨[], upd_same, .nil⟩, fun a o n1 n2 e => by rw [upd_ne n2]; exact e, fun a e => by rw [upd_ne (hDn a e)]; exact (b1.pool a e).2⟩
  have keepG : ∀ ds wi Hc, Sofar X.K P q Dd H1 ds wi Hc → G Hc := fun ds wi Hc s => wd.stay H1 Hc wd.g0 fun a ha o e => s.kp a o (fun z => (wd.out a ha) (b1.pool a z.symm).1) (fun z => by rw [z, hD] at e; cases e) e
  refine turns_it wd.wk (Body := fun x H' Nx => gT X.K tg x (wipe σ (tg ++ tg2)) H' fun σ2 H2 => wipe σ2 (tg ++ tg2) = wipe σ (tg ++ tg2) ∧ tYes σ2 H2 fun b H3 =>
    if b = true then tI X.K C pl it2 σ2 H3 fun J1 H4 => ∃ W1 : Nat → Nat → Hp → Prop, (∃ m, W1 0 m H4) ∧ ∀ j k H, W1 j k H →
      (J1.stop j H ∧ Nx H) ∨ (J1.go j H ∧ ∃ Nx1 : Hp → Prop, (∀ H', Nx1 H' → ∃ k', k' < k ∧ W1 (j + 1) k' H') ∧ ∀ x H', J1.yld j H x H' → gT X.K tg2 x (wipe σ2 tg2) H' fun σ3 H5 => wipe σ3 tg2 = wipe σ2 tg2 ∧ tYes σ3 H5 fun b H6 =>
        if b = true then tE X.K C pl elt σ3 H6 fun y H7 => ∃ acc, H7 Dd = some (.lst acc) ∧ acc.length < sizeLine ∧ Nx1 (upd H7 Dd (.lst (acc ++ [y]))) else Nx1 H6)
    else Nx H3) Pv ⟨[], w1, ys, start, by rw [List.drop_zero]; exact eys, rfl⟩ (fun i Hc _ ⟨ds, wi, zs, s, _⟩ => keepG ds wi Hc s) (fun i x Hc Hc' hlt p hy => ?_) fun Hc p => ?_
  · obtain ⟨ds, wi, zs, s, p6, p7⟩ := p
    obtain ⟨gr, rx⟩ := wd.item i Hc x Hc' xs[i] (Dd :: P) hlt (keepG _ _ _ s) (s.same b1 hD) (s.bs b1 hD).tr hy (List.getElem?_eq_getElem hlt)
    have s' := s.grow b1 hD gr
    rw [List.drop_eq_getElem_cons hlt] at p6
    obtain ⟨a, w3, zs', f1, f2, f3⟩ := compMM_inv p6
    subst f3
    rw [← hf] at f1
    obtain ⟨ρ', w4, e1l, f1⟩ := bind_inv f1
    obtain ⟨e1, rfl⟩ := lift_inv e1l
    obtain ⟨us, w5, eus, f1⟩ := bind_inv f1
    have ers : ER X.K (Dd :: P) ρ σ Hc' := fun j dj ej => by
      obtain ⟨v, g1, g2⟩ := st1.er j dj ej
      exact ⟨v, g1, g2.mono (s'.same b1 hD)⟩
    refine bind_g rx e1 (ers.wiped (tg ++ tg2)) (by rw [wipeE_len, wipe_length]; exact st1.ln) fun σ2 er2 l1 l2 o2 => ?_
    have ws : wipe σ2 (tg ++ tg2) = wipe σ (tg ++ tg2) := wipe_eq (by rw [l2, wipe_length]) fun j hj => by rw [o2 j (fun z => hj (List.mem_append_left _ z)), wipe_at, if_neg hj]
    have st2 : Sit X.K pl (Dd :: P) q ρ' wi σ2 Hc' := by
      refine ⟨s'.bs b1 hD, st.isP, fun a e => ?_, er2, by rw [l1, wipeE_len, l2, wipe_length]; exact st1.ln⟩
      have nz := n0 (by rw [e]; rfl)
      rw [o2 0 (fun z => nz (List.mem_append_left _ z)), wipe_at, if_neg nz]
      exact st.at0 a e
    refine ⟨ws, ?_⟩
    refine tYes_of ?_
    refine ⟨Dd :: P, q, ρ', wi, us, w5, st2, eus, fun J1 H4 as1 G1 Y1 x4 wd1 => ?_⟩
    have st4 := st2.ext x4
    have s4 := s'.ext b1 hD x4
    generalize hg : (fun z => do
        let ρ'' ← lift (bindT tg2 z (wipeE tg2 ρ'))
        let y ← evE C elt ρ''
        pure (some y) : D → M (Option D)) = g at f1
    -- the inner turns
    let Pw : Nat → Hp → Prop := fun j Hd => ∃ done wj rest, Sofar X.K P q Dd H1 (ds ++ done) wj Hd ∧ (∀ a o, some a ≠ q → a ≠ Dd → H4 a = some o → Hd a = some o) ∧ (compM g (us.drop j)).run wj = some (rest, w3) ∧ a = done ++ rest
    have hDq : some Dd ≠ q := fun z => hDP (b1.pool Dd z.symm).1
    have outD : ∀ a ∈ as1, a ≠ Dd := fun a ha z => wd1.out a ha (by simp [z])
    have outq : ∀ a ∈ as1, some a ≠ q := fun a ha z => wd1.out a ha (List.mem_cons_of_mem _ (b1.pool a z.symm).1)
    have keep1 : ∀ Hd, (∀ a o, some a ≠ q → a ≠ Dd → H4 a = some o → Hd a = some o) → G1 Hd := fun Hd hk => wd1.stay H4 Hd wd1.g0 fun a ha o e => hk a o (outq a ha) (outD a ha) e
    refine turns_it wd1.wk (Body := fun x H' Nx1 => gT X.K tg2 x (wipe σ2 tg2) H' fun σ3 H5 => wipe σ3 tg2 = wipe σ2 tg2 ∧ tYes σ3 H5 fun b H6 =>
        if b = true then tE X.K C pl elt σ3 H6 fun y H7 => ∃ acc, H7 Dd = some (.lst acc) ∧ acc.length < sizeLine ∧ Nx1 (upd H7 Dd (.lst (acc ++ [y]))) else Nx1 H6) Pw
      ⟨[], w5, a, by rw [List.append_nil]; exact s4, fun a o _ _ e => e, by rw [List.drop_zero]; exact f1, rfl⟩ (fun j Hd _ ⟨_, _, _, _, hk, _⟩ => keep1 Hd hk) (fun j x Hd Hd' hlt1 p hy1 => ?_) fun Hd p => ?_
    · obtain ⟨done, wj, rest, sd, hk, p8, p9⟩ := p
      have smd : Same (hide H4 (Dd :: P)) (hide Hd (Dd :: P)) := fun b o e => by
        unfold hide at e ⊢
        split at e
        · cases e
        · rename_i nb
          rw [if_neg nb]
          exact hk b o (fun z => nb (List.mem_cons_of_mem _ (b1.pool b z.symm).1)) (fun z => nb (by simp [z])) e
      have bd := sd.bs b1 hD
      obtain ⟨gr1, rx1⟩ := wd1.item j Hd x Hd' us[j] (Dd :: P) hlt1 (keep1 Hd hk) smd bd.tr hy1 (List.getElem?_eq_getElem hlt1)
      have sd' := sd.grow b1 hD gr1
      obtain ⟨sm3, eqP3, kp3⟩ := hide_grow gr1 bd.tr
      rw [List.drop_eq_getElem_cons hlt1] at p8
      obtain ⟨o, w6, rest', g1, g2, g3⟩ := comp_inv p8
      rw [← hg] at g1
      obtain ⟨ρ3, w7, e3l, g1⟩ := bind_inv g1
      obtain ⟨e3, rfl⟩ := lift_inv e3l
      obtain ⟨yd, w8, ey, g1⟩ := bind_inv g1
      obtain ⟨rfl, rfl⟩ := pure_inv g1
      subst g3
      have er4 : ER X.K (Dd :: P) ρ' σ2 Hd' := fun j dj ej => by
        obtain ⟨v, h1, h2⟩ := st4.er j dj ej
        exact ⟨v, h1, (h2.mono smd).mono sm3⟩
      refine bind_g rx1 e3 (er4.wiped tg2) (by rw [wipeE_len, wipe_length]; exact st4.ln) fun σ3 er5 l3 l4 o3 => ?_
      have ws3 : wipe σ3 tg2 = wipe σ2 tg2 := wipe_eq (by rw [l4, wipe_length]) fun j hj => by rw [o3 j hj, wipe_at, if_neg hj]
      refine ⟨ws3, ?_⟩
      refine tYes_of ?_
      have st5 : Sit X.K pl (Dd :: P) q ρ3 wj σ3 Hd' := by
        refine ⟨sd'.bs b1 hD, st.isP, fun a e => ?_, er5, by rw [l3, wipeE_len, l4, wipe_length]; exact st4.ln⟩
        have nz := n0 (by rw [e]; rfl)
        have nz2 : 0 ∉ tg2 := fun z => nz (List.mem_append_right _ z)
        rw [o3 0 nz2, wipe_at, if_neg nz2]
        exact st2.at0 a e
      refine ⟨Dd :: P, q, ρ3, wj, yd, _, st5, ey, fun H7 y x7 r7 => ?_⟩
      have s7 := sd'.ext b1 hD x7
      obtain ⟨acc, ha, hr⟩ := s7.ex
      refine ⟨acc, ha, ?_, done ++ [yd], _, rest', ?_, fun a o n1 n2 e => ?_, g2, ?_⟩
      · have l := hr.length
        rw [p7, p9] at hsz
        simp only [List.length_append, List.length_cons] at hsz l
        omega
      · rw [← List.append_assoc]
        exact s7.push b1 hD ha hr r7
      · rw [upd_ne n2]
        exact x7.keep a o n1 (kp3 a o (hk a o n1 n2 e))
      · rw [p9, List.append_assoc]; rfl
    · obtain ⟨done, wj, rest, sd, hk, p8, p9⟩ := p
      rw [List.drop_length] at p8
      obtain ⟨rfl, rfl⟩ := pure_inv p8
      rw [List.append_nil] at p9
      subst p9
      exact ⟨ds ++ a, wj, zs', sd, f2, by rw [p7, List.append_assoc]⟩
  · obtain ⟨ds, wi, zs, s, p6, p7⟩ := p
    rw [List.drop_length] at p6
    obtain ⟨rfl, rfl⟩ := pure_inv p6
    rw [List.append_nil] at p7
    subst p7
    obtain ⟨acc, e1, e2⟩ := s.ex
    refine kk Hc Dd acc ⟨fun a o n e => ?_, s.pool⟩ ?_ e1 (by rw [e2.length]; exact hsz) e2
    · have e3 := x1.keep a o n e
      exact s.kp a o n (fun z => by rw [z, hD] at e3; cases e3) e3
    · cases e : H Dd with
      | none => rfl
      | some o =>
        have := x1.keep Dd o (fun z => hDn Dd z.symm rfl) e
        rw [hD] at this
        cases this
end
end RX

-- RXSet
set_option Elab.async false
set_option linter.all false
set_option maxRecDepth 100000
set_option maxHeartbeats 4000000
/-! RXSet: sorted(set(xs)) of a list of ints; set_of_list is turned from the layer's rule for tuples. -/
namespace RX
open PySem PySem.Spec PyProof.Rows L2
variable [PWd]
section
variable {P : Program} {w : World} {A : Around} {E : Value → Shared → Prop} {s : Shared}
set_option maxRecDepth 100000 in
set_option maxHeartbeats 3200000 in
theorem set_of_list {l : Addr} {items : Array Value} (ns : List Int) {Q : Value → Shared → Prop} (hh : A.handled = none) (hl : s.heap.IsList l items) (hit : IntsAre items.toList ns) (hb : ns.length + 1 < scanBound)
    (h : ∀ (h' : Heap) (tk c : Nat), SetR w h' s.heap.objs.size (fun j => decide (j ∈ ns)) c → c ≤ ns.length → (∀ b o, s.heap.get? b = some o → h'.get? b = some o) → Q (.ref s.heap.objs.size) { s with heap := h', toks := tk }) :
    wpAny (model P w) A (call (.type "set") [.ref l]) Q E s := by
  have hisz : items.size = ns.length := by
    have q := IntsAre.length hit
    rw [Array.length_toList] at q
    exact q
  obtain ⟨c, tl, hmro⟩ := F.called_set.mro
  have hmade := F.called_set.made
  have hsub := F.called_set.sub
  refine wpAny_call (codeAny_of_tree ?_)
  show wpAny _ _ (callAny (.type "set") _) _ _ _
  refine wpAny_pure ⟨Code.quiet_builtin _ (by decide +kernel), codeAny_builtin F.entry_type_call ?_⟩
  rw [Around.under_plain (weight_type_call_type "set" [.ref l] []) rfl]
  have h1 := F.called_set.notType
  have h2 := F.called_set.canCreate
  have hct := F.typeCall_set_1 (.ref l)
  repeat (any_goals (first | assumption | wp_step))

  refine codeAny_mono (code_set_led1 (.ref l) (E := E) (Q₁ := fun obj s₁ => obj = .ref s.heap.objs.size ∧ s₁ = { s with heap := s.heap.push { cls := .type "set", dict := none, data := .set #[] 0 (.fresh 0 0 (!w.params.followText "set-order")) } }) ⟨rfl, rfl⟩) fun r s₁ hr => ?_
  cases r with
  | error e => exact hr
  | ok fl =>
    cases fl with
    | ret obj =>
      obtain ⟨rfl, rfl⟩ := hr
      have hS : (s.heap.push { cls := .type "set", dict := none, data := .set #[] 0 (.fresh 0 0 (!w.params.followText "set-order")) }).get? s.heap.objs.size = some { cls := .type "set", dict := none, data := .set #[] 0 (.fresh 0 0 (!w.params.followText "set-order")) } := Heap.get?_push_size _ rfl
      have hT : Shared.TypeIs { s with heap := s.heap.push { cls := .type "set", dict := none, data := .set #[] 0 (.fresh 0 0 (!w.params.followText "set-order")) } } (.ref s.heap.objs.size) "set" := ⟨_, hS, rfl⟩
      have hli := F.called_set.init.lookup
      have hbi := F.called_set.init.bind (.ref s.heap.objs.size)
      repeat (any_goals (first | assumption | wp_step))

      refine codeAny_mono (codeAny_call_builtin (R := wants (fun r s₂ => r = .none ∧ ∃ h' tk c, s₂ = { s with heap := h', toks := tk } ∧ SetR w h' s.heap.objs.size (fun j => decide (j ∈ ns)) c ∧ c ≤ ns.length ∧
          (∀ b o, s.heap.get? b = some o → h'.get? b = some o)) E) F.called_set.init.plain F.entry_set_init (check_set_init_1 hT ?_)) fun r₂ s₂ hr₂ => ?_
      · obtain ⟨ol, hol, hcl, nl, hdl⟩ := hl
        obtain ⟨ocls, odict, odata, oslots⟩ := ol
        simp only at hcl hdl
        subst hcl; subst hdl
        have hol' : (s.heap.push { cls := .type "set", dict := none, data := .set #[] 0 (.fresh 0 0 (!w.params.followText "set-order")) }).get? l = some { cls := .type "list", dict := odict, data := .seq items nl, slots := oslots } := Heap.get?_push_of_some _ hol
        have hsls := F.sub_list_set
        have hslf := F.sub_list_frozenset
        have hne : (Value.type "list" == Value.type "dict") = false := by decide
        have hl1 : (s.heap.push { cls := .type "set", dict := none, data := .set #[] 0 (.fresh 0 0 (!w.params.followText "set-order")) }).IsList l items := ⟨_, hol', rfl, nl, rfl⟩
        unfold Builtin.«set.__init__» noKeywords Builtin.Frozenset.updateFrom
        generalize hPI : pyIter = PI
        wp_walk
        subst hPI

        refine wpAny_pyIter_list hl1 ?_
        refine wpAny_bind (wpAny_runValue ?_)
        have hlS : l < s.heap.objs.size := Heap.lt_size hol
        have hh3 : A.in1.in1.in1.handled = none := by simp [hh]
        have hz1 : (s.heap.push { cls := .type "set", dict := none, data := .set #[] 0 (.fresh 0 0 (!w.params.followText "set-order")) }).objs.size = s.heap.objs.size + 1 := Heap.size_push ..
        have hneI : l ≠ (s.heap.push { cls := .type "set", dict := none, data := .set #[] 0 (.fresh 0 0 (!w.params.followText "set-order")) }).objs.size := by
          rw [Heap.size_push]; exact Nat.ne_of_lt (Nat.lt_succ_of_lt hlS)
        have hSf : s.heap.objs.size ∉ [(s.heap.push { cls := .type "set", dict := none, data := .set #[] 0 (.fresh 0 0 (!w.params.followText "set-order")) }).objs.size, l] := by
          rw [Heap.size_push]; simp only [List.mem_cons, List.mem_singleton, List.not_mem_nil, or_false, not_or]
          exact ⟨Nat.ne_of_lt (Nat.lt_succ_self _), Nat.ne_of_gt hlS⟩
        have hval : ∀ (i : Nat) (v : Value), items[i]? = some v → ∃ k t, ns[i]? = some k ∧ v = .int k t := fun i v hv => by
          have hi : i < ns.length := by rw [← hisz]; exact (Array.getElem?_eq_some_iff.mp hv).1
          obtain ⟨t, e⟩ := PyProof.Rows.IntsAre.int_at hit i v (by rw [Array.getElem?_toList]; exact hv)
          refine ⟨ns[i], t, List.getElem?_eq_getElem hi, ?_⟩
          rw [e, List.getD_eq_getElem?_getD, List.getElem?_eq_getElem hi] <;> rfl
        refine set_update_ints ((Walks.list hh3 _ l hneI items).toS) s.heap.objs.size
          hSf ns hisz hb hval (items.size - 0) 0 _ (by omega) (Nat.zero_le _)
          ⟨⟨_, Heap.get?_push_size _ rfl, rfl, rfl⟩, (hl1.push _)⟩ ?hS0 ?hR
        case hS0 =>
          have hget : ((s.heap.push { cls := .type "set", dict := none, data := .set #[] 0 (.fresh 0 0 (!w.params.followText "set-order")) }).push { cls := .type "list_iterator", data := .fields #[.ref l, .int 0 0] }).get? s.heap.objs.size
              = some { cls := .type "set", dict := none, data := .set #[] 0 (.fresh 0 0 (!w.params.followText "set-order")) } := Heap.get?_push_of_some _ hS
          exact ⟨0, Nat.le_refl 0, setR_new_at hget⟩
        case hR =>
          intro s' c' hm hc' hS'
          obtain ⟨h', g2, d', tk', os'⟩ := s'
          have eg : g2 = s.gens := hm.gens
          have ed : d' = s.drawn := hm.drawn
          have eo : os' = s.os := hm.os
          subst eg; subst ed; subst eo
          show wpAny _ _ _ _ _ _
          refine wpAny_pure ?_
          show wpAny _ _ (ret Value.none) _ _ _
          rw [hisz] at hc'
          refine wpAny_pure ⟨rfl, h', tk', c', rfl, hS', hc', fun b o e => ?_⟩
          have hb0 : b < s.heap.objs.size := Heap.lt_size e
          have hb1 : b ≠ s.heap.objs.size := Nat.ne_of_lt hb0
          have hb2 : b ≠ (s.heap.push { cls := .type "set", dict := none, data := .set #[] 0 (.fresh 0 0 (!w.params.followText "set-order")) }).objs.size := by
            rw [Heap.size_push]; exact Nat.ne_of_lt (Nat.lt_succ_of_lt hb0)
          exact hm.heap b o (by simp only [List.mem_cons, List.mem_singleton, List.not_mem_nil, or_false, not_or]; exact ⟨hb1, hb2⟩) (Heap.get?_push_of_some _ (Heap.get?_push_of_some _ e))

      · cases r₂ with
        | error e => exact hr₂
        | ok fl₂ =>
          cases fl₂ with
          | ret r =>
            obtain ⟨rfl, h', tk, c', rfl, hS', hc', hk'⟩ := hr₂
            repeat (any_goals (first | assumption | wp_step))
            exact h _ _ _ hS' hc' hk'
          | _ => exact hr₂.elim
    | _ => exact hr.elim

end
theorem insU_mem (a k : Int) : ∀ l, k ∈ insU a l ↔ k = a ∨ k ∈ l
  | [] => by simp [insU]
  | b :: r => by
    unfold insU
    split
    · simp
    · split
      · rename_i h
        subst h
        simp
      · rw [List.mem_cons, insU_mem a k r, List.mem_cons]
        constructor
        · rintro (h | h | h) <;> simp [h]
        · rintro (h | h | h) <;> simp [h]
theorem setI_mem (k : Int) : ∀ l, k ∈ setI l ↔ k ∈ l
  | [] => by simp [setI]
  | a :: r => by
    show k ∈ insU a (setI r) ↔ _
    rw [insU_mem, setI_mem k r, List.mem_cons]
theorem insU_lt (a : Int) : ∀ l : List Int, l.Pairwise (· < ·) → (insU a l).Pairwise (· < ·)
  | [], _ => .cons (fun _ h => nomatch h) .nil
  | b :: r, h => by
    unfold insU
    split
    · rename_i hab
      refine .cons (fun c hc => ?_) h
      rcases List.mem_cons.mp hc with rfl | hc
      · exact hab
      · exact Int.lt_trans hab (List.rel_of_pairwise_cons h hc)
    · split
      · exact h
      · rename_i h1 h2
        refine .cons (fun c hc => ?_) (insU_lt a r (List.Pairwise.of_cons h))
        rcases (insU_mem a c r).mp hc with rfl | hc
        · omega
        · exact List.rel_of_pairwise_cons h hc
theorem setI_lt : ∀ l, (setI l).Pairwise (· < ·)
  | [] => .nil
  | a :: r => insU_lt a _ (setI_lt r)
theorem nodup_lt {l : List Int} (h : l.Pairwise (· < ·)) : l.Nodup := h.imp fun hab e => by subst e; exact Int.lt_irrefl _ hab
theorem lt_of_mem {l l' : List Int} (h : l.Pairwise (· < ·)) (h' : l'.Pairwise (· < ·)) (hm : ∀ k, k ∈ l ↔ k ∈ l') : l = l' :=
  List.Perm.eq_of_pairwise (fun _ _ _ _ h1 h2 => absurd h1 (by omega)) h h' ((List.perm_ext_iff_of_nodup (nodup_lt h) (nodup_lt h')).mpr hm)
section
variable {X : Cx} {C : Ctx} {T : Tab} {pl : Bool} {k : Nat}
/-- set(xs) of a list of ints, as a set object -/
def rSetL (K : PySem.W.Frag) (w : World) : List V → Hp → VK → Prop := fun xs H Q => ∃ (a : Addr) (ns : List Int), xs = [.ref a] ∧ SqL K H a (ns.map V.int) ∧ ns.length < 64 ∧
  ∀ p c, H p = none → c ≤ ns.length → Q (.ref p) (upd H p (SetO w p (fun j => decide (j ∈ ns)) c))
theorem cr_setL (hc : X.calm = true) : CallR X (.type "set") (rSetL X.K X.w) := by
  intro pins s σ H xs us Q I r h
  obtain ⟨a, ns, rfl, hq, hl, q⟩ := h
  obtain ⟨its, rv, pt, hz⟩ := I.list hq
  rw [Vals.ref1 r]
  have hi : IntsAre its.toArray.toList ns := ints_of_vals rv
  refine set_of_list ns (I.ok.hd hc) pt.isList hi (by unfold scanBound; omega) fun h' tk c R1 hcn kp => ?_
  have hf : H s.heap.objs.size = none := I.hok.fresh (Nat.le_refl _)
  exact ⟨.ref _, upd H s.heap.objs.size (SetO X.w s.heap.objs.size (fun j => decide (j ∈ ns)) c), I.laid (t' := tk) kp (Nat.le_refl _) (setO_new R1), rfl, q _ c hf hcn⟩
theorem se_setSorted {a : E} {pa : Expr} {p p1 p2 p3 : Pos} (xo : XOk X C T k) (hg : Gl X "sorted") (hm : X.mg "sorted" = none) (hg2 : Gl X "set") (hm2 : X.mg "set" = none) (hu : unstar pa = true) (ha : PE X pa (tE X.K C pl a)) :
    PE X (.Call (.Name "sorted" p) [.Call (.Name "set" p1) [pa] [] p2] [] p3) (tE X.K C pl (.b1 .setSorted a)) := by
  have inner : PE X (.Call (.Name "set" p1) [pa] [] p2) _ := pe_callTy (cr_setL xo.calm) hg2 hm2 PyProof.Rows.boot_set (pa_cons ha pa_nil (star_cons hu)) (by decide) (by decide) (star_cons hu) (by rfl)
  refine PE.wk (pe_callB (cr_sortedSet xo.calm) hg hm PyProof.Rows.boot_sorted (pa_cons inner pa_nil rfl) (by decide) (by decide) rfl (by rfl)) fun σ H Q h => ?_
  obtain ⟨P, q, ρ, w, d, w', st, ev, kk⟩ := h
  obtain ⟨da, w1, ea, ev⟩ := bind_inv ev
  obtain ⟨e, rfl⟩ := lift_inv ev
  refine ⟨P, q, ρ, w, da, _, st, ea, fun H1 x x1 r1 => ?_⟩
  have b1 := st.b.ext x1
  cases r1 with
  | @lst a xs ds h1 h2 h3 =>
    simp only [bi1] at e
    split at e
    · rename_i hl
      simp only [Option.map_eq_some_iff] at e
      obtain ⟨ns, e, rfl⟩ := e
      obtain ⟨rfl, rfl⟩ := h3.intsOf e
      have hl' : ns.length < 64 := by simpa using hl
      refine ⟨a, ns, rfl, (hide_same H1 P).seq h1, hl', fun s c n hc => ?_⟩
      have xs := b1.new (o := SetO X.w s (fun j => decide (j ∈ ns)) c) n
      refine ⟨s, _, c, rfl, upd_same, by omega, fun ms p hp hmm hln n2 => ?_⟩
      have em : ms = setI ns := lt_of_mem hp (setI_lt ns) fun k => by rw [hmm, decide_eq_true_eq, setI_mem]
      have b2 := b1.ext xs
      have hlen : (ms.map V.int).length ≤ sizeLine := by rw [List.length_map, hln, sizeLine_eq]; omega
      subst em
      exact kk _ _ ((x1.trans xs).trans (b2.new n2)) (.lst (.inl (.inl (b2.at_new n2))) hlen (RpAll.ofInts _ _ _))
    · cases e
  | _ => cases e
end
end RX

-- RXD
set_option Elab.async false
set_option linter.all false
set_option maxRecDepth 100000
/-! RXD: dicts whose keys are tuples of ints and texts, the keys tracked or constants. -/
namespace RX
open PySem PySem.Spec PyProof.Rows L2
variable [PWd]
def dcO (P : Program) (w : World) (a : Addr) (xs : Ents) : HO := .ext fun h => xs.length ≤ sizeLine ∧ (a == sysModules) = false ∧
  ∃ o es ep, h.get? a = some o ∧ o.ExactDict ∧ o.data = .dict es ep ∧ es.toList = xs.map (entryOfKey (tupleKind (mixKind P w))) ∧ (xs.map (·.1)).Nodup
section
variable {X : Cx} {pins : List (Addr × Obj)} {σ : L2.St} {H : Hp} {s : Shared} {a b : Addr} {xs : Ents} {k : List Key} {u r : Value} {y d : V} {A : Around} {E : Value → Shared → Prop}
theorem dcO_of (I : Inv X pins σ H s) (e : H a = some (dcO X.prog X.w a xs)) (hk : ∀ x ∈ xs, SqT X.K H x.2.1 (x.1.map kV)) :
    xs.length ≤ sizeLine ∧ (a == sysModules) = false ∧ s.heap.DictOfH (tupleKind (mixKind X.prog X.w)) a xs := by
  obtain ⟨⟨z, hd, o, es, ep, h1, h2, h3, h4, h5⟩, _, _⟩ := (show ObjOk X.prog X.w H s.heap a (dcO X.prog X.w a xs) from I.hok a _ e)
  exact ⟨z, hd, o, es, ep, h1, h2, h3, h4, fun x hx => key_ofS I (hk x hx), h5⟩
theorem dc_ok {P : Program} {w : World} {H' : Hp} {h' : Heap} (z : xs.length ≤ sizeLine) (hd : (a == sysModules) = false) {o : Obj} {es : Array DictEntry} {ep : Nat} (h1 : h'.get? a = some o) (h2 : o.ExactDict) (h3 : o.data = .dict es ep) (h4 : es.toList = xs.map (entryOfKey (tupleKind (mixKind P w)))) (h5 : (xs.map (·.1)).Nodup) :
    ObjOk P w H' h' a (dcO P w a xs) :=
  ⟨⟨z, hd, o, es, ep, h1, h2, h3, h4, h5⟩, ⟨o, h1⟩, fun h1 h2 ⟨z, hd, o, es, ep, g1, g⟩ k => ⟨z, hd, o, es, ep, k o g1, g⟩⟩
theorem dc_mut {P : Program} {w : World} : Mut (some (dcO P w a xs)) := True.intro
/-- d[y] -/
theorem dc_getItem {p : Addr × Value} {Q : Value → Shared → Prop} (hu : A.units + 1 < cLine) (I : Inv X pins σ H s) (e : H a = some (dcO X.prog X.w a xs)) (hk : ∀ x ∈ xs, SqT X.K H x.2.1 (x.1.map kV)) (eb : SqT X.K H b (k.map kV)) (hp : atKey xs k = some p) (h : ∀ s', Inv X pins σ H s' → Q p.2 s') :
    wpAny (model X.prog X.w) A (getItem (.ref a) (.ref b)) Q E s := by
  obtain ⟨z, hd, dd⟩ := dcO_of I e hk
  exact wpAny_getItem_heap (tupleKind_room_in1 hu) (key_ofS I eb) dd hp (h _ (I.tok _))
/-- d.get(y, x) -/
theorem dc_get2 {Q : Value → Shared → Prop} (hu : A.units + 1 < cLine) (I : Inv X pins σ H s) (e : H a = some (dcO X.prog X.w a xs)) (hk : ∀ x ∈ xs, SqT X.K H x.2.1 (x.1.map kV)) (eb : SqT X.K H b (k.map kV)) (h : ∀ s', Inv X pins σ H s' → Q (((atKey xs k).map (·.2)).getD r) s') :
    wpAny (model X.prog X.w) A (call (.builtin "dict.get") [.ref a, .ref b, r]) Q E s := by
  obtain ⟨z, hd, dd⟩ := dcO_of I e hk
  exact call_meetsIn PySem.F.slot_dict_get dd.typeIs PySem.F.entry_dict_get (PySem.F.args_dict_get_3 _ _ _) (meetsH_dict_get_default (tupleKind (mixKind X.prog X.w)) a b hd r) ⟨tupleKind_room_in1 hu, k, xs, key_ofS I eb, dd, h _ (I.tok _)⟩
/-- d[y] = v -/
theorem dc_setItem {Q : Unit → Shared → Prop} (hu : A.units + 1 < cLine) (I : Inv X pins σ H s) (e : H a = some (dcO X.prog X.w a xs)) (hk : ∀ x ∈ xs, SqT X.K H x.2.1 (x.1.map kV)) (eb : SqT X.K H b (k.map kV)) (hl : xs.length < sizeLine) (h : ∀ s', Inv X pins σ (upd H a (dcO X.prog X.w a (storedH xs k b r))) s' → Q () s') :
    wpAny (model X.prog X.w) A (setItem (.ref a) (.ref b) r) Q E s := by
  obtain ⟨z, hd, dd⟩ := dcO_of I e hk
  have hl2 : (storedH xs k b r).length ≤ sizeLine := by
    unfold storedH
    split
    · rw [List.length_map]
      exact z
    · rw [List.length_append]
      exact hl
  refine wpAny_setItem_heap (hsz := z) (tupleKind_room_in1 hu) (key_ofS I eb) dd fun h' dd' hs => h _ ?_
  obtain ⟨q, es, ep, hq, h2, h3, h4, _, h5⟩ := dd'
  exact d_write I (by rw [e]; exact True.intro) hs ⟨q, hq⟩ (dc_ok hl2 hd hq h2 h3 h4 h5)
end
section
variable {X : Cx} {o i e f value : Expr} {pos pos' apos cpos : Pos} {td ty tx tv : TE}
/-- {} -/
theorem pe_dcnew : PE X (.Dict [] [] pos) (fun _ H Q => ∀ p, H p = none → Q (.ref p) (upd H p (dcO X.prog X.w p []))) := ⟨fun pins s σ H Q I h =>
  wpAny_Dict_empty ⟨.ref s.heap.objs.size, _, I.laid (a := s.heap.objs.size) (o := dcO X.prog X.w s.heap.objs.size []) (t' := s.toks) (fun _ _ q => Heap.get?_push_of_some _ q) (Nat.le_refl _)
    (dc_ok (Nat.zero_le _) (beq_eq_false_iff_ne.mpr (Ne.symm (Nat.ne_of_lt I.big))) (Heap.get?_push_size _ rfl) ⟨rfl, rfl, rfl⟩ rfl rfl List.nodup_nil), rfl, h _ (I.hok.fresh (Nat.le_refl _))⟩⟩
theorem dc_typeIs {pins : List (Addr × Obj)} {σ : L2.St} {H : Hp} {s : Shared} {a : Addr} {xs : Ents} (I : Inv X pins σ H s) (e : H a = some (dcO X.prog X.w a xs)) : s.TypeIs (.ref a) "dict" ∧ ∀ b, Value.ref a = .ref b → ∃ ob, s.heap.get? b = some ob ∧ ob.dict = none := by
  obtain ⟨⟨z, hd, o, es, ep, h1, h2, h3, h4, h5⟩, _, _⟩ := (show ObjOk X.prog X.w H s.heap a (dcO X.prog X.w a xs) from I.hok a _ e)
  refine ⟨⟨o, h1, h2.1⟩, fun b q => ?_⟩
  cases q
  exact ⟨o, h1, h2.2.1⟩
/-- what a dict's entries and a key need -/
def DcAt (X : Cx) (H : Hp) (a : Addr) (xs : Ents) : Prop := H a = some (dcO X.prog X.w a xs) ∧ ∀ x ∈ xs, SqT X.K H x.2.1 (x.1.map kV)
theorem pe_dcix (hu : X.A.units + 1 < cLine) (ho : PE X o td) (hi : PE X i ty) (hs : NoSl i) :
    PE X (.Subscript o i pos) (fun σ H Q => td σ H fun x H1 => ty σ H1 fun y H2 => ∃ a b xs k p v, x = .ref a ∧ y = .ref b ∧ DcAt X H2 a xs ∧ SqT X.K H2 b (k.map kV) ∧ atKey xs k = some p ∧ RelV v p.2 ∧ Q v H2) := by
  refine ⟨fun pins s σ H Q I h => ?_⟩
  refine subD_of PySem.F.slot_dict_getitem.lookup hs (thn (ho.run pins s σ H _ I h) fun u s1 ⟨x, H1, I1, rx, q1⟩ => thn (hi.run pins s1 σ H1 _ I1 q1) fun iv s2 ⟨y, H2, I2, ry, a, b, xs, k, p, v, ex, ey, g, eb, hp, rv, q2⟩ => ?_)
  subst ex ey
  obtain rfl : u = Value.ref a := rx
  obtain rfl : iv = Value.ref b := ry
  exact ⟨(dc_typeIs I2 g.1).1, dc_getItem hu I2 g.1 g.2 eb hp fun s3 I3 => ⟨v, H2, I3, rv, q2⟩⟩
theorem pe_dcget2 (hu : X.A.units + 1 < cLine) (ho : PE X o td) (he : PE X e ty) (hf : PE X f tx) (m : M2 X o "get" apos e f cpos) :
    PE X (.Call (.Attribute o "get" apos) [e, f] [] cpos) (fun σ H Q => td σ H fun x H1 => ∃ a xs0, x = .ref a ∧ H1 a = some (dcO X.prog X.w a xs0) ∧ ty σ H1 fun y H2 => tx σ H2 fun z H3 => ∃ b xs k v, y = .ref b ∧ DcAt X H3 a xs ∧ SqT X.K H3 b (k.map kV) ∧
      (∀ r, RelV z r → RelV v (((atKey xs k).map (·.2)).getD r)) ∧ Q v H3) := by
  refine ⟨fun pins s σ H Q I h => ?_⟩
  refine wpAny_Call_method m.base m.few m.line PySem.F.plainAttrs_dict PySem.F.slot_dict_get PySem.F.type_dict_get (thn (ho.run pins s σ H _ I h) fun u s1 ⟨x, H1, I1, rx, a, xs0, ex, d, q1⟩ => ?_)
  subst ex
  obtain rfl : u = Value.ref a := rx
  obtain ⟨t1, t2⟩ := dc_typeIs I1 d
  refine ⟨t1, t2, ?_⟩
  rw [m.trees]
  refine Calls.callWith_builtin rfl (Calls.evalArgs_plain (Calls.spliced_cons (thn (he.run pins s1 σ H1 _ I1 q1) fun iv s2 ⟨y, H2, I2, ry, q2⟩ =>
    Calls.spliced_cons (thn (hf.run pins s2 σ H2 _ I2 q2) fun fv s3 ⟨z, H3, I3, rz, b, xs, k, v, ey, g, eb, hv, q3⟩ => Calls.spliced_nil ?_))))
  subst ey
  obtain rfl : iv = Value.ref b := ry
  exact dc_get2 hu I3 g.1 g.2 eb fun s4 I4 => ⟨v, H3, I4, hv _ rz, q3⟩
theorem ps_dcput (hu : X.A.units + 1 < cLine) (ho : PE X o td) (hi : PE X i ty) (hv : PE X value tv) (hs : swapsWith value (some (.Subscript o i pos')) pos.line X.env = pure false) :
    PS X (.Assign [.Subscript o i pos'] value pos) (fun D σ H => tv σ H fun v H1 => td σ H1 fun x H2 => ty σ H2 fun y H3 => ∃ a b xs k, x = .ref a ∧ y = .ref b ∧ DcAt X H3 a xs ∧ SqT X.K H3 b (k.map kV) ∧ xs.length < sizeLine ∧
      ∀ r, RelV v r → D.nx σ (upd H3 a (dcO X.prog X.w a (storedH xs k b r)))) := by
  refine ⟨fun pins s σ H D I h => ?_⟩
  refine wpAny_Assign_Subscript (thn (hv.run pins s σ H _ I h) fun r s1 ⟨v, H1, I1, rv, q1⟩ => thn (ho.run pins s1 σ H1 _ I1 q1) fun u s2 ⟨x, H2, I2, rx, q2⟩ => thn (hi.run pins s2 σ H2 _ I2 q2) fun iv s3 ⟨y, H3, I3, ry, a, b, xs, k, ex, ey, g, eb, hl, q3⟩ => ?_) hs
  subst ex ey
  obtain rfl : u = Value.ref a := rx
  obtain rfl : iv = Value.ref b := ry
  exact dc_setItem hu I3 g.1 g.2 eb hl fun s4 I4 => ⟨σ, _, I4, q3 _ rv⟩
/-- list(d) -/
theorem call_list_dc (hc : X.calm = true) : CallR X (.type "list") (fun xs H Q => ∃ d es, xs = [V.ref d] ∧ H d = some (dcO X.prog X.w d es) ∧ ∀ p, H p = none → Q (.ref p) (upd H p (.lst (es.map fun x => V.ref x.2.1)))) := by
  intro pins s σ H xs us Q I r h
  obtain ⟨d, ks, rfl, hd, q⟩ := h
  obtain ⟨u, rfl, rx⟩ := r.one
  cases rx
  obtain ⟨⟨z, hs, o, es, ep, ho, hx, hdt, he, hn⟩, _, _⟩ := (show ObjOk X.prog X.w H s.heap d (dcO X.prog X.w d ks) from I.hok d _ hd)
  have l1 : es.size = ks.length := size_of_entries he
  refine PySem.W.kdl_call (kdl_raw hs hx hdt) (I.ok.hd hc) ho (by omega) fun h' tk acc' c' kp e it => ?_
  have ea : acc'.toList = ks.map fun x => Value.ref x.2.1 := by
    have hl : acc'.toList.length = ks.length := by rw [Array.length_toList, it.1]; exact l1
    apply List.ext_getElem?
    intro j
    rw [List.getElem?_map]
    cases hj : acc'.toList[j]? with
    | none =>
      have h1 := List.getElem?_eq_none_iff.mp hj
      rw [List.getElem?_eq_none (by omega)]
      all_goals rfl
    | some v =>
      obtain ⟨en, hen, hv⟩ := it.2 j v (by rw [← Array.getElem?_toList]; exact hj)
      have qe := entry_at he j
      rw [hen] at qe
      cases hb : ks[j]? with
      | none =>
        rw [hb] at qe
        exact nomatch (show some en = none from qe)
      | some b =>
        rw [hb] at qe
        have e2 : en = entryOfKey (tupleKind (mixKind X.prog X.w)) b := Option.some.inj qe
        rw [hv, e2]
        all_goals rfl
  have eb : acc'.toList = (ks.map fun x => x.2.1).map Value.ref := by rw [ea, List.map_map]; all_goals rfl
  have rv : Vals ((ks.map fun x => x.2.1).map V.ref) acc'.toList := by rw [eb]; exact vals_refs _
  have hz : ((ks.map fun x => x.2.1).map V.ref).length ≤ sizeLine := by rw [List.length_map, List.length_map]; omega
  have em : (ks.map fun x => V.ref x.2.1) = (ks.map fun x => x.2.1).map V.ref := by rw [List.map_map]; rfl
  refine ⟨.ref s.heap.objs.size, _, I.laid (t' := tk) (o := .lst (ks.map fun x => V.ref x.2.1)) kp (Nat.le_refl _) ?_, rfl, q _ (I.hok.fresh (Nat.le_refl _))⟩
  rw [em]
  exact ⟨hz, acc'.toList, c', rv, by rw [Array.toArray_toList]; exact e⟩
end
end RX

-- RXC
set_option Elab.async false
set_option linter.all false
set_option maxRecDepth 100000
set_option maxHeartbeats 4000000
/-! RXC: dict comprehensions with tuples as keys. -/
namespace RX
open PySem PySem.Spec PyProof.Rows L2
variable [PWd]
section
variable {X : Cx}
/-- one store of a comprehension -/
theorem dc_store {pins : List (Addr × Obj)} {σ : L2.St} {H : Hp} {s : Shared} {E : Value → Shared → Prop} {a b : Addr} {xs : Ents} {k : List Key} {r : Value} {Q : Unit → Shared → Prop} (hu : X.A.units < cLine) (I : Inv X pins σ H s) (g : DcAt X H a xs) (eb : SqT X.K H b (k.map kV)) (hl : xs.length < sizeLine)
    (h : ∀ s', Inv X pins σ (upd H a (dcO X.prog X.w a (storedH xs k b r))) s' → Q () s') : wpAny (model X.prog X.w) X.A (dictSet a (.ref b) r) Q E s := by
  obtain ⟨z, hd, dd⟩ := dcO_of I g.1 g.2
  have z2 : (storedH xs k b r).length ≤ sizeLine := by unfold storedH; split <;> simp <;> omega
  refine wpAny_dictSet_heap (hsz := z) hu (key_ofS I eb) dd fun h' ⟨q, es, ep, hq, h2, h3, h4, _, h5⟩ hs => h _ ?_
  exact d_write I (by rw [g.1]; exact True.intro) hs ⟨q, hq⟩ (dc_ok z2 hd hq h2 h3 h4 h5)
/-- a dict's turns: W counts them down; at the end it is written no more -/
def Dct (X : Cx) (J : L2.It) (g : TG) (tt : TT) (tk tv : TE) (vs : List Nat) (σ : L2.St) (D : Addr) (Q : VK) (W : Nat → Nat → Hp → Prop) : Prop := ∀ i m H, W i m H →
  (J.stop i H ∧ ∃ xs, DcAt X H D xs ∧ ∀ o : Obj, xs.length ≤ sizeLine → (D == sysModules) = false → o.ExactDict → (∃ es ep, o.data = .dict es ep ∧ es.toList = xs.map (entryOfKey (tupleKind (mixKind X.prog X.w)))) → (xs.map (·.1)).Nodup → Q (.ref D) (upd H D (fzO D o))) ∨
  (J.go i H ∧ ∃ Nx : Hp → Prop, (∀ H', Nx H' → ∃ m', m' < m ∧ W (i + 1) m' H') ∧ ∀ x H', J.yld i H x H' → g x (wipe σ vs) H' fun σ2 H2 => wipe σ2 vs = wipe σ vs ∧ tt σ2 H2 fun b H3 =>
    if b = true then tk σ2 H3 fun y H4 => tv σ2 H4 fun z H5 => ∃ q xs k, y = .ref q ∧ DcAt X H5 D xs ∧ SqT X.K H5 q (k.map kV) ∧ xs.length < sizeLine ∧ ∀ r, RelV z r → Nx (upd H5 D (dcO X.prog X.w D (storedH xs k q r))) else Nx H3)
def tDcc (X : Cx) (wi : TI) (g : TG) (tt : TT) (tk tv : TE) (vs : List Nat) : TE := fun σ H Q => wi σ H fun J H1 => ∀ D, H1 D = none → ∃ W : Nat → Nat → Hp → Prop, (∃ m, W 0 m (upd H1 D (dcO X.prog X.w D []))) ∧ Dct X J g tt tk tv vs σ D Q W
theorem dcc_core {pins : List (Addr × Obj)} {s : Shared} {σ : L2.St} {H : Hp} {Q : VK} {kx vx tg iter : Expr} {ifs : List Expr} {scope : Scope} {own : List (Str × Nat)} {pos pos' : Pos} {wi : TI} {g : TG} {tt : TT} {tk tv : TE} {use : Option (Value → Sem Unit)} {Qf : Value → Shared → Prop}
    (hu : X.A.units < cLine) (hc : X.calm = true) (hN : X.N.Nodup) (I : Inv X pins σ H s) (hi : PI X tg iter wi) (ok : BlkOk X.N X.env.scope scope own)
    (pb : ∀ (s : Shared) (H : Hp) (C : Addr) (cl : List (Str × Addr)) (fp : List Addr), PG (X.blk s H scope (compEnvC scope cl C X.env) fp) tg g ∧ PTs (X.blk s H scope (compEnvC scope cl C X.env) fp) ifs tt ∧
      PE (X.blk s H scope (compEnvC scope cl C X.env) fp) kx tk ∧ PE (X.blk s H scope (compEnvC scope cl C X.env) fp) vx tv) (hs : ∀ x, foldedSetIterable iter X.env x = pure x)
    (h : tDcc X wi g tt tk tv (own.map (·.2)) σ H Q)
    (fin : ∀ D C s' m H', Inv X pins σ H' s' → Q (.ref D) H' → s'.heap.Ns C m → FpOk X pins H' C → compPost (model X.prog X.w) X.A X.xe use Qf (.ref D) C (.ok .next) s') :
    wpAny (model X.prog X.w) X.A (comprehension (.DictComp kx vx [⟨tg, iter, ifs, 0⟩] scope pos) scope X.env pos' newDict false (eval iter X.env) use) Qf X.xe s := by
  have clo : ∀ y ∈ scope.names, y.2 = .free → ∃ c, X.env.cells.lookup y.1 = some c := fun y hy e => (ok.free y hy e).elim (fun z => I.ok.has _ (.inl z)) fun z => I.ok.has _ (.inr z)
  refine wpAny_comprehension_free (use := use) rfl hs (closure_ok clo) ok.kind (fun y hy e => by rw [ok.uniq y hy, e]) (thn (hi.run pins s σ H _ I h) fun xv s1 h1 => thn h1 fun itv s2 ⟨it, fp, tn, J, H2, e2, I2, T, st2, f2, q⟩ => ?_)
  subst e2
  refine wpAny_newObj_type (newEnv_comp ?_)
  generalize eD : s2.heap.objs.size = D
  obtain ⟨W, ⟨m0, w0⟩, turn⟩ := q D (I2.hok.fresh (Nat.le_of_eq eD))
  generalize e3 : ({ s2 with heap := s2.heap.push { cls := .type "dict", data := .dict #[] } } : Shared) = s3
  have hp3 : s3.heap = s2.heap.push { cls := .type "dict", data := .dict #[] } := by rw [← e3]
  have old3 : ∀ b o, s2.heap.get? b = some o → s3.heap.get? b = some o := fun b o e => by rw [hp3]; exact Heap.get?_push_of_some _ e
  have I3 : Inv X pins σ (upd H2 D (dcO X.prog X.w D [])) s3 := by
    rw [← e3, ← eD]
    exact I2.laid (t' := s2.toks) (fun _ _ e => Heap.get?_push_of_some _ e) (Nat.le_refl _) (dc_ok (Nat.zero_le _) (beq_eq_false_iff_ne.mpr (Ne.symm (Nat.ne_of_lt I2.big))) (Heap.get?_push_size _ rfl) ⟨rfl, rfl, rfl⟩ rfl rfl List.nodup_nil)
  have lt2 : ∀ b ∈ fp, b < s2.heap.objs.size := fun b hb => let ⟨_, e, _⟩ := T.obj _ _ st2 b hb; Heap.lt_size e
  have f3 : ∀ b ∈ fp, FpOk X pins (upd H2 D (dcO X.prog X.w D [])) b ∧ b < s3.heap.objs.size := fun b hb =>
    ⟨⟨by rw [upd_ne (by rw [← eD]; exact Nat.ne_of_lt (lt2 b hb))]; exact (f2 b hb).1, (f2 b hb).2⟩, by rw [hp3, Heap.size_push]; exact Nat.lt_succ_of_lt (lt2 b hb)⟩
  have I4 := block_start I3 ok hN f3
  obtain ⟨pg, pt, pk, pv⟩ := pb s3 (upd H2 D (dcO X.prog X.w D [])) s3.heap.objs.size (cellsFrom (s3.heap.objs.size + 1) scope.names (cloFrom X.env.cells scope.names [])) fp
  show codeAny _ _ (.compStart (.DictComp kx vx [⟨tg, iter, ifs, 0⟩] scope pos) 0 (.ref it) (.ref D) (compEnvC scope (cellsFrom (s3.heap.objs.size + 1) scope.names (cloFrom X.env.cells scope.names [])) s3.heap.objs.size X.env)) (compPost (model X.prog X.w) X.A X.xe use Qf (.ref D) s3.heap.objs.size) { s3 with heap := pushCells (s3.heap.push { cls := .type "dict", data := .dict #[] }) scope.names }
  have none3 : ∀ b ∈ fp, (upd H2 D (dcO X.prog X.w D [])) b = none := fun b hb => (f3 b hb).1.1
  generalize hce : compEnvC scope (cellsFrom (s3.heap.objs.size + 1) scope.names (cloFrom X.env.cells scope.names [])) s3.heap.objs.size X.env = ce at I4 pg pt pk pv ⊢
  have lce : ce.locals = s3.heap.objs.size := by rw [← hce]; rfl
  generalize eH3 : upd H2 D (dcO X.prog X.w D []) = H3 at I3 I4 pg pt pk pv w0 none3 f3
  generalize e4 : ({ s3 with heap := pushCells (s3.heap.push { cls := .type "dict", data := .dict #[] }) scope.names } : Shared) = s4 at I4 ⊢
  have st4 : tn 0 s4.heap := T.keep _ _ _ st2 fun b _ o e => by rw [← e4]; exact pushCells_keeps _ _ _ _ (Heap.get?_push_of_some _ (old3 b o e))
  have stat : ∀ {σ' : L2.St} {H' : Hp} {s' : Shared}, Inv (X.blk s3 H3 scope ce fp) [] σ' H' s' → (∀ b ∈ fp, H' b = none) → ∀ b ∈ fp, FpOk (X.blk s3 H3 scope ce fp) [] H' b := fun I' hn b hb =>
    ⟨hn b hb, (I'.ok.exf b hb).1, I'.ok.exfs b hb, .inl hb, (I'.ok.exf b hb).2, fun p hp => absurd (show p ∈ ([] : List (Addr × Obj)) ++ [] from hp) (by simp)⟩
  have loop : codeAny (model X.prog X.w) X.A (.compLoop (.DictComp kx vx [⟨tg, iter, ifs, 0⟩] scope pos) 0 (.ref it) (.ref D) ce) (compPost (model X.prog X.w) X.A X.xe use Qf (.ref D) s3.heap.objs.size) s4 := by
    refine compLoop_anyD (fun n s' => ∃ i H', W i n H' ∧ Inv (X.blk s3 H3 scope ce fp) [] (wipe σ (own.map (·.2))) H' s' ∧ tn i s'.heap ∧ ∀ b ∈ fp, H' b = none) (fun n s5 ⟨i, H5, w5, I5, st5, n5⟩ => ?_) m0 ⟨0, H3, w0, I4, st4, none3⟩
    rcases turn i n H5 w5 with ⟨stop, xs, dcat, qq⟩ | ⟨go, Nx, hNx, step⟩
    · refine thnF (T.done (X.blk s3 H3 scope ce fp) rfl rfl rfl hc i [] s5 _ H5 (fun _ _ => False) I5 (stat I5 n5) st5 stop) fun r s6 ⟨hr, I6⟩ => ?_
      subst hr
      have I7 : Inv X pins σ H5 s6 := I3.call' (ch := fp) I6.os I6.base I6.hok I6.bare fun b hb => ⟨(f3 b hb).1.2.2.2.1, (f3 b hb).1.2.1, (f3 b hb).1.2.2.2.2.1, (f3 b hb).1.2.2.2.2.2⟩
      have nC : H5 s3.heap.objs.size = none := by rw [← lce]; exact I6.free
      obtain ⟨m, hn, _⟩ := I6.loc
      have hn : s6.heap.Ns s3.heap.objs.size m := by rw [← lce]; exact hn
      obtain ⟨⟨z, hd, o, es, ep, k1, k2, k3, k4, k5⟩, _, _⟩ := (show ObjOk X.prog X.w H5 s6.heap D (dcO X.prog X.w D xs) from I7.hok D _ dcat.1)
      have I8 : Inv X pins σ (upd H5 D (fzO D o)) s6 := d_write (h' := s6.heap) (t' := s6.toks) I7 (by rw [dcat.1]; exact True.intro) ⟨rfl, fun _ _ => rfl⟩ ⟨o, k1⟩ (fz_ok k1)
      have nD : s3.heap.objs.size ≠ D := fun e => by rw [e, dcat.1] at nC; cases nC
      have nC' : upd H5 D (fzO D o) s3.heap.objs.size = none := by rw [upd_ne nD]; exact nC
      exact fin D s3.heap.objs.size s6 m _ I8 (qq o z hd k2 ⟨es, ep, k3, k4⟩ k5) hn (I3.fpOk (Nat.le_refl _) nC' |> fun z => z)
    · refine thnF (T.item (X.blk s3 H3 scope ce fp) rfl rfl rfl hc i [] s5 _ H5 (fun _ _ => False) I5 (stat I5 n5) st5 go) fun r s6 ⟨u, hr, h6⟩ => ?_
      subst hr
      refine thnF h6 fun _ s7 ⟨x, H7, I7, r7, y7, st7, n7⟩ => ?_
      refine thnF (pg.run _ s7 _ H7 x u _ (I7.pinned (stat I7 n7) (T.obj _ _ st7)) r7 (step x H7 y7)) fun _ s8 ⟨σ8, H8, I8, hw8, q8⟩ => thnF (pt.run _ s8 σ8 H8 _ I8 q8) fun b s9 ⟨H9, I9, q9⟩ => ?_
      have next : ∀ {s' : Shared} {H' : Hp}, Inv (X.blk s3 H3 scope ce fp) ([] ++ pinsAt fp s7.heap) σ8 H' s' → Nx H' → ∃ m, m < n ∧ ∃ i H', W i m H' ∧ Inv (X.blk s3 H3 scope ce fp) [] (wipe σ (own.map (·.2))) H' s' ∧ tn i s'.heap ∧ ∀ b ∈ fp, H' b = none := fun {s' H'} I' nx => by
        obtain ⟨m', hm, w'⟩ := hNx H' nx
        have pin' : ∀ b ∈ fp, ∀ o, s7.heap.get? b = some o → s'.heap.get? b = some o ∧ H' b = none := fun b hb o e => let z := I'.pin (b, o) (List.mem_append_right _ (List.mem_append_right _ (mem_pinsAt hb e))); ⟨z.1, z.2.1⟩
        refine ⟨m', hm, i + 1, H', w', (I'.unpinned (pins := [])).weak (by rw [← hw8, wipe_length]) (fun j v e => ?_), T.keep _ _ _ st7 fun b hb o e => (pin' b hb o e).1, fun b hb => ?_⟩
        · rw [← hw8] at e
          exact (wipe_some e).1
        · obtain ⟨o, e, _⟩ := T.obj _ _ st7 b hb
          exact (pin' b hb o e).2
      cases b with
      | false => exact next I9 (by simpa using q9)
      | true =>
        rw [if_pos rfl] at q9
        refine thnF (pk.run _ s9 σ8 H9 _ I9 q9) fun z s10 ⟨yk, H10, I10, r10, q10⟩ => thnF (pv.run _ s10 σ8 H10 _ I10 q10) fun z2 s11 ⟨yv, H11, I11, r11, q, xs, k, ek, dcat, kq, hz, nx⟩ => ?_
        subst ek
        obtain rfl : z = Value.ref q := r10
        exact dc_store (X := X.blk s3 H3 scope ce fp) hu I11 dcat kq hz fun s12 I12 => next I12 (nx _ r11)
  exact codeAny_compStart_dict loop (T.self X.A 0 _ _ _ st4 loop)
theorem pe_dcc {kx vx tg iter : Expr} {ifs : List Expr} {scope : Scope} {own : List (Str × Nat)} {pos : Pos} {wi : TI} {g : TG} {tt : TT} {tk tv : TE} (hu : X.A.units < cLine) (hc : X.calm = true) (hN : X.N.Nodup) (hi : PI X tg iter wi) (ok : BlkOk X.N X.env.scope scope own)
    (pb : ∀ (s : Shared) (H : Hp) (C : Addr) (cl : List (Str × Addr)) (fp : List Addr), PG (X.blk s H scope (compEnvC scope cl C X.env) fp) tg g ∧ PTs (X.blk s H scope (compEnvC scope cl C X.env) fp) ifs tt ∧
      PE (X.blk s H scope (compEnvC scope cl C X.env) fp) kx tk ∧ PE (X.blk s H scope (compEnvC scope cl C X.env) fp) vx tv) (hs : ∀ x, foldedSetIterable iter X.env x = pure x) :
    PE X (.DictComp kx vx [⟨tg, iter, ifs, 0⟩] scope pos) (tDcc X wi g tt tk tv (own.map (·.2))) := by
  refine ⟨fun pins s σ H Q I h => ?_⟩
  rw [arm_eval_DictComp]
  refine dcc_core hu hc hN I hi ok pb hs h fun D C s' m H' I' q hn ⟨f0, f1, f2, f3, f4, f5⟩ => ⟨m, hn, fun h2 sb => ?_⟩
  exact ⟨.ref D, H', I'.turned (t' := s'.toks) (fun b o hb e => (sb.2 b hb).trans e) f0 f1 f3 f4 f5, rfl, q⟩
/-- a name set to one, where its store is the comprehension's own end -/
theorem ps_setDcc {j : Nat} {nm : Str} {np : Pos} {kx vx tg iter : Expr} {ifs : List Expr} {scope : Scope} {own : List (Str × Nat)} {pos sp : Pos} {wi : TI} {g : TG} {tt : TT} {tk tv : TE} (hu : X.A.units < cLine) (hc : X.calm = true) (hN : X.N.Nodup) (hj : X.N[j]? = some nm) (hl : X.env.scope.names.lookup nm = some .local)
    (hsw : swapsWith (.DictComp kx vx [⟨tg, iter, ifs, 0⟩] scope pos) (some (.Name nm np)) sp.line X.env = pure true) (hi : PI X tg iter wi) (ok : BlkOk X.N X.env.scope scope own)
    (pb : ∀ (s : Shared) (H : Hp) (C : Addr) (cl : List (Str × Addr)) (fp : List Addr), PG (X.blk s H scope (compEnvC scope cl C X.env) fp) tg g ∧ PTs (X.blk s H scope (compEnvC scope cl C X.env) fp) ifs tt ∧
      PE (X.blk s H scope (compEnvC scope cl C X.env) fp) kx tk ∧ PE (X.blk s H scope (compEnvC scope cl C X.env) fp) vx tv) (hs : ∀ x, foldedSetIterable iter X.env x = pure x) :
    PS X (.Assign [.Name nm np] (.DictComp kx vx [⟨tg, iter, ifs, 0⟩] scope pos) sp) (tAsg (tDcc X wi g tt tk tv (own.map (·.2))) (gName j)) := by
  refine ⟨fun pins s σ H D I h => ?_⟩
  rw [exec_Assign_Name_used nm np _ sp hsw]
  refine wpAny_bind (wpAny_standAt (wpAny_bind ?_))
  show wpAny _ X.A (do let _ ← comprehension (.DictComp kx vx [⟨tg, iter, ifs, 0⟩] scope pos) scope X.env (firstIterPos [⟨tg, iter, ifs, 0⟩] pos) newDict false (eval iter X.env) (some (assign (.Name nm np) X.env))) _ _ s
  refine wpAny_bind (thn (dcc_core (Qf := fun _ s' => SP X pins D .next s') hu hc hN I hi ok pb hs (show tDcc X wi g tt tk tv (own.map (·.2)) σ H (fun x H1 => gName j x σ H1 D.nx) from h) fun L C s' m H' I' q hn ⟨f0, f1, f2, f3, f4, f5⟩ => ?_) fun _ s' hq => wpAny_pure (wpAny_pure hq))
  show wpAny _ _ (assign (.Name nm np) X.env (.ref L)) _ _ _
  refine wpAny_assign_Name (store_ok2 (v := V.ref L) I' hN hj (.inl hl) rfl (fun s2 I2 ⟨a, sb, ha⟩ => ?_) (.inr hl))
  have nC : C ≠ a := ha.elim (fun z => by rw [z]; exact f1) fun z e => f4 nm a z e.symm
  exact ⟨m, hn.sameBut sb nC, fun h3 sb3 => ⟨_, H', I2.turned (t' := s2.toks) (fun b o hb e => (sb3.2 b hb).trans e) f0 f1 f3 f4 f5, q⟩⟩
end
end RX

-- RXC2
set_option Elab.async false
set_option linter.all false
set_option maxRecDepth 100000
set_option maxHeartbeats 4000000
/-! RXC2: dict comprehensions, get, and methods without arguments, in the small syntax. -/
namespace RX
open PySem PySem.Spec PyProof.Rows L2
variable [PWd]
def entD (xs : Dc) : List (D × D) := xs.map fun p => (keysD p.1, p.2)
theorem asDc_ent : ∀ xs : Dc, asDcL (entD xs) = some xs
  | [] => rfl
  | (k, d) :: r => by
    show (toKeys (k.map keyD)).bind (fun k => (asDcL (entD r)).map ((k, d) :: ·)) = _
    rw [toKeys_map, Option.bind_some, asDc_ent r]; rfl
theorem asDc_inv : ∀ {ds : List (D × D)} {xs : Dc}, asDcL ds = some xs → ds = entD xs
  | [], xs, h => by cases h; rfl
  | (a, b) :: r, xs, h => by
    unfold asDcL at h
    rw [Option.bind_eq_some_iff] at h
    obtain ⟨k, h1, h2⟩ := h
    rw [Option.map_eq_some_iff] at h2
    obtain ⟨ys, h2, rfl⟩ := h2
    rw [asDc_inv h2]
    cases a with
    | tuple ds =>
      rw [toKeys_inv (show toKeys ds = some k from h1)]
      rfl
    | _ => cases h1
section
variable {K : PySem.W.Frag} {H : Hp}
theorem RpEnt.append : ∀ {xs ys : Ents} {ds es : List (D × D)}, RpEnt K H xs ds → RpEnt K H ys es → RpEnt K H (xs ++ ys) (ds ++ es)
  | _, _, _, _, .nil, s => s
  | _, _, _, _, .cons a b c d e t, s => .cons a b c d e (RpEnt.append t s)
theorem RpEnt.map {k : List Key} {z : V} {d : D} {r : Value} (rv : RelV z r) (rp : Rp K H z d) : ∀ {xs : Ents} {ds : List (D × D)} {kvs : Dc}, RpEnt K H xs ds → asDcL ds = some kvs →
    RpEnt K H (xs.map (putAt k r)) (entD (kvs.map fun p => if p.1 = k then (p.1, d) else p))
  | _, _, kvs, .nil, e => by cases e; exact .nil
  | _, _, kvs, .cons (k := k0) (q := q) (u := u) (v := v) (d := dv) (xs := xs) (ds := ds) a l c f g t, e => by
    have e' : (toKeys (k0.map keyD)).bind (fun k => (asDcL ds).map ((k, dv) :: ·)) = some kvs := e
    rw [toKeys_map, Option.bind_some, Option.map_eq_some_iff] at e'
    obtain ⟨ks', e1, rfl⟩ := e'
    by_cases hk : k0 = k
    · have e2 : putAt k r (k0, q, u) = (k0, q, r) := by unfold putAt; rw [if_pos hk]
      rw [List.map_cons, List.map_cons, e2, if_pos hk]
      exact .cons a l c rv rp (RpEnt.map rv rp t e1)
    · have e2 : putAt k r (k0, q, u) = (k0, q, u) := by unfold putAt; rw [if_neg hk]
      rw [List.map_cons, List.map_cons, e2, if_neg hk]
      exact .cons a l c f g (RpEnt.map rv rp t e1)
theorem any_at : ∀ (kvs : Dc) (k : List Key), kvs.any (fun p => decide (p.1 = k)) = (atDc kvs k).isSome
  | [], _ => rfl
  | (k0, d) :: r, k => by
    have ih := any_at r k
    unfold atDc at ih ⊢
    by_cases h : k0 = k
    · simp [h]
    · simp [h, ih]
theorem RpEnt.put {xs : Ents} {ds : List (D × D)} {kvs : Dc} {k : List Key} {q : Addr} {z : V} {d : D} {r : Value} (t : RpEnt K H xs ds) (e : asDcL ds = some kvs) (kq : SqT K H q (k.map kV)) (kl : k.length ≤ sizeLine) (kr : RpAll K H (k.map kV) (k.map keyD)) (rv : RelV z r) (rp : Rp K H z d) :
    RpEnt K H (storedH xs k q r) (entD (putDc kvs k d)) := by
  unfold storedH putDc
  rw [any_at]
  rcases t.at e k with ⟨a1, a2⟩ | ⟨p, v', d', a1, a2, a3, a4⟩
  · rw [a1, a2]
    have e2 : entD (kvs ++ [(k, d)]) = entD kvs ++ [(keysD k, d)] := by unfold entD; simp
    simp only [Option.isSome_none, Bool.false_eq_true, if_false]
    rw [e2, ← asDc_inv e]
    exact t.append (.cons kq kl kr rv rp .nil)
  · rw [a1, a4]
    simp only [Option.isSome_some, if_true]
    exact t.map rv rp e
end
theorem compD_inv {f : D → M (Option (List Key × D))} {x : D} {xs : List D} {acc : Dc} {w w' : W} {ys : Dc} (h : (compD f (x :: xs) acc).run w = some (ys, w')) :
    ∃ o w1, (f x).run w = some (o, w1) ∧ (compD f xs (match o with | some p => putDc acc p.1 p.2 | none => acc)).run w1 = some (ys, w') := by
  obtain ⟨o, w1, h1, h⟩ := bind_inv h
  exact ⟨o, w1, h1, h⟩
section
variable {X : Cx} {C : Ctx} {T : Tab} {pl : Bool} {k : Nat}
/-- the dict so far at Dd -/
structure SoD (X : Cx) (P : List Addr) (q : Option Addr) (Dd : Addr) (H1 : Hp) (kvs : Dc) (n : Nat) (w : W) (Hc : Hp) : Prop where
  ex : ∃ xs ds, Hc Dd = some (dcO X.prog X.w Dd xs) ∧ RpEnt X.K (hide Hc (Dd :: P)) xs ds ∧ asDcL ds = some kvs ∧ xs.length ≤ n
  kp : ∀ a o, some a ≠ q → a ≠ Dd → H1 a = some o → Hc a = some o
  pool : ∀ a, q = some a → Hc a = some (.lst (w.map V.int))
theorem SoD.bs {P : List Addr} {q : Option Addr} {Dd : Addr} {H1 Hc : Hp} {kvs : Dc} {n : Nat} {w w1 : W} (s : SoD X P q Dd H1 kvs n w Hc) (b : Bs P q w1 H1) (hD : H1 Dd = none) : Bs (Dd :: P) q w Hc := by
  have hDP : Dd ∉ P := b.notin hD
  refine ⟨fun a ha => ?_, fun a e => ⟨List.mem_cons_of_mem _ (b.pool a e).1, s.pool a e⟩⟩
  rcases List.mem_cons.mp ha with rfl | ha
  · obtain ⟨xs, ds, e, _⟩ := s.ex
    rw [e]; simp
  · by_cases hq : q = some a
    · rw [s.pool a hq]; simp
    · cases e : H1 a with
      | none => exact absurd e (b.tr a ha)
      | some o => rw [s.kp a o (fun z => hq z.symm) (fun z => hDP (z ▸ ha)) e]; simp
theorem SoD.same {P : List Addr} {q : Option Addr} {Dd : Addr} {H1 Hc : Hp} {kvs : Dc} {n : Nat} {w w1 : W} (s : SoD X P q Dd H1 kvs n w Hc) (b : Bs P q w1 H1) (hD : H1 Dd = none) : Same (hide H1 P) (hide Hc (Dd :: P)) := fun x o e => by
  unfold hide at e ⊢
  split at e
  · cases e
  · rename_i nb
    have nD : x ≠ Dd := fun z => by rw [z, hD] at e; cases e
    rw [if_neg (by simp [nD, nb])]
    exact s.kp x o (fun z => nb (b.pool x z.symm).1) nD e
theorem SoD.grow {P : List Addr} {q : Option Addr} {Dd : Addr} {H1 Hc Hc' : Hp} {kvs : Dc} {n : Nat} {w w1 : W} (s : SoD X P q Dd H1 kvs n w Hc) (b : Bs P q w1 H1) (hD : H1 Dd = none) (g : Grows Hc Hc') : SoD X P q Dd H1 kvs n w Hc' := by
  obtain ⟨sm2, eqP, kp2⟩ := hide_grow g (s.bs b hD).tr
  obtain ⟨xs, ds, e1, e2, e3, e4⟩ := s.ex
  exact ⟨⟨xs, ds, kp2 _ _ e1, e2.mono sm2, e3, e4⟩, fun a o n1 n2 e => kp2 a o (s.kp a o n1 n2 e), fun a e => kp2 a _ (s.pool a e)⟩
theorem SoD.ext {P : List Addr} {q : Option Addr} {Dd : Addr} {H1 Hc Hc' : Hp} {kvs : Dc} {n : Nat} {w w1 w2 : W} (s : SoD X P q Dd H1 kvs n w Hc) (b : Bs P q w1 H1) (hD : H1 Dd = none) (x : Ext q w2 Hc Hc') : SoD X P q Dd H1 kvs n w2 Hc' := by
  have bb := s.bs b hD
  have hDq : some Dd ≠ q := fun z => (b.notin hD) (b.pool Dd z.symm).1
  obtain ⟨xs, ds, e1, e2, e3, e4⟩ := s.ex
  exact ⟨⟨xs, ds, x.keep _ _ hDq e1, e2.mono (bb.same x), e3, e4⟩, fun a o n1 n2 e => x.keep a o n1 (s.kp a o n1 n2 e), x.pool⟩
theorem stored_len (xs : Ents) (k : List Key) (q : Addr) (r : Value) : (storedH xs k q r).length ≤ xs.length + 1 := by
  unfold storedH
  split <;> simp
theorem se_dcomp {sc scope : Scope} {tg : List Nat} {it : RX.It} {hcn : Bool} {cond key val : E} {pkey pval ptg pit : Expr} {ifs : List Expr} {pos : Pos} (xo : XOk X C T k) (sr : ScRel X sc) (h0 : (!pl || !tg.contains 0) = true) (hb : blkB X.N sc scope tg = true) (ht : tgB X.N scope tg ptg = true)
    (hns : notSet pit = true) (hi : PI X ptg pit (tI X.K C pl it))
    (hif : ∀ (s : Shared) (H : Hp) (Cc : Addr) (cl : List (Str × Addr)) (fp : List Addr), PTs (X.blk s H scope (compEnvC scope cl Cc X.env) fp) ifs (ttOf X.K C pl hcn cond))
    (hk : ∀ (s : Shared) (H : Hp) (Cc : Addr) (cl : List (Str × Addr)) (fp : List Addr), PE (X.blk s H scope (compEnvC scope cl Cc X.env) fp) pkey (tE X.K C pl key))
    (hv : ∀ (s : Shared) (H : Hp) (Cc : Addr) (cl : List (Str × Addr)) (fp : List Addr), PE (X.blk s H scope (compEnvC scope cl Cc X.env) fp) pval (tE X.K C pl val)) :
    BlkOk X.N X.env.scope scope (ownOf X.N tg) ∧ (∀ (s : Shared) (H : Hp) (Cc : Addr) (cl : List (Str × Addr)) (fp : List Addr), PG (X.blk s H scope (compEnvC scope cl Cc X.env) fp) ptg (gT X.K tg) ∧ PTs (X.blk s H scope (compEnvC scope cl Cc X.env) fp) ifs (ttOf X.K C pl hcn cond) ∧
      PE (X.blk s H scope (compEnvC scope cl Cc X.env) fp) pkey (tE X.K C pl key) ∧ PE (X.blk s H scope (compEnvC scope cl Cc X.env) fp) pval (tE X.K C pl val)) ∧
    ∀ σ H Q, tE X.K C pl (.dcomp tg it hcn cond key val) σ H Q → tDcc X (tI X.K C pl it) (gT X.K tg) (ttOf X.K C pl hcn cond) (tE X.K C pl key) (tE X.K C pl val) ((ownOf X.N tg).map (·.2)) σ H Q := by
  obtain ⟨ok, eo⟩ := blk_ok sr hb
  refine ⟨ok, fun s H Cc cl fp => ⟨sg (ScRel.blk s H Cc cl fp) xo.nd xo.calm ht, hif s H Cc cl fp, hk s H Cc cl fp, hv s H Cc cl fp⟩, fun σ H Q h => ?_⟩
  rw [eo]
  obtain ⟨P, q, ρ, w, d, w', st, ev, kk⟩ := h
  obtain ⟨xs, w1, exs, ev⟩ := bind_inv ev
  obtain ⟨ys, w2, eys, ev⟩ := bind_inv ev
  obtain ⟨rfl, rfl⟩ := pure_inv ev
  refine ⟨P, q, ρ, w, xs, w1, st, exs, fun J H1 as G Y x1 wd => fun Dd hD => ?_⟩
  have st1 := st.ext x1
  have b1 := st1.b
  have hDP : Dd ∉ P := b1.notin hD
  have hDq : ∀ a, q = some a → a ≠ Dd := fun a e z => hDP (z ▸ (b1.pool a e).1)
  generalize hf : (fun x => do
      let ρ' ← lift (bindT tg x (wipeE tg ρ))
      let b ← (if hcn then (do let c ← evE C cond ρ'; lift (asBool c)) else pure true : M Bool)
      if b then (do
        let k ← evE C key ρ'
        let y ← evE C val ρ'
        let ks ← lift (toTK k)
        pure (some (ks, y))) else pure none : D → M (Option (List Key × D))) = f at eys
  let Pv : Nat → Hp → Prop := fun i Hc => ∃ kvs wi, SoD X P q Dd H1 kvs i wi Hc ∧ (compD f (xs.drop i) kvs).run wi = some (ys, w2)
  have keepG : ∀ i Hc, Pv i Hc → G Hc := fun i Hc ⟨kvs, wi, s, _⟩ => wd.stay H1 Hc wd.g0 fun a ha o e => s.kp a o (fun z => (wd.out a ha) (b1.pool a z.symm).1) (fun z => by rw [z, hD] at e; cases e) e
  have start : Pv 0 (upd H1 Dd (dcO X.prog X.w Dd [])) := ⟨[], w1, ⟨⟨[], [], upd_same, .nil, rfl, Nat.le_refl _⟩, fun a o n1 n2 e => by rw [upd_ne n2]; exact e, fun a e => by rw [upd_ne (hDq a e)]; exact (b1.pool a e).2⟩, by rw [List.drop_zero]; exact eys⟩
  refine ⟨fun i m H => m = xs.length - i ∧ i ≤ xs.length ∧ Pv i H, ⟨_, rfl, Nat.zero_le _, start⟩, ?_⟩
  rintro i m Hc ⟨rfl, hi, p⟩
  have hG := keepG i Hc p
  obtain ⟨kvs, wi, s, er⟩ := p
  by_cases hlt : i < xs.length
  case neg =>
    have ei : i = xs.length := by omega
    subst ei
    refine .inl ⟨wd.wk.stops Hc hG, ?_⟩
    rw [List.drop_length] at er
    obtain ⟨rfl, rfl⟩ := pure_inv er
    obtain ⟨es, ds, e1, e2, e3, e4⟩ := s.ex
    refine ⟨es, ⟨e1, fun x hx => Same.seqT (hide_same Hc _) (e2.sq x hx)⟩, fun o z hd hx da nd => ?_⟩
    have sm : Same (hide Hc (Dd :: P)) (hide (upd Hc Dd (fzO Dd o)) P) := fun b o' e => by
      unfold hide at e ⊢
      split at e
      · cases e
      · rename_i nb
        simp only [List.mem_cons, not_or] at nb
        rw [if_neg nb.2, upd_ne nb.1]
        exact e
    have hx2 : Ext q wi H (upd Hc Dd (fzO Dd o)) := by
      refine ⟨fun a o' n e => ?_, fun a e => ?_⟩
      · have e0 := x1.keep a o' n e
        have nD : a ≠ Dd := fun z => by rw [z, hD] at e0; cases e0
        rw [upd_ne nD]
        exact s.kp a o' n nD e0
      · rw [upd_ne (hDq a e)]
        exact s.pool a e
    rw [asDc_inv e3] at e2
    refine kk _ _ hx2 (.dct (o := o) (xs := es) ?_ ?_ (e2.mono sm))
    · rw [hide_at hDP, upd_same]
    · have hp := xo.pw
      refine ⟨z, hd, hx, ?_, nd⟩
      have e5 : PWd.P = X.prog := congrArg (fun i : PWd => i.P) hp
      have e6 : PWd.w = X.w := congrArg (fun i : PWd => i.w) hp
      rw [e5, e6]
      exact da
  case pos =>
    obtain ⟨hgo⟩ : Nonempty (J.go i Hc) := ⟨wd.wk.goes i Hc hlt hG⟩
    refine .inr ⟨hgo, Pv (i + 1), fun H' p' => ⟨xs.length - (i + 1), by omega, rfl, hlt, p'⟩, fun x Hc' hy => ?_⟩
    have hy := wd.wk.yields i Hc x Hc' hlt hG hy
    obtain ⟨gr, rx⟩ := wd.item i Hc x Hc' xs[i] (Dd :: P) hlt hG (s.same b1 hD) (s.bs b1 hD).tr hy (List.getElem?_eq_getElem hlt)
    have s' := s.grow b1 hD gr
    rw [List.drop_eq_getElem_cons hlt] at er
    obtain ⟨o, w3, f1, f2⟩ := compD_inv er
    subst hf
    obtain ⟨ρ', w4, e1l, f1⟩ := bind_inv f1
    obtain ⟨e1, rfl⟩ := lift_inv e1l
    have ers : ER X.K (Dd :: P) ρ σ Hc' := fun j dj ej => by
      obtain ⟨v, g1, g2⟩ := st1.er j dj ej
      exact ⟨v, g1, g2.mono (s'.same b1 hD)⟩
    refine bind_g rx e1 (ers.wiped tg) (by rw [wipeE_len, wipe_length]; exact st1.ln) fun σ2 er2 l1 l2 o2 => ?_
    have ws : wipe σ2 tg = wipe σ tg := wipe_eq (by rw [l2, wipe_length]) fun j hj => by rw [o2 j hj, wipe_at, if_neg hj]
    refine ⟨ws, ?_⟩
    have st2 : Sit X.K pl (Dd :: P) q ρ' wi σ2 Hc' := by
      refine ⟨s'.bs b1 hD, st.isP, fun a e => ?_, er2, by rw [l1, wipeE_len, l2, wipe_length]; exact st1.ln⟩
      have n0 : 0 ∉ tg := fun z => by
        have hp : pl = true := by rw [← st.isP, e]; rfl
        rw [hp, List.contains_iff_mem.mpr z] at h0
        cases h0
      rw [o2 0 n0, wipe_at, if_neg n0]
      exact st.at0 a e
    have after : ∀ (b : Bool) (w5 : W) (H3 : Hp), Ext q w5 Hc' H3 → ((if b then (do
          let k ← evE C key ρ'
          let y ← evE C val ρ'
          let ks ← lift (toTK k)
          pure (some (ks, y))) else pure none : M (Option (List Key × D)))).run w5 = some (o, w3) →
        (if b = true then tE X.K C pl key σ2 H3 fun y H4 => tE X.K C pl val σ2 H4 fun z H5 => ∃ q xs k, y = .ref q ∧ DcAt X H5 Dd xs ∧ SqT X.K H5 q (k.map kV) ∧ xs.length < sizeLine ∧ ∀ r, RelV z r → Pv (i + 1) (upd H5 Dd (dcO X.prog X.w Dd (storedH xs k q r))) else Pv (i + 1) H3) := by
      intro b w5 H3 x3 f5
      have st3 := st2.ext x3
      have s3 := s'.ext b1 hD x3
      cases b with
      | false =>
        rw [if_neg Bool.false_ne_true]
        obtain ⟨rfl, rfl⟩ := pure_inv f5
        obtain ⟨es, ds, a1, a2, a3, a4⟩ := s3.ex
        exact ⟨kvs, w5, ⟨⟨es, ds, a1, a2, a3, by omega⟩, s3.kp, s3.pool⟩, f2⟩
      | true =>
        rw [if_pos rfl]
        obtain ⟨kd, w6, ey, f6⟩ := bind_inv f5
        obtain ⟨yd, w7, ez, f6⟩ := bind_inv f6
        obtain ⟨ks, w8, el0, f6⟩ := bind_inv f6
        obtain ⟨el, rfl⟩ := lift_inv el0
        obtain ⟨rfl, rfl⟩ := pure_inv f6
        refine ⟨Dd :: P, q, ρ', w5, kd, _, st3, ey, fun H4 y x4 r4 => ?_⟩
        have st4 := st3.ext x4
        have s4 := s3.ext b1 hD x4
        refine ⟨Dd :: P, q, ρ', _, yd, _, st4, ez, fun H5 z x5 r5 => ?_⟩
        have s5 := s4.ext b1 hD x5
        obtain ⟨kq, rfl, k1, k2, k3, k4⟩ := key_rp (st4.b.rp x5 r4) el
        obtain ⟨es, ds, a1, a2, a3, a4⟩ := s5.ex
        have hwl := wd.len
        refine ⟨kq, es, ks, rfl, ⟨a1, fun x hx => Same.seqT (hide_same H5 _) (a2.sq x hx)⟩, Same.seqT (hide_same H5 _) k1, by omega, fun r rr => ?_⟩
        have smD : Same (hide H5 (Dd :: P)) (hide (upd H5 Dd (dcO X.prog X.w Dd (storedH es ks kq r))) (Dd :: P)) := fun b o e => by
          unfold hide at e ⊢
          split at e
          · cases e
          · rename_i nb
            rw [if_neg nb, upd_ne (fun z => nb (by simp [z]))]
            exact e
        refine ⟨_, _, ⟨⟨_, _, upd_same, (a2.put a3 k1 k2 k3 rr r5).mono smD, asDc_ent _, ?_⟩, fun a o n1 n2 e => by rw [upd_ne n2]; exact s5.kp a o n1 n2 e, fun a e => by rw [upd_ne (hDq a e)]; exact s5.pool a e⟩, f2⟩
        have := stored_len es ks kq r
        omega
    cases hcn with
    | false =>
      obtain ⟨b, w5, f4, f5⟩ := bind_inv f1
      obtain ⟨rfl, rfl⟩ := pure_inv f4
      exact after true _ Hc' (s'.bs b1 hD).refl f5
    | true =>
      obtain ⟨b, w5, f4, f5⟩ := bind_inv f1
      show tT X.K C pl cond σ2 Hc' _
      exact ⟨Dd :: P, q, ρ', _, b, w5, st2, f4, fun H3 x3 => after b w5 H3 x3 f5⟩
/-- d.get(k, z) -/
theorem pe_fzget {o e f : Expr} {td ty tx : TE} {apos cpos : Pos} (hu : X.A.units + 1 < cLine) (hp : thePW = ⟨X.prog, X.w⟩) (ho : PE X o td) (he : PE X e ty) (hf : PE X f tx) (m : M2 X o "get" apos e f cpos) :
    PE X (.Call (.Attribute o "get" apos) [e, f] [] cpos) (fun σ H Q => td σ H fun x H1 => ∃ a o xs ds, x = .ref a ∧ H1 a = some (fzO a o) ∧ DcObj a o xs ∧ RpEnt X.K H1 xs ds ∧ ty σ H1 fun y H2 => tx σ H2 fun z H3 => ∃ b k v, y = .ref b ∧ H3 a = some (fzO a o) ∧ RpEnt X.K H3 xs ds ∧ SqT X.K H3 b (k.map kV) ∧
      (∀ r, RelV z r → RelV v (((atKey xs k).map (·.2)).getD r)) ∧ Q v H3) := by
  refine ⟨fun pins s σ H Q I h => ?_⟩
  refine wpAny_Call_method m.base m.few m.line PySem.F.plainAttrs_dict PySem.F.slot_dict_get PySem.F.type_dict_get (thn (ho.run pins s σ H _ I h) fun u s1 ⟨x, H1, I1, rx, a, o, xs, ds, ex, h1, g, r1, q1⟩ => ?_)
  subst ex
  obtain rfl : u = Value.ref a := rx
  have dd1 := dc_entR hp I1 h1 g r1
  refine ⟨dd1.typeIs, dictOfH_noDict dd1, ?_⟩
  rw [m.trees]
  refine Calls.callWith_builtin rfl (Calls.evalArgs_plain (Calls.spliced_cons (thn (he.run pins s1 σ H1 _ I1 q1) fun iv s2 ⟨y, H2, I2, ry, q2⟩ =>
    Calls.spliced_cons (thn (hf.run pins s2 σ H2 _ I2 q2) fun fv s3 ⟨z, H3, I3, rz, b, k, v, ey, h3, r3, eb, hv, q3⟩ => Calls.spliced_nil ?_))))
  subst ey
  obtain rfl : iv = Value.ref b := ry
  exact call_meetsIn PySem.F.slot_dict_get (dc_entR hp I3 h3 g r3).typeIs PySem.F.entry_dict_get (PySem.F.args_dict_get_3 _ _ _) (meetsH_dict_get_default (tupleKind (mixKind X.prog X.w)) a b g.ns fv) ⟨tupleKind_room_in1 hu, k, xs, key_ofS I3 eb, dc_entR hp I3 h3 g r3, v, H3, I3.tok _, hv _ rz, q3⟩
theorem se_dget {a kx z : E} {pa pk pz : Expr} {apos cpos : Pos} (xo : XOk X C T k) (ha : PE X pa (tE X.K C pl a)) (hk : PE X pk (tE X.K C pl kx)) (hz : PE X pz (tE X.K C pl z)) (m : M2 X pa "get" apos pk pz cpos) : PE X (.Call (.Attribute pa "get" apos) [pk, pz] [] cpos) (tE X.K C pl (.dget a kx z)) := by
  have hu : X.A.units + 1 < cLine := by have := xo.hu; omega
  refine PE.wk (pe_fzget hu xo.pw ha hk hz m) fun σ H Q h => ?_
  obtain ⟨P, q, ρ, w, d, w', st, ev, kk⟩ := h
  obtain ⟨da, w1, ea, ev⟩ := bind_inv ev
  obtain ⟨xs, w2, ex0, ev⟩ := bind_inv ev
  obtain ⟨ex, rfl⟩ := lift_inv ex0
  obtain ⟨dk, w3, ek, ev⟩ := bind_inv ev
  obtain ⟨dz, w4, ez, ev⟩ := bind_inv ev
  obtain ⟨ks, w5, el0, ev⟩ := bind_inv ev
  obtain ⟨el, rfl⟩ := lift_inv el0
  obtain ⟨rfl, rfl⟩ := pure_inv ev
  refine ⟨P, q, ρ, w, da, w1, st, ea, fun H1 x x1 r1 => ?_⟩
  cases r1 with
  | @dct a o es ds h1 h2 h3 =>
    have ex : asDcL ds = some xs := ex
    have st1 := st.ext x1
    refine ⟨a, o, es, ds, rfl, hide_same H1 P _ _ h1, h2, h3.mono (hide_same H1 P), P, q, ρ, _, dk, _, st1, ek, fun H2 y x2 r2 => ?_⟩
    have st2 := st1.ext x2
    refine ⟨P, q, ρ, _, dz, _, st2, ez, fun H3 zz x3 r3 => ?_⟩
    have st3 := st2.ext x3
    obtain ⟨b, rfl, k1, k2, k3, k4⟩ := key_rp (st2.b.rp x3 r2) el
    have h33 : RpEnt X.K (hide H3 P) es ds := (h3.mono (st1.b.same x2)).mono (st2.b.same x3)
    have h13 : H3 a = some (fzO a o) := hide_same H3 P _ _ ((st2.b.same x3) _ _ ((st1.b.same x2) _ _ h1))
    rcases h33.at ex ks with ⟨a1, a2⟩ | ⟨p, v, dv, a1, a2, a3, a4⟩
    · refine ⟨b, ks, zz, rfl, h13, h33.mono (hide_same H3 P), Same.seqT (hide_same H3 P) k1, fun r rr => by rw [a1]; exact rr, kk H3 zz ((x1.trans x2).trans x3) ?_⟩
      rw [a2]
      exact r3
    · refine ⟨b, ks, v, rfl, h13, h33.mono (hide_same H3 P), Same.seqT (hide_same H3 P) k1, fun r rr => by rw [a1]; exact a2, kk H3 v ((x1.trans x2).trans x3) ?_⟩
      rw [a4]
      exact a3
  | fn x => exact nomatch ex
  | _ => cases ex
/-- x.upper() -/
theorem se_upper {a : E} {pa : Expr} {apos pos : Pos} (ha : PE X pa (tE X.K C pl a)) (hb : attributeBase pa "upper" X.env (eval pa X.env) = eval pa X.env) (hl : (apos.endLine == pos.line) = true) : PE X (.Call (.Attribute pa "upper" apos) [] [] pos) (tE X.K C pl (.m0 "upper" a)) :=
  PE.wk (pe_upper ha hb hl) fun σ H Q h => by
    obtain ⟨P, q, ρ, w, d, w', st, ev, kk⟩ := h
    obtain ⟨da, w1, ea, ev⟩ := bind_inv ev
    obtain ⟨e, rfl⟩ := lift_inv ev
    refine ⟨P, q, ρ, w, da, _, st, ea, fun H1 x x1 r1 => ?_⟩
    cases r1 with
    | str z hz =>
      have e' : (if z.length ≤ 5592405 then some (PyData.str (Txt.upper z)) else none) = some d := e
      rw [Option.ite_none_right_eq_some] at e'
      obtain ⟨hz2, e'⟩ := e'
      cases e'
      refine ⟨⟨z, rfl⟩, z, rfl, rfl, hz2, kk H1 _ x1 (.str _ ?_)⟩
      have := PyProof.Rows.len_upper z
      rw [sizeLine_eq]
      omega
    | fn x => exact nomatch (show (none : Option D) = some d from e)
    | _ => cases e
end
end RX

-- RX10
set_option Elab.async false
set_option linter.all false
set_option maxRecDepth 100000
set_option maxHeartbeats 4000000
/-! RX10: every expression of the small syntax. -/
namespace RX
open PySem PySem.Spec PyProof.Rows L2
variable [PWd]
theorem PT.pw {X : Cx} {op : PySem.BoolOp} {vs : List Expr} {p : Pos} {t : TT} (h : PT X (.BoolOp op vs p) t) : PW X (.BoolOp op vs p) t := ⟨fun wh pins s σ H Q I hh => h.run pins s σ H Q I hh⟩
def Both (X : Cx) (C : Ctx) (pl : Bool) (e : E) (pe : Expr) : Prop := PE X pe (tE X.K C pl e) ∧ PT X pe (tT X.K C pl e)
theorem Both.val {X : Cx} {C : Ctx} {pl : Bool} {e : E} {pe : Expr} (h : PE X pe (tE X.K C pl e)) (he : ∀ whole, isTrue pe X.env whole = (do let v ← whole; standAt pe.pos; holding [v] (truthy v))) : Both X C pl e pe := ⟨h, st_val h he⟩
theorem mg_free {X : Cx} {C : Ctx} {T : Tab} {k : Nat} (xo : XOk X C T k) {x : Str} (h : x ∈ T.bl) : X.mg x = none := xo.bl x h
theorem plain_ix {pb : Expr} (h : ∀ a b c p, pb ≠ .Slice a b c p) : PlainIx pb := by
  intro v u
  cases pb <;> first | rfl | exact absurd rfl (h _ _ _ _)
theorem bi_gl {b : Bi} {x : Str} (h : x = (biN b).1) : x ≠ "__name__" ∧ (x == ("__debug__" : Str)) = false := by
  subst h
  cases b <;> exact ⟨by decide +kernel, by decide +kernel⟩
theorem bj_gl {b : Bj} {x : Str} (h : x = bjN b) : x ≠ "__name__" ∧ (x == ("__debug__" : Str)) = false := by
  subst h
  cases b <;> exact ⟨by decide +kernel, by decide +kernel⟩
variable {C : Ctx} {T : Tab} {pl : Bool} {k : Nat}
def OkE (C : Ctx) (T : Tab) (pl : Bool) (k : Nat) (e : E) : Prop := ∀ (X : Cx) (sc : Scope) (pe : Expr), XOk X C T k → ScRel X sc → mtE T pl X.N sc e pe = true → Both X C pl e pe
def OkI (C : Ctx) (T : Tab) (pl : Bool) (k : Nat) (it : RX.It) : Prop := ∀ (X : Cx) (sc : Scope) (tg pe : Expr), XOk X C T k → ScRel X sc → mtI T pl X.N sc it pe = true → (itTup it = true → ∃ a b c, tg = .Tuple a b c) → PI X tg pe (tI X.K C pl it)
def OkL (C : Ctx) (T : Tab) (pl : Bool) (k : Nat) (es : EL) : Prop := (∀ (X : Cx) (sc : Scope) (ps : List Expr), XOk X C T k → ScRel X sc → mtL T pl X.N sc es ps = true → PA X ps (tL X.K C pl es)) ∧
  ∀ (X : Cx) (sc : Scope) (ps : List Keyword), XOk X C T k → ScRel X sc → mtK T pl X.N sc es ps = true → PK X ps (tL X.K C pl es)
theorem ok_loc (i : Nat) : OkE C T pl k (.loc i) := fun X sc pe xo sr h => by
  cases pe <;> first | (simp [mtE] at h; done) | skip
  simp only [mtE, Bool.and_eq_true, decide_eq_true_eq] at h
  exact .val (se_loc h.1.1 (sr.vis _ h.1.2) h.2) (by intro _; rfl)
theorem ok_cst (d : D) : OkE C T pl k (.cst d) := fun X sc pe xo sr h => by
  cases pe <;> first | (simp [mtE] at h; done) | skip
  simp only [mtE] at h
  exact .val (se_cst h) (by intro _; rfl)
theorem ok_glb (j : Nat) : OkE C T pl k (.glb j) := fun X sc pe xo sr h => by
  cases pe <;> first | (simp [mtE] at h; done) | skip
  simp only [mtE, Bool.and_eq_true, decide_eq_true_eq] at h
  exact .val (se_glb xo h.1.1 (sr.gl _ h.1.2) h.2) (by intro _; rfl)
theorem ok_bin (o : Bop) {a b : E} (ha : OkE C T pl k a) (hb : OkE C T pl k b) : OkE C T pl k (.bin o a b) := fun X sc pe xo sr h => by
  cases pe <;> first | (simp [mtE] at h; done) | skip
  simp only [mtE, Bool.and_eq_true] at h
  exact .val (se_bin h.1.1 (ha X sc _ xo sr h.1.2).1 (hb X sc _ xo sr h.2).1) (by intro _; rfl)
theorem ok_neg {a : E} (ha : OkE C T pl k a) : OkE C T pl k (.neg a) := fun X sc pe xo sr h => by
  cases pe <;> first | (simp [mtE] at h; done) | skip
  rename_i op pa p
  cases op <;> first | (simp [mtE] at h; done) | skip
  simp only [mtE] at h
  exact .val (se_neg (ha X sc _ xo sr h).1) (by intro _; rfl)
theorem ok_not {a : E} (ha : OkE C T pl k a) : OkE C T pl k (.not a) := fun X sc pe xo sr h => by
  cases pe <;> first | (simp [mtE] at h; done) | skip
  rename_i op pa p
  cases op <;> first | (simp [mtE] at h; done) | skip
  simp only [mtE] at h
  obtain ⟨h1, h2⟩ := ha X sc _ xo sr h
  exact ⟨se_not h1, st_not h2⟩
theorem ok_and {a b : E} (ha : OkE C T pl k a) (hb : OkE C T pl k b) : OkE C T pl k (.and a b) := fun X sc pe xo sr h => by
  cases pe <;> first | (simp [mtE] at h; done) | skip
  rename_i op vs p
  cases op <;> first | (simp [mtE] at h; done) | skip
  match vs, h with
  | [], h => simp [mtE] at h
  | [_], h => simp [mtE] at h
  | [pa, pb], h =>
    simp only [mtE, Bool.and_eq_true] at h
    obtain ⟨a1, a2⟩ := ha X sc _ xo sr h.1
    obtain ⟨b1, b2⟩ := hb X sc _ xo sr h.2
    exact ⟨se_and a1 (pe_one b1), (st_and a2 (pw_and1 b2)).pt⟩
  | pa :: pb :: pc :: r, h =>
    simp only [mtE, Bool.and_eq_true] at h
    obtain ⟨a1, a2⟩ := ha X sc _ xo sr h.1
    obtain ⟨b1, b2⟩ := hb X sc _ xo sr h.2
    exact ⟨se_and a1 b1, (st_and a2 (PT.pw b2)).pt⟩
theorem ok_or {a b : E} (ha : OkE C T pl k a) (hb : OkE C T pl k b) : OkE C T pl k (.or a b) := fun X sc pe xo sr h => by
  cases pe <;> first | (simp [mtE] at h; done) | skip
  rename_i op vs p
  cases op <;> first | (simp [mtE] at h; done) | skip
  match vs, h with
  | [], h => simp [mtE] at h
  | [_], h => simp [mtE] at h
  | [pa, pb], h =>
    simp only [mtE, Bool.and_eq_true] at h
    obtain ⟨a1, a2⟩ := ha X sc _ xo sr h.1
    obtain ⟨b1, b2⟩ := hb X sc _ xo sr h.2
    exact ⟨se_or a1 (pe_one b1), (st_or a2 (pw_or1 b2)).pt⟩
  | pa :: pb :: pc :: r, h =>
    simp only [mtE, Bool.and_eq_true] at h
    obtain ⟨a1, a2⟩ := ha X sc _ xo sr h.1
    obtain ⟨b1, b2⟩ := hb X sc _ xo sr h.2
    exact ⟨se_or a1 b1, (st_or a2 (PT.pw b2)).pt⟩
theorem ok_cmp (o : Cop) {a b : E} (ha : OkE C T pl k a) (hb : OkE C T pl k b) : OkE C T pl k (.cmp o a b) := fun X sc pe xo sr h => by
  cases pe <;> first | (simp [mtE] at h; done) | skip
  rename_i pa ops ps p
  match ops, ps, h with
  | [po], [pb], h =>
    simp only [mtE, Bool.and_eq_true, Bool.not_eq_true'] at h
    have a1 := (ha X sc _ xo sr h.1.1.2).1
    have b1 := (hb X sc _ xo sr h.1.2).1
    exact ⟨se_cmp xo h.1.1.1 h.2 a1 b1, st_cmp xo h.1.1.1 h.2 a1 b1⟩
  | [], _, h => simp [mtE] at h
  | [_], [], h => simp [mtE] at h
  | [_], _ :: _ :: _, h => simp [mtE] at h
  | _ :: _ :: _, _, h => simp [mtE] at h
theorem st_chain {X : Cx} {o p : Cop} {po pp : CmpOp} {a b c : E} {pa pb pc : Expr} {pos : Pos} (xo : XOk X C T k) (h : copB o po = true) (h' : copB p pp = true) (hm : lastMarks [po, pp] [pb, pc] = false)
    (ha : PE X pa (tE X.K C pl a)) (hb : PE X pb (tE X.K C pl b)) (hc : PE X pc (tE X.K C pl c)) : PT X (.Compare pa [po, pp] [pb, pc] pos) (tT X.K C pl (.chain o p a b c)) := by
  refine PT.wk (pt_chain (opCD xo.hu xo.pw h) (opCD xo.hu xo.pw h') ha hb hc hm) fun σ H Q h => ?_
  obtain ⟨P, q, ρ, w, d, w', st, ev, kk⟩ := h
  obtain ⟨dd, w0, ev, ev2⟩ := bind_inv ev
  obtain ⟨e2, rfl⟩ := lift_inv ev2
  cases asB e2
  show tChain _ _ _ _ _ σ H fun x H' => ∃ k, x = .bl k ∧ Q k H'
  exact chain_core (po := po) (pp := pp) st ev fun H' v x r => by
    cases r
    exact ⟨_, rfl, kk H' x⟩
theorem ok_chain (o p : Cop) {a b c : E} (ha : OkE C T pl k a) (hb : OkE C T pl k b) (hc : OkE C T pl k c) : OkE C T pl k (.chain o p a b c) := fun X sc pe xo sr h => by
  cases pe <;> first | (simp [mtE] at h; done) | skip
  rename_i pa ops ps pp
  match ops, ps, h with
  | [po, pq], [pb, pc], h =>
    simp only [mtE, Bool.and_eq_true, Bool.not_eq_true'] at h
    obtain ⟨⟨⟨⟨⟨h1, h2⟩, h3⟩, h4⟩, h5⟩, h6⟩ := h
    have a1 := (ha X sc _ xo sr h3).1
    have b1 := (hb X sc _ xo sr h4).1
    have c1 := (hc X sc _ xo sr h5).1
    exact ⟨se_chain xo h1 h2 h6 a1 b1 c1, st_chain xo h1 h2 h6 a1 b1 c1⟩
  | [], _, h => simp [mtE] at h
  | [_], _, h => simp [mtE] at h
  | _ :: _ :: _ :: _, _, h => simp [mtE] at h
  | [_, _], [], h => simp [mtE] at h
  | [_, _], [_], h => simp [mtE] at h
  | [_, _], _ :: _ :: _ :: _, h => simp [mtE] at h
theorem ok_ite {c a b : E} (hc : OkE C T pl k c) (ha : OkE C T pl k a) (hb : OkE C T pl k b) : OkE C T pl k (.ite c a b) := fun X sc pe xo sr h => by
  cases pe <;> first | (simp [mtE] at h; done) | skip
  simp only [mtE, Bool.and_eq_true] at h
  obtain ⟨c1, c2⟩ := hc X sc _ xo sr h.1.1
  obtain ⟨a1, a2⟩ := ha X sc _ xo sr h.1.2
  obtain ⟨b1, b2⟩ := hb X sc _ xo sr h.2
  exact ⟨se_ite c2 a1 b1, st_ite c2 a2 b2⟩
theorem ok_tup {es : EL} (hs : OkL C T pl k es) : OkE C T pl k (.tup es) := fun X sc pe xo sr h => by
  cases pe <;> first | (simp [mtE] at h; done) | skip
  simp only [mtE] at h
  exact .val (se_tup (hs.1 X sc _ xo sr h)) (by intro _; rfl)
theorem ok_lst {es : EL} (hs : OkL C T pl k es) : OkE C T pl k (.lst es) := fun X sc pe xo sr h => by
  cases pe <;> first | (simp [mtE] at h; done) | skip
  simp only [mtE] at h
  exact .val (se_lst (hs.1 X sc _ xo sr h)) (by intro _; rfl)
theorem mtE_noSlice {N : List Str} {sc : Scope} {e : E} {a b c p} : mtE T pl N sc e (.Slice a b c p) = false := by
  cases e <;> simp [mtE]
theorem ok_idx {a b : E} (ha : OkE C T pl k a) (hb : OkE C T pl k b) : OkE C T pl k (.idx a b) := fun X sc pe xo sr h => by
  cases pe <;> first | (simp [mtE] at h; done) | skip
  simp only [mtE, Bool.and_eq_true] at h
  refine .val (se_idx (ha X sc _ xo sr h.1).1 (hb X sc _ xo sr h.2).1 (plain_ix fun a b c p z => ?_)) (by intro _; rfl)
  rw [z, mtE_noSlice] at h
  cases h.2
theorem ok_slc (hl hh : Bool) {a lo hi : E} (ha : OkE C T pl k a) (h1 : OkE C T pl k lo) (h2 : OkE C T pl k hi) : OkE C T pl k (.slc hl hh a lo hi) := fun X sc pe xo sr h => by
  cases pe <;> first | (simp [mtE] at h; done) | skip
  rename_i pa ps pp
  cases ps <;> first | (simp [mtE] at h; done) | skip
  rename_i plo phi pst p2
  match plo, phi, pst, h with
  | none, none, none, h =>
    simp only [mtE, Bool.and_eq_true, Bool.not_eq_true'] at h
    obtain ⟨⟨e1, e2⟩, g0⟩ := h
    subst e1 e2
    exact .val (se_slc (ha X sc _ xo sr g0).1 so_none so_none) (by intro _; rfl)
  | some pl', none, none, h =>
    simp only [mtE, Bool.and_eq_true, Bool.not_eq_true'] at h
    obtain ⟨⟨⟨e1, e2⟩, g0⟩, g⟩ := h
    subst e1 e2
    exact .val (se_slc (ha X sc _ xo sr g0).1 (so_some (h1 X sc _ xo sr g).1) so_none) (by intro _; rfl)
  | none, some ph, none, h =>
    simp only [mtE, Bool.and_eq_true, Bool.not_eq_true'] at h
    obtain ⟨⟨⟨e1, e2⟩, g0⟩, g⟩ := h
    subst e1 e2
    exact .val (se_slc (ha X sc _ xo sr g0).1 so_none (so_some (h2 X sc _ xo sr g).1)) (by intro _; rfl)
  | some pl', some ph, none, h =>
    simp only [mtE, Bool.and_eq_true] at h
    obtain ⟨⟨⟨⟨e1, e2⟩, g0⟩, g⟩, g2⟩ := h
    subst e1 e2
    exact .val (se_slc (ha X sc _ xo sr g0).1 (so_some (h1 X sc _ xo sr g).1) (so_some (h2 X sc _ xo sr g2).1)) (by intro _; rfl)
  | none, none, some _, h => simp [mtE] at h
  | some _, none, some _, h => simp [mtE] at h
  | none, some _, some _, h => simp [mtE] at h
  | some _, some _, some _, h => simp [mtE] at h
theorem ok_ed : OkE C T pl k .ed := fun X sc pe xo sr h => by
  unfold mtE at h
  split at h
  · refine .val ⟨fun pins s σ H Q I h => ?_⟩ (by intro _; rfl)
    obtain ⟨P, q, ρ, w, d, w', st, ev, kk⟩ := h
    obtain ⟨rfl, rfl⟩ := pure_inv ev
    have n : H s.heap.objs.size = none := I.hok.fresh (Nat.le_refl _)
    refine wpAny_Dict_empty ⟨.ref s.heap.objs.size, _, I.laid (a := s.heap.objs.size) (o := fzO s.heap.objs.size { cls := .type "dict", data := .dict #[] }) (t' := s.toks) (fun _ _ q => Heap.get?_push_of_some _ q) (Nat.le_refl _)
      (fz_ok (Heap.get?_push_size _ rfl)), rfl, ?_⟩
    exact kk _ _ (st.b.new n) (.dct (xs := []) (st.b.at_new n) ⟨Nat.zero_le _, beq_eq_false_iff_ne.mpr (Ne.symm (Nat.ne_of_lt I.big)), ⟨rfl, rfl, rfl⟩, ⟨_, _, rfl, rfl⟩, List.nodup_nil⟩ .nil)
  · cases h
theorem ok_rev {a : E} (ha : OkE C T pl k a) : OkE C T pl k (.rev a) := fun X sc pe xo sr h => by
  unfold mtE at h
  split at h
  · rename_i i _ _ _ _ _
    simp only [Bool.and_eq_true, decide_eq_true_eq] at h
    obtain ⟨rfl, h⟩ := h
    exact .val (se_rev (ha X sc _ xo sr h).1) (by intro _; rfl)
  · cases h
theorem tab_fn {j : Nat} {α : Type} {x : α} {f : Str × Bool × List Str × List (List Nat) → α} {d : α} (h : (match T.fn[j]? with | some z => f z | none => d) = x) (hd : d ≠ x) : ∃ z, T.fn[j]? = some z ∧ f z = x := by
  cases e : T.fn[j]? with
  | none => rw [e] at h; exact absurd h hd
  | some z => rw [e] at h; exact ⟨z, rfl, h⟩
theorem ok_call (p : Bool) (j : Nat) (es : EL) (kw : List Nat) (hs : OkL C T pl k es) : OkE C T pl k (.call p j es kw) := fun X sc pe xo sr h => by
  cases pe <;> first | (simp [mtE] at h; done) | skip
  rename_i pf ps kws pos
  cases pf <;> first | (simp [mtE] at h; done) | skip
  rename_i x px
  cases kws with
  | nil =>
    cases e : T.fn[j]? with
    | none => cases ps <;> (simp only [mtE, e] at h; cases h)
    | some z =>
      obtain ⟨y, p', ar, ks⟩ := z
      cases p with
      | false =>
        simp only [mtE, e, Bool.and_eq_true, decide_eq_true_eq, Bool.not_eq_true'] at h
        obtain ⟨⟨⟨⟨⟨rfl, h0⟩, h1⟩, h2⟩, rfl⟩, h3, h4⟩ := h
        subst h0
        exact .val (se_call xo e (sr.gl _ h1) h2 h4 (mtL_len T pl X.N h3) (mtL_unstar T pl X.N h3) (hs.1 X sc _ xo sr h3)) (by intro _; rfl)
      | true =>
        cases ps with
        | nil => simp [mtE, e] at h
        | cons p0 pr =>
          cases p0 with
          | Name z pz =>
            simp only [mtE, e, Bool.and_eq_true, decide_eq_true_eq] at h
            obtain ⟨⟨⟨⟨⟨rfl, h0⟩, h1⟩, h2⟩, rfl⟩, ⟨⟨⟨⟨h3, h4⟩, h5⟩, h6⟩, h7⟩, h8⟩ := h
            subst h0
            exact .val (se_callP xo e (sr.gl _ h1) h2 h3 h4 (sr.vis _ h5) h6 h8 (mtL_len T pl X.N h7) (mtL_unstar T pl X.N h7) (hs.1 X sc _ xo sr h7)) (by intro _; rfl)
          | _ => simp [mtE, e] at h
  | cons kw0 kwr =>
    cases ps with
    | cons _ _ => simp [mtE] at h
    | nil =>
      simp only [mtE] at h
      cases e : T.fn[j]? with
      | none => rw [e] at h; cases h
      | some z =>
        obtain ⟨y, p', ar, ks⟩ := z
        rw [e] at h
        simp only [Bool.and_eq_true, decide_eq_true_eq, Bool.not_eq_true'] at h
        obtain ⟨⟨⟨⟨⟨⟨⟨⟨⟨⟨⟨rfl, h0⟩, rfl⟩, rfl⟩, h1⟩, h2⟩, h3⟩, h4⟩, h5⟩, h6⟩, h7⟩, h8⟩ := h
        exact .val (se_callK xo e (sr.gl _ h1) h2 h0 h4 h5 (fun i hi => of_decide_eq_true (List.all_eq_true.mp h8 i hi)) (mtK_len T pl X.N h3) h7 (hs.2 X sc _ xo sr h3)) (by intro _; rfl)
theorem ok_b1 (b : Bi) {a : E} (ha : OkE C T pl k a) : OkE C T pl k (.b1 b a) := fun X sc pe xo sr h => by
  cases pe <;> first | (simp [mtE] at h; done) | skip
  rename_i pf ps kws pos
  cases pf <;> first | (simp [mtE] at h; done) | skip
  rename_i x px
  match ps, kws, h with
  | [pa], [], h =>
    simp only [mtE, Bool.and_eq_true, decide_eq_true_eq] at h
    obtain ⟨⟨⟨hx, h1⟩, h2⟩, h3⟩ := h
    obtain ⟨n1, n2⟩ := bi_gl hx
    have hg := sr.gl _ h2
    have hm := xo.bl _ h1
    cases b with
    | setSorted =>
      simp only at h3
      split at h3
      · simp only [Bool.and_eq_true, decide_eq_true_eq] at h3
        obtain ⟨⟨⟨rfl, h4⟩, h5⟩, h6⟩ := h3
        subst hx
        exact .val (se_setSorted xo hg hm (sr.gl _ h5) (xo.bl _ h4) (mtE_unstar T pl X.N h6) (ha X sc _ xo sr h6).1) (by intro _; rfl)
      · cases h3
    | len => subst hx; exact .val (se_b1f crD_len hg hm PySem.boot_len n1 n2 (mtE_unstar T pl X.N h3) (ha X sc _ xo sr h3).1) (by intro _; rfl)
    | int => subst hx; exact .val (se_b1t crD_int hg hm PyProof.Rows.boot_int n1 n2 (mtE_unstar T pl X.N h3) (ha X sc _ xo sr h3).1) (by intro _; rfl)
    | abs => subst hx; exact .val (se_b1f crD_abs hg hm (by decide +kernel) n1 n2 (mtE_unstar T pl X.N h3) (ha X sc _ xo sr h3).1) (by intro _; rfl)
    | all => subst hx; exact .val (se_b1f (crD_all xo.calm) hg hm (by decide +kernel) n1 n2 (mtE_unstar T pl X.N h3) (ha X sc _ xo sr h3).1) (by intro _; rfl)
    | repr => subst hx; exact .val (se_b1f (crD_repr xo.gd xo.hu) hg hm (by decide +kernel) n1 n2 (mtE_unstar T pl X.N h3) (ha X sc _ xo sr h3).1) (by intro _; rfl)
    | any => subst hx; exact .val (se_b1f (crD_any xo.calm) hg hm (by decide +kernel) n1 n2 (mtE_unstar T pl X.N h3) (ha X sc _ xo sr h3).1) (by intro _; rfl)
    | sum => subst hx; exact .val (se_b1f (crD_sum xo.calm) hg hm (by decide +kernel) n1 n2 (mtE_unstar T pl X.N h3) (ha X sc _ xo sr h3).1) (by intro _; rfl)
    | sortedD => subst hx; exact .val (se_b1f (crD_sortedD (by have := xo.room.un; omega)) hg hm (by decide +kernel) n1 n2 (mtE_unstar T pl X.N h3) (ha X sc _ xo sr h3).1) (by intro _; rfl)
    | sorted => subst hx; exact .val (se_b1f crD_sorted hg hm (by decide +kernel) n1 n2 (mtE_unstar T pl X.N h3) (ha X sc _ xo sr h3).1) (by intro _; rfl)
    | tuple => subst hx; exact .val (se_b1t crD_tuple hg hm (by decide +kernel) n1 n2 (mtE_unstar T pl X.N h3) (ha X sc _ xo sr h3).1) (by intro _; rfl)
    | list => subst hx; exact .val (se_b1t crD_list hg hm (by decide +kernel) n1 n2 (mtE_unstar T pl X.N h3) (ha X sc _ xo sr h3).1) (by intro _; rfl)
  | [], _, h => simp [mtE] at h
  | [_], _ :: _, h => simp [mtE] at h
  | _ :: _ :: _, _, h => simp [mtE] at h
theorem ok_b2 (b : Bj) {a c : E} (ha : OkE C T pl k a) (hc : OkE C T pl k c) (hlcm : ∀ (X : Cx), CallR X (.builtin "math.lcm") (rB2 X.K (bi2 .lcm))) : OkE C T pl k (.b2 b a c) := fun X sc pe xo sr h => by
  cases pe <;> first | (simp [mtE] at h; done) | skip
  rename_i pf ps kws pos
  cases pf <;> first | (simp [mtE] at h; done) | skip
  rename_i x px
  match ps, kws, h with
  | [pa, pc], [], h =>
    simp only [mtE, Bool.and_eq_true, decide_eq_true_eq] at h
    obtain ⟨⟨⟨⟨hx, h1⟩, h2⟩, h3⟩, h4⟩ := h
    obtain ⟨n1, n2⟩ := bj_gl hx
    have hg := sr.gl _ h2
    have a1 := (ha X sc _ xo sr h3).1
    have c1 := (hc X sc _ xo sr h4).1
    have u1 := mtE_unstar T pl X.N h3
    have u2 := mtE_unstar T pl X.N h4
    cases b with
    | max => subst hx; exact .val (se_b2f (crD_max xo.calm) hg (xo.bl _ (by simpa using h1)) (by decide +kernel) n1 n2 u1 u2 a1 c1) (by intro _; rfl)
    | min => subst hx; exact .val (se_b2f (crD_min xo.calm) hg (xo.bl _ (by simpa using h1)) (by decide +kernel) n1 n2 u1 u2 a1 c1) (by intro _; rfl)
    | gcd =>
      subst hx
      have hm := xo.mt _ (by simpa using h1)
      rw [if_pos (show bjN .gcd = ("gcd" : Str) from rfl)] at hm
      exact .val (se_b2m crD_gcd hg hm n2 u1 u2 a1 c1) (by intro _; rfl)
    | lcm =>
      subst hx
      have hm := xo.mt _ (by simpa using h1)
      rw [if_neg (show bjN .lcm ≠ "gcd" by decide +kernel)] at hm
      exact .val (se_b2m (hlcm X) hg hm n2 u1 u2 a1 c1) (by intro _; rfl)
  | [], _, h => simp [mtE] at h
  | [_], _, h => simp [mtE] at h
  | _ :: _ :: _ :: _, _, h => simp [mtE] at h
  | [_, _], _ :: _, h => simp [mtE] at h
theorem ok_isi {a : E} (t : String) (ha : OkE C T pl k a) : OkE C T pl k (.isi a t) := fun X sc pe xo sr h => by
  unfold mtE at h
  split at h
  · simp only [Bool.and_eq_true, decide_eq_true_eq] at h
    obtain ⟨⟨⟨⟨⟨⟨⟨rfl, h1⟩, h2⟩, rfl⟩, h3⟩, h4⟩, h5⟩, h6⟩ := h
    exact .val (se_isi xo (sr.gl _ h3) (xo.bl _ h1) (sr.gl _ h4) (xo.bl _ h2) h6 (mtE_unstar T pl X.N h5) (ha X sc _ xo sr h5).1) (by intro _; rfl)
  · cases h
theorem base_ok {o : Expr} {m : Str} {env : PySem.Env} (h : baseOk o = true) : attributeBase o m env (eval o env) = eval o env := by
  cases o <;> first | rfl | cases h
theorem ok_dget {a kx z : E} (ha : OkE C T pl k a) (hk : OkE C T pl k kx) (hz : OkE C T pl k z) : OkE C T pl k (.dget a kx z) := fun X sc pe xo sr h => by
  unfold mtE at h
  split at h
  · simp only [Bool.and_eq_true, decide_eq_true_eq] at h
    obtain ⟨⟨⟨⟨⟨rfl, h1⟩, h2⟩, h3⟩, h4⟩, h5⟩ := h
    have u1 := mtE_unstar T pl X.N h4
    have u2 := mtE_unstar T pl X.N h5
    have e1 := fun r => star_cons (env := X.env) (ps := r) u1
    have e2 := fun r => star_cons (env := X.env) (ps := r) u2
    refine .val (se_dget xo (ha X sc _ xo sr h3).1 (hk X sc _ xo sr h4).1 (hz X sc _ xo sr h5).1 ⟨base_ok h2, ?_, h1, ?_⟩) (by intro _; rfl)
    · rw [e1, e2]; rfl
    · rw [e1, e2]; rfl
  · cases h
theorem ok_m0 (m : String) {a : E} (ha : OkE C T pl k a) : OkE C T pl k (.m0 m a) := fun X sc pe xo sr h => by
  unfold mtE at h
  split at h
  · simp only [Bool.and_eq_true, decide_eq_true_eq] at h
    obtain ⟨⟨⟨⟨rfl, rfl⟩, h1⟩, h2⟩, h3⟩ := h
    exact .val (se_upper (ha X sc _ xo sr h3).1 (base_ok h2) h1) (by intro _; rfl)
  · cases h
end RX

-- RX11
set_option Elab.async false
set_option linter.all false
set_option maxRecDepth 100000
set_option maxHeartbeats 4000000
/-! RX11: every expression of the small syntax, together. -/
namespace RX
open PySem PySem.Spec PyProof.Rows L2
variable [PWd]
theorem log2_lcm {a b : Nat} (ha : a.log2 < 9000) (hb : b.log2 < 9000) : (a.lcm b).log2 < bitsLine := by
  have e : bitsLine = 134217728 := by decide
  have lt : ∀ x : Nat, x.log2 < 9000 → x < 2 ^ 9000 := fun x hx => by
    have := Nat.lt_log2_self (n := x)
    exact Nat.lt_of_lt_of_le this (Nat.pow_le_pow_right (by decide) (by omega))
  have h1 := lt a ha
  have h2 := lt b hb
  have h3 : a.lcm b ≤ a * b := PySem.W.mc_lcm_le a b
  have h4 : a * b < 2 ^ 18000 := by
    rw [show 18000 = 9000 + 9000 from rfl, Nat.pow_add]
    exact Nat.mul_lt_mul'' h1 h2
  by_cases h0 : a.lcm b = 0
  · rw [h0, e]; decide
  · have h5 : (a.lcm b).log2 < 18000 := (Nat.log2_lt h0).mpr (Nat.lt_of_le_of_lt h3 h4)
    omega
theorem crD_lcm (X : Cx) : CallR X (.builtin "math.lcm") (rB2 X.K (bi2 .lcm)) := by
  intro pins s σ H xs us Q I r h
  obtain ⟨P, q, w, x, y, dx, dy, d, rfl, b, rx, ry, e, kk⟩ := h
  cases rx with
  | int i =>
    cases ry with
    | int j =>
      simp only [bi2] at e
      split at e
      · rename_i hb
        cases e
        obtain ⟨t, u, rfl⟩ := Vals.int2 r
        obtain ⟨_, h1, h2⟩ := hb
        have m1 : (max 1 i.natAbs).log2 < 9000 := by
          rcases Nat.le_total 1 i.natAbs with z | z
          · rw [Nat.max_eq_right z]; exact h1
          · rw [Nat.max_eq_left z]; decide
        have m2 : (max i.natAbs j.natAbs).log2 < 9000 := by
          rcases Nat.le_total i.natAbs j.natAbs with z | z
          · rw [Nat.max_eq_right z]; exact h2
          · rw [Nat.max_eq_left z]; exact h1
        have one : (Nat.lcm 1 i.natAbs).lcm j.natAbs = i.natAbs.lcm j.natAbs := by rw [PySem.W.mc_lcm_one]
        refine call_function_meets PySem.W.MGF.kind_lcm PySem.W.MGF.plain_lcm PySem.W.MGF.entry_lcm (PySem.W.MGF.args_lcm _ _) (PySem.W.mg_run_lcm i t j u (by omega) (by omega) (by rw [one]; exact log2_lcm h1 h2)).meets ?_
        rw [one]
        exact ⟨.int _, H, I.tok _, ⟨_, rfl⟩, kk H _ b.refl (.int _)⟩
      · cases e
    | _ => cases e
  | _ => cases ry <;> cases e
section
variable {C : Ctx} {T : Tab} {pl : Bool} {k : Nat}
theorem PS.wk {X : Cx} {st : Stmt} {t t' : TS} (h : PS X st t) (i : ∀ D σ H, t' D σ H → t D σ H) : PS X st t' := ⟨fun pins s σ H D I q => h.run pins s σ H D I (i D σ H q)⟩
theorem tg_tup {N : List Str} {sc : Scope} {tg : List Nat} {pt : Expr} (h : tgB N sc tg pt = true) (h2 : 2 ≤ tg.length) : ∃ a b c, pt = .Tuple a b c := by
  unfold tgB at h
  split at h
  · simp at h2
  · exact ⟨_, _, _, rfl⟩
  · cases h
theorem comp_isL (tg : List Nat) (it : RX.It) (hcn : Bool) (cond elt : E) (ρ : Env) (w : W) (d : D) (w' : W) (h : (evE C (.comp tg it hcn cond elt) ρ).run w = some (d, w')) : ∃ ds, d = .list ds := by
  obtain ⟨xs, w1, exs, ev⟩ := bind_inv h
  obtain ⟨ys, w2, eys, ev⟩ := bind_inv ev
  obtain ⟨rfl, rfl⟩ := pure_inv ev
  exact ⟨_, rfl⟩
theorem comp2_isL (tg tg2 : List Nat) (it it2 : RX.It) (elt : E) (ρ : Env) (w : W) (d : D) (w' : W) (h : (evE C (.comp2 tg it tg2 it2 elt) ρ).run w = some (d, w')) : ∃ ds, d = .list ds := by
  obtain ⟨xs, w1, exs, ev⟩ := bind_inv h
  obtain ⟨ys, w2, eys, ev⟩ := bind_inv ev
  split at ev
  · obtain ⟨rfl, rfl⟩ := pure_inv ev
    exact ⟨_, rfl⟩
  · exact none_inv ev
/-- name = pe, the name of slot i: by a reading -/
def AsgF (X : Cx) (e : E) (pe : Expr) (t : TE) : Prop := ∀ (i : Nat) (x : Str) (px pos : Pos), X.N[i]? = some x → L2.Loc X.env.scope x → (X.fn x = true ∨ X.env.scope.names.lookup x = some .local) → PS X (.Assign [.Name x px] pe pos) (tAsg t (gName i))
theorem sw_or {elt : Expr} {gs : List Comprehension} {scope : Scope} {p px : Pos} {x : Str} {l : Nat} {env : PySem.Env} (hk : env.scope.kind = .function) :
    swapsWith (.ListComp elt gs scope p) (some (.Name x px)) l env = pure false ∨ (env.scope.names.lookup x = some .local ∧ swapsWith (.ListComp elt gs scope p) (some (.Name x px)) l env = pure true) := by
  have hb : env.blockKind = .function := by unfold Env.blockKind; rw [hk]; rfl
  have key : swapsWith (.ListComp elt gs scope p) (some (.Name x px)) l env = pure (env.blockKind == .function && env.kindOf x == some .local && px.line == p.line && !(scope.names.any fun (n, k) => n == x && (k == .local || k == .cell))) := rfl
  rw [key]
  generalize hv : (env.blockKind == .function && env.kindOf x == some .local && px.line == p.line && !(scope.names.any fun (n, k) => n == x && (k == .local || k == .cell))) = b
  cases b with
  | false => exact .inl rfl
  | true =>
    refine .inr ⟨?_, rfl⟩
    simp only [Bool.and_eq_true] at hv
    exact beq_iff_eq.mp hv.1.1.2
/-- a display by a comprehension: its value, and a name set to it -/
theorem comp_all (tg : List Nat) {it : RX.It} (hcn : Bool) {cond elt : E} (hi : OkI C T pl k it) (hc : OkE C T pl k cond) (he : OkE C T pl k elt) (X : Cx) (sc : Scope) (pe : Expr) (xo : XOk X C T k) (sr : ScRel X sc) (h : mtE T pl X.N sc (.comp tg it hcn cond elt) pe = true) :
    PE X pe (tF X.K C pl (.comp tg it hcn cond elt)) ∧ (∀ whole, isTrue pe X.env whole = (do let v ← whole; standAt pe.pos; holding [v] (truthy v))) ∧ (X.env.scope.kind = .function → AsgF X (.comp tg it hcn cond elt) pe (tF X.K C pl (.comp tg it hcn cond elt))) := by
  cases pe <;> first | (simp [mtE] at h; done) | skip
  rename_i pelt gens scope pos
  match gens, h with
  | [], h => simp [mtE] at h
  | _ :: _ :: _, h => simp [mtE] at h
  | [⟨ptg, pit, ifs, asy⟩], h =>
    by_cases ha : asy = 0
    · subst ha
      simp only [mtE, Bool.and_eq_true, Bool.or_eq_true, Bool.not_eq_true', decide_eq_true_eq] at h
      obtain ⟨⟨⟨⟨⟨⟨h0, hit⟩, h1⟩, h2⟩, h3⟩, h4⟩, h5⟩ := h
      have xb : ∀ (s : Shared) (H : Hp) (Cc : Addr) (cl : List (Str × Addr)) (fp : List Addr), XOk (X.blk s H scope (compEnvC scope cl Cc X.env) fp) C T k := fun s H Cc cl fp => xo.blk s H scope _ fp
      have sb : ∀ (s : Shared) (H : Hp) (Cc : Addr) (cl : List (Str × Addr)) (fp : List Addr), ScRel (X.blk s H scope (compEnvC scope cl Cc X.env) fp) scope := fun s H Cc cl fp => ScRel.blk s H Cc cl fp
      have pie : PI X ptg pit (tI X.K C pl it) := hi X sc ptg pit xo sr h3 fun z => by
        rcases hit with e | e
        · rw [e] at z; cases z
        · exact tg_tup h2 e
      have hif : ∀ (s : Shared) (H : Hp) (Cc : Addr) (cl : List (Str × Addr)) (fp : List Addr), PTs (X.blk s H scope (compEnvC scope cl Cc X.env) fp) ifs (ttOf X.K C pl hcn cond) := fun s H Cc cl fp => by
        cases hcn with
        | false =>
          have e : ifs = [] := List.length_eq_zero_iff.mp (by simpa using h4)
          subst e
          exact pts_nil
        | true =>
          match ifs, h4 with
          | [pc], h4 => exact pts_one (hc _ scope pc (xb s H Cc cl fp) (sb s H Cc cl fp) h4).2
          | [], h4 => cases h4
          | _ :: _ :: _, h4 => cases h4
      have hee : ∀ (s : Shared) (H : Hp) (Cc : Addr) (cl : List (Str × Addr)) (fp : List Addr), PE (X.blk s H scope (compEnvC scope cl Cc X.env) fp) pelt (tE X.K C pl elt) := fun s H Cc cl fp => (he _ scope pelt (xb s H Cc cl fp) (sb s H Cc cl fp) h5).1
      obtain ⟨ok, hg, imp⟩ := se_comp (pos := pos) xo sr (by simpa using h0) h1 h2 (mtI_notSet h3) pie hif hee
      have pe := PE.wk (pe_lc (pos := pos) xo.calm xo.nd pie ok hg hif hee (fun x => fold_ok (mtI_notSet h3) x)) imp
      refine ⟨pe, by intro _; rfl, fun hk i x px ps hN hx hf => ?_⟩
      rcases sw_or (elt := pelt) (gs := [⟨ptg, pit, ifs, 0⟩]) (scope := scope) (p := pos) (px := px) (x := x) (l := ps.line) hk with e | ⟨el, e⟩
      · exact ps_set xo.nd hN hx pe e hf
      · exact PS.wk (ps_setLc xo.calm xo.nd hN el e pie ok hg hif hee (fun x => fold_ok (mtI_notSet h3) x)) fun D σ H h => imp σ H _ h
    · exfalso
      have : mtE T pl X.N sc (.comp tg it hcn cond elt) (.ListComp pelt [⟨ptg, pit, ifs, asy⟩] scope pos) = false := by
        unfold mtE
        split
        · rename_i e
          injection e with e1 e2
          injection e2 with e3
          injection e3 with e4 e5 e6 e7
          exact absurd e7 ha
        · rfl
      rw [this] at h
      cases h
theorem ok_comp (tg : List Nat) {it : RX.It} (hcn : Bool) {cond elt : E} (hi : OkI C T pl k it) (hc : OkE C T pl k cond) (he : OkE C T pl k elt) : OkE C T pl k (.comp tg it hcn cond elt) := fun X sc pe xo sr h => by
  obtain ⟨h1, h2, _⟩ := comp_all tg hcn hi hc he X sc pe xo sr h
  exact .val (PE.wk h1 fun σ H Q h => tF_of (comp_isL tg it hcn cond elt) h) h2
theorem comp2_all (tg tg2 : List Nat) {it it2 : RX.It} {elt : E} (hi : OkI C T pl k it) (hi2 : OkI C T pl k it2) (he : OkE C T pl k elt) (X : Cx) (sc : Scope) (pe : Expr) (xo : XOk X C T k) (sr : ScRel X sc) (h : mtE T pl X.N sc (.comp2 tg it tg2 it2 elt) pe = true) :
    PE X pe (tF X.K C pl (.comp2 tg it tg2 it2 elt)) ∧ (∀ whole, isTrue pe X.env whole = (do let v ← whole; standAt pe.pos; holding [v] (truthy v))) ∧ (X.env.scope.kind = .function → AsgF X (.comp2 tg it tg2 it2 elt) pe (tF X.K C pl (.comp2 tg it tg2 it2 elt))) := by
  unfold mtE at h
  split at h
  · rename_i pelt ptg pit ptg2 pit2 scope pos
    simp only [Bool.and_eq_true, Bool.or_eq_true, Bool.not_eq_true', decide_eq_true_eq] at h
    obtain ⟨⟨⟨⟨⟨⟨⟨⟨h0, hit⟩, hit2⟩, h1⟩, h2⟩, h3⟩, h4⟩, h5⟩, h6⟩ := h
    have pie : PI X ptg pit (tI X.K C pl it) := hi X sc ptg pit xo sr h4 fun z => by
      rcases hit with e | e
      · rw [e] at z; cases z
      · exact tg_tup h2 e
    have xb : ∀ (s : Shared) (H : Hp) (Cc : Addr) (cl : List (Str × Addr)) (fp : List Addr), XOk (X.blk s H scope (compEnvC scope cl Cc X.env) fp) C T k := fun s H Cc cl fp => xo.blk s H scope _ fp
    have sb : ∀ (s : Shared) (H : Hp) (Cc : Addr) (cl : List (Str × Addr)) (fp : List Addr), ScRel (X.blk s H scope (compEnvC scope cl Cc X.env) fp) scope := fun s H Cc cl fp => ScRel.blk s H Cc cl fp
    have hi2' : ∀ (s : Shared) (H : Hp) (Cc : Addr) (cl : List (Str × Addr)) (fp : List Addr), PI (X.blk s H scope (compEnvC scope cl Cc X.env) fp) ptg2 pit2 (tI X.K C pl it2) := fun s H Cc cl fp => hi2 _ scope ptg2 pit2 (xb s H Cc cl fp) (sb s H Cc cl fp) h5 fun z => by
      rcases hit2 with e | e
      · rw [e] at z; cases z
      · exact tg_tup h3 e
    have hee : ∀ (s : Shared) (H : Hp) (Cc : Addr) (cl : List (Str × Addr)) (fp : List Addr), PE (X.blk s H scope (compEnvC scope cl Cc X.env) fp) pelt (tE X.K C pl elt) := fun s H Cc cl fp => (he _ scope pelt (xb s H Cc cl fp) (sb s H Cc cl fp) h6).1
    obtain ⟨ok, hv, imp⟩ := se_comp2 (pos := pos) xo sr (by simpa using h0) h1 h2 h3 (mtI_notSet h4) (mtI_notSet h5) pie hi2' hee
    have g1 : ∀ (s : Shared) (H : Hp) (Cc : Addr) (cl : List (Str × Addr)) (fp : List Addr), PG (X.blk s H scope (compEnvC scope cl Cc X.env) fp) ptg (gT X.K tg) := fun s H Cc cl fp => sg (ScRel.blk s H Cc cl fp) xo.nd xo.calm h2
    have g2 : ∀ (s : Shared) (H : Hp) (Cc : Addr) (cl : List (Str × Addr)) (fp : List Addr), PG (X.blk s H scope (compEnvC scope cl Cc X.env) fp) ptg2 (gT X.K tg2) := fun s H Cc cl fp => sg (ScRel.blk s H Cc cl fp) xo.nd xo.calm h3
    have pe := PE.wk (pe_lc2 (pos := pos) (vs1 := tg2) (g := gT X.K tg) (g1 := gT X.K tg2) xo.calm xo.nd pie ok hv g1 (fun _ _ _ _ _ => pts_nil) hi2' g2 (fun _ _ _ _ _ => pts_nil) hee (fun x => fold_ok (mtI_notSet h4) x) (fun env x => fold_ok (mtI_notSet h5) x)) imp
    refine ⟨pe, by intro _; rfl, fun hk i x px ps hN hx hf => ?_⟩
    rcases sw_or (elt := pelt) (gs := [⟨ptg, pit, [], 0⟩, ⟨ptg2, pit2, [], 0⟩]) (scope := scope) (p := pos) (px := px) (x := x) (l := ps.line) hk with e | ⟨el, e⟩
    · exact ps_set xo.nd hN hx pe e hf
    · exact PS.wk (ps_setLc2 (vs1 := tg2) (g := gT X.K tg) (g1 := gT X.K tg2) xo.calm xo.nd hN el e pie ok hv g1 (fun _ _ _ _ _ => pts_nil) hi2' g2 (fun _ _ _ _ _ => pts_nil) hee (fun x => fold_ok (mtI_notSet h4) x) (fun env x => fold_ok (mtI_notSet h5) x)) fun D σ H h => imp σ H _ h
  · cases h
theorem ok_comp2 (tg tg2 : List Nat) {it it2 : RX.It} {elt : E} (hi : OkI C T pl k it) (hi2 : OkI C T pl k it2) (he : OkE C T pl k elt) : OkE C T pl k (.comp2 tg it tg2 it2 elt) := fun X sc pe xo sr h => by
  obtain ⟨h1, h2, _⟩ := comp2_all tg tg2 hi hi2 he X sc pe xo sr h
  exact .val (PE.wk h1 fun σ H Q h => tF_of (comp2_isL tg tg2 it it2 elt) h) h2
theorem sw_orD {kx vx : Expr} {gs : List Comprehension} {scope : Scope} {p px : Pos} {x : Str} {l : Nat} {env : PySem.Env} (hk : env.scope.kind = .function) :
    swapsWith (.DictComp kx vx gs scope p) (some (.Name x px)) l env = pure false ∨ (env.scope.names.lookup x = some .local ∧ swapsWith (.DictComp kx vx gs scope p) (some (.Name x px)) l env = pure true) := by
  have hb : env.blockKind = .function := by unfold Env.blockKind; rw [hk]; rfl
  have key : swapsWith (.DictComp kx vx gs scope p) (some (.Name x px)) l env = pure (env.blockKind == .function && env.kindOf x == some .local && px.line == p.line && !(scope.names.any fun (n, k) => n == x && (k == .local || k == .cell))) := rfl
  rw [key]
  generalize hv : (env.blockKind == .function && env.kindOf x == some .local && px.line == p.line && !(scope.names.any fun (n, k) => n == x && (k == .local || k == .cell))) = b
  cases b with
  | false => exact .inl rfl
  | true =>
    refine .inr ⟨?_, rfl⟩
    simp only [Bool.and_eq_true] at hv
    exact beq_iff_eq.mp hv.1.1.2
theorem dcomp_all (tg : List Nat) {it : RX.It} (hcn : Bool) {cond key val : E} (hi : OkI C T pl k it) (hc : OkE C T pl k cond) (hkk : OkE C T pl k key) (hvv : OkE C T pl k val) (X : Cx) (sc : Scope) (pe : Expr) (xo : XOk X C T k) (sr : ScRel X sc) (h : mtE T pl X.N sc (.dcomp tg it hcn cond key val) pe = true) :
    PE X pe (tE X.K C pl (.dcomp tg it hcn cond key val)) ∧ (∀ whole, isTrue pe X.env whole = (do let v ← whole; standAt pe.pos; holding [v] (truthy v))) ∧ (X.env.scope.kind = .function → AsgF X (.dcomp tg it hcn cond key val) pe (tE X.K C pl (.dcomp tg it hcn cond key val))) := by
  unfold mtE at h
  split at h
  · rename_i pkey pval ptg pit ifs scope pos
    simp only [Bool.and_eq_true, Bool.or_eq_true, Bool.not_eq_true', decide_eq_true_eq] at h
    obtain ⟨⟨⟨⟨⟨⟨⟨h0, hit⟩, h1⟩, h2⟩, h3⟩, h4⟩, h5⟩, h6⟩ := h
    have xb : ∀ (s : Shared) (H : Hp) (Cc : Addr) (cl : List (Str × Addr)) (fp : List Addr), XOk (X.blk s H scope (compEnvC scope cl Cc X.env) fp) C T k := fun s H Cc cl fp => xo.blk s H scope _ fp
    have sb : ∀ (s : Shared) (H : Hp) (Cc : Addr) (cl : List (Str × Addr)) (fp : List Addr), ScRel (X.blk s H scope (compEnvC scope cl Cc X.env) fp) scope := fun s H Cc cl fp => ScRel.blk s H Cc cl fp
    have pie : PI X ptg pit (tI X.K C pl it) := hi X sc ptg pit xo sr h3 fun z => by
      rcases hit with e | e
      · rw [e] at z; cases z
      · exact tg_tup h2 e
    have hif : ∀ (s : Shared) (H : Hp) (Cc : Addr) (cl : List (Str × Addr)) (fp : List Addr), PTs (X.blk s H scope (compEnvC scope cl Cc X.env) fp) ifs (ttOf X.K C pl hcn cond) := fun s H Cc cl fp => by
      cases hcn with
      | false =>
        have e : ifs = [] := List.length_eq_zero_iff.mp (by simpa using h4)
        subst e
        exact pts_nil
      | true =>
        match ifs, h4 with
        | [pc], h4 => exact pts_one (hc _ scope pc (xb s H Cc cl fp) (sb s H Cc cl fp) h4).2
        | [], h4 => cases h4
        | _ :: _ :: _, h4 => cases h4
    obtain ⟨ok, pb, imp⟩ := se_dcomp (pos := pos) xo sr (by simpa using h0) h1 h2 (mtI_notSet h3) pie hif (fun s H Cc cl fp => (hkk _ scope pkey (xb s H Cc cl fp) (sb s H Cc cl fp) h5).1) (fun s H Cc cl fp => (hvv _ scope pval (xb s H Cc cl fp) (sb s H Cc cl fp) h6).1)
    have pe := PE.wk (pe_dcc (pos := pos) xo.hu1 xo.calm xo.nd pie ok pb (fun x => fold_ok (mtI_notSet h3) x)) imp
    refine ⟨pe, by intro _; rfl, fun hk i x px ps hN hx hf => ?_⟩
    rcases sw_orD (kx := pkey) (vx := pval) (gs := [⟨ptg, pit, ifs, 0⟩]) (scope := scope) (p := pos) (px := px) (x := x) (l := ps.line) hk with e | ⟨el, e⟩
    · exact ps_set xo.nd hN hx pe e hf
    · exact PS.wk (ps_setDcc xo.hu1 xo.calm xo.nd hN el e pie ok pb (fun x => fold_ok (mtI_notSet h3) x)) fun D σ H h => imp σ H _ h
  · cases h
theorem ok_dcomp (tg : List Nat) {it : RX.It} (hcn : Bool) {cond key val : E} (hi : OkI C T pl k it) (hc : OkE C T pl k cond) (hkk : OkE C T pl k key) (hvv : OkE C T pl k val) : OkE C T pl k (.dcomp tg it hcn cond key val) := fun X sc pe xo sr h => by
  obtain ⟨h1, h2, _⟩ := dcomp_all tg hcn hi hc hkk hvv X sc pe xo sr h
  exact .val h1 h2
theorem ok_seq {e : E} (he : OkE C T pl k e) : OkI C T pl k (.seq e) := fun X sc tg pe xo sr h _ => si_seq (he X sc pe xo sr (by simpa only [mtI] using h)).1
theorem ok_rng {a : E} (ha : OkE C T pl k a) : OkI C T pl k (.rng a) := fun X sc tg pe xo sr h _ => by
  unfold mtI at h
  split at h
  · simp only [Bool.and_eq_true, decide_eq_true_eq] at h
    obtain ⟨⟨⟨rfl, h1⟩, h2⟩, h3⟩ := h
    exact si_rng (sr.gl _ h2) (xo.bl _ h1) (mtE_unstar T pl X.N h3) (ha X sc _ xo sr h3).1
  · cases h
theorem ok_rng2 {a b : E} (ha : OkE C T pl k a) (hb : OkE C T pl k b) : OkI C T pl k (.rng2 a b) := fun X sc tg pe xo sr h _ => by
  unfold mtI at h
  split at h
  · simp only [Bool.and_eq_true, decide_eq_true_eq] at h
    obtain ⟨⟨⟨⟨rfl, h1⟩, h2⟩, h3⟩, h4⟩ := h
    exact si_rng2 (sr.gl _ h2) (xo.bl _ h1) (mtE_unstar T pl X.N h3) (mtE_unstar T pl X.N h4) (ha X sc _ xo sr h3).1 (hb X sc _ xo sr h4).1
  · cases h
theorem ok_enum {a : E} (ha : OkE C T pl k a) : OkI C T pl k (.enum a) := fun X sc tg pe xo sr h ht => by
  obtain ⟨t1, t2, t3, rfl⟩ := ht rfl
  unfold mtI at h
  split at h
  · simp only [Bool.and_eq_true, decide_eq_true_eq] at h
    obtain ⟨⟨⟨rfl, h1⟩, h2⟩, h3⟩ := h
    exact si_enum (sr.gl _ h2) (xo.bl _ h1) (mtE_unstar T pl X.N h3) (ha X sc _ xo sr h3).1
  · cases h
theorem ok_zip {a b : E} (ha : OkE C T pl k a) (hb : OkE C T pl k b) : OkI C T pl k (.zip a b) := fun X sc tg pe xo sr h ht => by
  obtain ⟨t1, t2, t3, rfl⟩ := ht rfl
  unfold mtI at h
  split at h
  · simp only [Bool.and_eq_true, decide_eq_true_eq] at h
    obtain ⟨⟨⟨⟨rfl, h1⟩, h2⟩, h3⟩, h4⟩ := h
    exact si_zip (sr.gl _ h2) (xo.bl _ h1) (mtE_unstar T pl X.N h3) (mtE_unstar T pl X.N h4) (ha X sc _ xo sr h3).1 (hb X sc _ xo sr h4).1
  · cases h
theorem ok_nil : OkL C T pl k .nil := by
  refine ⟨fun X sc ps xo sr h => ?_, fun X sc ps xo sr h => ?_⟩
  · cases ps with
    | nil => exact sl_nil
    | cons _ _ => simp [mtL] at h
  · cases ps with
    | nil => exact sk_nil
    | cons _ _ => simp [mtK] at h
theorem ok_cons {e : E} {es : EL} (he : OkE C T pl k e) (hs : OkL C T pl k es) : OkL C T pl k (.cons e es) := by
  refine ⟨fun X sc ps xo sr h => ?_, fun X sc ps xo sr h => ?_⟩
  · cases ps with
    | nil => simp [mtL] at h
    | cons p r =>
      simp only [mtL, Bool.and_eq_true] at h
      exact sl_cons (he X sc p xo sr h.1).1 (hs.1 X sc r xo sr h.2) (star_cons (mtE_unstar T pl X.N h.1))
  · cases ps with
    | nil => simp [mtK] at h
    | cons p r =>
      obtain ⟨nm, pe, kp⟩ := p
      simp only [mtK, Bool.and_eq_true] at h
      exact sk_cons (he X sc pe xo sr h.1).1 (hs.2 X sc r xo sr h.2)
mutual
theorem okE : ∀ e : E, OkE C T pl k e
  | .loc i => ok_loc i
  | .cst d => ok_cst d
  | .glb j => ok_glb j
  | .bin o a b => ok_bin o (okE a) (okE b)
  | .neg a => ok_neg (okE a)
  | .not a => ok_not (okE a)
  | .and a b => ok_and (okE a) (okE b)
  | .or a b => ok_or (okE a) (okE b)
  | .cmp o a b => ok_cmp o (okE a) (okE b)
  | .chain o p a b c => ok_chain o p (okE a) (okE b) (okE c)
  | .ite c a b => ok_ite (okE c) (okE a) (okE b)
  | .tup es => ok_tup (okL es)
  | .lst es => ok_lst (okL es)
  | .idx a b => ok_idx (okE a) (okE b)
  | .slc hl hh a lo hi => ok_slc hl hh (okE a) (okE lo) (okE hi)
  | .ed => ok_ed
  | .rev a => ok_rev (okE a)
  | .call p j es kw => ok_call p j es kw (okL es)
  | .b1 b a => ok_b1 b (okE a)
  | .b2 b a c => ok_b2 b (okE a) (okE c) crD_lcm
  | .isi a t => ok_isi t (okE a)
  | .comp tg it hc cond elt => ok_comp tg hc (okI it) (okE cond) (okE elt)
  | .comp2 tg it tg2 it2 elt => ok_comp2 tg tg2 (okI it) (okI it2) (okE elt)
  | .dcomp tg it hc cond key val => ok_dcomp tg hc (okI it) (okE cond) (okE key) (okE val)
  | .dget a kx z => ok_dget (okE a) (okE kx) (okE z)
  | .m0 m a => ok_m0 m (okE a)
theorem okI : ∀ it : RX.It, OkI C T pl k it
  | .seq e => ok_seq (okE e)
  | .rng a => ok_rng (okE a)
  | .rng2 a b => ok_rng2 (okE a) (okE b)
  | .enum e => ok_enum (okE e)
  | .zip a b => ok_zip (okE a) (okE b)
theorem okL : ∀ es : EL, OkL C T pl k es
  | .nil => ok_nil
  | .cons e es => ok_cons (okE e) (okL es)
end
end
end RX

-- RX12
set_option Elab.async false
set_option linter.all false
set_option maxRecDepth 100000
set_option maxHeartbeats 4000000
/-! RX12: statements of the small syntax: what they mean, how they lie in the text. -/
namespace RX
open PySem PySem.Spec PyProof.Rows L2
/-- names by slot: is the value a list that only this name holds; the value -/
abbrev Env2 := List (Option (Bool × D))
def get2 (ρ : Env2) (i : Nat) : Option (Bool × D) := (ρ[i]?).join
def visO : Option (Bool × D) → Option D
  | some (false, d) => some d
  | _ => none
def allO : Option (Bool × D) → Option D
  | some (_, d) => some d
  | none => none
def visE (ρ : Env2) : Env := ρ.map visO
def allE (ρ : Env2) : Env := ρ.map allO
def rdE (dirty : Bool) (ρ : Env2) : Env := if dirty then allE ρ else visE ρ
def setAll2 : List Nat → List D → Env2 → Option Env2
  | [], [], ρ => some ρ
  | i :: is, x :: xs, ρ => setAll2 is xs (ρ.set i (some (false, x)))
  | _, _, _ => none
def bindT2 (tg : List Nat) (x : D) (ρ : Env2) : Option Env2 :=
  match tg with
  | [i] => some (ρ.set i (some (false, x)))
  | _ => match x with
    | .tuple xs => setAll2 tg xs ρ
    | .list xs => setAll2 tg xs ρ
    | _ => none
def listAt (ρ : Env2) (i : Nat) : Option (List D) := match get2 ρ i with
  | some (true, .list xs) => some xs
  | _ => none
mutual
inductive S where
  | asg (dirty : Bool) (i : Nat) (e : E)
  | new (i : Nat) (e : E)
  | free (i : Nat)
  | asgT (dirty : Bool) (is : List Nat) (e : E)
  | par (dirty : Bool) (is : List Nat) (es : EL)
  | parN (is : List Nat) (i : Nat) (es : EL) (e : E)
  | app (dirty : Bool) (i : Nat) (e : E)
  | ext (dirty : Bool) (i : Nat) (e : E)
  | ins (dirty : Bool) (i : Nat) (k e : E)
  | setIx (dirty : Bool) (i : Nat) (k e : E)
  | popT (is : List Nat) (i : Nat) (k : E)
  | ite (c : E) (a b : SL)
  | «for» (tg : List Nat) (it : RX.It) (b : SL)
  | whl (n : Nat) (c : E) (b : SL)
  | ret (e : E)
  | retN
  | stuck
  | expr (e : E)
  | pass
  | brk
  | cont
inductive SL where
  | nil
  | cons (s : S) (ss : SL)
end
inductive Out where
  | next (ρ : Env2)
  | ret (d : D)
  | brk (ρ : Env2)
  | cont (ρ : Env2)
def forM (f : D → Env2 → M Out) : List D → Env2 → M Out
  | [], ρ => pure (.next ρ)
  | x :: r, ρ => do
    match ← f x ρ with
    | .next ρ' => forM f r ρ'
    | .cont ρ' => forM f r ρ'
    | .brk ρ' => pure (.next ρ')
    | .ret d => pure (.ret d)
def whileM (c : Env2 → M Bool) (b : Env2 → M Out) : Nat → Env2 → M Out
  | 0, _ => lift none
  | n + 1, ρ => do
    if ← c ρ then (do
      match ← b ρ with
      | .next ρ' => whileM c b n ρ'
      | .cont ρ' => whileM c b n ρ'
      | .brk ρ' => pure (.next ρ')
      | .ret d => pure (.ret d)) else pure (.next ρ)
variable (C : Ctx)
mutual
def evS : S → Env2 → M Out
  | .asg dirty i e, ρ => do
    let x ← evE C e (rdE dirty ρ)
    if !dirty || noL x then pure (.next (ρ.set i (some (false, x)))) else lift none
  | .new i e, ρ => do
    let x ← evE C e (visE ρ)
    match x with
    | .list xs => pure (.next (ρ.set i (some (true, .list xs))))
    | _ => lift none
  | .free i, ρ => pure (.next (match get2 ρ i with
    | some (_, x) => ρ.set i (some (false, x))
    | none => ρ))
  | .asgT dirty is e, ρ => do
    let x ← evE C e (rdE dirty ρ)
    match x with
    | .tuple xs => if !dirty || noLs xs then (do
      let ρ' ← lift (setAll2 is xs ρ)
      pure (.next ρ')) else lift none
    | _ => lift none
  | .par dirty is es, ρ => do
    let xs ← evL C es (rdE dirty ρ)
    if !dirty || noLs xs then (do
      let ρ' ← lift (setAll2 is xs ρ)
      pure (.next ρ')) else lift none
  | .parN is i es e, ρ => do
    let xs ← evL C es (visE ρ)
    let x ← evE C e (visE ρ)
    let ρ' ← lift (setAll2 is xs ρ)
    match x with
    | .list ys => pure (.next (ρ'.set i (some (true, .list ys))))
    | _ => lift none
  | .app dirty i e, ρ => do
    let x ← evE C e (rdE dirty ρ)
    let xs ← lift (listAt ρ i)
    if (!dirty || noL x) && decide (xs.length < sizeLine) then pure (.next (ρ.set i (some (true, .list (xs ++ [x]))))) else lift none
  | .ext dirty i e, ρ => do
    let x ← evE C e (rdE dirty ρ)
    let xs ← lift (listAt ρ i)
    match x with
    | .list ys => if (!dirty || noLs ys) && decide (xs.length + ys.length ≤ sizeLine) then pure (.next (ρ.set i (some (true, .list (xs ++ ys))))) else lift none
    | _ => lift none
  | .ins dirty i k e, ρ => do
    let n ← evE C k (rdE dirty ρ)
    let x ← evE C e (rdE dirty ρ)
    let n ← lift (asInt n)
    let xs ← lift (listAt ρ i)
    if (!dirty || noL x) && decide (xs.length < sizeLine ∧ 0 ≤ n ∧ n < 2 ^ 63) then pure (.next (ρ.set i (some (true, .list (xs.take n.toNat ++ [x] ++ xs.drop n.toNat))))) else lift none
  | .setIx dirty i k e, ρ => do
    let x ← evE C e (rdE dirty ρ)
    let n ← evE C k (rdE dirty ρ)
    let n ← lift (asInt n)
    let xs ← lift (listAt ρ i)
    match L2.ixN xs.length n with
    | some j => if !dirty || noL x then pure (.next (ρ.set i (some (true, .list (xs.set j x))))) else lift none
    | none => lift none
  | .popT is i k, ρ => do
    let n ← evE C k (allE ρ)
    let n ← lift (asInt n)
    let xs ← lift (listAt ρ i)
    if 0 ≤ n ∧ n < 2 ^ 63 then (do
      let y ← lift xs[n.toNat]?
      let ρ' ← lift (bindT2 is y (ρ.set i (some (true, .list (xs.eraseIdx n.toNat)))))
      pure (.next ρ')) else lift none
  | .ite c a b, ρ => do
    if ← evT C c (allE ρ) then evSL a ρ else evSL b ρ
  | .for tg it b, ρ => do
    let xs ← evIt C it (visE ρ)
    forM (fun x ρ => do
      let ρ' ← lift (bindT2 tg x ρ)
      evSL b ρ') xs ρ
  | .whl n c b, ρ => whileM (fun ρ => evT C c (allE ρ)) (evSL b) n ρ
  | .ret e, ρ => do
    let x ← evE C e (allE ρ)
    pure (.ret x)
  | .retN, _ => pure (.ret .none)
  | .stuck, _ => lift none
  | .expr e, ρ => do
    let _ ← evE C e (allE ρ)
    pure (.next ρ)
  | .pass, ρ => pure (.next ρ)
  | .brk, ρ => pure (.brk ρ)
  | .cont, ρ => pure (.cont ρ)
def evSL : SL → Env2 → M Out
  | .nil, ρ => pure (.next ρ)
  | .cons s ss, ρ => do
    match ← evS s ρ with
    | .next ρ' => evSL ss ρ'
    | .brk ρ' => pure (.brk ρ')
    | .cont ρ' => pure (.cont ρ')
    | .ret d => pure (.ret d)
end
/-- a def's names at its entry: pl: its first parameter is the pool; n: names in all -/
def env0 (pl : Bool) (n : Nat) (args : List D) : Env2 :=
  let ρ : Env2 := (if pl then [none] else []) ++ args.map fun d => some (false, d)
  ρ ++ List.replicate (n - ρ.length) none
def runD (pl : Bool) (n : Nat) (b : SL) (args : List D) : M D := do
  match ← evSL C b (env0 pl n args) with
  | .next _ => pure .none
  | .ret d => pure d
  | _ => lift none

/-! ### the check -/
def isLC : Expr → Bool
  | .ListComp .. => true
  | .SetComp .. => true
  | .DictComp .. => true
  | _ => false
def isCo : E → Bool
  | .comp .. => true
  | .comp2 .. => true
  | .dcomp .. => true
  | _ => false
def isNew : E → Bool
  | .bin .add _ _ => true
  | .lst _ => true
  | .comp .. => true
  | .comp2 .. => true
  | .b1 .list _ => true
  | _ => false
/-- the order of the stores of a written tuple (as the machine has it) -/
def swF (sc : Scope) (ts vs : List Expr) : Option (Option (List Str)) :=
  if !(ts.length == 2 || ts.length == 3) || vs.length != ts.length then some none else
  if vs.any (fun | .Starred .. => true | _ => false) then some none else
  let line := (ts.head?.map (·.pos.line)).getD 0
  let names := ts.filterMap fun
    | .Name id pos => if sc.names.lookup id == some .local && pos.line == line then some id else none
    | _ => none
  if names.length != ts.length || names.eraseDups.length != names.length then some none else
  if vs.all (foldedForSure 8) then some none else
  if vs.all (constantsAlone 8) then none else some (some names)
def swP (sc : Scope) (pt pe : Expr) : Option (Option (List Str)) :=
  match pt, pe with
  | .Tuple ts _ _, .Tuple vs _ _ => swF sc ts vs
  | .Tuple _ _ _, _ => some none
  | _, _ => none
variable (T : Tab) (pl : Bool) (N : List Str)
def slotOk (i : Nat) : Bool := !pl || i != 0
def nameIs (sc : Scope) (i : Nat) (x : Str) : Bool := decide (N[i]? = some x) && locB sc x && visB sc x && plainName x
def methB (sc : Scope) (i : Nat) (m : Str) : Expr → Option (List Expr)
  | .Call (.Attribute (.Name x _) m' ap) ps [] cp => if nameIs N sc i x && decide (m = m') && (ap.endLine == cp.line) then some ps else none
  | _ => none
def isFree : S → Bool
  | .free _ => true
  | _ => false
def mtN (sc : Scope) : EL → E → List Expr → Bool
  | .nil, e, ps => match ps with
    | [pe] => mtE T pl N sc e pe
    | _ => false
  | .cons e es, e', ps => match ps with
    | p :: r => mtE T pl N sc e p && mtN sc es e' r
    | _ => false
mutual
def mtS (sc : Scope) : S → Stmt → Bool
  | .asg _ i e, st => match st with
    | .Assign [.Name x _] pe _ => slotOk pl i && nameIs N sc i x && mtE T pl N sc e pe && (isCo e || !isLC pe)
    | _ => false
  | .new i e, st => match st with
    | .Assign [.Name x _] pe _ => slotOk pl i && nameIs N sc i x && mtE T pl N sc e pe && (isCo e || !isLC pe) && isNew e
    | _ => false
  | .free _, _ => false
  | .asgT _ is e, st => match st with
    | .Assign [.Tuple ts a b] pe _ => is.all (slotOk pl) && tgB N sc is (.Tuple ts a b) && mtE T pl N sc e pe && (match swP sc (.Tuple ts a b) pe with | some none => true | _ => false)
    | _ => false
  | .par _ is es, st => match st with
    | .Assign [.Tuple ts a b] (.Tuple ps c d) _ => is.all (slotOk pl) && decide is.Nodup && tgB N sc is (.Tuple ts a b) && mtL T pl N sc es ps && (match swF sc ts ps with | some (some _) => true | _ => false)
    | _ => false
  | .parN is i es e, st => match st with
    | .Assign [.Tuple ts a b] (.Tuple ps c d) _ => (is ++ [i]).all (slotOk pl) && decide (is ++ [i]).Nodup && tgB N sc (is ++ [i]) (.Tuple ts a b) && isNew e && mtN T pl N sc es e ps && (swF sc ts ps).isSome && decide (ps.length ≤ 16)
    | _ => false
  | .app _ i e, st => match st with
    | .Expr pc _ => (match methB N sc i "append" pc with
      | some [pe] => mtE T pl N sc e pe
      | _ => false)
    | _ => false
  | .ext _ _ _, _ => false
  | .ins _ i k e, st => match st with
    | .Expr pc _ => (match methB N sc i "insert" pc with
      | some [pk, pe] => mtE T pl N sc k pk && mtE T pl N sc e pe
      | _ => false)
    | _ => false
  | .setIx _ i k e, st => match st with
    | .Assign [.Subscript (.Name x _) pk _] pe _ => nameIs N sc i x && mtE T pl N sc k pk && mtE T pl N sc e pe
    | _ => false
  | .popT is i k, st => match st with
    | .Assign [.Tuple ts a b] pc _ => is.all (slotOk pl) && tgB N sc is (.Tuple ts a b) && (match methB N sc i "pop" pc with
      | some [pk] => mtE T pl N sc k pk
      | _ => false)
    | _ => false
  | .ite c a b, st => match st with
    | .If pc ps qs _ => mtE T pl N sc c pc && mtSL sc a ps && mtSL sc b qs
    | _ => false
  | .for tg it b, st => match st with
    | .For pt pi ps [] _ => tg.all (slotOk pl) && tgB N sc tg pt && mtI T pl N sc it pi && (!itTup it || decide (2 ≤ tg.length)) && mtSL sc b ps
    | _ => false
  | .whl _ c b, st => match st with
    | .While pc ps [] _ => mtE T pl N sc c pc && mtSL sc b ps
    | _ => false
  | .ret e, st => match st with
    | .Return (some pe) _ => mtE T pl N sc e pe
    | _ => false
  | .retN, st => match st with
    | .Return none _ => true
    | _ => false
  | .stuck, _ => true
  | .expr e, st => match st with
    | .Expr pe _ => mtE T pl N sc e pe && !isLC pe
    | _ => false
  | .pass, st => match st with
    | .Pass _ => true
    | _ => false
  | .brk, st => match st with
    | .Break _ => true
    | _ => false
  | .cont, st => match st with
    | .Continue _ => true
    | _ => false
def mtSL (sc : Scope) : SL → List Stmt → Bool
  | .nil, sts => match sts with
    | [] => true
    | _ => false
  | .cons s ss, sts => if isFree s then mtSL sc ss sts else match sts with
    | st :: r => mtS sc s st && mtSL sc ss r
    | [] => false
end
end RX

-- RX13
set_option Elab.async false
set_option linter.all false
set_option maxRecDepth 100000
set_option maxHeartbeats 4000000
/-! RX13: the situation between statements. -/
namespace RX
open PySem PySem.Spec PyProof.Rows L2
variable [PWd]
theorem get2_set {ρ : Env2} {i j : Nat} {d : Option (Bool × D)} : get2 (ρ.set i d) j = if i = j ∧ i < ρ.length then d else get2 ρ j := by
  unfold get2
  rw [List.getElem?_set]
  by_cases e : i = j
  · subst e
    by_cases h : i < ρ.length
    · simp [h]
    · simp [h]
  · simp [e]
theorem getv_map {f : Option (Bool × D) → Option D} (hf : f none = none) (ρ : Env2) (i : Nat) : getv (ρ.map f) i = f (get2 ρ i) := by
  unfold getv get2
  rw [List.getElem?_map]
  cases ρ[i]? with
  | none => exact hf.symm
  | some o => rfl
def adr (ow : List (Nat × Addr)) (P0 : List Addr) : List Addr := ow.map (·.2) ++ P0
/-- a list that only slot i holds -/
def Own (K : PySem.W.Frag) (ow : List (Nat × Addr)) (P0 : List Addr) (H : Hp) (i : Nat) (v : V) (d : D) : Prop :=
  ∃ a xs ds, v = .ref a ∧ (i, a) ∈ ow ∧ d = .list ds ∧ H a = some (.lst xs) ∧ xs.length ≤ sizeLine ∧ RpAll K (hide H (adr ow P0)) xs ds
structure SR (K : PySem.W.Frag) (pl : Bool) (P0 : List Addr) (q : Option Addr) (H0 : Hp) (ρ : Env2) (w : W) (ow : List (Nat × Addr)) (σ : L2.St) (H : Hp) : Prop where
  b : Bs (adr ow P0) q w H
  q0 : ∀ a, q = some a → a ∈ P0
  tr0 : ∀ a ∈ P0, H0 a ≠ none
  isP : q.isSome = pl
  at0 : ∀ a, q = some a → σ[0]? = some (some (.ref a))
  keep : ∀ a o, some a ≠ q → H0 a = some o → H a = some o
  fr : ∀ p ∈ ow, H0 p.2 = none
  ls : ∀ p ∈ ow, ∃ xs, H p.2 = some (.lst xs)
  inj : ∀ p ∈ ow, ∀ p' ∈ ow, p.2 = p'.2 → p.1 = p'.1
  vis : ∀ i d, get2 ρ i = some (false, d) → ∃ v, σ[i]? = some (some v) ∧ Rp K (hide H (adr ow P0)) v d
  own : ∀ i d, get2 ρ i = some (true, d) → ∃ v, σ[i]? = some (some v) ∧ Own K ow P0 H i v d
  ln : ρ.length ≤ σ.length
section
variable {K : PySem.W.Frag} {pl : Bool} {P0 : List Addr} {q : Option Addr} {H0 H H' : Hp} {ρ : Env2} {w w' : W} {ow : List (Nat × Addr)} {σ : L2.St}
theorem adr_mem {a : Addr} : a ∈ adr ow P0 ↔ (∃ i, (i, a) ∈ ow) ∨ a ∈ P0 := by
  unfold adr
  rw [List.mem_append, List.mem_map]
  exact ⟨fun h => h.imp (fun ⟨⟨i, b⟩, h1, h2⟩ => ⟨i, by cases h2; exact h1⟩) id, fun h => h.imp (fun ⟨i, h⟩ => ⟨_, h, rfl⟩) id⟩
theorem SR.nP0 (s : SR K pl P0 q H0 ρ w ow σ H) {i : Nat} {a : Addr} (h : (i, a) ∈ ow) : a ∉ P0 := fun z => s.tr0 a z (s.fr _ h)
theorem SR.nq (s : SR K pl P0 q H0 ρ w ow σ H) {i : Nat} {a : Addr} (h : (i, a) ∈ ow) : some a ≠ q := fun z => s.nP0 h (s.q0 a z.symm)
theorem SR.b0 (s : SR K pl P0 q H0 ρ w ow σ H) : Bs P0 q w H := ⟨fun a ha => s.b.tr a (adr_mem.mpr (.inr ha)), fun a e => ⟨s.q0 a e, (s.b.pool a e).2⟩⟩
theorem hide_adr (H : Hp) (ow : List (Nat × Addr)) (P0 : List Addr) : Same (hide H (adr ow P0)) (hide H P0) := hide_mono fun a ha => adr_mem.mpr (.inr ha)
/-- an expression that does not read the own lists -/
theorem SR.sitV (s : SR K pl P0 q H0 ρ w ow σ H) : Sit K pl (adr ow P0) q (visE ρ) w σ H := by
  refine ⟨s.b, s.isP, s.at0, fun i d e => ?_, by unfold visE; rw [List.length_map]; exact s.ln⟩
  unfold visE at e
  rw [getv_map (by rfl)] at e
  cases g : get2 ρ i with
  | none => rw [g] at e; cases e
  | some p =>
    obtain ⟨o, d'⟩ := p
    rw [g] at e
    cases o with
    | true => cases e
    | false => cases e; exact s.vis i _ g
/-- an expression that reads all -/
theorem SR.sitA (s : SR K pl P0 q H0 ρ w ow σ H) : Sit K pl P0 q (allE ρ) w σ H := by
  refine ⟨s.b0, s.isP, s.at0, fun i d e => ?_, by unfold allE; rw [List.length_map]; exact s.ln⟩
  unfold allE at e
  rw [getv_map (by rfl)] at e
  cases g : get2 ρ i with
  | none => rw [g] at e; cases e
  | some p =>
    obtain ⟨o, d'⟩ := p
    rw [g] at e
    cases o with
    | true =>
      cases e
      obtain ⟨v, h1, a, xs, ds, rfl, h2, rfl, h3, h4, h5⟩ := s.own i _ g
      refine ⟨_, h1, .lst (.inl (.inl ?_)) h4 (h5.mono (hide_adr _ _ _))⟩
      rw [hide_at (s.nP0 h2)]
      exact h3
    | false =>
      cases e
      obtain ⟨v, h1, h2⟩ := s.vis i _ g
      exact ⟨v, h1, h2.mono (hide_adr _ _ _)⟩
theorem Own.mono {i : Nat} {v : V} {d : D} (h : Own K ow P0 H i v d) (hk : ∀ a, (i, a) ∈ ow → H' a = H a) (sm : Same (hide H (adr ow P0)) (hide H' (adr ow P0))) : Own K ow P0 H' i v d := by
  obtain ⟨a, xs, ds, rfl, h2, rfl, h3, h4, h5⟩ := h
  exact ⟨a, xs, ds, rfl, h2, rfl, by rw [hk a h2]; exact h3, h4, h5.mono sm⟩
theorem SR.at' (s : SR K pl P0 q H0 ρ w ow σ H) (x : Ext q w' H H') {i : Nat} {a : Addr} (h : (i, a) ∈ ow) : H' a = H a := by
  obtain ⟨xs, e⟩ := s.ls _ h
  have e : H a = _ := e
  rw [e]
  exact x.keep a _ (s.nq h) e
theorem SR.ext (s : SR K pl P0 q H0 ρ w ow σ H) (x : Ext q w' H H') : SR K pl P0 q H0 ρ w' ow σ H' := by
  have sm := s.b.same x
  refine ⟨s.b.ext x, s.q0, s.tr0, s.isP, s.at0, fun a o n e => x.keep a o n (s.keep a o n e), s.fr, fun p hp => ?_, s.inj, fun i d e => ?_, fun i d e => ?_, s.ln⟩
  · obtain ⟨xs, e⟩ := s.ls p hp
    exact ⟨xs, x.keep p.2 _ (s.nq (i := p.1) hp) e⟩
  · obtain ⟨v, h1, h2⟩ := s.vis i d e
    exact ⟨v, h1, h2.mono sm⟩
  · obtain ⟨v, h1, h2⟩ := s.own i d e
    exact ⟨v, h1, h2.mono (fun a ha => s.at' x ha) sm⟩
theorem SR.ext0 (s : SR K pl P0 q H0 ρ w ow σ H) (x : Ext q w' H H') : Ext q w' H0 H' := ⟨fun a o n e => x.keep a o n (s.keep a o n e), x.pool⟩
theorem SR.at0_set (s : SR K pl P0 q H0 ρ w ow σ H) {i : Nat} (hi : slotOk pl i = true) {v : Option V} : ∀ a, q = some a → (σ.set i v)[0]? = some (some (.ref a)) := fun a e => by
  have hp : pl = true := by rw [← s.isP, e]; rfl
  have : i ≠ 0 := by
    unfold slotOk at hi
    rw [hp] at hi
    simpa using hi
  rw [List.getElem?_set_ne this]
  exact s.at0 a e
theorem set_at {σ : L2.St} {ρ : Env2} (ln : ρ.length ≤ σ.length) {i j : Nat} {v : V} (h : i = j ∧ i < ρ.length) : (σ.set i (some v))[j]? = some (some v) := by
  obtain ⟨rfl, h⟩ := h
  rw [List.getElem?_set_self (by omega)]
/-- slot i holds a value that is not its own -/
theorem SR.setV (s : SR K pl P0 q H0 ρ w ow σ H) {i : Nat} {v : V} {d : D} (hi : slotOk pl i = true) (r : Rp K (hide H (adr ow P0)) v d) : SR K pl P0 q H0 (ρ.set i (some (false, d))) w ow (σ.set i (some v)) H := by
  refine ⟨s.b, s.q0, s.tr0, s.isP, s.at0_set hi, s.keep, s.fr, s.ls, s.inj, fun j e h => ?_, fun j e h => ?_, by rw [List.length_set, List.length_set]; exact s.ln⟩
  · rw [get2_set] at h
    split at h
    · rename_i c
      cases h
      exact ⟨v, set_at s.ln c, r⟩
    · rename_i c
      obtain ⟨u, h1, h2⟩ := s.vis j e h
      by_cases hj : i = j
      · subst hj
        exfalso
        unfold get2 at h
        have : ¬ i < ρ.length := fun z => c ⟨rfl, z⟩
        rw [List.getElem?_eq_none (by omega)] at h
        cases h
      · exact ⟨u, by rw [List.getElem?_set_ne hj]; exact h1, h2⟩
  · rw [get2_set] at h
    split at h
    · cases h
    · rename_i c
      obtain ⟨u, h1, h2⟩ := s.own j e h
      by_cases hj : i = j
      · subst hj
        exfalso
        unfold get2 at h
        have : ¬ i < ρ.length := fun z => c ⟨rfl, z⟩
        rw [List.getElem?_eq_none (by omega)] at h
        cases h
      · exact ⟨u, by rw [List.getElem?_set_ne hj]; exact h1, h2⟩
/-- what the situation shows stays so when a new object is hidden -/
theorem same_new {P : List Addr} {a : Addr} (hn : H a = none) (b : Bs P q w H) (x : Ext q w' H H') : Same (hide H P) (hide H' (a :: P)) := fun c o e => by
  unfold hide at e ⊢
  split at e
  · cases e
  · rename_i nc
    have : c ≠ a := fun z => by rw [z, hn] at e; cases e
    rw [if_neg (by simp [this, nc])]
    exact x.keep c o (fun z => nc (b.pool c z.symm).1) e
/-- slot i holds a new list as its own -/
theorem SR.setO (s : SR K pl P0 q H0 ρ w ow σ H) {i : Nat} {a : Addr} {xs : List V} {ds : List D} (hi : slotOk pl i = true) (x : Ext q w' H H') (hn : H a = none) (hl : H' a = some (.lst xs)) (hz : xs.length ≤ sizeLine) (r : RpAll K (hide H' (a :: adr ow P0)) xs ds) :
    SR K pl P0 q H0 (ρ.set i (some (true, .list ds))) w' ((i, a) :: ow) (σ.set i (some (.ref a))) H' ∧ Same (hide H (adr ow P0)) (hide H' (adr ((i, a) :: ow) P0)) := by
  have sm : Same (hide H (adr ow P0)) (hide H' (adr ((i, a) :: ow) P0)) := same_new hn s.b x
  have hno : ∀ j, (j, a) ∉ ow := fun j z => by obtain ⟨ys, e⟩ := s.ls _ z; rw [hn] at e; cases e
  have nP : a ∉ adr ow P0 := s.b.notin hn
  have h0 : H0 a = none := by
    cases e : H0 a with
    | none => rfl
    | some o =>
      have : some a ≠ q := fun z => nP (s.b.pool a z.symm).1
      rw [s.keep a o this e] at hn
      cases hn
  have b' := s.b.ext x
  refine ⟨⟨⟨fun c hc => ?_, fun c e => ⟨List.mem_cons_of_mem _ (s.b.pool c e).1, x.pool c e⟩⟩, s.q0, s.tr0, s.isP, s.at0_set hi, fun c o n e => x.keep c o n (s.keep c o n e), fun p hp => ?_, fun p hp => ?_, fun p hp p' hp' e => ?_, fun j e h => ?_, fun j e h => ?_, by rw [List.length_set, List.length_set]; exact s.ln⟩, sm⟩
  · rcases List.mem_cons.mp (show c ∈ a :: adr ow P0 from hc) with rfl | hc
    · rw [hl]; simp
    · exact b'.tr c hc
  · rcases List.mem_cons.mp hp with rfl | hp
    · exact h0
    · exact s.fr p hp
  · rcases List.mem_cons.mp hp with rfl | hp
    · exact ⟨xs, hl⟩
    · obtain ⟨ys, e⟩ := s.ls p hp
      exact ⟨ys, x.keep p.2 _ (s.nq (i := p.1) hp) e⟩
  · rcases List.mem_cons.mp hp with rfl | hp
    · rcases List.mem_cons.mp hp' with rfl | hp'
      · rfl
      · exact absurd (show (p'.1, a) ∈ ow by have : a = p'.2 := e; rw [this]; exact hp') (hno _)
    · rcases List.mem_cons.mp hp' with rfl | hp'
      · exact absurd (show (p.1, a) ∈ ow by have : p.2 = a := e; rw [← this]; exact hp) (hno _)
      · exact s.inj p hp p' hp' e
  · rw [get2_set] at h
    split at h
    · cases h
    · rename_i c
      obtain ⟨u, h1, h2⟩ := s.vis j e h
      by_cases hj : i = j
      · subst hj
        exfalso
        unfold get2 at h
        have : ¬ i < ρ.length := fun z => c ⟨rfl, z⟩
        rw [List.getElem?_eq_none (by omega)] at h
        cases h
      · exact ⟨u, by rw [List.getElem?_set_ne hj]; exact h1, h2.mono sm⟩
  · rw [get2_set] at h
    split at h
    · rename_i c
      cases h
      obtain ⟨rfl, hlt⟩ := c
      exact ⟨.ref a, set_at s.ln ⟨rfl, hlt⟩, a, xs, ds, rfl, List.mem_cons_self .., rfl, hl, hz, r⟩
    · rename_i c
      obtain ⟨u, h1, a', ys, es, rfl, h2, rfl, h3, h4, h5⟩ := s.own j e h
      by_cases hj : i = j
      · subst hj
        exfalso
        unfold get2 at h
        have : ¬ i < ρ.length := fun z => c ⟨rfl, z⟩
        rw [List.getElem?_eq_none (by omega)] at h
        cases h
      · exact ⟨_, by rw [List.getElem?_set_ne hj]; exact h1, a', ys, es, rfl, List.mem_cons_of_mem _ h2, rfl, by rw [s.at' x h2]; exact h3, h4, h5.mono sm⟩
theorem hide_upd {P : List Addr} {a : Addr} {o : HO} (h : a ∈ P) : hide (upd H a o) P = hide H P := by
  funext c
  unfold hide
  split
  · rfl
  · rename_i n
    exact upd_ne fun z => n (z ▸ h)
/-- slot i's own list is written -/
theorem SR.mut (s : SR K pl P0 q H0 ρ w ow σ H) {i : Nat} {a : Addr} {xs' : List V} {ds : List D} (ha : (i, a) ∈ ow) (hv : σ[i]? = some (some (.ref a))) (hz : xs'.length ≤ sizeLine) (r : RpAll K (hide H (adr ow P0)) xs' ds) :
    SR K pl P0 q H0 (ρ.set i (some (true, .list ds))) w ow σ (upd H a (.lst xs')) ∧ Same (hide H (adr ow P0)) (hide (upd H a (.lst xs')) (adr ow P0)) := by
  have hm : a ∈ adr ow P0 := adr_mem.mpr (.inl ⟨i, ha⟩)
  have eh : hide (upd H a (.lst xs')) (adr ow P0) = hide H (adr ow P0) := hide_upd hm
  have nq := s.nq ha
  refine ⟨⟨⟨fun c hc => ?_, fun c e => ⟨(s.b.pool c e).1, ?_⟩⟩, s.q0, s.tr0, s.isP, s.at0, fun c o n e => ?_, s.fr, fun p hp => ?_, s.inj, fun j e h => ?_, fun j e h => ?_, by rw [List.length_set]; exact s.ln⟩, by rw [eh]; exact fun _ _ h => h⟩
  · by_cases z : c = a
    · rw [z, upd_same]; simp
    · rw [upd_ne z]; exact s.b.tr c hc
  · rw [upd_ne fun z => nq (by rw [← z, e])]
    exact (s.b.pool c e).2
  · rw [upd_ne fun z => by rw [z, s.fr _ ha] at e; cases e]
    exact s.keep c o n e
  · by_cases z : p.2 = a
    · exact ⟨xs', by rw [z, upd_same]⟩
    · rw [upd_ne z]; exact s.ls p hp
  · rw [eh]
    rw [get2_set] at h
    split at h
    · cases h
    · exact s.vis j e h
  · rw [get2_set] at h
    split at h
    · rename_i c
      cases h
      obtain ⟨rfl, _⟩ := c
      exact ⟨_, hv, a, xs', ds, rfl, ha, rfl, upd_same, hz, by rw [eh]; exact r⟩
    · rename_i c
      obtain ⟨u, h1, a', ys, es, rfl, h2, rfl, h3, h4, h5⟩ := s.own j e h
      have hj : i ≠ j := fun z => by
        subst z
        unfold get2 at h
        have : ¬ i < ρ.length := fun z => c ⟨rfl, z⟩
        rw [List.getElem?_eq_none (by omega)] at h
        cases h
      have hne : a' ≠ a := fun z => hj (s.inj _ ha _ h2 z.symm)
      exact ⟨_, h1, a', ys, es, rfl, h2, rfl, by rw [upd_ne hne]; exact h3, h4, by rw [eh]; exact h5⟩
/-- slot i's own list is let go: from now on all may hold it, none may write it -/
theorem SR.free (s : SR K pl P0 q H0 ρ w ow σ H) {i : Nat} {d : D} (h : get2 ρ i = some (true, d)) : ∃ ow', SR K pl P0 q H0 (ρ.set i (some (false, d))) w ow' σ H ∧ Same (hide H (adr ow P0)) (hide H (adr ow' P0)) := by
  obtain ⟨u, h1, a, xs, ds, rfl, h2, rfl, h3, h4, h5⟩ := s.own i d h
  let ow' := ow.filter fun p => decide (p.2 ≠ a)
  have sub : ∀ p ∈ ow', p ∈ ow ∧ p.2 ≠ a := fun p hp => by
    obtain ⟨m, n⟩ := List.mem_filter.mp hp
    exact ⟨m, by simpa using n⟩
  have sm : Same (hide H (adr ow P0)) (hide H (adr ow' P0)) := hide_mono fun c hc => by
    rcases adr_mem.mp hc with ⟨j, z⟩ | z
    · exact adr_mem.mpr (.inl ⟨j, (sub _ z).1⟩)
    · exact adr_mem.mpr (.inr z)
  have na : a ∉ adr ow' P0 := fun z => by
    rcases adr_mem.mp z with ⟨j, z⟩ | z
    · exact (sub _ z).2 rfl
    · exact s.nP0 h2 z
  have hlt : i < ρ.length := by
    by_cases z : i < ρ.length
    · exact z
    · unfold get2 at h
      rw [List.getElem?_eq_none (by omega)] at h
      cases h
  refine ⟨ow', ⟨⟨fun c hc => ?_, fun c e => ⟨adr_mem.mpr (.inr (s.q0 c e)), (s.b.pool c e).2⟩⟩, s.q0, s.tr0, s.isP, s.at0, s.keep, fun p hp => s.fr p (sub p hp).1, fun p hp => s.ls p (sub p hp).1, fun p hp p' hp' => s.inj p (sub p hp).1 p' (sub p' hp').1, fun j e hj => ?_, fun j e hj => ?_, by rw [List.length_set]; exact s.ln⟩, sm⟩
  · rcases adr_mem.mp hc with ⟨j, z⟩ | z
    · exact s.b.tr c (adr_mem.mpr (.inl ⟨j, (sub _ z).1⟩))
    · exact s.b.tr c (adr_mem.mpr (.inr z))
  · rw [get2_set] at hj
    split at hj
    · rename_i c
      cases hj
      obtain ⟨rfl, _⟩ := c
      refine ⟨_, h1, .lst (.inl (.inl ?_)) h4 (h5.mono sm)⟩
      rw [hide_at na]
      exact h3
    · obtain ⟨v, g1, g2⟩ := s.vis j e hj
      exact ⟨v, g1, g2.mono sm⟩
  · rw [get2_set] at hj
    split at hj
    · cases hj
    · rename_i c
      obtain ⟨v, g1, a', ys, es, rfl, g2, rfl, g3, g4, g5⟩ := s.own j e hj
      have hij : i ≠ j := fun z => c ⟨z, hlt⟩
      have hne : a' ≠ a := fun z => hij (s.inj _ h2 _ g2 z.symm)
      exact ⟨_, g1, a', ys, es, rfl, List.mem_filter.mpr ⟨g2, by simpa using hne⟩, rfl, g3, g4, g5.mono sm⟩
/-- a value read with the own lists in sight, that holds no list -/
theorem SR.flat (s : SR K pl P0 q H0 ρ w ow σ H) {v : V} {d : D} (r : Rp K (hide H P0) v d) (n : noL d = true) : Rp K (hide H (adr ow P0)) v d := by
  have e : hide (hide H P0) (ow.map (·.2)) = hide H (adr ow P0) := by
    funext c
    unfold hide adr
    by_cases h1 : c ∈ ow.map (·.2)
    · rw [if_pos h1, if_pos (List.mem_append_left _ h1)]
    · rw [if_neg h1]
      by_cases h2 : c ∈ P0
      · rw [if_pos h2, if_pos (List.mem_append_right _ h2)]
      · rw [if_neg h2, if_neg (by rw [List.mem_append]; exact fun z => z.elim h1 h2)]
  rw [← e]
  refine r.flat (fun a ha => ?_) n
  obtain ⟨p, hp, rfl⟩ := List.mem_map.mp ha
  obtain ⟨xs, h⟩ := s.ls p hp
  exact ⟨xs, by rw [hide_at (s.nP0 (i := p.1) hp)]; exact h⟩
theorem SR.flats (s : SR K pl P0 q H0 ρ w ow σ H) : ∀ {vs : List V} {ds : List D}, RpAll K (hide H P0) vs ds → noLs ds = true → RpAll K (hide H (adr ow P0)) vs ds
  | _, _, .nil, _ => .nil
  | _, _, .cons (d := d) (ds := ds) r t, n => by
    have n' : (noL d && noLs ds) = true := by simpa [noLs] using n
    rw [Bool.and_eq_true] at n'
    exact .cons (s.flat r n'.1) (SR.flats s t n'.2)
/-! ### behind a statement -/
def Aft (K : PySem.W.Frag) (pl : Bool) (P0 : List Addr) (q : Option Addr) (H0 : Hp) (ow : List (Nat × Addr)) (H : Hp) (w' : W) (D : Ends) : Out → Prop
  | .next ρ' => ∀ σ' H' ow', SR K pl P0 q H0 ρ' w' ow' σ' H' → Same (hide H (adr ow P0)) (hide H' (adr ow' P0)) → D.nx σ' H'
  | .brk ρ' => ∀ σ' H' ow', SR K pl P0 q H0 ρ' w' ow' σ' H' → Same (hide H (adr ow P0)) (hide H' (adr ow' P0)) → D.bk σ' H'
  | .cont ρ' => ∀ σ' H' ow', SR K pl P0 q H0 ρ' w' ow' σ' H' → Same (hide H (adr ow P0)) (hide H' (adr ow' P0)) → D.ct σ' H'
  | .ret d => ∀ v H', Ext q w' H0 H' → Rp K (hide H' P0) v d → D.rt v H'
theorem Same.tr {A B E : Hp} (h : Same A B) (g : Same B E) : Same A E := fun a o e => g a o (h a o e)
theorem Aft.mono {D : Ends} {o : Out} {ow1 : List (Nat × Addr)} {H1 : Hp} (h : Aft K pl P0 q H0 ow H w' D o) (sm : Same (hide H (adr ow P0)) (hide H1 (adr ow1 P0))) : Aft K pl P0 q H0 ow1 H1 w' D o := by
  cases o with
  | next ρ' => exact fun σ' H' ow' s g => h σ' H' ow' s (Same.tr sm g)
  | brk ρ' => exact fun σ' H' ow' s g => h σ' H' ow' s (Same.tr sm g)
  | cont ρ' => exact fun σ' H' ow' s g => h σ' H' ow' s (Same.tr sm g)
  | ret d => exact h
def tS (K : PySem.W.Frag) (pl : Bool) (run : Env2 → M Out) : TS := fun D σ H => ∃ P0 q H0 ρ w ow o w', SR K pl P0 q H0 ρ w ow σ H ∧ (run ρ).run w = some (o, w') ∧ Aft K pl P0 q H0 ow H w' D o
end
end RX

-- RX14
set_option Elab.async false
set_option linter.all false
set_option maxRecDepth 100000
set_option maxHeartbeats 4000000
/-! RX14: the statements, each by what it means. -/
namespace RX
open PySem PySem.Spec PyProof.Rows L2
variable [PWd]
section
variable {X : Cx} {C : Ctx} {T : Tab} {pl : Bool} {k : Nat}
theorem swaps_false {pe : Expr} {t : Option Expr} {l : Nat} {env : PySem.Env} (h : isLC pe = false) : swapsWith pe t l env = pure false := by
  cases pe <;> first | rfl | cases h
theorem swaps_tup {pe : Expr} {ts : List Expr} {a : Nat} {b : Pos} {l : Nat} {env : PySem.Env} : swapsWith pe (some (.Tuple ts a b)) l env = pure false := by
  cases pe <;> rfl
theorem nameIs_iff {N : List Str} {sc : Scope} {i : Nat} {x : Str} (h : nameIs N sc i x = true) : N[i]? = some x ∧ locB sc x = true ∧ visB sc x = true ∧ plainName x = true := by
  unfold nameIs at h
  simp only [Bool.and_eq_true, decide_eq_true_eq] at h
  exact ⟨h.1.1.1, h.1.1.2, h.1.2, h.2⟩
/-- name = e -/
theorem asg_any {e : E} {pe : Expr} (xo : XOk X C T k) (hk : X.env.scope.kind = .function) (sr : ScRel X X.env.scope) (hm : mtE T pl X.N X.env.scope e pe = true) (hc : (isCo e || !isLC pe) = true) : AsgF X e pe (tE X.K C pl e) := by
  have old : isLC pe = false → AsgF X e pe (tE X.K C pl e) := fun h i x px pos hN hx hf => ps_set xo.nd hN hx (okE e X X.env.scope pe xo sr hm).1 (swaps_false h) hf
  have h' : isCo e = true ∨ isLC pe = false := by simpa using hc
  rcases h' with h | h
  · cases e with
    | comp tg it hcn cond elt =>
      obtain ⟨_, _, h3⟩ := comp_all tg hcn (okI it) (okE cond) (okE elt) X X.env.scope pe xo sr hm
      exact fun i x px pos hN hx hf => PS.wk (h3 hk i x px pos hN hx hf) fun D σ H h => tF_of (comp_isL tg it hcn cond elt) h
    | comp2 tg it tg2 it2 elt =>
      obtain ⟨_, _, h3⟩ := comp2_all tg tg2 (okI it) (okI it2) (okE elt) X X.env.scope pe xo sr hm
      exact fun i x px pos hN hx hf => PS.wk (h3 hk i x px pos hN hx hf) fun D σ H h => tF_of (comp2_isL tg tg2 it it2 elt) h
    | dcomp tg it hcn cond key val =>
      obtain ⟨_, _, h3⟩ := dcomp_all tg hcn (okI it) (okE cond) (okE key) (okE val) X X.env.scope pe xo sr hm
      exact h3 hk
    | _ => cases h
  · exact old h
theorem se_lstF {es : EL} {ps : List Expr} {pos : Pos} (h : PA X ps (tL X.K C pl es)) : PE X (.List ps pos) (tF X.K C pl (.lst es)) :=
  PE.wk (pe_lst h) fun σ H Q h => by
    obtain ⟨P, q, ρ, w, d, w', st, ev, kk⟩ := h
    obtain ⟨ds, w1, ea, ev⟩ := bind_inv ev
    split at ev
    · rename_i hl
      obtain ⟨e0, rfl⟩ := pure_inv ev
      have e0 := PyData.list.inj e0
      subst e0
      refine ⟨P, q, ρ, w, ds, _, st, ea, fun H1 xs x1 r1 => ?_⟩
      have l := r1.length
      have b1 := st.b.ext x1
      refine ⟨by omega, fun p n => kk _ p xs (x1.trans (b1.new n)) ?_ upd_same (by omega) (r1.mono (same_new n b1 (b1.new n)))⟩
      cases e : H p with
      | none => rfl
      | some o =>
        have : some p ≠ q := fun z => by
          have := (b1.pool p z.symm).2
          rw [n] at this
          cases this
        rw [x1.keep p o this e] at n
        cases n
    · exact none_inv ev
theorem se_addF {a b : E} {pa pb : Expr} {pos : Pos} (ha : PE X pa (tE X.K C pl a)) (hb : PE X pb (tE X.K C pl b)) : PE X (.BinOp pa .Add pb pos) (tF X.K C pl (.bin .add a b)) := by
  refine PE.wk (pe_op op_catL ha hb) fun σ H Q h => ?_
  obtain ⟨P, q, ρ, w, d, w', st, ev, kk⟩ := h
  obtain ⟨da, w1, ea, ev⟩ := bind_inv ev
  obtain ⟨db, w2, eb, ev⟩ := bind_inv ev
  obtain ⟨e, rfl⟩ := lift_inv ev
  refine two st ea eb fun H2 x y x2 b2 r1 r2 => ?_
  have key : ∃ xs ys, da = .list xs ∧ db = .list ys ∧ xs.length + ys.length ≤ sizeLine ∧ d = xs ++ ys := by
    cases da <;> cases db <;> simp only [bop] at e <;> first | (cases e; done) | skip
    all_goals first | (split at e <;> cases e; done) | skip
    rename_i xs ys
    split at e
    · rename_i hz
      cases e
      exact ⟨_, _, rfl, rfl, hz, rfl⟩
    · cases e
  obtain ⟨xs, ys, rfl, rfl, hz, rfl⟩ := key
  cases r1 with
  | lst hs hl hr =>
    cases r2 with
    | lst hs' hl' hr' =>
      have l1 := hr.length
      have l2 := hr'.length
      refine ⟨_, _, _, _, rfl, rfl, (hide_same H2 P).seq hs, (hide_same H2 P).seq hs', by omega, fun p n => kk _ p _ (x2.trans (b2.new n)) ?_ upd_same (by rw [List.length_append]; omega) ((hr.append hr').mono (same_new n b2 (b2.new n)))⟩
      cases e1 : H p with
      | none => rfl
      | some o =>
        have : some p ≠ q := fun z => by
          have := (b2.pool p z.symm).2
          rw [n] at this
          cases this
        rw [x2.keep p o this e1] at n
        cases n
/-- list(..): a new list -/
def rBF (K : PySem.W.Frag) : List V → Hp → VK → Prop := fun xs H Q => ∃ P q w x dx ds, xs = [x] ∧ Bs P q w H ∧ Rp K (hide H P) x dx ∧ bi1 .list dx = some (.list ds) ∧ ∀ H' a vs, Ext q w H H' → H a = none → H' a = some (.lst vs) → vs.length ≤ sizeLine → RpAll K (hide H' (a :: P)) vs ds → Q (.ref a) H'
theorem crF_list : CallR X (.type "list") (rBF X.K) := by
  intro pins s σ H xs us Q I r h
  obtain ⟨P, q, w, x, dx, ds, rfl, b, rx, e, kk⟩ := h
  cases rx with
  | lst h1 h2 h3 =>
    cases e
    exact call_list_of pins s σ H _ us Q I r ⟨_, _, rfl, .inl ((hide_same H P).seq h1), fun p n => kk _ _ _ (b.new n) n upd_same h2 (h3.mono (same_new n b (b.new n)))⟩
  | tup h1 h2 h3 =>
    cases e
    exact call_list_of pins s σ H _ us Q I r ⟨_, _, rfl, .inr (Same.seqT (hide_same H P) h1), fun p n => kk _ _ _ (b.new n) n upd_same h2 (h3.mono (same_new n b (b.new n)))⟩
  | _ => cases e
theorem se_listF {a : E} {x : Str} {pa : Expr} {p pos : Pos} (hg : Gl X x) (hm : X.mg x = none) (hv : bootBuiltins x = some (.type "list")) (hn : x ≠ "__name__") (hdb : (x == ("__debug__" : Str)) = false) (hu : unstar pa = true) (ha : PE X pa (tE X.K C pl a)) :
    PE X (.Call (.Name x p) [pa] [] pos) (tF X.K C pl (.b1 .list a)) :=
  PE.wk (pe_callTy crF_list hg hm hv (pa_cons ha pa_nil (star_cons hu)) hn hdb (star_cons hu) (by rfl)) fun σ H Q h => by
    obtain ⟨P, q, ρ, w, ds, w', st, ev, kk⟩ := h
    obtain ⟨da, w1, ea, ev⟩ := bind_inv ev
    obtain ⟨e, rfl⟩ := lift_inv ev
    refine ⟨P, q, ρ, w, da, _, st, ea, fun H1 x x1 r1 => ?_⟩
    have b1 := st.b.ext x1
    refine ⟨P, q, _, x, da, ds, rfl, b1, r1, e, fun H2 p vs x2 n hl hz hr => kk H2 p vs (x1.trans x2) ?_ hl hz hr⟩
    cases e1 : H p with
    | none => rfl
    | some o =>
      have : some p ≠ q := fun z => by
        have := (b1.pool p z.symm).2
        rw [n] at this
        cases this
      rw [x1.keep p o this e1] at n
      cases n
/-- what makes a new list -/
theorem okF {e : E} {pe : Expr} (xo : XOk X C T k) (sr : ScRel X X.env.scope) (hm : mtE T pl X.N X.env.scope e pe = true) (hn : isNew e = true) : PE X pe (tF X.K C pl e) := by
  cases e with
  | bin o a b =>
    cases o with
    | add =>
      cases pe with
      | BinOp pa po pb pos =>
        simp only [mtE, Bool.and_eq_true] at hm
        obtain ⟨⟨h1, h2⟩, h3⟩ := hm
        cases po <;> simp only [bopB] at h1 <;> first | (cases h1; done) | skip
        exact se_addF (okE a X X.env.scope pa xo sr h2).1 (okE b X X.env.scope pb xo sr h3).1
      | _ => simp [mtE] at hm
    | _ => cases hn
  | lst es =>
    cases pe with
    | List ps pos => exact se_lstF ((okL es).1 X X.env.scope ps xo sr (by simpa [mtE] using hm))
    | _ => simp [mtE] at hm
  | comp tg it hcn cond elt => exact (comp_all tg hcn (okI it) (okE cond) (okE elt) X X.env.scope pe xo sr hm).1
  | comp2 tg it tg2 it2 elt => exact (comp2_all tg tg2 (okI it) (okI it2) (okE elt) X X.env.scope pe xo sr hm).1
  | b1 b a =>
    cases b with
    | list =>
      cases pe <;> first | (simp [mtE] at hm; done) | skip
      rename_i pf ps kws pos
      cases pf <;> first | (simp [mtE] at hm; done) | skip
      rename_i x px
      match ps, kws, hm with
      | [pa], [], hm =>
        simp only [mtE, Bool.and_eq_true, decide_eq_true_eq] at hm
        obtain ⟨⟨⟨hx, h1⟩, h2⟩, h3⟩ := hm
        obtain ⟨n1, n2⟩ := bi_gl hx
        have hg := sr.gl _ h2
        have hm := xo.bl _ h1
        subst hx
        exact se_listF hg hm (by decide +kernel) n1 n2 (mtE_unstar T pl X.N h3) (okE a X X.env.scope pa xo sr h3).1
      | [], _, h => simp [mtE] at h
      | [_], _ :: _, h => simp [mtE] at h
      | _ :: _ :: _, _, h => simp [mtE] at h
    | _ => cases hn
  | _ => cases hn
theorem asg_new {e : E} {pe : Expr} (xo : XOk X C T k) (hk : X.env.scope.kind = .function) (sr : ScRel X X.env.scope) (hm : mtE T pl X.N X.env.scope e pe = true) (hc : (isCo e || !isLC pe) = true) (hn : isNew e = true) : AsgF X e pe (tF X.K C pl e) := by
  have old : isLC pe = false → AsgF X e pe (tF X.K C pl e) := fun h i x px pos hN hx hf => ps_set xo.nd hN hx (okF xo sr hm hn) (swaps_false h) hf
  have h' : isCo e = true ∨ isLC pe = false := by simpa using hc
  rcases h' with h | h
  · cases e with
    | comp tg it hcn cond elt =>
      obtain ⟨_, _, h3⟩ := comp_all tg hcn (okI it) (okE cond) (okE elt) X X.env.scope pe xo sr hm
      exact h3 hk
    | comp2 tg it tg2 it2 elt =>
      obtain ⟨_, _, h3⟩ := comp2_all tg tg2 (okI it) (okI it2) (okE elt) X X.env.scope pe xo sr hm
      exact h3 hk
    | dcomp tg it hcn cond key val => cases hn
    | _ => cases h
  · exact old h
section
variable {P0 : List Addr} {q : Option Addr} {H0 H : Hp} {ρ : Env2} {w w1 w' : W} {ow : List (Nat × Addr)} {σ : L2.St} {K : PySem.W.Frag}
/-- a value is read -/
theorem SR.read (s : SR K pl P0 q H0 ρ w ow σ H) {dirty : Bool} {e : E} {d : D} {Q : VK} (ev : (evE C e (rdE dirty ρ)).run w = some (d, w1)) (g : (!dirty || noL d) = true)
    (kk : ∀ H' v, SR K pl P0 q H0 ρ w1 ow σ H' → Same (hide H (adr ow P0)) (hide H' (adr ow P0)) → Rp K (hide H' (adr ow P0)) v d → Q v H') : tE K C pl e σ H Q := by
  cases dirty with
  | false => exact ⟨_, q, _, w, d, w1, s.sitV, ev, fun H' v x r => kk H' v (s.ext x) (s.b.same x) r⟩
  | true => exact ⟨_, q, _, w, d, w1, s.sitA, ev, fun H' v x r => kk H' v (s.ext x) (s.b.same x) ((s.ext x).flat r (by simpa using g))⟩
theorem SR.readT (s : SR K pl P0 q H0 ρ w ow σ H) {e : E} {c : Bool} {Q : Bool → Hp → Prop} (ev : (evT C e (allE ρ)).run w = some (c, w1))
    (kk : ∀ H', SR K pl P0 q H0 ρ w1 ow σ H' → Same (hide H (adr ow P0)) (hide H' (adr ow P0)) → Q c H') : tT K C pl e σ H Q :=
  ⟨_, q, _, w, c, w1, s.sitA, ev, fun H' x => kk H' (s.ext x) (s.b.same x)⟩
theorem SR.readL (s : SR K pl P0 q H0 ρ w ow σ H) {dirty : Bool} {es : EL} {ds : List D} {Q : List V → Hp → Prop} (ev : (evL C es (rdE dirty ρ)).run w = some (ds, w1)) (g : (!dirty || noLs ds) = true)
    (kk : ∀ H' vs, SR K pl P0 q H0 ρ w1 ow σ H' → Same (hide H (adr ow P0)) (hide H' (adr ow P0)) → RpAll K (hide H' (adr ow P0)) vs ds → Q vs H') : tL K C pl es σ H Q := by
  cases dirty with
  | false => exact ⟨_, q, _, w, ds, w1, s.sitV, ev, fun H' v x r => kk H' v (s.ext x) (s.b.same x) r⟩
  | true => exact ⟨_, q, _, w, ds, w1, s.sitA, ev, fun H' v x r => kk H' v (s.ext x) (s.b.same x) ((s.ext x).flats r (by simpa using g))⟩
theorem setAll2_len : ∀ {tg : List Nat} {ds : List D} {ρ ρ' : Env2}, setAll2 tg ds ρ = some ρ' → tg.length = ds.length
  | [], [], _, _, _ => rfl
  | _ :: _, _ :: _, _, _, e => congrArg (· + 1) (setAll2_len e)
  | [], _ :: _, _, _, e => by cases e
  | _ :: _, [], _, _, e => by cases e
theorem names2 {Hq : Hp} {Q : L2.St → Hp → Prop} : ∀ {tg : List Nat} {vs : List V} {ds : List D} {ρ ρ' : Env2} {σ : L2.St}, RpAll K (hide H (adr ow P0)) vs ds → setAll2 tg ds ρ = some ρ' → tg.all (slotOk pl) = true → SR K pl P0 q H0 ρ w ow σ H →
    (∀ σ', SR K pl P0 q H0 ρ' w ow σ' H → Q σ' Hq) → gNames tg vs σ Hq Q
  | [], [], [], ρ, ρ', σ, _, e, _, s, h => by
    cases e
    exact ⟨rfl, h σ s⟩
  | i :: tg, v :: vs, d :: ds, ρ, ρ', σ, .cons r rr, e, hs, s, h => by
    rw [List.all_cons, Bool.and_eq_true] at hs
    exact ⟨v, vs, rfl, names2 (tg := tg) rr e hs.2 (s.setV hs.1 r) h⟩
  | [], _ :: _, _ :: _, _, _, _, _, e, _, _, _ => by cases e
  | _ :: _, [], [], _, _, _, _, e, _, _, _ => by cases e
theorem namesN {Hq : Hp} {Q : L2.St → Hp → Prop} {i : Nat} {u : V} : ∀ {tg : List Nat} {vs : List V} {ds : List D} {ρ ρ' : Env2} {σ : L2.St}, RpAll K (hide H (adr ow P0)) vs ds → setAll2 tg ds ρ = some ρ' → tg.all (slotOk pl) = true → SR K pl P0 q H0 ρ w ow σ H →
    (∀ σ', SR K pl P0 q H0 ρ' w ow σ' H → Q (σ'.set i (some u)) Hq) → gNames (tg ++ [i]) (vs ++ [u]) σ Hq Q
  | [], [], [], ρ, ρ', σ, _, e, _, s, h => by
    cases e
    exact ⟨u, [], rfl, rfl, h σ s⟩
  | i :: tg, v :: vs, d :: ds, ρ, ρ', σ, .cons r rr, e, hs, s, h => by
    rw [List.all_cons, Bool.and_eq_true] at hs
    exact ⟨v, _, rfl, namesN (tg := tg) rr e hs.2 (s.setV hs.1 r) h⟩
  | [], _ :: _, _ :: _, _, _, _, _, e, _, _, _ => by cases e
  | _ :: _, [], [], _, _, _, _, e, _, _, _ => by cases e
theorem bind2 {Q : L2.St → Hp → Prop} {tg : List Nat} {x : V} {d : D} {ρ' : Env2} (s : SR K pl P0 q H0 ρ w ow σ H) (r : Rp K (hide H (adr ow P0)) x d) (e : bindT2 tg d ρ = some ρ') (hs : tg.all (slotOk pl) = true)
    (h : ∀ σ', SR K pl P0 q H0 ρ' w ow σ' H → Q σ' H) : gT K tg x σ H Q := by
  have one : ∀ i, tg = [i] → gName i x σ H Q := by
    rintro i rfl
    cases e
    rw [List.all_cons, Bool.and_eq_true] at hs
    exact h _ (s.setV hs.1 r)
  have many : (∀ i, tg ≠ [i]) → gTL K tg.length (gNames tg) x σ H Q := by
    intro hn
    have key : ∀ dd : D, bindT2 tg dd ρ = some ρ' → ∃ xs, (dd = .tuple xs ∨ dd = .list xs) ∧ setAll2 tg xs ρ = some ρ' := fun dd ed => by
      unfold bindT2 at ed
      split at ed
      · exact absurd rfl (hn _)
      · split at ed
        · exact ⟨_, .inl rfl, ed⟩
        · exact ⟨_, .inr rfl, ed⟩
        · cases ed
    obtain ⟨xs, rfl | rfl, e'⟩ := key d e
    · cases r with
      | tup h1 h2 h3 =>
        refine .inl ⟨_, _, rfl, Same.seqT (hide_same H _) h1, ?_, names2 h3 e' hs s h⟩
        rw [h3.length, setAll2_len e']
    · cases r with
      | lst h1 h2 h3 =>
        refine .inr ⟨_, _, rfl, (hide_same H _).seq h1, ?_, names2 h3 e' hs s h⟩
        rw [h3.length, setAll2_len e']
  unfold gT
  split
  · exact one _ rfl
  · rename_i hn
    exact many fun i hi => hn i hi
end
/-! ### assignments -/
theorem ss_asg {dirty : Bool} {i : Nat} {e : E} {x : Str} {pe : Expr} {px pos : Pos} (xo : XOk X C T k) (hk : X.env.scope.kind = .function) (sr : ScRel X X.env.scope) (hi : slotOk pl i = true) (hn : nameIs X.N X.env.scope i x = true)
    (hm : mtE T pl X.N X.env.scope e pe = true) (hc : (isCo e || !isLC pe) = true) : PS X (.Assign [.Name x px] pe pos) (tS X.K pl (evS C (.asg dirty i e))) := by
  obtain ⟨h1, h2, h3, h4⟩ := nameIs_iff hn
  obtain ⟨l1, l2⟩ := sr.loc x h2
  refine PS.wk (asg_any xo hk sr hm hc i x px pos h1 l1 l2) fun D σ H h => ?_
  obtain ⟨P0, q, H0, ρ, w, ow, o, w', s, ev, af⟩ := h
  obtain ⟨d, w1, ea, ev⟩ := bind_inv ev
  split at ev
  · rename_i g
    obtain ⟨rfl, rfl⟩ := pure_inv ev
    exact s.read ea g fun H' v s' sm r => af _ _ _ (s'.setV hi r) sm
  · exact none_inv ev
theorem ss_new {i : Nat} {e : E} {x : Str} {pe : Expr} {px pos : Pos} (xo : XOk X C T k) (hk : X.env.scope.kind = .function) (sr : ScRel X X.env.scope) (hi : slotOk pl i = true) (hn : nameIs X.N X.env.scope i x = true)
    (hm : mtE T pl X.N X.env.scope e pe = true) (hc : (isCo e || !isLC pe) = true) (hw : isNew e = true) : PS X (.Assign [.Name x px] pe pos) (tS X.K pl (evS C (.new i e))) := by
  obtain ⟨h1, h2, h3, h4⟩ := nameIs_iff hn
  obtain ⟨l1, l2⟩ := sr.loc x h2
  refine PS.wk (asg_new xo hk sr hm hc hw i x px pos h1 l1 l2) fun D σ H h => ?_
  obtain ⟨P0, q, H0, ρ, w, ow, o, w', s, ev, af⟩ := h
  obtain ⟨d, w1, ea, ev⟩ := bind_inv ev
  split at ev
  · rename_i ds
    obtain ⟨rfl, rfl⟩ := pure_inv ev
    refine ⟨_, q, _, w, ds, _, s.sitV, ea, fun H' a xs x n hl hz r => ?_⟩
    obtain ⟨s', sm⟩ := s.setO hi x n hl hz r
    exact af _ _ _ s' sm
  · exact none_inv ev
/-! ### written tuples -/
theorem swF_eq {ts vs : List Expr} {a c : Nat} {b d : Pos} {env : PySem.Env} (hk : env.scope.kind = .function) {r : Option (List Str)} (h : swF env.scope ts vs = some r) : swappedStores [.Tuple ts a b] (.Tuple vs c d) env = pure r := by
  have hb : env.blockKind = .function := by unfold Env.blockKind; rw [hk]; rfl
  unfold swF at h
  unfold swappedStores
  rw [hb]
  split at h
  · rename_i h1
    cases h
    exact if_pos (by rw [h1]; rfl)
  · rename_i h1
    refine (if_neg (by rw [Bool.not_eq_true] at h1; rw [h1]; decide)).trans ?_
    split at h
    · rename_i h2
      cases h
      exact if_pos h2
    · rename_i h2
      refine (if_neg h2).trans ?_
      dsimp only at h ⊢
      split at h
      · rename_i h3
        cases h
        exact if_pos h3
      · rename_i h3
        refine (if_neg h3).trans ?_
        split at h
        · rename_i h4
          cases h
          exact if_pos h4
        · rename_i h4
          refine (if_neg h4).trans ?_
          split at h
          · cases h
          · rename_i h5
            cases h
            exact if_neg h5
theorem swP_eq {ts : List Expr} {pe : Expr} {a : Nat} {b : Pos} {env : PySem.Env} (hk : env.scope.kind = .function) (h : swP env.scope (.Tuple ts a b) pe = some none) : swappedStores [.Tuple ts a b] pe env = pure none := by
  cases pe with
  | Tuple vs c d => exact swF_eq hk h
  | _ => rfl
end
end RX

-- RX15
set_option Elab.async false
set_option linter.all false
set_option maxRecDepth 100000
set_option maxHeartbeats 4000000
/-! RX15: the other statements. -/
namespace RX
open PySem PySem.Spec PyProof.Rows L2
variable [PWd]
def nmF (sc : Scope) (ln : Nat) : Expr → Option Str
  | .Name id pos => if sc.names.lookup id == some .local && pos.line == ln then some id else none
  | _ => none
theorem sole_tup {pe : Expr} {ts : List Expr} {a : Nat} {b : Pos} {l : Nat} {env : PySem.Env} : swapsWithSole [.Tuple ts a b] pe l env = pure false := by cases pe <;> rfl
theorem swF_some {sc : Scope} {ts vs : List Expr} {nm : List Str} (h : swF sc ts vs = some (some nm)) :
    nm = ts.filterMap (nmF sc ((ts.head?.map (·.pos.line)).getD 0)) ∧ nm.length = ts.length ∧ (ts.length = 2 ∨ ts.length = 3) ∧ vs.length = ts.length := by
  unfold swF at h
  split at h
  · cases h
  · rename_i h1
    split at h
    · cases h
    · dsimp only at h
      split at h
      · cases h
      · rename_i h3
        split at h
        · cases h
        · split at h
          · cases h
          · cases h
            have e : ∀ f : Expr → Option Str, f = nmF sc ((ts.head?.map (·.pos.line)).getD 0) → ¬ ((ts.filterMap f).length != ts.length || (ts.filterMap f).eraseDups.length != (ts.filterMap f).length) = true → (ts.filterMap f) = ts.filterMap (nmF sc ((ts.head?.map (·.pos.line)).getD 0)) ∧ (ts.filterMap f).length = ts.length := fun f hf h => by
              subst hf
              refine ⟨rfl, ?_⟩
              rw [Bool.not_eq_true, Bool.or_eq_false_iff] at h
              simpa using h.1
            obtain ⟨e1, e2⟩ := e _ (by funext t; cases t <;> rfl) h3
            rw [Bool.not_eq_true, Bool.or_eq_false_iff] at h1
            refine ⟨e1, e2, ?_, by simpa using h1.2⟩
            have := h1.1
            rw [Bool.not_eq_false', Bool.or_eq_true] at this
            simpa using this
theorem all_map {f : Expr → Option Str} : ∀ {ts : List Expr}, (ts.filterMap f).length = ts.length → ∀ t ∈ ts, ∃ x, f t = some x
  | [], _, t, ht => by cases ht
  | a :: r, h, t, ht => by
    have le := List.length_filterMap_le f r
    cases e : f a with
    | none => rw [List.filterMap_cons_none e] at h; simp only [List.length_cons] at h; omega
    | some x =>
      rw [List.filterMap_cons_some e] at h
      rcases List.mem_cons.mp ht with rfl | ht
      · exact ⟨x, e⟩
      · exact all_map (by simpa using h) t ht
theorem sw_loc {sc : Scope} {ts vs : List Expr} {nm : List Str} (h : swF sc ts vs = some (some nm)) {x : Str} {px : Pos} (hx : Expr.Name x px ∈ ts) : sc.names.lookup x = some .local := by
  obtain ⟨e, hl, _⟩ := swF_some h
  rw [e] at hl
  obtain ⟨y, hy⟩ := all_map hl _ hx
  unfold nmF at hy
  dsimp only at hy
  split at hy
  · rename_i c
    simp only [Bool.and_eq_true, beq_iff_eq] at c
    exact c.1
  · cases hy
theorem sw_names {sc : Scope} {xs : List (Str × Pos)} {vs : List Expr} {nm : List Str} (h : swF sc (xs.map fun p => .Name p.1 p.2) vs = some (some nm)) : nm = xs.map (·.1) := by
  obtain ⟨e, hl, zz⟩ := swF_some h
  clear zz
  rw [e] at hl ⊢
  have al := all_map hl
  generalize ((xs.map fun p => Expr.Name p.1 p.2).head?.map (·.pos.line)).getD 0 = ln at al ⊢
  clear hl e h
  induction xs with
  | nil => rfl
  | cons p r ih =>
    obtain ⟨y, hy⟩ := al (.Name p.1 p.2) (List.mem_cons_self ..)
    have hy2 := hy
    unfold nmF at hy2
    dsimp only at hy2
    split at hy2
    · cases hy2
      rw [List.map_cons, List.filterMap_cons_some hy, List.map_cons, ih fun t ht => al t (List.mem_cons_of_mem _ ht)]
    · cases hy2
section
variable {X : Cx} {C : Ctx} {T : Tab} {pl : Bool} {k : Nat}
/-- the targets are names -/
theorem go_names {N : List Str} {sc : Scope} : ∀ {is : List Nat} {ts : List Expr}, tgB.go N sc is ts = true → ∃ xs : List (Str × Pos), ts = xs.map (fun p => .Name p.1 p.2) ∧ xs.length = is.length ∧ ∀ (n i : Nat), is[n]? = some i → ∃ p : Str × Pos, xs[n]? = some p ∧ N[i]? = some p.1
  | [], [], _ => ⟨[], rfl, rfl, fun n i e => by simp at e⟩
  | [], _ :: _, h => by simp [tgB.go] at h
  | _ :: _, [], h => by simp [tgB.go] at h
  | i :: is, e :: es, h => by
    cases e with
    | Name x p =>
      simp only [tgB.go, Bool.and_eq_true, decide_eq_true_eq] at h
      obtain ⟨xs, rfl, h1, h2⟩ := go_names h.2
      refine ⟨(x, p) :: xs, rfl, by simp [h1], fun n j e => ?_⟩
      cases n with
      | zero => simp at e; subst e; exact ⟨(x, p), rfl, h.1.1⟩
      | succ n => obtain ⟨r, g1, g2⟩ := h2 n j (by simpa using e); exact ⟨r, by simpa using g1, g2⟩
    | _ => simp [tgB.go] at h
theorem tgB_tup {N : List Str} {sc : Scope} {is : List Nat} {ts : List Expr} {a : Nat} {b : Pos} (h : tgB N sc is (.Tuple ts a b) = true) : 2 ≤ is.length ∧ tgB.go N sc is ts = true := by
  unfold tgB at h
  split at h
  · rename_i e
    cases e
  · rename_i e
    cases e
    simp only [Bool.and_eq_true, decide_eq_true_eq] at h
    exact h
  · cases h
/-- names set at once by a written tuple -/
def tParG (is : List Nat) (ta : TA) : TS := fun D σ H => ta σ H fun vs H1 => gNames is vs σ H1 D.nx
theorem par_any {is : List Nat} {ts ps : List Expr} {a c : Nat} {b d pos : Pos} {ta : TA} {nm : List Str} (xo : XOk X C T k) (hk : X.env.scope.kind = .function) (hg : tgB X.N X.env.scope is (.Tuple ts a b) = true) (hd : is.Nodup)
    (hw : swF X.env.scope ts ps = some (some nm)) (ha : PA X ps ta) : PS X (.Assign [.Tuple ts a b] (.Tuple ps c d) pos) (tParG is ta) := by
  obtain ⟨h2, hgo⟩ := tgB_tup hg
  obtain ⟨xs, rfl, hl, hN⟩ := go_names hgo
  obtain ⟨_, _, hlen, hpl⟩ := swF_some hw
  have hnm := sw_names hw
  have hloc : ∀ p ∈ xs, X.env.scope.names.lookup p.1 = some .local := fun p hp => sw_loc hw (px := p.2) (List.mem_map.mpr ⟨p, hp, rfl⟩)
  have hsw := swF_eq (a := a) (c := c) (b := b) (d := d) hk hw
  subst hnm
  rw [List.length_map] at hlen hpl
  rcases hlen with hlen | hlen
  · match xs, is, ps, hl, hlen, hpl with
    | [x, y], [i, j], [pa, pb], _, _, _ =>
      obtain ⟨p, e1, e2⟩ := hN 0 i rfl
      obtain ⟨p', e3, e4⟩ := hN 1 j rfl
      cases e1; cases e3
      refine PS.wk (ps_par xo.calm xo.nd e2 e4 (by simpa using hd) (hloc x (by simp)) (hloc y (by simp)) ha hsw sole_tup) fun D σ H h => ?_
      show ta σ H _
      have key : (fun vs H1 => gNames [i, j] vs σ H1 D.nx) = fun vs H1 => ∃ v w, vs = [v, w] ∧ D.nx ((σ.set i (some v)).set j (some w)) H1 := by
        funext vs H1
        apply propext
        constructor
        · rintro ⟨v, r, rfl, v', r', rfl, rfl, h⟩
          exact ⟨v, v', rfl, h⟩
        · rintro ⟨v, w, rfl, h⟩
          exact ⟨v, _, rfl, w, _, rfl, rfl, h⟩
      rw [← key]
      exact h
  · match xs, is, ps, hl, hlen, hpl with
    | [x, y, z], [i, j, l], [pa, pb, pc], _, _, _ =>
      obtain ⟨p, e1, e2⟩ := hN 0 i rfl
      obtain ⟨p', e3, e4⟩ := hN 1 j rfl
      obtain ⟨p'', e5, e6⟩ := hN 2 l rfl
      cases e1; cases e3; cases e5
      have hd' : (i ≠ j ∧ i ≠ l) ∧ j ≠ l := by simpa [and_assoc] using hd
      refine PS.wk (ps_par3 xo.calm xo.nd e2 e4 e6 hd'.1.1 hd'.1.2 hd'.2 (hloc x (by simp)) (hloc y (by simp)) (hloc z (by simp)) ha hsw sole_tup) fun D σ H h => ?_
      show ta σ H _
      have key : (fun vs H1 => gNames [i, j, l] vs σ H1 D.nx) = fun vs H1 => ∃ u v w, vs = [u, v, w] ∧ D.nx (((σ.set i (some u)).set j (some v)).set l (some w)) H1 := by
        funext vs H1
        apply propext
        constructor
        · rintro ⟨v, r, rfl, v', r', rfl, v'', r'', rfl, rfl, h⟩
          exact ⟨v, v', v'', rfl, h⟩
        · rintro ⟨u, v, w, rfl, h⟩
          exact ⟨u, _, rfl, v, _, rfl, w, _, rfl, rfl, h⟩
      rw [← key]
      exact h
theorem ss_par {dirty : Bool} {is : List Nat} {es : EL} {ts ps : List Expr} {a c : Nat} {b d pos : Pos} {nm : List Str} (xo : XOk X C T k) (hk : X.env.scope.kind = .function) (sr : ScRel X X.env.scope) (hs : is.all (slotOk pl) = true) (hd : is.Nodup)
    (hg : tgB X.N X.env.scope is (.Tuple ts a b) = true) (hm : mtL T pl X.N X.env.scope es ps = true) (hw : swF X.env.scope ts ps = some (some nm)) : PS X (.Assign [.Tuple ts a b] (.Tuple ps c d) pos) (tS X.K pl (evS C (.par dirty is es))) := by
  refine PS.wk (par_any xo hk hg hd hw ((okL es).1 X X.env.scope ps xo sr hm)) fun D σ H h => ?_
  obtain ⟨P0, q, H0, ρ, w, ow, o, w', s, ev, af⟩ := h
  obtain ⟨ds, w1, ea, ev⟩ := bind_inv ev
  split at ev
  · rename_i g
    obtain ⟨ρ', w2, el, ev⟩ := bind_inv ev
    obtain ⟨e1, rfl⟩ := lift_inv el
    obtain ⟨rfl, rfl⟩ := pure_inv ev
    exact s.readL ea g fun H' vs s' sm r => names2 r e1 hs s' fun σ' s2 => af _ _ _ s2 sm
  · exact none_inv ev
theorem ss_asgT {dirty : Bool} {is : List Nat} {e : E} {ts : List Expr} {pe : Expr} {a : Nat} {b pos : Pos} (xo : XOk X C T k) (hk : X.env.scope.kind = .function) (sr : ScRel X X.env.scope) (hs : is.all (slotOk pl) = true)
    (hg : tgB X.N X.env.scope is (.Tuple ts a b) = true) (hm : mtE T pl X.N X.env.scope e pe = true) (hw : swP X.env.scope (.Tuple ts a b) pe = some none) : PS X (.Assign [.Tuple ts a b] pe pos) (tS X.K pl (evS C (.asgT dirty is e))) := by
  refine PS.wk (ps_asg (okE e X X.env.scope pe xo sr hm).1 (sg sr xo.nd xo.calm hg) sole_tup (swP_eq hk hw) rfl) fun D σ H h => ?_
  obtain ⟨P0, q, H0, ρ, w, ow, o, w', s, ev, af⟩ := h
  obtain ⟨dd, w1, ea, ev⟩ := bind_inv ev
  split at ev
  · rename_i xs
    split at ev
    · rename_i g
      obtain ⟨ρ', w2, el, ev⟩ := bind_inv ev
      obtain ⟨e1, rfl⟩ := lift_inv el
      obtain ⟨rfl, rfl⟩ := pure_inv ev
      refine s.read ea (by simpa [noL] using g) fun H' v s' sm r => ?_
      refine bind2 s' r ?_ hs fun σ' s2 => af _ _ _ s2 sm
      obtain ⟨h2, _⟩ := tgB_tup hg
      unfold bindT2
      split
      · simp at h2
      · exact e1
    · exact none_inv ev
  · exact none_inv ev
/-! ### a written tuple that ends by a new list -/
def tLN (K : PySem.W.Frag) (C : Ctx) (pl : Bool) : EL → E → TA
  | .nil, e => tCons (tF K C pl e) tNil
  | .cons a es, e => tCons (tE K C pl a) (tLN K C pl es e)
theorem pa_N {e : E} (xo : XOk X C T k) (sr : ScRel X X.env.scope) (hw : isNew e = true) : ∀ {es : EL} {ps : List Expr}, mtN T pl X.N X.env.scope es e ps = true → PA X ps (tLN X.K C pl es e)
  | .nil, ps, h => by
    unfold mtN at h
    match ps, h with
    | [pe], h => exact pa_cons (okF xo sr h hw) pa_nil (star_cons (mtE_unstar T pl X.N h))
    | [], h => cases h
    | _ :: _ :: _, h => cases h
  | .cons a es, ps, h => by
    unfold mtN at h
    match ps, h with
    | p :: r, h =>
      rw [Bool.and_eq_true] at h
      exact pa_cons (okE a X X.env.scope p xo sr h.1).1 (pa_N xo sr hw h.2) (star_cons (mtE_unstar T pl X.N h.1))
    | [], h => cases h
theorem readN {P0 : List Addr} {q : Option Addr} {H0 : Hp} {ρ : Env2} {ow : List (Nat × Addr)} {σ : L2.St} {e : E} {xs : List D} {w2 : W} : ∀ {es : EL} {ds : List D} {w w1 : W} {H : Hp} {Q : List V → Hp → Prop}, SR X.K pl P0 q H0 ρ w ow σ H →
    (evL C es (visE ρ)).run w = some (ds, w1) → (evE C e (visE ρ)).run w1 = some (.list xs, w2) →
    (∀ Hm H' vs a ys, SR X.K pl P0 q H0 ρ w1 ow σ Hm → Same (hide H (adr ow P0)) (hide Hm (adr ow P0)) → RpAll X.K (hide Hm (adr ow P0)) vs ds → Ext q w2 Hm H' → Hm a = none → H' a = some (.lst ys) → ys.length ≤ sizeLine → RpAll X.K (hide H' (a :: adr ow P0)) ys xs → Q (vs ++ [.ref a]) H') →
    tLN X.K C pl es e σ H Q
  | .nil, ds, w, w1, H, Q, s, e1, e2, h => by
    obtain ⟨rfl, rfl⟩ := pure_inv e1
    exact ⟨_, q, _, w, xs, w2, s.sitV, e2, fun H' a ys x n hl hz r => h H H' [] a ys s (fun _ _ z => z) .nil x n hl hz r⟩
  | .cons a es, ds, w, w1, H, Q, s, e1, e2, h => by
    obtain ⟨d, w3, e3, e1⟩ := bind_inv e1
    obtain ⟨ds', w4, e4, e1⟩ := bind_inv e1
    obtain ⟨rfl, rfl⟩ := pure_inv e1
    refine s.read (dirty := false) e3 rfl fun H1 v s1 sm r => ?_
    refine readN s1 e4 e2 fun Hm H' vs a ys s2 sm2 r2 x n hl hz r3 => ?_
    exact h Hm H' (v :: vs) a ys s2 (Same.tr sm sm2) (.cons (r.mono sm2) r2) x n hl hz r3
theorem tLN_mono {σ : L2.St} {e : E} : ∀ {es : EL} {H : Hp} {Q Q' : List V → Hp → Prop}, tLN X.K C pl es e σ H Q → (∀ vs H', Q vs H' → Q' vs H') → tLN X.K C pl es e σ H Q'
  | .nil, H, Q, Q', h, i => by
    obtain ⟨P, q, ρ, w, ds, w', st, ev, kk⟩ := h
    exact ⟨P, q, ρ, w, ds, w', st, ev, fun H' a xs x n e l r => i _ _ (kk H' a xs x n e l r)⟩
  | .cons a es, H, Q, Q', h, i => by
    obtain ⟨P, q, ρ, w, d, w', st, ev, kk⟩ := h
    exact ⟨P, q, ρ, w, d, w', st, ev, fun H' v x r => tLN_mono (kk H' v x r) fun vs H' z => i _ _ z⟩
theorem mtN_len {N : List Str} {sc : Scope} {e : E} : ∀ {es : EL} {ps : List Expr}, mtN T pl N sc es e ps = true → ps.length = es.len + 1
  | .nil, ps, h => by
    unfold mtN at h
    match ps, h with
    | [pe], h => rfl
    | [], h => cases h
    | _ :: _ :: _, h => cases h
  | .cons a es, ps, h => by
    unfold mtN at h
    match ps, h with
    | p :: r, h =>
      rw [Bool.and_eq_true] at h
      show r.length + 1 = _
      rw [mtN_len h.2]
      rfl
    | [], h => cases h
theorem ss_parN {is : List Nat} {i : Nat} {es : EL} {e : E} {ts ps : List Expr} {a c : Nat} {b d pos : Pos} (xo : XOk X C T k) (hk : X.env.scope.kind = .function) (sr : ScRel X X.env.scope) (hs : (is ++ [i]).all (slotOk pl) = true) (hd : (is ++ [i]).Nodup)
    (hg : tgB X.N X.env.scope (is ++ [i]) (.Tuple ts a b) = true) (hn : isNew e = true) (hm : mtN T pl X.N X.env.scope es e ps = true) (hw : (swF X.env.scope ts ps).isSome = true) (hl16 : ps.length ≤ 16) :
    PS X (.Assign [.Tuple ts a b] (.Tuple ps c d) pos) (tS X.K pl (evS C (.parN is i es e))) := by
  have hs' : is.all (slotOk pl) = true ∧ slotOk pl i = true := by
    rw [List.all_append, Bool.and_eq_true] at hs
    exact ⟨hs.1, by simpa using hs.2⟩
  have core : ∀ (D : Ends) (σ : L2.St) (H : Hp), tS X.K pl (evS C (.parN is i es e)) D σ H → tLN X.K C pl es e σ H fun vs H1 => gNames (is ++ [i]) vs σ H1 D.nx := fun D σ H h => by
    obtain ⟨P0, q, H0, ρ, w, ow, o, w', s, ev, af⟩ := h
    obtain ⟨ds, w1, e1, ev⟩ := bind_inv ev
    obtain ⟨d, w2, e2, ev⟩ := bind_inv ev
    obtain ⟨ρ', w3, el, ev⟩ := bind_inv ev
    obtain ⟨e3, rfl⟩ := lift_inv el
    split at ev
    rotate_left
    · exact none_inv ev
    rename_i xs
    obtain ⟨rfl, rfl⟩ := pure_inv ev
    refine readN s e1 e2 fun Hm H' vs a ys s2 sm r x n hl hz r3 => ?_
    refine namesN r e3 hs'.1 s2 fun σ' s3 => ?_
    obtain ⟨s4, sm4⟩ := s3.setO hs'.2 x n hl hz r3
    exact af _ _ _ s4 (Same.tr sm sm4)
  have pa := pa_N (pl := pl) (C := C) xo sr hn hm
  cases e1 : swF X.env.scope ts ps with
  | none => rw [e1] at hw; cases hw
  | some r =>
    cases r with
    | some nm =>
      refine PS.wk (par_any xo hk hg hd e1 pa) fun D σ H h => ?_
      show tLN X.K C pl es e σ H _
      exact core D σ H h
    | none =>
      refine PS.wk (ps_asg (pe_tup pa) (sg sr xo.nd xo.calm hg) sole_tup (swF_eq hk e1) rfl) fun D σ H h => ?_
      show tLN X.K C pl es e σ H _
      obtain ⟨P0, q, H0, ρ, w, ow, o, w', s, ev, af⟩ := h
      obtain ⟨ds, w1, g1, ev⟩ := bind_inv ev
      obtain ⟨d, w2, g2, ev⟩ := bind_inv ev
      obtain ⟨ρ', w3, el, ev⟩ := bind_inv ev
      obtain ⟨e3, rfl⟩ := lift_inv el
      split at ev
      rotate_left
      · exact none_inv ev
      rename_i xs
      obtain ⟨rfl, rfl⟩ := pure_inv ev
      refine readN s g1 g2 fun Hm H' vs a ys s2 sm r x n hl hz r3 => ?_
      have lv : (vs ++ [V.ref a]).length = es.len + 1 := by rw [List.length_append, r.length, evL_len es g1]; rfl
      have lp := mtN_len hm
      refine ⟨by rw [lv, ← lp]; exact Nat.le_trans hl16 (by decide), fun p np => ?_⟩
      obtain ⟨h2, _⟩ := tgB_tup hg
      have eg : gT X.K (is ++ [i]) = gTL X.K (is ++ [i]).length (gNames (is ++ [i])) := by
        unfold gT
        split
        · rename_i z
          rw [z] at h2
          simp at h2
        · rfl
      rw [eg]
      have lis : is.length = ds.length := setAll2_len e3
      refine .inl ⟨p, vs ++ [.ref a], rfl, .inl (.inl upd_same), by rw [lv, List.length_append, lis, evL_len es g1]; rfl, ?_⟩
      refine namesN r e3 hs'.1 s2 fun σ' s3 => ?_
      have b' : Bs (adr ow P0) q _ H' := s2.b.ext x
      have x' := x.trans (b'.new (o := .tup (vs ++ [.ref a])) np)
      have hap : a ≠ p := fun z => by rw [z, np] at hl; cases hl
      obtain ⟨s4, sm4⟩ := s3.setO (xs := ys) (ds := _) hs'.2 x' n (by rw [upd_ne hap]; exact hl) hz (r3.mono fun y o (h : hide _ _ y = some o) => show hide _ _ y = some o by
        unfold hide at h ⊢
        split at h
        · cases h
        · rename_i ny
          rw [if_neg ny, upd_ne (ne_of_none h np)]
          exact h)
      exact af _ _ _ s4 (Same.tr sm sm4)
end
end RX

-- RX16
set_option Elab.async false
set_option linter.all false
set_option maxRecDepth 100000
set_option maxHeartbeats 4000000
/-! RX16: methods of own lists, branches, loops; all statements; a def. -/
namespace RX
open PySem PySem.Spec PyProof.Rows L2
variable [PWd]
section
variable {X : Cx} {C : Ctx} {T : Tab} {pl : Bool} {k : Nat}
theorem listAt_some {ρ : Env2} {i : Nat} {xs : List D} (h : listAt ρ i = some xs) : get2 ρ i = some (true, .list xs) := by
  unfold listAt at h
  split at h
  · rename_i e
    cases h
    exact e
  · cases h
theorem methB_some {N : List Str} {sc : Scope} {i : Nat} {m : Str} {pc : Expr} {ps : List Expr} (h : methB N sc i m pc = some ps) :
    ∃ x px ap cp, pc = .Call (.Attribute (.Name x px) m ap) ps [] cp ∧ nameIs N sc i x = true ∧ (ap.endLine == cp.line) = true := by
  unfold methB at h
  split at h
  · split at h
    · rename_i c
      cases h
      simp only [Bool.and_eq_true, decide_eq_true_eq] at c
      obtain ⟨⟨c1, rfl⟩, c3⟩ := c
      exact ⟨_, _, _, _, rfl, c1, c3⟩
    · cases h
  · cases h
theorem var_of {N : List Str} {i : Nat} {x : Str} {px : Pos} (sr : ScRel X X.env.scope) (h : nameIs X.N X.env.scope i x = true) : PE X (.Name x px) (tVar i) := by
  obtain ⟨h1, h2, h3, h4⟩ := nameIs_iff h
  unfold plainName at h4
  simp only [Bool.and_eq_true, bne_iff_ne, ne_eq] at h4
  exact pe_var h1 (sr.vis x h3) (by simpa using h4.1.1) (by simpa using h4.1.2)
section
variable {P0 : List Addr} {q : Option Addr} {H0 H : Hp} {ρ : Env2} {w w1 w' : W} {ow : List (Nat × Addr)} {σ : L2.St} {K : PySem.W.Frag}
theorem SR.ownAt (s : SR K pl P0 q H0 ρ w ow σ H) {i : Nat} {ds : List D} (h : get2 ρ i = some (true, .list ds)) :
    ∃ a xs, σ[i]? = some (some (.ref a)) ∧ (i, a) ∈ ow ∧ H a = some (.lst xs) ∧ xs.length ≤ sizeLine ∧ RpAll K (hide H (adr ow P0)) xs ds := by
  obtain ⟨v, h1, a, xs, ds', rfl, h2, e, h3, h4, h5⟩ := s.own i _ h
  cases e
  exact ⟨a, xs, h1, h2, h3, h4, h5⟩
end
theorem ss_app {dirty : Bool} {i : Nat} {e : E} {pc pe : Expr} {pos : Pos} (xo : XOk X C T k) (sr : ScRel X X.env.scope) (hc : methB X.N X.env.scope i "append" pc = some [pe]) (hm : mtE T pl X.N X.env.scope e pe = true) :
    PS X (.Expr pc pos) (tS X.K pl (evS C (.app dirty i e))) := by
  obtain ⟨x, px, ap, cp, rfl, hx, hline⟩ := methB_some hc
  have hst := star_cons (ps := []) (env := X.env) (mtE_unstar T pl X.N hm)
  refine PS.wk (ps_expr (pe_bm (X := X) PySem.F.plainAttrs_list PySem.F.slot_list_append PySem.F.type_list_append mt_append (var_of (N := X.N) sr hx) (pa_cons (okE e X X.env.scope pe xo sr hm).1 pa_nil hst) rfl (by rw [hst]; rfl) hline hst rfl) rfl) fun D σ H h => ?_
  obtain ⟨P0, q, H0, ρ, w, ow, o, w', s, ev, af⟩ := h
  obtain ⟨d, w1, ea, ev⟩ := bind_inv ev
  obtain ⟨xs, w2, el, ev⟩ := bind_inv ev
  obtain ⟨e1, rfl⟩ := lift_inv el
  split at ev
  · rename_i g
    obtain ⟨rfl, rfl⟩ := pure_inv ev
    rw [Bool.and_eq_true, decide_eq_true_eq] at g
    obtain ⟨a, ys, h1, h2, h3, h4, h5⟩ := s.ownAt (listAt_some e1)
    refine ⟨.ref a, h1, .inl ⟨rfl, ys, .inl (.inl h3)⟩, ?_⟩
    refine s.read ea g.1 fun H' v s' sm r => ?_
    obtain ⟨a', ys', g1, g2, g3, g4, g5⟩ := s'.ownAt (listAt_some e1)
    rw [h1] at g1
    cases g1
    refine ⟨a, ys', v, rfl, rfl, g3, by rw [g5.length]; exact g.2, ?_⟩
    obtain ⟨s2, sm2⟩ := s'.mut g2 h1 (xs' := ys' ++ [v]) (by rw [List.length_append, g5.length]; exact g.2) (g5.append (.cons r .nil))
    exact af _ _ _ s2 (Same.tr sm sm2)
  · exact none_inv ev
theorem ss_ins {dirty : Bool} {i : Nat} {kx e : E} {pc pk pe : Expr} {pos : Pos} (xo : XOk X C T k) (sr : ScRel X X.env.scope) (hc : methB X.N X.env.scope i "insert" pc = some [pk, pe]) (hk : mtE T pl X.N X.env.scope kx pk = true) (hm : mtE T pl X.N X.env.scope e pe = true) :
    PS X (.Expr pc pos) (tS X.K pl (evS C (.ins dirty i kx e))) := by
  obtain ⟨x, px, ap, cp, rfl, hx, hline⟩ := methB_some hc
  have hst := star_cons (ps := []) (env := X.env) (mtE_unstar T pl X.N hm)
  have hst2 := star_cons (ps := [pe]) (env := X.env) (mtE_unstar T pl X.N hk)
  refine PS.wk (ps_expr (pe_bm (X := X) PySem.F.plainAttrs_list PySem.F.slot_list_insert PySem.F.type_list_insert mt_insert (var_of (N := X.N) sr hx) (pa_cons (okE kx X X.env.scope pk xo sr hk).1 (pa_cons (okE e X X.env.scope pe xo sr hm).1 pa_nil hst) hst2) rfl (by rw [hst2, hst]; rfl) hline hst2 (by rw [hst]; rfl)) rfl) fun D σ H h => ?_
  obtain ⟨P0, q, H0, ρ, w, ow, o, w', s, ev, af⟩ := h
  obtain ⟨dk, w0, ek, ev⟩ := bind_inv ev
  obtain ⟨d, w1, ea, ev⟩ := bind_inv ev
  obtain ⟨n, w3, el0, ev⟩ := bind_inv ev
  obtain ⟨e0, rfl⟩ := lift_inv el0
  obtain ⟨xs, w2, el, ev⟩ := bind_inv ev
  obtain ⟨e1, rfl⟩ := lift_inv el
  split at ev
  · rename_i g
    obtain ⟨rfl, rfl⟩ := pure_inv ev
    rw [Bool.and_eq_true, decide_eq_true_eq] at g
    obtain ⟨g0, gl, gn, gm⟩ := g
    have e0 := asI e0
    subst e0
    obtain ⟨a, ys, h1, h2, h3, h4, h5⟩ := s.ownAt (listAt_some e1)
    refine ⟨.ref a, h1, .inl ⟨rfl, ys, .inl (.inl h3)⟩, ?_⟩
    refine s.read ek (by cases dirty <;> rfl) fun H1 u s1 sm1 r1 => ?_
    cases r1
    refine s1.read ea g0 fun H' v s' sm r => ?_
    obtain ⟨a', ys', g1, g2, g3, g4, g5⟩ := s'.ownAt (listAt_some e1)
    rw [h1] at g1
    cases g1
    refine ⟨a, ys', n, v, rfl, rfl, g3, by rw [g5.length]; exact gl, gn, gm, ?_⟩
    obtain ⟨s2, sm2⟩ := s'.mut g2 h1 (xs' := ys'.take n.toNat ++ [v] ++ ys'.drop n.toNat) (by
      rw [List.length_append, List.length_append, List.length_take, List.length_drop, List.length_singleton]
      have := g5.length
      omega) (((g5.take _).append (.cons r .nil)).append (g5.drop _))
    exact af _ _ _ s2 (Same.tr sm1 (Same.tr sm sm2))
  · exact none_inv ev
theorem ss_setIx {dirty : Bool} {i : Nat} {kx e : E} {x : Str} {px sp pos : Pos} {pk pe : Expr} (xo : XOk X C T k) (sr : ScRel X X.env.scope) (hx : nameIs X.N X.env.scope i x = true) (hk : mtE T pl X.N X.env.scope kx pk = true) (hm : mtE T pl X.N X.env.scope e pe = true) :
    PS X (.Assign [.Subscript (.Name x px) pk sp] pe pos) (tS X.K pl (evS C (.setIx dirty i kx e))) := by
  have sw : swapsWithSole [.Subscript (.Name x px) pk sp] pe pos.line X.env = pure false := by cases pe <;> rfl
  refine PS.wk (ps_asg (okE e X X.env.scope pe xo sr hm).1 (pg_sub (var_of (N := X.N) sr hx) (okE kx X X.env.scope pk xo sr hk).1 set_list (by intro v; cases pk <;> first | rfl | (rw [mtE_noSlice] at hk; cases hk))) sw (by cases pe <;> rfl) rfl) fun D σ H h => ?_
  obtain ⟨P0, q, H0, ρ, w, ow, o, w', s, ev, af⟩ := h
  obtain ⟨d, w1, ea, ev⟩ := bind_inv ev
  obtain ⟨dk, w0, ek, ev⟩ := bind_inv ev
  obtain ⟨n, w3, el0, ev⟩ := bind_inv ev
  obtain ⟨e0, rfl⟩ := lift_inv el0
  obtain ⟨xs, w2, el, ev⟩ := bind_inv ev
  obtain ⟨e1, rfl⟩ := lift_inv el
  split at ev
  · rename_i j hj
    split at ev
    · rename_i g
      obtain ⟨rfl, rfl⟩ := pure_inv ev
      have e0 := asI e0
      subst e0
      refine s.read ea g fun H1 v s1 sm1 r1 => ?_
      obtain ⟨a, ys, h1, h2, h3, h4, h5⟩ := s1.ownAt (listAt_some e1)
      refine ⟨.ref a, h1, ?_⟩
      refine s1.read ek (by cases dirty <;> rfl) fun H' u s' sm r => ?_
      cases r
      obtain ⟨a', ys', g1, g2, g3, g4, g5⟩ := s'.ownAt (listAt_some e1)
      rw [h1] at g1
      cases g1
      refine ⟨a, ys', n, j, rfl, rfl, g3, by rw [g5.length]; exact hj, ?_⟩
      obtain ⟨s2, sm2⟩ := s'.mut g2 h1 (xs' := ys'.set j v) (by rw [List.length_set]; exact g4) (g5.set j (r1.mono sm))
      exact af _ _ _ s2 (Same.tr sm1 (Same.tr sm sm2))
    · exact none_inv ev
  · exact none_inv ev
theorem seqIx_nat {n : Int} {l : Nat} (h0 : 0 ≤ n) (h : n.toNat < l) : seqIndex? n l = some n.toNat := by
  have hl : n < (l : Int) := by omega
  have hn : ¬ n < 0 := by omega
  simp [seqIndex?, hn, h0, hl]
theorem rpEraseIdx {K : PySem.W.Frag} {H : Hp} : ∀ {vs : List V} {ds : List D} (k : Nat), RpAll K H vs ds → RpAll K H (vs.eraseIdx k) (ds.eraseIdx k)
  | [], [], _, .nil => .nil
  | _ :: _, _ :: _, 0, .cons _ t => t
  | _ :: _, _ :: _, k + 1, .cons r t => .cons r (rpEraseIdx k t)
/-- names = list.pop(k) -/
theorem ss_popT {is : List Nat} {i : Nat} {kx : E} {ts : List Expr} {pc pk : Expr} {a : Nat} {b pos : Pos} (xo : XOk X C T k) (hkf : X.env.scope.kind = .function) (sr : ScRel X X.env.scope) (hs : is.all (slotOk pl) = true) (hg : tgB X.N X.env.scope is (.Tuple ts a b) = true)
    (hc : methB X.N X.env.scope i "pop" pc = some [pk]) (hk : mtE T pl X.N X.env.scope kx pk = true) : PS X (.Assign [.Tuple ts a b] pc pos) (tS X.K pl (evS C (.popT is i kx))) := by
  obtain ⟨x, px, ap, cp, rfl, hx, hline⟩ := methB_some hc
  have hst := star_cons (ps := []) (env := X.env) (mtE_unstar T pl X.N hk)
  refine PS.wk (ps_asg (pe_bm (X := X) PySem.F.plainAttrs_list PySem.F.slot_list_pop PySem.F.type_list_pop mt_popAt (var_of (N := X.N) sr hx) (pa_cons (okE kx X X.env.scope pk xo sr hk).1 pa_nil hst) rfl (by rw [hst]; rfl) hline hst rfl) (sg sr xo.nd xo.calm hg) sole_tup (swP_eq hkf (by rfl)) rfl) fun D σ H h => ?_
  obtain ⟨P0, q, H0, ρ, w, ow, o, w', s, ev, af⟩ := h
  obtain ⟨dk, w0, ek, ev⟩ := bind_inv ev
  obtain ⟨n, w3, el0, ev⟩ := bind_inv ev
  obtain ⟨e0, rfl⟩ := lift_inv el0
  obtain ⟨xs, w2, el, ev⟩ := bind_inv ev
  obtain ⟨e1, rfl⟩ := lift_inv el
  split at ev
  · rename_i g
    obtain ⟨y, w4, el1, ev⟩ := bind_inv ev
    obtain ⟨e2, rfl⟩ := lift_inv el1
    obtain ⟨ρ', w5, el2, ev⟩ := bind_inv ev
    obtain ⟨e3, rfl⟩ := lift_inv el2
    obtain ⟨rfl, rfl⟩ := pure_inv ev
    have e0 := asI e0
    subst e0
    obtain ⟨a, ys, h1, h2, h3, h4, h5⟩ := s.ownAt (listAt_some e1)
    refine ⟨.ref a, h1, .inl ⟨rfl, ys, .inl (.inl h3)⟩, ?_⟩
    refine s.read (dirty := true) ek rfl fun H1 u s1 sm1 r1 => ?_
    cases r1
    obtain ⟨a', ys', g1, g2, g3, g4, g5⟩ := s1.ownAt (listAt_some e1)
    rw [h1] at g1
    cases g1
    have hlt : n.toNat < xs.length := (List.getElem?_eq_some_iff.mp e2).1
    obtain ⟨v, hv, rv⟩ := g5.get e2
    obtain ⟨s2, sm2⟩ := s1.mut g2 h1 (xs' := ys'.eraseIdx n.toNat) (Nat.le_trans (by
      rw [List.length_eraseIdx]
      split <;> omega) g4) (rpEraseIdx n.toNat g5)
    refine ⟨a, ys', n, n.toNat, v, rfl, rfl, g3, by omega, g.2, seqIx_nat g.1 (by rw [g5.length]; exact hlt), hv, ?_⟩
    exact bind2 s2 (rv.mono sm2) e3 hs fun σ' s3 => af _ _ _ s3 (Same.tr sm1 sm2)
  · exact none_inv ev
/-! ### branches, loops -/
theorem ss_ite {c : E} {a b : SL} {pc : Expr} {ps qs : List Stmt} {pos : Pos} (xo : XOk X C T k) (sr : ScRel X X.env.scope) (hm : mtE T pl X.N X.env.scope c pc = true) (ha : PSs X ps (tS X.K pl (evSL C a))) (hb : PSs X qs (tS X.K pl (evSL C b))) :
    PS X (.If pc ps qs pos) (tS X.K pl (evS C (.ite c a b))) := by
  refine PS.wk (ps_if (okE c X X.env.scope pc xo sr hm).2 ha hb) fun D σ H h => ?_
  obtain ⟨P0, q, H0, ρ, w, ow, o, w', s, ev, af⟩ := h
  obtain ⟨t, w1, ea, ev⟩ := bind_inv ev
  refine s.readT ea fun H' s' sm => ?_
  cases t with
  | true => exact ⟨P0, q, H0, ρ, w1, ow, o, w', s', ev, af.mono sm⟩
  | false => exact ⟨P0, q, H0, ρ, w1, ow, o, w', s', ev, af.mono sm⟩
theorem Ext.of_grow {P : List Addr} {q : Option Addr} {w : W} {H H' : Hp} (b : Bs P q w H) (g : Grows H H') : Ext q w H H' := by
  rcases g with rfl | ⟨t, o, n, rfl⟩
  · exact b.refl
  · exact b.new n
theorem ss_for {tg : List Nat} {it : RX.It} {b : SL} {pt pi : Expr} {ps : List Stmt} {pos : Pos} (xo : XOk X C T k) (hp : PassesOwn (model X.prog X.w) X.A X.env X.xe) (sr : ScRel X X.env.scope) (hs : tg.all (slotOk pl) = true) (hg : tgB X.N X.env.scope tg pt = true)
    (hi : mtI T pl X.N X.env.scope it pi = true) (h2 : (!itTup it || decide (2 ≤ tg.length)) = true) (hb : PSs X ps (tS X.K pl (evSL C b))) : PS X (.For pt pi ps [] pos) (tS X.K pl (evS C (.for tg it b))) := by
  refine PS.wk (ps_for hp xo.calm (okI it X X.env.scope pt pi xo sr hi fun z => ?_) (sg sr xo.nd xo.calm hg) hb (fun x => fold_ok (mtI_notSet hi) x)) fun D σ H h => ?_
  · rw [z] at h2
    exact tg_tup hg (by simpa using h2)
  obtain ⟨P0, q, H0, ρ, w, ow, o, w', s, ev, af⟩ := h
  obtain ⟨xs, w1, ea, ev⟩ := bind_inv ev
  generalize hf : (fun x ρ => do
      let ρ' ← lift (bindT2 tg x ρ)
      evSL C b ρ' : PyData → Env2 → M Out) = f at ev
  refine ⟨_, q, _, w, xs, w1, s.sitV, ea, fun J H1 as G Y x1 wd => ?_⟩
  have s1 := s.ext x1
  have sm1 := s.b.same x1
  let Pv : Nat → L2.St → Hp → Prop := fun i σ' Hc => ∃ ρ' wi ow', SR X.K pl P0 q H0 ρ' wi ow' σ' Hc ∧ Same (hide H1 (adr ow P0)) (hide Hc (adr ow' P0)) ∧ (forM f (xs.drop i) ρ').run wi = some (o, w')
  have keepG : ∀ i σ' Hc, Pv i σ' Hc → G Hc := fun i σ' Hc ⟨ρ', wi, ow', sc, smc, _⟩ => wd.stay H1 Hc wd.g0 fun a ha o' e => by
    have e1 : hide H1 (adr ow P0) a = some o' := by rw [hide_at (wd.out a ha)]; exact e
    exact hide_same _ _ _ _ (smc a o' e1)
  refine for_it wd.wk Pv ⟨ρ, w1, ow, s1, fun _ _ z => z, by rw [List.drop_zero]; exact ev⟩ (fun i σ' Hc _ p => keepG i σ' Hc p) (fun i x σ' Hc Hc' hlt p hy => ?_) fun σ' Hc p => ?_
  · have hG := keepG i σ' Hc p
    obtain ⟨ρ', wi, ow', sc, smc, evi⟩ := p
    obtain ⟨gr, rx⟩ := wd.item i Hc x Hc' xs[i] (adr ow' P0) hlt hG smc sc.b.tr hy (List.getElem?_eq_getElem hlt)
    have xg := Ext.of_grow sc.b gr
    have sc' := sc.ext xg
    have smg := sc.b.same xg
    rw [List.drop_eq_getElem_cons hlt] at evi
    obtain ⟨oi, w2, ei, evi⟩ := bind_inv evi
    rw [← hf] at ei
    obtain ⟨ρ2, w3, el, ei⟩ := bind_inv ei
    obtain ⟨e2, rfl⟩ := lift_inv el
    refine bind2 sc' rx e2 hs fun σ2 s2 => ?_
    refine ⟨P0, q, H0, ρ2, _, ow', oi, w2, s2, ei, ?_⟩
    cases oi with
    | next ρ3 => exact fun σ3 H3 ow3 s3 sm3 => ⟨ρ3, w2, ow3, s3, Same.tr smc (Same.tr smg sm3), evi⟩
    | cont ρ3 => exact fun σ3 H3 ow3 s3 sm3 => ⟨ρ3, w2, ow3, s3, Same.tr smc (Same.tr smg sm3), evi⟩
    | brk ρ3 =>
      obtain ⟨rfl, rfl⟩ := pure_inv evi
      exact fun σ3 H3 ow3 s3 sm3 => af σ3 H3 ow3 s3 (Same.tr sm1 (Same.tr smc (Same.tr smg sm3)))
    | ret d =>
      obtain ⟨rfl, rfl⟩ := pure_inv evi
      exact af
  · obtain ⟨ρ', wi, ow', sc, smc, evi⟩ := p
    rw [List.drop_length] at evi
    obtain ⟨rfl, rfl⟩ := pure_inv evi
    exact af σ' Hc ow' sc (Same.tr sm1 smc)
theorem ss_whl {n : Nat} {c : E} {b : SL} {pc : Expr} {ps : List Stmt} {pos : Pos} (xo : XOk X C T k) (hp : PassesOwn (model X.prog X.w) X.A X.env X.xe) (sr : ScRel X X.env.scope) (hm : mtE T pl X.N X.env.scope c pc = true) (hb : PSs X ps (tS X.K pl (evSL C b))) :
    PS X (.While pc ps [] pos) (tS X.K pl (evS C (.whl n c b))) := by
  refine PS.wk (ps_while hp (okE c X X.env.scope pc xo sr hm).2 hb) fun D σ H h => ?_
  obtain ⟨P0, q, H0, ρ, w, ow, o, w', s, ev, af⟩ := h
  refine ⟨fun m σ' H' => ∃ ρ' wi ow', SR X.K pl P0 q H0 ρ' wi ow' σ' H' ∧ Same (hide H (adr ow P0)) (hide H' (adr ow' P0)) ∧ (whileM (fun ρ => evT C c (allE ρ)) (evSL C b) m ρ').run wi = some (o, w'), ⟨n, ρ, w, ow, s, fun _ _ z => z, ev⟩, ?_⟩
  rintro m σ1 H1 ⟨ρ1, w1, ow1, s1, sm1, ev1⟩
  cases m with
  | zero => exact none_inv ev1
  | succ m =>
    obtain ⟨t, w2, ea, ev2⟩ := bind_inv ev1
    refine s1.readT ea fun H2 s2 sm2 => ?_
    cases t with
    | false =>
      obtain ⟨rfl, rfl⟩ := pure_inv ev2
      exact af σ1 H2 ow1 s2 (Same.tr sm1 sm2)
    | true =>
      obtain ⟨oi, w3, ei, ev3⟩ := bind_inv ev2
      rw [if_pos rfl]
      refine ⟨fun σ' H' => ∃ ρ' wi ow', SR X.K pl P0 q H0 ρ' wi ow' σ' H' ∧ Same (hide H (adr ow P0)) (hide H' (adr ow' P0)) ∧ (whileM (fun ρ => evT C c (allE ρ)) (evSL C b) m ρ').run wi = some (o, w'), fun σ' H' z => ⟨m, Nat.lt_succ_self m, z⟩, ?_⟩
      refine ⟨P0, q, H0, ρ1, w2, ow1, oi, w3, s2, ei, ?_⟩
      cases oi with
      | next ρ3 => exact fun σ3 H3 ow3 s3 sm3 => ⟨ρ3, w3, ow3, s3, Same.tr sm1 (Same.tr sm2 sm3), ev3⟩
      | cont ρ3 => exact fun σ3 H3 ow3 s3 sm3 => ⟨ρ3, w3, ow3, s3, Same.tr sm1 (Same.tr sm2 sm3), ev3⟩
      | brk ρ3 =>
        obtain ⟨rfl, rfl⟩ := pure_inv ev3
        exact fun σ3 H3 ow3 s3 sm3 => af σ3 H3 ow3 s3 (Same.tr sm1 (Same.tr sm2 sm3))
      | ret d =>
        obtain ⟨rfl, rfl⟩ := pure_inv ev3
        exact af
theorem ss_ret {e : E} {pe : Expr} {pos : Pos} (xo : XOk X C T k) (sr : ScRel X X.env.scope) (hm : mtE T pl X.N X.env.scope e pe = true) : PS X (.Return (some pe) pos) (tS X.K pl (evS C (.ret e))) := by
  refine PS.wk (ps_ret (okE e X X.env.scope pe xo sr hm).1) fun D σ H h => ?_
  obtain ⟨P0, q, H0, ρ, w, ow, o, w', s, ev, af⟩ := h
  obtain ⟨d, w1, ea, ev⟩ := bind_inv ev
  obtain ⟨rfl, rfl⟩ := pure_inv ev
  exact ⟨_, q, _, w, d, _, s.sitA, ea, fun H' v x r => af v H' (s.ext0 x) r⟩
theorem ss_retN {pos : Pos} : PS X (.Return none pos) (tS X.K pl (evS C .retN)) := by
  refine PS.wk ps_retN fun D σ H h => ?_
  obtain ⟨P0, q, H0, ρ, w, ow, o, w', s, ev, af⟩ := h
  obtain ⟨rfl, rfl⟩ := pure_inv ev
  exact af .non H (s.ext0 s.b.refl) .non
theorem ss_stuck {st : Stmt} : PS X st (tS X.K pl (evS C .stuck)) := by
  refine PS.wk ps_never fun D σ H h => ?_
  obtain ⟨P0, q, H0, ρ, w, ow, o, w', s, ev, af⟩ := h
  exact none_inv ev
theorem ss_expr {e : E} {pe : Expr} {pos : Pos} (xo : XOk X C T k) (sr : ScRel X X.env.scope) (hm : mtE T pl X.N X.env.scope e pe = true) (hl : isLC pe = false) : PS X (.Expr pe pos) (tS X.K pl (evS C (.expr e))) := by
  refine PS.wk (ps_expr (okE e X X.env.scope pe xo sr hm).1 (swaps_false hl)) fun D σ H h => ?_
  obtain ⟨P0, q, H0, ρ, w, ow, o, w', s, ev, af⟩ := h
  obtain ⟨d, w1, ea, ev⟩ := bind_inv ev
  obtain ⟨rfl, rfl⟩ := pure_inv ev
  exact ⟨_, q, _, w, d, _, s.sitA, ea, fun H' v x r => af σ H' ow (s.ext x) (s.b.same x)⟩
theorem ss_nx {st : Stmt} {r : Env2 → M Out} (f : Env2 → Out) (t : TS) (h : PS X st t) (e : ∀ ρ, r ρ = pure (f ρ)) (i : ∀ P0 q H0 ow H w' D ρ σ, SR X.K pl P0 q H0 ρ w' ow σ H → Aft X.K pl P0 q H0 ow H w' D (f ρ) → t D σ H) : PS X st (tS X.K pl r) := by
  refine PS.wk h fun D σ H h => ?_
  obtain ⟨P0, q, H0, ρ, w, ow, o, w', s, ev, af⟩ := h
  rw [e] at ev
  obtain ⟨rfl, rfl⟩ := pure_inv ev
  exact i P0 q H0 ow H _ D ρ σ s af
theorem sss_nil : PSs X [] (tS X.K pl (evSL C .nil)) := by
  refine ⟨fun pins s σ H D I h => (pss_nil).run pins s σ H D I ?_⟩
  obtain ⟨P0, q, H0, ρ, w, ow, o, w', s, ev, af⟩ := h
  obtain ⟨rfl, rfl⟩ := pure_inv ev
  exact af σ H ow s fun _ _ z => z
theorem sss_cons {a : S} {as : SL} {st : Stmt} {sts : List Stmt} (h1 : PS X st (tS X.K pl (evS C a))) (h2 : PSs X sts (tS X.K pl (evSL C as))) : PSs X (st :: sts) (tS X.K pl (evSL C (.cons a as))) := by
  refine ⟨fun pins s σ H D I h => (pss_cons h1 h2).run pins s σ H D I ?_⟩
  obtain ⟨P0, q, H0, ρ, w, ow, o, w', s, ev, af⟩ := h
  obtain ⟨oi, w1, ei, ev⟩ := bind_inv ev
  refine ⟨P0, q, H0, ρ, w, ow, oi, w1, s, ei, ?_⟩
  cases oi with
  | next ρ3 => exact fun σ3 H3 ow3 s3 sm3 => ⟨P0, q, H0, ρ3, w1, ow3, o, w', s3, ev, af.mono sm3⟩
  | cont ρ3 =>
    obtain ⟨rfl, rfl⟩ := pure_inv ev
    exact af
  | brk ρ3 =>
    obtain ⟨rfl, rfl⟩ := pure_inv ev
    exact af
  | ret d =>
    obtain ⟨rfl, rfl⟩ := pure_inv ev
    exact af
theorem sss_free {i : Nat} {as : SL} {sts : List Stmt} (h2 : PSs X sts (tS X.K pl (evSL C as))) : PSs X sts (tS X.K pl (evSL C (.cons (.free i) as))) := by
  refine ⟨fun pins s σ H D I h => h2.run pins s σ H D I ?_⟩
  obtain ⟨P0, q, H0, ρ, w, ow, o, w', s, ev, af⟩ := h
  obtain ⟨oi, w1, ei, ev⟩ := bind_inv ev
  obtain ⟨rfl, rfl⟩ := pure_inv ei
  cases g : get2 ρ i with
  | none =>
    rw [g] at ev
    exact ⟨P0, q, H0, ρ, _, ow, o, w', s, ev, af⟩
  | some p =>
    obtain ⟨b, d⟩ := p
    rw [g] at ev
    cases b with
    | true =>
      obtain ⟨ow', s', sm⟩ := s.free g
      exact ⟨P0, q, H0, _, _, ow', o, w', s', ev, af.mono sm⟩
    | false =>
      refine ⟨P0, q, H0, _, _, ow, o, w', ?_, ev, af⟩
      have e : ρ.set i (some (false, d)) = ρ := by
        unfold get2 at g
        apply List.ext_getElem?
        intro j
        rw [List.getElem?_set]
        split
        · rename_i z
          subst z
          split
          · cases h : ρ[i]? with
            | none => rw [h] at g; cases g
            | some y => rw [h] at g; cases g; rfl
          · rename_i hh
            rw [List.getElem?_eq_none (by omega)]
        · rfl
      show SR X.K pl P0 q H0 (ρ.set i (some (false, d))) w ow σ H
      rw [e]
      exact s
/-! ### all statements -/
def OkS (C : Ctx) (T : Tab) (pl : Bool) (k : Nat) (s : S) : Prop := ∀ (X : Cx) (st : Stmt), XOk X C T k → (∀ x, X.fn x = true) → X.env.scope.kind = .function → PassesOwn (model X.prog X.w) X.A X.env X.xe → mtS T pl X.N X.env.scope s st = true → PS X st (tS X.K pl (evS C s))
def OkSL (C : Ctx) (T : Tab) (pl : Bool) (k : Nat) (s : SL) : Prop := ∀ (X : Cx) (sts : List Stmt), XOk X C T k → (∀ x, X.fn x = true) → X.env.scope.kind = .function → PassesOwn (model X.prog X.w) X.A X.env X.xe → mtSL T pl X.N X.env.scope s sts = true → PSs X sts (tS X.K pl (evSL C s))
mutual
theorem okS : ∀ s : S, OkS C T pl k s
  | .asg dirty i e => fun X st xo hf hk hp h => by
    unfold mtS at h
    split at h
    · simp only [Bool.and_eq_true] at h
      exact ss_asg xo hk (ScRel.self hf) h.1.1.1 h.1.1.2 h.1.2 h.2
    · cases h
  | .new i e => fun X st xo hf hk hp h => by
    unfold mtS at h
    split at h
    · simp only [Bool.and_eq_true] at h
      exact ss_new xo hk (ScRel.self hf) h.1.1.1.1 h.1.1.1.2 h.1.1.2 h.1.2 h.2
    · cases h
  | .free i => fun X st xo hf hk hp h => by
    unfold mtS at h
    cases h
  | .asgT dirty is e => fun X st xo hf hk hp h => by
    unfold mtS at h
    split at h
    · simp only [Bool.and_eq_true] at h
      obtain ⟨⟨⟨h1, h2⟩, h3⟩, h4⟩ := h
      split at h4
      · rename_i e4
        exact ss_asgT xo hk (ScRel.self hf) h1 h2 h3 e4
      · cases h4
    · cases h
  | .par dirty is es => fun X st xo hf hk hp h => by
    unfold mtS at h
    split at h
    · simp only [Bool.and_eq_true, decide_eq_true_eq] at h
      obtain ⟨⟨⟨⟨h1, hd⟩, h2⟩, h3⟩, h4⟩ := h
      split at h4
      · rename_i e4
        exact ss_par xo hk (ScRel.self hf) h1 hd h2 h3 e4
      · cases h4
    · cases h
  | .parN is i es e => fun X st xo hf hk hp h => by
    unfold mtS at h
    split at h
    · simp only [Bool.and_eq_true, decide_eq_true_eq] at h
      obtain ⟨⟨⟨⟨⟨⟨h1, hd⟩, h2⟩, h3⟩, h4⟩, h5⟩, h6⟩ := h
      exact ss_parN xo hk (ScRel.self hf) h1 hd h2 h3 h4 h5 h6
    · cases h
  | .app dirty i e => fun X st xo hf hk hp h => by
    unfold mtS at h
    split at h
    · split at h
      · rename_i e1
        exact ss_app xo (ScRel.self hf) e1 h
      · cases h
    · cases h
  | .ext dirty i e => fun X st xo hf hk hp h => by
    unfold mtS at h
    cases h
  | .ins dirty i kx e => fun X st xo hf hk hp h => by
    unfold mtS at h
    split at h
    · split at h
      · rename_i e1
        rw [Bool.and_eq_true] at h
        exact ss_ins xo (ScRel.self hf) e1 h.1 h.2
      · cases h
    · cases h
  | .setIx dirty i kx e => fun X st xo hf hk hp h => by
    unfold mtS at h
    split at h
    · simp only [Bool.and_eq_true] at h
      exact ss_setIx xo (ScRel.self hf) h.1.1 h.1.2 h.2
    · cases h
  | .popT is i kx => fun X st xo hf hk hp h => by
    unfold mtS at h
    split at h
    · simp only [Bool.and_eq_true] at h
      obtain ⟨⟨h1, h2⟩, h3⟩ := h
      split at h3
      · rename_i e
        exact ss_popT xo hk (ScRel.self hf) h1 h2 e h3
      · cases h3
    · cases h
  | .ite c a b => fun X st xo hf hk hp h => by
    unfold mtS at h
    split at h
    · simp only [Bool.and_eq_true] at h
      exact ss_ite xo (ScRel.self hf) h.1.1 (okSL a X _ xo hf hk hp h.1.2) (okSL b X _ xo hf hk hp h.2)
    · cases h
  | .for tg it b => fun X st xo hf hk hp h => by
    unfold mtS at h
    split at h
    · simp only [Bool.and_eq_true] at h
      obtain ⟨⟨⟨⟨h1, h2⟩, h3⟩, h4⟩, h5⟩ := h
      exact ss_for xo hp (ScRel.self hf) h1 h2 h3 h4 (okSL b X _ xo hf hk hp h5)
    · cases h
  | .whl n c b => fun X st xo hf hk hp h => by
    unfold mtS at h
    split at h
    · simp only [Bool.and_eq_true] at h
      exact ss_whl xo hp (ScRel.self hf) h.1 (okSL b X _ xo hf hk hp h.2)
    · cases h
  | .ret e => fun X st xo hf hk hp h => by
    unfold mtS at h
    split at h
    · exact ss_ret xo (ScRel.self hf) h
    · cases h
  | .retN => fun X st xo hf hk hp h => by
    unfold mtS at h
    split at h
    · exact ss_retN
    · cases h
  | .stuck => fun X st xo hf hk hp h => ss_stuck
  | .expr e => fun X st xo hf hk hp h => by
    unfold mtS at h
    split at h
    · simp only [Bool.and_eq_true, Bool.not_eq_true'] at h
      exact ss_expr xo (ScRel.self hf) h.1 h.2
    · cases h
  | .pass => fun X st xo hf hk hp h => by
    unfold mtS at h
    split at h
    · exact ss_nx .next tNext ps_pass (fun ρ => by unfold evS; rfl) fun P0 q H0 ow H w' D ρ σ s af => af σ H ow s fun _ _ z => z
    · cases h
  | .brk => fun X st xo hf hk hp h => by
    unfold mtS at h
    split at h
    · exact ss_nx .brk tBreak ps_break (fun ρ => by unfold evS; rfl) fun P0 q H0 ow H w' D ρ σ s af => af σ H ow s fun _ _ z => z
    · cases h
  | .cont => fun X st xo hf hk hp h => by
    unfold mtS at h
    split at h
    · exact ss_nx .cont tCont ps_continue (fun ρ => by unfold evS; rfl) fun P0 q H0 ow H w' D ρ σ s af => af σ H ow s fun _ _ z => z
    · cases h
theorem okSL : ∀ s : SL, OkSL C T pl k s
  | .nil => fun X sts xo hf hk hp h => by
    unfold mtSL at h
    split at h
    · exact sss_nil
    · cases h
  | .cons a as => fun X sts xo hf hk hp h => by
    unfold mtSL at h
    split at h
    · rename_i hfr
      cases a with
      | free i => exact sss_free (okSL as X sts xo hf hk hp h)
      | _ => cases hfr
    · split at h
      · rw [Bool.and_eq_true] at h
        exact sss_cons (okS a X _ xo hf hk hp h.1) (okSL as X _ xo hf hk hp h.2)
      · cases h
end
end
end RX

-- RX17
set_option Elab.async false
set_option linter.all false
set_option maxRecDepth 100000
set_option maxHeartbeats 4000000
/-! RX17: a def; the module's facts; the law's end. -/
namespace RX
open PySem PySem.Spec PyProof.Rows L2
variable [PWd]
section
variable (P : Program) (w : World) (K : PySem.W.Frag) (mg : Str → Option Value) (base : Heap)
structure FnFactG (k : Nat) (x : Str) (p : Bool) (ar : List Str) (ks : List (List Nat)) (m : Fn) : Prop where
  ex : ∃ f fd, FnOkG P w K mg base k f fd ar (spD K p ar.length m) ∧ mg x = some (.ref f) ∧ PySem.W.keepIn K (.ref f) = true ∧ Binds K fd ar [] ∧
    ∀ kw ∈ ks, ∀ ws : List Value, ws.length = kw.length → bindArgs fd ⟨[], ((kw.filterMap fun j => ar[j]?)).zip ws⟩ = pure (ar.zip (permA kw ws))
def GlFactG (x : Str) (d : D) : Prop := ∃ u v, mg x = some u ∧ RelV v u ∧ ∀ H, Rp K H v d
/-- what a def's body may lean on -/
structure GlobOk (C : Ctx) (T : Tab) (k : Nat) : Prop where
  fns : ∀ (j : Nat) (f : Fn), C.fns[j]? = some f → ∀ x p ar ks, T.fn[j]? = some (x, p, ar, ks) → FnFactG P w K mg base k x p ar ks f
  cs : ∀ (j : Nat) (d : D), C.cs[j]? = some d → ∀ x, T.cs[j]? = some x → GlFactG K mg x d
  bl : ∀ x ∈ T.bl, mg x = none
  mt : ∀ x ∈ T.mt, mg x = some (.builtin (if x = "gcd" then "math.gcd" else "math.lcm"))
  pw : thePW = ⟨P, w⟩
end
section
variable {P : Program} {w : World} {K : PySem.W.Frag} {mg : Str → Option Value} {base : Heap}
theorem FnFactG.mono {j k : Nat} {x : Str} {p : Bool} {ar : List Str} {ks : List (List Nat)} {m : Fn} (h : FnFactG P w K mg base j x p ar ks m) (hjk : j ≤ k) : FnFactG P w K mg base k x p ar ks m := by
  obtain ⟨f, fd, h1, h2⟩ := h.ex
  exact ⟨f, fd, h1.mono hjk, h2⟩
theorem GlobOk.xok {C : Ctx} {T : Tab} {k : Nat} (g : GlobOk P w K mg base C T k) {CX : CXT} {N : List Str} {qual : Str} {scope : Scope} {f : Addr} {cd : Value} {A : Around} {outer : List PySem.Env} {s : Shared} {H : Hp} {E : XK} (nd : N.Nodup)
    (hr : Room k (A.deeper (envOfC qual scope s.heap.objs.size f cd))) (gd : A.guards = some []) : XOk (cxOf CX P w K mg base N qual scope f cd A outer s H E).nox C T k :=
  ⟨rfl, nd, hr, gd, fun j f e x p ar ks e2 => ⟨(g.fns j f e x p ar ks e2).ex⟩, fun j d e x e2 => g.cs j d e x e2, g.bl, g.mt, g.pw⟩
theorem start_at {N : List Str} {vs : List V} {i : Nat} {v : V} (h : vs[i]? = some v) : (L2.start N vs)[i]? = some (some v) := by
  unfold L2.start
  have : i < vs.length := by
    rw [List.getElem?_eq_some_iff] at h
    exact h.1
  rw [List.getElem?_append_left (by rw [List.length_map]; exact this), List.getElem?_map, h]
  rfl
theorem get2_env0 {pl : Bool} {n : Nat} {args : List D} {i : Nat} {b : Bool} {d : D} (h : get2 (env0 pl n args) i = some (b, d)) : b = false ∧ ((pl = false ∧ args[i]? = some d) ∨ (pl = true ∧ ∃ j, i = j + 1 ∧ args[j]? = some d)) := by
  have pad : ∀ (ρ : Env2) m, get2 (ρ ++ List.replicate m none) i = some (b, d) → get2 ρ i = some (b, d) := fun ρ m e => by
    unfold get2 at e ⊢
    by_cases hi : i < ρ.length
    · rw [List.getElem?_append_left hi] at e
      exact e
    · rw [List.getElem?_append_right (by omega), List.getElem?_replicate] at e
      split at e <;> cases e
  have h := pad _ _ h
  have am : ∀ j, get2 (args.map fun d => some (false, d)) j = some (b, d) → b = false ∧ args[j]? = some d := fun j e => by
    unfold get2 at e
    rw [List.getElem?_map] at e
    cases z : args[j]? with
    | none => rw [z] at e; cases e
    | some y => rw [z] at e; cases e; exact ⟨rfl, rfl⟩
  cases pl with
  | false =>
    obtain ⟨h1, h2⟩ := am i h
    exact ⟨h1, .inl ⟨rfl, h2⟩⟩
  | true =>
    cases i with
    | zero => cases h
    | succ j =>
      obtain ⟨h1, h2⟩ := am j h
      exact ⟨h1, .inr ⟨rfl, j, rfl, h2⟩⟩
/-- at a def's entry -/
theorem SR.start {pl : Bool} {N : List Str} {vs : List V} {H : Hp} {P0 : List Addr} {q : Option Addr} {wl : W} {ds : List D} (b : Bs P0 q wl H) (hl : vs.length ≤ N.length)
    (hv : if pl = true then ∃ a us, q = some a ∧ vs = .ref a :: us ∧ RpAll K (hide H P0) us ds else q = none ∧ RpAll K (hide H P0) vs ds) : SR K pl P0 q H (env0 pl N.length ds) wl [] (L2.start N vs) H := by
  have hq : q.isSome = pl := by
    cases pl with
    | true => obtain ⟨a, us, rfl, _⟩ := hv; rfl
    | false => obtain ⟨rfl, _⟩ := hv; rfl
  have len : (L2.start N vs).length = N.length := by
    unfold L2.start
    rw [List.length_append, List.length_map, List.length_replicate]
    omega
  refine ⟨b, fun a e => (b.pool a e).1, b.tr, hq, fun a e => ?_, fun a o _ h => h, fun p hp => (nomatch hp), fun p hp => (nomatch hp), fun p hp => (nomatch hp), fun i d e => ?_, fun i d e => ?_, ?_⟩
  · cases pl with
    | true =>
      obtain ⟨a', us, e1, rfl, _⟩ := hv
      rw [e] at e1
      cases e1
      exact start_at rfl
    | false => rw [hv.1] at e; cases e
  · obtain ⟨_, h⟩ := get2_env0 e
    rcases h with ⟨rfl, h⟩ | ⟨rfl, j, rfl, h⟩
    · obtain ⟨v, h1, h2⟩ := hv.2.get h
      exact ⟨v, start_at h1, h2⟩
    · obtain ⟨a', us, e1, rfl, hr⟩ := hv
      obtain ⟨v, h1, h2⟩ := hr.get h
      exact ⟨v, start_at (by simpa using h1), h2⟩
  · obtain ⟨h, _⟩ := get2_env0 e
    cases h
  · rw [len]
    have : ((if pl then [none] else []) ++ ds.map (fun d => some (false, d)) : Env2).length = vs.length := by
      cases pl with
      | true =>
        obtain ⟨a', us, e1, rfl, hr⟩ := hv
        simp [hr.length, Nat.add_comm]
      | false => simp [hv.2.length]
    unfold env0
    rw [List.length_append, List.length_replicate, this]
    omega
/-- a def by its body, called where no list's text is under way -/
theorem fnG {k : Nat} {N ps : List Str} {x qual : Str} {params : Arguments} {body : List Stmt} {scope : Scope} {f : Addr} {fd : FuncData} {sp : Sp} (F : FunD K x qual params body scope [] [] f fd) (S : FnScope N ps scope) (len : ∀ vs H Q E, sp vs H Q E → vs.length = ps.length)
    (hbody : ∀ (cdv : Value) (A : Around) (outer : List PySem.Env) (s : Shared) (H : Hp) (vs : List V) (Q : VK) (E : XK), Room k (A.deeper (envOfC qual scope s.heap.objs.size f cdv)) → A.guards = some [] → sp vs H Q E →
      ∃ t, PSs (cxOf CX0 P w K mg base N qual scope f cdv A outer s H E) body t ∧ t { nx := fun _ H' => Q .non H', rt := Q } (L2.start N vs) H) : FnOkG P w K mg base (k + 1) f fd ps sp := by
  obtain ⟨oc, od, dV, kV, doc, pm, an, cdv, ct, osl, rfl, lk, hcd, _, _⟩ := F.ex
  refine ⟨len, fun A outer s H args us vs Q E hr gd e0 hb r hsp => ?_⟩
  have KX : K.In s.heap := e0.mod.kin.keeps fun b o e => (e0.bs b o e).1
  have cells : ∀ y ∈ ps.zip us, scope.names.lookup y.1 = some .local ∨ (scope.names.lookup y.1 = some .cell ∧ ((cellsFrom (s.heap.objs.size + 1) scope.names []).lookup y.1).isSome = true) := fun y hy =>
    (S.par y.1 (List.of_mem_zip (show (y.1, y.2) ∈ ps.zip us from hy)).1).imp id fun z => ⟨z, PySem.W.cellsFrom_some _ _ _ (.inl z)⟩
  refine codeAny_call_function hr.depth (KX _ _ lk) rfl S.co S.gen rfl (PySem.W.codeRec_of KX hcd) (hb _ _ _ _ (wpAny_newFunctionEnv_cells S.kind cells fun env he s1 x => ?_))
  subst he
  refine ⟨(e0.mod.nolimit.keeps fun b o e => (e0.bs b o e).1).keeps x.toInCall.keep, codeAny_func ?_⟩
  obtain ⟨t, ht, hq⟩ := hbody cdv A outer s H vs Q E (hr.deeper _) gd hsp
  have I := inv_start (CX := CX0) (E := E) S hr.hd e0 (len _ _ _ _ hsp) r x
  have fin : ∀ {σ' : L2.St} {H' : Hp} {v : V} {u : Value} {s' : Shared}, L2.Inv (cxOf CX0 P w K mg base N qual scope f cdv A outer s H E) [] σ' H' s' → RelV v u → Q v H' → CE outer P w H s Q u s' :=
    fun {σ' H' v u s'} J rv q => ⟨v, H', J.os, J.bare, J.base, J.hok, rv, q⟩
  refine wpAny_mono (ht.run [] s1 (L2.start N vs) H _ I hq) (fun fl s' hs => ?_) fun e s' hs => hs
  cases fl with
  | ret u => obtain ⟨v, σ', H', J, rv, q⟩ := hs; exact fin J rv q
  | next => obtain ⟨σ', H', J, q⟩ := hs; exact fin (v := V.non) (u := Value.none) J rfl q
  | _ => obtain ⟨_, _, _, q⟩ := hs; exact False.elim q
/-- THE RULE: a def whose body lies as the small syntax says -/
theorem def_ok {C : Ctx} {T : Tab} {pl : Bool} {k : Nat} {N ps : List Str} {b : SL} {x qual : Str} {params : Arguments} {body : List Stmt} {scope : Scope} {f : Addr} {fd : FuncData} (F : FunD K x qual params body scope [] [] f fd) (S : FnScope N ps scope)
    (hm : mtSL T pl N scope b body = true) (g : GlobOk P w K mg base C T k) : FnOkG P w K mg base (k + 1) f fd ps (spD K pl ps.length (runD C pl N.length b)) := by
  refine fnG F S (fun vs H Q E h => ?_) fun cdv A outer s H vs Q E hr gd h => ⟨tS K pl (evSL C b), PSs.nox ?_, ?_⟩
  · obtain ⟨P0, q, wl, ds, d, w', b, hl, _⟩ := h
    exact hl
  · exact okSL b _ body (g.xok S.nd hr gd) (fun _ => rfl) S.kind PassesOwn.never hm
  · obtain ⟨P0, q, wl, ds, d, w', bs, hl, hv, ev, hQ⟩ := h
    obtain ⟨o, w1, e1, ev⟩ := bind_inv ev
    have hpl : ps.length ≤ N.length := by have := congrArg List.length S.pre; rw [List.length_take] at this; omega
    have sr := SR.start (K := K) (N := N) bs (by omega) hv
    refine ⟨P0, q, H, _, wl, [], o, w1, sr, e1, ?_⟩
    cases o with
    | next ρ' =>
      obtain ⟨rfl, rfl⟩ := pure_inv ev
      exact fun σ' H' ow' s' _ => hQ H' .non (s'.ext0 s'.b.refl) .non
    | ret d' =>
      obtain ⟨rfl, rfl⟩ := pure_inv ev
      exact fun v H' x r => hQ H' v x r
    | brk ρ' => exact none_inv ev
    | cont ρ' => exact none_inv ev
theorem fact_of {C : Ctx} {T : Tab} {pl : Bool} {k : Nat} {N ps : List Str} {b : SL} {x : Str} {params : Arguments} {body : List Stmt} {scope : Scope} {f : Addr} {fd : FuncData} {ks : List (List Nat)} (F : FunD K x x params body scope [] [] f fd) (hg : mg x = some (.ref f)) (S : FnScope N ps scope)
    (hm : mtSL T pl N scope b body = true) (g : GlobOk P w K mg base C T k)
    (hb : ∀ (kV doc pm : Value) (an : Option Addr) (cdv ct : Value) (us : List Value), us.length = ps.length → bindArgs (PySem.W.fnOf x x params body scope .none kV doc pm an cdv ct) ⟨us, []⟩ = pure (ps.zip us))
    (hk : ∀ (kV doc pm : Value) (an : Option Addr) (cdv ct : Value), ∀ kw ∈ ks, ∀ ws : List Value, ws.length = kw.length → bindArgs (PySem.W.fnOf x x params body scope .none kV doc pm an cdv ct) ⟨[], ((kw.filterMap fun j => ps[j]?)).zip ws⟩ = pure (ps.zip (permA kw ws))) :
    FnFactG P w K mg base (k + 1) x pl ps ks (runD C pl N.length b) := by
  refine ⟨f, fd, def_ok F S hm g, hg, F.kp, F.bindsN hb, ?_⟩
  obtain ⟨oc, od, dV, kV, doc, pm, an, cdv, ct, osl, rfl, lk, hcd, hD, hK⟩ := F.ex
  rcases hD with ⟨_, rfl⟩ | ⟨e, _⟩
  · exact hk kV doc pm an cdv ct
  · exact absurd rfl e
end
/-! ### the module's constants -/
mutual
def valB (K : PySem.W.Frag) : D → Value → Bool
  | .none, u => match u with
    | .none => true
    | _ => false
  | .bool b, u => match u with
    | .bool c => b == c
    | _ => false
  | .int i, u => match u with
    | .int j _ => decide (i = j)
    | _ => false
  | .str x, u => match u with
    | .str y _ => decide (x = y) && decide (x.length ≤ sizeLine)
    | _ => false
  | .tuple ds, u => match u with
    | .ref a => (match K.lookup a with
      | some ⟨.type c, _, .seq its _, _⟩ => decide (c = "tuple") && decide (its.toList.length ≤ sizeLine) && valsB K ds its.toList
      | _ => false)
    | _ => false
  | _, _ => false
def valsB (K : PySem.W.Frag) : List D → List Value → Bool
  | [], us => match us with
    | [] => true
    | _ => false
  | d :: ds, us => match us with
    | u :: r => valB K d u && valsB K ds r
    | [] => false
end
mutual
theorem valB_ok {K : PySem.W.Frag} : ∀ {d : D} {u : Value}, valB K d u = true → ∃ v, RelV v u ∧ ∀ H, Rp K H v d
  | .none, u, h => by
    unfold valB at h
    split at h
    · exact ⟨.non, rfl, fun _ => .non⟩
    · cases h
  | .bool b, u, h => by
    unfold valB at h
    split at h
    · have e := eq_of_beq h
      subst e
      exact ⟨.bl b, rfl, fun _ => .bl b⟩
    · cases h
  | .int i, u, h => by
    unfold valB at h
    split at h
    · have e := of_decide_eq_true h
      subst e
      exact ⟨.int i, ⟨_, rfl⟩, fun _ => .int i⟩
    · cases h
  | .str x, u, h => by
    unfold valB at h
    split at h
    · rw [Bool.and_eq_true, decide_eq_true_eq, decide_eq_true_eq] at h
      obtain ⟨rfl, h2⟩ := h
      exact ⟨.str x, ⟨_, rfl⟩, fun _ => .str x h2⟩
    · cases h
  | .tuple ds, u, h => by
    unfold valB at h
    split at h
    · split at h
      · rename_i a _ c od its n sl lk
        simp only [Bool.and_eq_true, decide_eq_true_eq] at h
        obtain ⟨⟨rfl, h2⟩, h3⟩ := h
        obtain ⟨vs, rv, rp⟩ := valsB_ok h3
        exact ⟨.ref a, rfl, fun H => .tup (.inr ⟨_, its, n, lk, rfl, rfl, by simpa using h2, rv⟩) (by rw [rv.length]; exact h2) (rp H)⟩
      · cases h
    · cases h
  | .list ds, u, h => by
    unfold valB at h
    cases h
  | .dict ds, u, h => by
    unfold valB at h
    cases h
theorem valsB_ok {K : PySem.W.Frag} : ∀ {ds : List D} {us : List Value}, valsB K ds us = true → ∃ vs, Vals vs us ∧ ∀ H, RpAll K H vs ds
  | [], us, h => by
    unfold valsB at h
    split at h
    · exact ⟨[], .nil, fun _ => .nil⟩
    · cases h
  | d :: ds, us, h => by
    unfold valsB at h
    split at h
    · rw [Bool.and_eq_true] at h
      obtain ⟨v, h1, h2⟩ := valB_ok h.1
      obtain ⟨vs, h3, h4⟩ := valsB_ok h.2
      exact ⟨v :: vs, .cons h1 h3, fun H => .cons (h2 H) (h4 H)⟩
    · cases h
end
/-- the module's name x is the datum d | the built-in id -/
def cstOk (K : PySem.W.Frag) (x : Str) (d : D) : Bool := match PySem.W.nsIn K mainGlobals x with
  | some (some u) => valB K d u
  | _ => false
def bltOk (K : PySem.W.Frag) (x : Str) (id : String) : Bool := match PySem.W.nsIn K mainGlobals x with
  | some (some (.builtin z)) => decide (z = id)
  | _ => false
section
variable {K : PySem.W.Frag} {h : Heap} {mg : Str → Option Value}
theorem cst_ok (X : K.In h) (G : h.Ns mainGlobals mg) {x : Str} {d : D} (c : cstOk K x d = true) : GlFactG K mg x d := by
  unfold cstOk at c
  split at c
  · rename_i u e
    obtain ⟨v, h1, h2⟩ := valB_ok c
    exact ⟨u, v, PySem.W.mg_of X G e, h1, h2⟩
  · cases c
theorem blt_ok (X : K.In h) (G : h.Ns mainGlobals mg) {x : Str} {id : String} (c : bltOk K x id = true) : mg x = some (.builtin id) := by
  unfold bltOk at c
  split at c
  · rename_i z e
    have := of_decide_eq_true c
    subst this
    exact PySem.W.mg_of X G e
  · cases c
end
/-! ### the Hook, with one more look -/
def obsR (n : Nat) (fa : List He.Fa) (fn : List He.DefD) (ex : PySem.W.Frag → Bool) (g : Addr → Option Obj) : Bool × He.AlD := (ex (He.frG g (He.asD g n)), He.obsD fa fn (He.frG g (He.asD g n)))
def hookR (n : Nat) (fa : List He.Fa) (fn : List He.DefD) (ex : PySem.W.Frag → Bool) : PySem.W.Hook where
  α := Bool × He.AlD
  obs := fun s => obsR n fa fn ex s.heap.get?
  val := fun _ => (true, He.valD fn)
  says := fun _ h => ∃ K : PySem.W.Frag, K.In h ∧ He.SaysD fa fn K ∧ ex K = true
  of := fun _ _ e => ⟨_, He.frG_in, congrArg (fun z : Bool × He.AlD => z.2) e, congrArg (fun z : Bool × He.AlD => z.1) e⟩
  keeps := fun _ _ _ ⟨K, hK, c⟩ k => ⟨K, PySem.W.Frag.In.keeps hK k, c⟩
theorem obsR_eq {n : Nat} {fa : List He.Fa} {fn : List He.DefD} {ex : PySem.W.Frag → Bool} {g : Addr → Option Obj} {s : Shared} (h : ∀ a, g a = s.heap.get? a) : obsR n fa fn ex g = (hookR n fa fn ex).obs s := by
  have e : g = s.heap.get? := funext h
  rw [e] <;> rfl
/-- a law's call: at a heap in which nothing but the script may be tracked -/
theorem law_callG {P : Program} {w : World} {K : PySem.W.Frag} {mg mb : Str → Option Value} {k : Nat} {fa a : Addr} {fd : FuncData} {x : Str} {sp : Sp} {s₁ : Shared} {vs : List Value} {ns : List Int}
    (KX : K.In s₁.heap) (hns : s₁.heap.Ns mainGlobals mg) (hb : s₁.heap.Ns builtinsNs mb) (hbb : ∀ x : Str, x ≠ "__name__" → mb x = bootBuiltins x) (hlim : s₁.heap.NoLimit) (hg : s₁.gens = #[])
    (ha : s₁.heap.get? a = some { cls := .type "list", data := .seq vs.toArray }) (hi : IntsAre vs ns) (hl : ns.length ≤ sizeLine) (hr : Room k callerA)
    (F : ∀ base : Heap, K.In base → base.Ns mainGlobals mg → FnOkG P w K mg base k fa fd [x] sp) (hbind : ∀ (s : Shared) (u : Value), BindsTo s fd ⟨[u], []⟩ [(x, u)])
    (hsp : ∀ H : Hp, Only H → SqL K H a (ns.map V.int) → sp [.ref a] H (fun v _ => v = .bl true) fun _ _ _ => False) :
    codeAny (model P w) callerA (.call (.ref fa) ⟨[.ref a], []⟩) (fun r s' => r = .ok (.ret (.bool true)) ∧ OldK s₁.heap s'.heap ∧ s'.os = s₁.os ∧ AllBare s'.gens) s₁ := by
  have core : ∀ H : Hp, Only H → SqL K H a (ns.map V.int) → HOk P w H s₁.heap → (∀ b, H b ≠ none → b = a) → (H a ≠ none → K.lookup a = none) →
      codeAny (model P w) callerA (.call (.ref fa) ⟨[.ref a], []⟩) (fun r s' => r = .ok (.ret (.bool true)) ∧ OldK s₁.heap s'.heap ∧ s'.os = s₁.os ∧ AllBare s'.gens) s₁ := by
    intro H hO hS hok hA hK
    have noA : ∀ {b : Addr} {o : Obj} {es : Array DictEntry} {ep : Nat}, s₁.heap.get? b = some o → o.data = .dict es ep → H b = none := fun {b o es ep} e d => by
      cases q : H b with
      | none => rfl
      | some u =>
        have e' : b = a := hA b (by rw [q]; simp)
        subst e'
        rw [ha] at e
        cases e
        cases (show Data.seq vs.toArray _ = Data.dict es ep from d)
    have nsK : ∀ {b : Addr} {m : Str → Option Value}, s₁.heap.Ns b m → (hidT s₁.heap H).Ns b m := fun {b m} ⟨o, es, ep, e, d, r⟩ => ⟨o, es, ep, hidT_get e (noA e d), d, r⟩
    have hKb : K.In (hidT s₁.heap H) := fun b o e => hidT_get (KX b o e) (by
      cases q : H b with
      | none => rfl
      | some u =>
        have e' : b = a := hA b (by rw [q]; simp)
        subst e'
        rw [hK (by rw [q]; simp)] at e
        cases e)
    have hM : Mod K mg (hidT s₁.heap H) := ⟨hKb, nsK hns, ⟨mb, nsK hb, hbb⟩, let ⟨mc, h1, h2⟩ := hlim; ⟨mc, nsK h1, h2⟩⟩
    have e0 : Env0 P w K mg (hidT s₁.heap H) callerA [] s₁ H := ⟨rfl, hM, fun b o e => of_hidT e, Nat.le_of_eq (hidT_size _ _), trivial, fun b hb => absurd (show b ∈ ([] : List Addr) from hb) (by simp), hok, .of_eq hg⟩
    refine codeAny_mono ((F _ hKb (nsK hns)).run callerA [] s₁ H ⟨[.ref a], []⟩ [.ref a] [.ref a] _ _ hr rfl e0 (hbind s₁ (.ref a)) (.cons rfl .nil) (hsp H hO hS)) fun r s' h => ?_
    cases r with
    | error e => exact False.elim h
    | ok fl =>
      cases fl with
      | ret u =>
        obtain ⟨v, H', os, bare, un, hok', r', q⟩ := h
        subst q
        obtain rfl : u = Value.bool true := r'
        refine ⟨rfl, OldK.of_keep fun b o e => ?_, os, bare⟩
        cases q : H b with
        | none => exact un.keep b o e q (by intro z; exact absurd (show b ∈ ([] : List Addr) from z) (by simp)) (by simp)
        | some u =>
          rcases hO b with z | ⟨ob, xs, z⟩
          · rw [q] at z
            cases z
          · obtain ⟨e1, _⟩ := hok b _ z
            obtain ⟨e2, _⟩ := hok' b _ (un.frzs b ob _ z)
            rw [e] at e1
            cases e1
            exact e2
      | _ => exact False.elim h
  have rv := vals_ints hi
  cases hk : K.lookup a with
  | some o =>
    have e := KX a o hk
    rw [ha] at e
    cases e
    refine core (fun _ => none) (fun _ => .inl rfl) (.inr ⟨_, vs.toArray, _, hk, rfl, rfl, rfl, by rw [List.size_toArray, hi.length]; exact hl, by simpa using rv⟩) (fun b u z => by cases (show (none : Option HO) = some u from z)) (fun b z => absurd rfl z) fun z => absurd rfl z
  | none =>
    refine core (fun b => if b = a then some (.frz { cls := .type "list", data := .seq vs.toArray } (.lst (ns.map V.int))) else none) (fun b => ?_) (.inl (.inr ⟨{ cls := .type "list", data := .seq vs.toArray }, if_pos rfl⟩)) (fun b u z => ?_) (fun b z => ?_) fun _ => hk
    · by_cases hb : b = a
      · exact .inr ⟨_, _, if_pos hb⟩
      · exact .inl (if_neg hb)
    · by_cases hb : b = a
      · cases (if_pos hb).symm.trans z
        subst hb
        exact ⟨ha, by rw [List.length_map]; exact hl, vs, _, rv, ha⟩
      · cases (if_neg hb).symm.trans z
    · by_cases hb : b = a
      · exact hb
      · exact absurd (if_neg hb) z
/-- a law's end, the script's bits told -/
theorem walk_ofEB {l : PySem.W.OpenLaw} {n k : Nat} {q : Program} {loose : List Str} {XP : (Str → Option Value) → Heap → Prop} {YP : World → Heap → Prop} {d : DefRec} {x : Str}
    (hn : l.most = some n) (hn2 : n ≤ sizeLine) (hdf : d.params.defaults = []) (hr : Room k callerA)
    (F : ∀ (w : World) (mg : Str → Option Value) (fa : Addr) (h : Heap), YP w h → h.Ns mainGlobals mg → mg d.name = some (.ref fa) →
      ∃ (K : PySem.W.Frag) (fd : FuncData) (sp : Sp), K.In h ∧ (∀ (s : Shared) (u : Value), BindsTo s fd ⟨[u], []⟩ [(x, u)]) ∧
        (∀ (H : Hp) (a : Addr) (ns : List Int), ns.length ≤ n → (∀ z ∈ ns, Builtin.Int.intBits z ≤ 1048576) → Only H → SqL K H a (ns.map V.int) → sp [.ref a] H (fun v _ => v = .bl true) fun _ _ _ => False) ∧
        ∀ base : Heap, K.In base → base.Ns mainGlobals mg → FnOkG l.prog w K mg base k fa fd [x] sp) :
    PySem.W.WalkO q loose XP YP l.row.toRowW d [] (fun f vs => PySem.call f vs) := by
  refine Att.attach_callB hn hdf fun w s₀ s₁ mg mb fa o pm cd doc a vs ns G Y ho hd hcd hmg hobj hints hlen hbits hg => ?_
  obtain ⟨K, fd, sp, KX, hb, hsp, hF⟩ := F w mg fa _ Y G.T.g hmg
  exact law_callG KX G.T.g G.T.b G.T.builtins G.T.nolimit hg hobj hints (Nat.le_trans hlen hn2) hr hF hb fun H hO hS => hsp H a ns hlen hbits hO hS
end RX

-- RX18
set_option Elab.async false
set_option linter.all false
set_option maxRecDepth 100000
set_option maxHeartbeats 4000000
/-! RX18: a module's facts, by its table. -/
namespace RX
open PySem PySem.Spec PyProof.Rows L2
variable [PWd]
/-- what is used of a module: its defs, built-ins not overwritten, names of built-ins, constants -/
structure Md where
  fn : List He.DefD
  bl : List Str
  mt : List (Str × String)
  cs : List (Str × D)
def Md.fa (M : Md) : List He.Fa := M.fn.map (fun d => He.Fa.glo d.name) ++ M.bl.map He.Fa.free
def Md.ex (M : Md) (K : PySem.W.Frag) : Bool := M.mt.all (fun p => bltOk K p.1 p.2) && M.cs.all fun p => cstOk K p.1 p.2
structure HF (M : Md) (K : PySem.W.Frag) (mg : Str → Option Value) : Prop where
  c : He.SaysD M.fa M.fn K
  x : M.ex K = true
  g : ∃ h : Heap, K.In h ∧ h.Ns mainGlobals mg
section
variable {M : Md} {K : PySem.W.Frag} {mg : Str → Option Value} {P : Program} {w : World} {base : Heap}
theorem HF.fact (f : HF M K mg) {a : He.Fa} (h : a ∈ M.fa) : a.ok K = true := by
  obtain ⟨i, hi⟩ := List.getElem?_of_mem h
  exact f.c.fact i hi
theorem HF.glo (f : HF M K mg) {i : Nat} {d : He.DefD} (h : M.fn[i]? = some d) : mg d.name = some (.ref (He.ga K d.name)) := by
  obtain ⟨h0, KX, G⟩ := f.g
  exact He.glo_ok KX G (f.fact (List.mem_append_left _ (List.mem_map.mpr ⟨d, List.mem_of_getElem? h, rfl⟩)))
theorem HF.free (f : HF M K mg) {x : Str} (h : x ∈ M.bl) : mg x = none := by
  obtain ⟨h0, KX, G⟩ := f.g
  exact He.free_ok KX G (f.fact (List.mem_append_right _ (List.mem_map.mpr ⟨x, h, rfl⟩)))
theorem HF.blt (f : HF M K mg) {p : Str × String} (h : p ∈ M.mt) : mg p.1 = some (.builtin p.2) := by
  obtain ⟨h0, KX, G⟩ := f.g
  have hx : (M.mt.all (fun p => bltOk K p.1 p.2) && M.cs.all fun p => cstOk K p.1 p.2) = true := f.x
  rw [Bool.and_eq_true] at hx
  exact blt_ok KX G (List.all_eq_true.mp hx.1 p h)
theorem HF.cst (f : HF M K mg) {p : Str × D} (h : p ∈ M.cs) : GlFactG K mg p.1 p.2 := by
  obtain ⟨h0, KX, G⟩ := f.g
  have hx : (M.mt.all (fun p => bltOk K p.1 p.2) && M.cs.all fun p => cstOk K p.1 p.2) = true := f.x
  rw [Bool.and_eq_true] at hx
  exact cst_ok KX G (List.all_eq_true.mp hx.2 p h)
/-- the callees, one behind another -/
inductive FnsOk (P : Program) (w : World) (K : PySem.W.Frag) (mg : Str → Option Value) (base : Heap) (k : Nat) : List Fn → List (Str × Bool × List Str × List (List Nat)) → Prop
  | nil : FnsOk P w K mg base k [] []
  | cons {f : Fn} {x : Str} {p : Bool} {ar : List Str} {ks : List (List Nat)} {fs : List Fn} {ts : List (Str × Bool × List Str × List (List Nat))} {j : Nat} : FnFactG P w K mg base j x p ar ks f → j ≤ k → FnsOk P w K mg base k fs ts → FnsOk P w K mg base k (f :: fs) ((x, p, ar, ks) :: ts)
theorem FnsOk.get {k : Nat} : ∀ {fs : List Fn} {ts : List (Str × Bool × List Str × List (List Nat))}, FnsOk P w K mg base k fs ts → ∀ (j : Nat) (f : Fn), fs[j]? = some f → ∀ x p ar ks, ts[j]? = some (x, p, ar, ks) → FnFactG P w K mg base k x p ar ks f
  | _, _, .nil, j, f, e, _, _, _, _, _ => by simp at e
  | _, _, .cons h hj t, 0, f, e, x, p, ar, ks, e2 => by
    simp at e e2
    obtain ⟨rfl, rfl, rfl, rfl⟩ := e2
    subst e
    exact h.mono hj
  | _, _, .cons h hj t, j + 1, f, e, x, p, ar, ks, e2 => t.get j f (by simpa using e) x p ar ks (by simpa using e2)
inductive CsOk (K : PySem.W.Frag) (mg : Str → Option Value) : List D → List Str → Prop
  | nil : CsOk K mg [] []
  | cons {d : D} {x : Str} {ds : List D} {xs : List Str} : GlFactG K mg x d → CsOk K mg ds xs → CsOk K mg (d :: ds) (x :: xs)
theorem CsOk.get : ∀ {ds : List D} {xs : List Str}, CsOk K mg ds xs → ∀ (j : Nat) (d : D), ds[j]? = some d → ∀ x, xs[j]? = some x → GlFactG K mg x d
  | _, _, .nil, j, d, e, _, _ => by simp at e
  | _, _, .cons h t, 0, d, e, x, e2 => by
    simp at e e2
    subst e
    subst e2
    exact h
  | _, _, .cons h t, j + 1, d, e, x, e2 => t.get j d (by simpa using e) x (by simpa using e2)
theorem HF.cstI (f : HF M K mg) (i : Nat) {x : Str} {d : D} (h : M.cs[i]? = some (x, d)) : GlFactG K mg x d := f.cst (p := (x, d)) (List.mem_of_getElem? h)
theorem HF.glob (f : HF M K mg) {C : Ctx} {T : Tab} {k : Nat} (h1 : FnsOk P w K mg base k C.fns T.fn) (h2 : CsOk K mg C.cs T.cs) (h3 : (T.bl.all fun x => M.bl.contains x) = true) (h4 : (T.mt.all fun x => M.mt.any fun p => decide (p.1 = x) && decide (p.2 = if x = "gcd" then "math.gcd" else "math.lcm")) = true) (hw : thePW = ⟨P, w⟩ := by rfl) : GlobOk P w K mg base C T k :=
  ⟨h1.get, h2.get, fun x hx => f.free (List.contains_iff_mem.mp (List.all_eq_true.mp h3 x hx)), fun x hx => by
    obtain ⟨p, hp, e⟩ := List.any_eq_true.mp (List.all_eq_true.mp h4 x hx)
    rw [Bool.and_eq_true, decide_eq_true_eq, decide_eq_true_eq] at e
    obtain ⟨rfl, e2⟩ := e
    rw [f.blt hp, e2], hw⟩
/-- a def as a value -/
theorem HF.cfn (f : HF M K mg) (i : Nat) {d : He.DefD} (h : M.fn[i]? = some d) : GlFactG K mg d.name (fnD d.name) := ⟨_, .ref (He.ga K d.name), f.glo h, rfl, fun _ => .fn _⟩
/-- a def of which nothing is said -/
theorem HF.fn0 (f : HF M K mg) (i : Nat) {x : Str} {params : Arguments} {body : List Stmt} {scope : Scope} (h : M.fn[i]? = some ⟨(x, none), x, x, params, body, scope, [], []⟩) {pl : Bool} {ps : List Str} {ks : List (List Nat)}
    (hb : ∀ (kV doc pm : Value) (an : Option Addr) (cdv ct : Value) (us : List Value), us.length = ps.length → bindArgs (PySem.W.fnOf x x params body scope .none kV doc pm an cdv ct) ⟨us, []⟩ = pure (ps.zip us))
    (hk : ∀ (kV doc pm : Value) (an : Option Addr) (cdv ct : Value), ∀ kw ∈ ks, ∀ ws : List Value, ws.length = kw.length → bindArgs (PySem.W.fnOf x x params body scope .none kV doc pm an cdv ct) ⟨[], ((kw.filterMap fun j => ps[j]?)).zip ws⟩ = pure (ps.zip (permA kw ws))) :
    FnFactG P w K mg base 0 x pl ps ks (fun _ => lift none) := by
  obtain ⟨fd, F⟩ := f.c.def_ i h
  have F' : FunD K x x params body scope [] [] _ fd := F
  refine ⟨_, fd, ⟨fun vs H Q E h => ?_, fun A outer s H args us vs Q E _ _ _ _ _ h => ?_⟩, f.glo h, F.kp, F'.bindsN hb, ?_⟩
  · obtain ⟨P0, q, wl, ds, d, w', b, hl, _⟩ := h
    exact hl
  · obtain ⟨P0, q, wl, ds, d, w', b, hl, hv, ev, _⟩ := h
    exact none_inv ev
  · obtain ⟨oc, od, dV, kV, doc, pm, an, cdv, ct, osl, rfl, lk, hcd, hD, hK⟩ := F'.ex
    rcases hD with ⟨_, rfl⟩ | ⟨e, _⟩
    · exact hk kV doc pm an cdv ct
    · exact absurd rfl e
/-- a def of the module's table -/
theorem HF.fn (f : HF M K mg) (i : Nat) {x : Str} {params : Arguments} {body : List Stmt} {scope : Scope} (h : M.fn[i]? = some ⟨(x, none), x, x, params, body, scope, [], []⟩) {C : Ctx} {T : Tab} {pl : Bool} {k : Nat} {N ps : List Str} {b : SL} {ks : List (List Nat)} (S : C8.scC N ps scope = true)
    (hm : mtSL T pl N scope b body = true) (g : GlobOk P w K mg base C T k)
    (hb : ∀ (kV doc pm : Value) (an : Option Addr) (cdv ct : Value) (us : List Value), us.length = ps.length → bindArgs (PySem.W.fnOf x x params body scope .none kV doc pm an cdv ct) ⟨us, []⟩ = pure (ps.zip us))
    (hk : ∀ (kV doc pm : Value) (an : Option Addr) (cdv ct : Value), ∀ kw ∈ ks, ∀ ws : List Value, ws.length = kw.length → bindArgs (PySem.W.fnOf x x params body scope .none kV doc pm an cdv ct) ⟨[], ((kw.filterMap fun j => ps[j]?)).zip ws⟩ = pure (ps.zip (permA kw ws))) :
    FnFactG P w K mg base (k + 1) x pl ps ks (runD C pl N.length b) := by
  obtain ⟨fd, F⟩ := f.c.def_ i h
  exact fact_of (F : FunD K x x params body scope [] [] _ fd) (f.glo h) (C8.fnScope_by S) hm g hb hk
end
end RX

-- G010
set_option Elab.async false
set_option linter.all false
set_option maxRecDepth 100000
set_option maxHeartbeats 4000000
namespace LW
open PySem PySem.Spec PyProof.Rows L2 RX
def top (i : Nat) : Stmt := PySem.Challenge.pw_chanceplans_k01_whole_grounds_of_anythin.main.body.getD i (.Pass ⟨0, 0, 0, 0⟩)
def d_is_tuple_of : He.DefD := ⟨("is_tuple_of", none), "is_tuple_of", "is_tuple_of", defArgs (top 6), defBody (top 6), defScope (top 6), [], []⟩
def d_is_name : He.DefD := ⟨("is_name", none), "is_name", "is_name", defArgs (top 7), defBody (top 7), defScope (top 7), [], []⟩
def d_are_rising : He.DefD := ⟨("are_rising", none), "are_rising", "are_rising", defArgs (top 8), defBody (top 8), defScope (top 8), [], []⟩
def d_is_outcome_of : He.DefD := ⟨("is_outcome_of", none), "is_outcome_of", "is_outcome_of", defArgs (top 13), defBody (top 13), defScope (top 13), [], []⟩
def d_is_pair_of : He.DefD := ⟨("is_pair_of", none), "is_pair_of", "is_pair_of", defArgs (top 14), defBody (top 14), defScope (top 14), [], []⟩
def d_are_outcomes : He.DefD := ⟨("are_outcomes", none), "are_outcomes", "are_outcomes", defArgs (top 15), defBody (top 15), defScope (top 15), [], []⟩
def d_are_pairs_of : He.DefD := ⟨("are_pairs_of", none), "are_pairs_of", "are_pairs_of", defArgs (top 16), defBody (top 16), defScope (top 16), [], []⟩
def d_is_ground_by : He.DefD := ⟨("is_ground_by", none), "is_ground_by", "is_ground_by", defArgs (top 17), defBody (top 17), defScope (top 17), [], []⟩
def d_are_onward : He.DefD := ⟨("are_onward", none), "are_onward", "are_onward", defArgs (top 18), defBody (top 18), defScope (top 18), [], []⟩
def d_is_ordered_by : He.DefD := ⟨("is_ordered_by", none), "is_ordered_by", "is_ordered_by", defArgs (top 19), defBody (top 19), defScope (top 19), [], []⟩
def d_check_ground : He.DefD := ⟨("check_ground", none), "check_ground", "check_ground", defArgs (top 21), defBody (top 21), defScope (top 21), [], []⟩
def d_is_ground : He.DefD := ⟨("is_ground", none), "is_ground", "is_ground", defArgs (top 23), defBody (top 23), defScope (top 23), [], []⟩
def d_is_ordered : He.DefD := ⟨("is_ordered", none), "is_ordered", "is_ordered", defArgs (top 24), defBody (top 24), defScope (top 24), [], []⟩
def d_law_pool : He.DefD := ⟨("_law_pool", none), "_law_pool", "_law_pool", defArgs (top 26), defBody (top 26), defScope (top 26), [], []⟩
def d_law_draw : He.DefD := ⟨("_law_draw", none), "_law_draw", "_law_draw", defArgs (top 27), defBody (top 27), defScope (top 27), [], []⟩
def d_law_pick : He.DefD := ⟨("_law_pick", none), "_law_pick", "_law_pick", defArgs (top 28), defBody (top 28), defScope (top 28), [], []⟩
def d_law_same : He.DefD := ⟨("_law_same", none), "_law_same", "_law_same", defArgs (top 29), defBody (top 29), defScope (top 29), [], []⟩
def d_law_put : He.DefD := ⟨("_law_put", none), "_law_put", "_law_put", defArgs (top 30), defBody (top 30), defScope (top 30), [], []⟩
def d_law_tells : He.DefD := ⟨("_law_tells", none), "_law_tells", "_law_tells", defArgs (top 31), defBody (top 31), defScope (top 31), [], []⟩
def d_law_name : He.DefD := ⟨("_law_name", none), "_law_name", "_law_name", defArgs (top 32), defBody (top 32), defScope (top 32), [], []⟩
def d_law_outcomes : He.DefD := ⟨("_law_outcomes", none), "_law_outcomes", "_law_outcomes", defArgs (top 33), defBody (top 33), defScope (top 33), [], []⟩
def d_law_ground : He.DefD := ⟨("_law_ground", none), "_law_ground", "_law_ground", defArgs (top 34), defBody (top 34), defScope (top 34), [], []⟩
def d_law_closed : He.DefD := ⟨("_law_closed", none), "_law_closed", "_law_closed", defArgs (top 35), defBody (top 35), defScope (top 35), [], []⟩
def d_law_not_name : He.DefD := ⟨("_law_not_name", none), "_law_not_name", "_law_not_name", defArgs (top 36), defBody (top 36), defScope (top 36), [], []⟩
def d_law_not_outcome : He.DefD := ⟨("_law_not_outcome", none), "_law_not_outcome", "_law_not_outcome", defArgs (top 37), defBody (top 37), defScope (top 37), [], []⟩
def d_law_not_outcomes : He.DefD := ⟨("_law_not_outcomes", none), "_law_not_outcomes", "_law_not_outcomes", defArgs (top 38), defBody (top 38), defScope (top 38), [], []⟩
def d_law_not_ground : He.DefD := ⟨("_law_not_ground", none), "_law_not_ground", "_law_not_ground", defArgs (top 39), defBody (top 39), defScope (top 39), [], []⟩
def d_law_is_name : He.DefD := ⟨("_law_is_name", none), "_law_is_name", "_law_is_name", defArgs (top 40), defBody (top 40), defScope (top 40), [], []⟩
def d_law_is_ground : He.DefD := ⟨("_law_is_ground", none), "_law_is_ground", "_law_is_ground", defArgs (top 41), defBody (top 41), defScope (top 41), [], []⟩
def d_law_near : He.DefD := ⟨("_law_near", none), "_law_near", "_law_near", defArgs (top 42), defBody (top 42), defScope (top 42), [], []⟩
def d_law_right : He.DefD := ⟨("_law_right", none), "_law_right", "_law_right", defArgs (top 43), defBody (top 43), defScope (top 43), [], []⟩
def d_law : He.DefD := ⟨("law", none), "law", "law", defArgs (top 44), defBody (top 44), defScope (top 44), [], []⟩
def md : Md := ⟨[d_is_tuple_of, d_is_name, d_are_rising, d_is_outcome_of, d_is_pair_of, d_are_outcomes, d_are_pairs_of, d_is_ground_by, d_are_onward, d_is_ordered_by, d_check_ground, d_is_ground, d_is_ordered, d_law_pool, d_law_draw, d_law_pick, d_law_same, d_law_put, d_law_tells, d_law_name, d_law_outcomes, d_law_ground, d_law_closed, d_law_not_name, d_law_not_outcome, d_law_not_outcomes, d_law_not_ground, d_law_is_name, d_law_is_ground, d_law_near, d_law_right, d_law], ["isinstance", "tuple", "len", "str", "all", "range", "bool", "int", "sorted", "list", "divmod", "abs", "max", "min"], [], [("MOST_LETTERS", (.int 8)), ("LETTERS", (.str "abcdefghijklmnopqrstuvwxyz")), ("MOST_OUTCOMES", (.int 10)), ("OUTCOMES", (.int 0)), ("PAIRS", (.int 1))]⟩
end LW

-- G01r
set_option Elab.async false
set_option linter.all false
set_option maxRecDepth 100000
set_option maxHeartbeats 0
namespace LW
open PySem PySem.Spec PyProof.Rows L2 RX
def loose0 : List Str := ["ChanceError", "InvalidGround", "LETTERS", "MOST_LETTERS", "is_tuple_of", "is_name", "are_rising", "OUTCOMES", "PAIRS", "MOST_OUTCOMES", "is_outcome_of", "is_pair_of", "are_outcomes", "are_pairs_of", "is_ground_by", "are_onward", "is_ordered_by", "check_ground", "is_ground", "is_ordered", "_law_pool", "_law_draw", "_law_pick", "_law_same", "_law_put", "_law_tells", "_law_name", "_law_outcomes", "_law_ground", "_law_closed"]
def loose1 : List Str := ["_law_not_name", "_law_not_outcome", "_law_not_outcomes", "_law_not_ground", "_law_is_name", "_law_is_ground", "_law_near", "_law_right"]
def loose : List Str := loose0 ++ loose1
abbrev R : PySem.W.OpenRow := PySem.W.OpenLaw.row PySem.Challenge.rw_chanceplans_k01_whole_grounds_of_anythin
abbrev hk : PySem.W.Hook := hookR 2 md.fa md.fn md.ex
def ob (s : PySem.W.SharedT) : Bool × He.AlD := obsR 2 md.fa md.fn md.ex (HandSHeadRun.getT s)
theorem ob_eq (s : PySem.W.SharedT) : ob s = hk.obs s.abs := obsR_eq (HandSHeadRun.getT_eq s)
theorem run (w : World) : HandSHeadRun.RunEq R (PySem.W.view R.prog [44]) hk ob 6000 loose w := by
  unfold HandSHeadRun.RunEq
  intro os
  kernel_rfl
end LW

-- RX19
set_option Elab.async false
set_option linter.all false
set_option maxRecDepth 100000
set_option maxHeartbeats 4000000
/-! RX19: the law's draw from its pool, by hand. -/
namespace RX
open PySem PySem.Spec PyProof.Rows L2
variable [PWd]
/-- a draw: the figure below many, the pool behind it -/
def drawF (m : Int) : Fn := fun ds w => match ds, w with
  | [.int many], [a, b, c] => if 0 < many ∧ many.natAbs.log2 < 9000 then
      (if 0 < b then some (.int (b % many), [a, b / many, c])
        else some (.int ((a * (a % 20011 + 30011) + 70001 * (c + 1) + 9) % m / 128 % many), [(a * (a % 20011 + 30011) + 70001 * (c + 1) + 9) % m, b, c + 1])) else none
  | _, _ => none
section
variable {X : Cx} {a1 a2 a3 a4 a5 a6 a7 a8 a9 a10 a11 a12 a13 a14 a15 a16 a17 a18 a19 a20 a21 a22 a23 a24 a25 a26 a27 a28 a29 a30 a31 a32 a33 a34 a35 a36 a37 a38 a39 a40 a41 a42 a43 a44 a45 a46 a47 a48 a49 a50 a51 a52 a53 a54 a55 a56 a57 a58 a59 a60 b1 b2 b3 b4 b5 b6 b7 b8 b9 : Pos}
theorem divp_small {i j : Int} (h : 0 < j) (hl : j.natAbs.log2 < 9000) : CDivP i j := by
  refine ⟨h, ?_⟩
  show (decide ((if j == 0 then 0 else j.natAbs.log2 / 30 + 1) > 300) && _) = false
  rw [if_neg (show ¬ (j == 0) = true by simpa using (show j ≠ 0 by omega))]
  rw [decide_eq_false (by omega)]
  rfl
theorem draw_body {m : Int} (hm : 0 < m) (calm : X.calm = true) (N : X.N = (["pool", "many", "figure", "held"] : List Str)) (hv : ∀ x ∈ X.N, X.env.scope.names.lookup x = some .local) (g1 : Gl X "int") (g2 : Gl X "divmod") (m1 : X.mg "int" = none) (m2 : X.mg "divmod" = none)
    {D : Ends} {a : Addr} {w w' : W} {many : Int} {H : Hp} {d : PyData} {σ : L2.St} (h0 : σ[0]? = some (some (.ref a))) (h1 : σ[1]? = some (some (.int many))) (hl : σ.length = 4) (hH : H a = some (.lst (w.map V.int))) (ev : (drawF m [.int many]).run w = some (d, w'))
    (hQ : ∀ v H', (∀ b o, b ≠ a → H b = some o → H' b = some o) → H' a = some (.lst (w'.map V.int)) → (∃ i, v = .int i ∧ d = .int i) → D.rt v H') :
    ∃ t, PSs X [
      .If (.Compare (.Subscript (.Name "pool" a1) (.Constant (.int 1) 0 a2) a3) [.Gt] [.Constant (.int 0) 0 a4] a5)
        [.Assign [.Tuple [.Subscript (.Name "pool" a6) (.Constant (.int 1) 0 a7) a8, .Name "figure" a9] 0 a10] (.Call (.Name "divmod" a11) [.Subscript (.Name "pool" a12) (.Constant (.int 1) 0 a13) a14, .Name "many" a15] [] a16) a17,
         .Return (some (.Name "figure" a18)) a19] [] a20,
      .Assign [.Subscript (.Name "pool" a21) (.Constant (.int 2) 0 a22) a23] (.BinOp (.Subscript (.Name "pool" a24) (.Constant (.int 2) 0 a25) a26) .Add (.Constant (.int 1) 0 a27) a28) a29,
      .Assign [.Name "held" a30] (.Call (.Name "int" a31) [.Subscript (.Name "pool" a32) (.Constant (.int 0) 0 a33) a34] [] a35) a36,
      .Assign [.Subscript (.Name "pool" a37) (.Constant (.int 0) 0 a38) a39]
        (.BinOp (.Call (.Name "int" a40) [.BinOp (.BinOp (.BinOp (.Name "held" a41) .Mult (.BinOp (.BinOp (.Name "held" a42) .Mod (.Constant (.int 20011) 0 a43) a44) .Add (.Constant (.int 30011) 0 a45) a46) a47) .Add
          (.BinOp (.Constant (.int 70001) 0 a48) .Mult (.Subscript (.Name "pool" a49) (.Constant (.int 2) 0 a50) a51) a52) a53) .Add (.Constant (.int 9) 0 a54) a55] [] a56) .Mod (.Constant (.int m) 0 a57) a58) a59,
      .Return (some (.BinOp (.Call (.Name "int" a60) [.BinOp (.Subscript (.Name "pool" b1) (.Constant (.int 0) 0 b2) b3) .FloorDiv (.Constant (.int 128) 0 b4) b5] [] b6) .Mod (.Name "many" b7) b8)) b9] t ∧ t D σ H := by
  have nd : X.N.Nodup := by rw [N]; decide
  have i0 : X.N[0]? = some ("pool" : Str) := by rw [N]; rfl
  have i1 : X.N[1]? = some ("many" : Str) := by rw [N]; rfl
  have i2 : X.N[2]? = some ("figure" : Str) := by rw [N]; rfl
  have i3 : X.N[3]? = some ("held" : Str) := by rw [N]; rfl
  have l : ∀ x ∈ X.N, L2.Loc X.env.scope x ∧ Vis X.env.scope x := fun x hx => ⟨.inl (hv x hx), .inl (hv x hx)⟩
  have p0 : ∀ p, PE X (.Name "pool" p) (tVar 0) := fun p => pe_var i0 (l _ (List.mem_of_getElem? i0)).2
  have p1 : ∀ p, PE X (.Name "many" p) (tVar 1) := fun p => pe_var i1 (l _ (List.mem_of_getElem? i1)).2
  have p2 : ∀ p, PE X (.Name "figure" p) (tVar 2) := fun p => pe_var i2 (l _ (List.mem_of_getElem? i2)).2
  have p3 : ∀ p, PE X (.Name "held" p) (tVar 3) := fun p => pe_var i3 (l _ (List.mem_of_getElem? i3)).2
  have px : ∀ (j : Int) p q r, PE X (.Subscript (.Name "pool" p) (.Constant (.int j) 0 q) r) (tOp (rIx X.K) (tVar 0) (tC (.int j))) := fun j p q r => pe_ix ix_seq (p0 p) pe_int (fun _ _ => rfl)
  have pgx : ∀ (j : Int) p q r, PG X (.Subscript (.Name "pool" p) (.Constant (.int j) 0 q) r) (gSub (tVar 0) (tC (.int j)) L2.rSetL) := fun j p q r => pg_sub (p0 p) pe_int set_list
  -- the pool's cells
  have key : ∃ x y z, w = [x, y, z] := by
    match w, ev with
    | [x, y, z], _ => exact ⟨_, _, _, rfl⟩
    | [], ev => cases (show (none : Option (PyData × W)) = some (d, w') from ev)
    | [_], ev => cases (show (none : Option (PyData × W)) = some (d, w') from ev)
    | [_, _], ev => cases (show (none : Option (PyData × W)) = some (d, w') from ev)
    | _ :: _ :: _ :: _ :: _, ev => cases (show (none : Option (PyData × W)) = some (d, w') from ev)
  obtain ⟨x, y, z, rfl⟩ := key
  have ev : (if 0 < many ∧ many.natAbs.log2 < 9000 then
      (if 0 < y then some (PyData.int (y % many), [x, y / many, z])
        else some (PyData.int ((x * (x % 20011 + 30011) + 70001 * (z + 1) + 9) % m / 128 % many), [(x * (x % 20011 + 30011) + 70001 * (z + 1) + 9) % m, y, z + 1])) else none) = some (d, w') := ev
  have rd : ∀ {H' : Hp} {c0 c1 c2 : Int} {j : Int} {i : Int} {Q : VK} {σ' : L2.St}, σ'[0]? = some (some (.ref a)) → H' a = some (.lst [.int c0, .int c1, .int c2]) → (([V.int c0, .int c1, .int c2] : List V)[j.toNat]? = some (.int i) ∧ 0 ≤ j ∧ j < 3) → Q (.int i) H' → tOp (rIx X.K) (tVar 0) (tC (.int j)) σ' H' Q := fun {H' c0 c1 c2 j i Q σ'} hs hh hj q => by
    refine ⟨.ref a, hs, .inl ⟨a, _, j, .int i, rfl, rfl, .inl (.inl hh), ?_, q⟩⟩
    unfold atI
    have : ixN ([V.int c0, .int c1, .int c2] : List V).length j = some j.toNat := by
      show ixN 3 j = _
      have h3 : j = 0 ∨ j = 1 ∨ j = 2 := by omega
      rcases h3 with rfl | rfl | rfl <;> rfl
    rw [this]
    exact hj.1
  have st : ∀ {H' : Hp} {c0 c1 c2 : Int} {j : Int} {v : V} {Q : L2.St → Hp → Prop} {σ' : L2.St}, σ'[0]? = some (some (.ref a)) → H' a = some (.lst [.int c0, .int c1, .int c2]) → (0 ≤ j ∧ j < 3) → Q σ' (upd H' a (.lst (([V.int c0, .int c1, .int c2] : List V).set j.toNat v))) → gSub (tVar 0) (tC (.int j)) L2.rSetL v σ' H' Q := fun {H' c0 c1 c2 j v Q σ'} hs hh hj q => by
    refine ⟨.ref a, hs, a, _, j, j.toNat, rfl, rfl, hh, ?_, q⟩
    show ixN 3 j = _
    have h3 : j = 0 ∨ j = 1 ∨ j = 2 := by omega
    rcases h3 with rfl | rfl | rfl <;> rfl
  refine ⟨_, pss_cons (ps_if (pt_cmpR op_gt (px 1 _ _ _) pe_int rfl)
      (pss_cons (ps_asg (pe_callB call_divmodW g2 m2 PyProof.Rows.boot_divmod (pa_cons (px 1 _ _ _) (pa_cons (p1 _) pa_nil rfl) rfl)) (pg_tup calm (pgs_cons (pgx 1 _ _ _) (pgs_cons (pg_name nd i2 (l _ (List.mem_of_getElem? i2)).1 (.inr (hv _ (List.mem_of_getElem? i2)))) pgs_nil rfl) rfl) rfl rfl) rfl rfl rfl) (pss_one (ps_ret (p2 _)))) pss_nil)
    (pss_cons (ps_asg (pe_op op_add (px 2 _ _ _) pe_int) (pgx 2 _ _ _) rfl rfl rfl)
      (pss_cons (ps_set nd i3 (l _ (List.mem_of_getElem? i3)).1 (pe_callTy call_int1 g1 m1 PyProof.Rows.boot_int (pa_cons (px 0 _ _ _) pa_nil rfl)) rfl (.inr (hv _ (List.mem_of_getElem? i3))))
        (pss_cons (ps_asg (pe_op op_mod (pe_callTy call_int1 g1 m1 PyProof.Rows.boot_int (pa_cons (pe_op op_add (pe_op op_add (pe_op op_mul (p3 _) (pe_op op_add (pe_op op_mod (p3 _) pe_int) pe_int)) (pe_op op_mul pe_int (px 2 _ _ _))) pe_int) pa_nil rfl)) pe_int) (pgx 0 _ _ _) rfl rfl rfl)
          (pss_one (ps_ret (pe_op op_mod (pe_callTy call_int1 g1 m1 PyProof.Rows.boot_int (pa_cons (pe_op op_fdiv (px 0 _ _ _) pe_int) pa_nil rfl)) (p1 _))))))), ?_⟩
  split at ev
  · rename_i hmany
    refine rd (i := y) h0 hH ⟨rfl, by decide, by decide⟩ ⟨_, _, rfl, rfl, ?_⟩
    refine ⟨_, rfl, ?_⟩
    split at ev
    · rename_i hy
      cases ev
      rw [if_pos (by simpa using hy)]
      refine rd (i := y) h0 hH ⟨rfl, by decide, by decide⟩ ⟨.int many, h1, y, many, rfl, divp_small hmany.1 hmany.2, fun p np => ?_⟩
      have hpa : p ≠ a := fun z => by rw [z, hH] at np; cases np
      refine ⟨p, _, rfl, .inl (.inl upd_same), rfl, ?_⟩
      refine ⟨_, _, rfl, st (c0 := x) (c1 := y) (c2 := z) h0 (by rw [upd_ne hpa.symm]; exact hH) ⟨by decide, by decide⟩ ?_⟩
      refine ⟨_, _, rfl, rfl, ?_⟩
      refine ⟨.int (y % many), List.getElem?_set_self (by omega), ?_⟩
      refine hQ _ _ (fun b o nb e => ?_) upd_same ⟨_, rfl, rfl⟩
      rw [upd_ne nb, upd_ne (ne_of_none e np)]
      exact e
    · rename_i hy
      cases ev
      rw [if_neg (by simpa using hy)]
      refine rd (i := z) h0 hH ⟨rfl, by decide, by decide⟩ ⟨_, _, rfl, rfl, ?_⟩
      refine st (c0 := x) (c1 := y) (c2 := z) h0 hH ⟨by decide, by decide⟩ ?_
      refine rd (c0 := x) (c1 := y) (c2 := z + 1) (i := x) h0 upd_same ⟨rfl, by decide, by decide⟩ (Or.inl ⟨_, rfl, ?_⟩)
      have s0 : (σ.set 3 (some (.int x)))[0]? = some (some (.ref a)) := by rw [List.getElem?_set_ne (by decide)]; exact h0
      have s1 : (σ.set 3 (some (.int x)))[1]? = some (some (.int many)) := by rw [List.getElem?_set_ne (by decide)]; exact h1
      have s3 : (σ.set 3 (some (V.int x)))[3]? = some (some (.int x)) := List.getElem?_set_self (by omega)
      refine ⟨.int x, s3, .int x, s3, _, _, rfl, rfl, (by decide : (0 : Int) < 20011), _, _, rfl, rfl, _, _, rfl, rfl, ?_, ?_⟩
      · have := Int.emod_nonneg x (show (20011 : Int) ≠ 0 by decide)
        have := Int.emod_lt_of_pos x (show (0 : Int) < 20011 by decide)
        exact .inr ⟨by omega, by omega⟩
      refine rd (c0 := x) (c1 := y) (c2 := z + 1) (i := z + 1) s0 upd_same ⟨rfl, by decide, by decide⟩ ⟨_, _, rfl, rfl, .inl ⟨by decide, by decide⟩, _, _, rfl, rfl, _, _, rfl, rfl, Or.inl ⟨_, rfl, _, _, rfl, rfl, hm, ?_⟩⟩
      refine st (c0 := x) (c1 := y) (c2 := z + 1) s0 upd_same ⟨by decide, by decide⟩ ?_
      refine rd (c0 := (x * (x % 20011 + 30011) + 70001 * (z + 1) + 9) % m) (c1 := y) (c2 := z + 1) (i := (x * (x % 20011 + 30011) + 70001 * (z + 1) + 9) % m) s0 upd_same ⟨rfl, by decide, by decide⟩ ⟨_, _, rfl, rfl, ?_, Or.inl ⟨_, rfl, .int many, s1, _, _, rfl, rfl, hmany.1, ?_⟩⟩
      · exact ⟨by decide, by decide⟩
      · refine hQ _ _ (fun b o nb e => ?_) upd_same ⟨_, rfl, rfl⟩
        rw [upd_ne nb, upd_ne nb]
        exact e
  · cases ev
end
/-- a body that draws -/
def DrawBody (m : Int) (body : List Stmt) : Prop := ∀ (X : Cx), X.calm = true → X.N = (["pool", "many", "figure", "held"] : List Str) → (∀ x ∈ X.N, X.env.scope.names.lookup x = some .local) → Gl X "int" → Gl X "divmod" → X.mg "int" = none → X.mg "divmod" = none →
  ∀ (D : Ends) (a : Addr) (w w' : W) (many : Int) (H : Hp) (d : PyData) (σ : L2.St), σ[0]? = some (some (.ref a)) → σ[1]? = some (some (.int many)) → σ.length = 4 → H a = some (.lst (w.map V.int)) → (drawF m [.int many]).run w = some (d, w') →
    (∀ v H', (∀ b o, b ≠ a → H b = some o → H' b = some o) → H' a = some (.lst (w'.map V.int)) → (∃ i, v = .int i ∧ d = .int i) → D.rt v H') → ∃ t, PSs X body t ∧ t D σ H
theorem draw_fact {M : Md} {K : PySem.W.Frag} {mg : Str → Option Value} {P : Program} {w : World} {base : Heap} {m : Int} (hf : HF M K mg) (i : Nat) {x : Str} {params : Arguments} {body : List Stmt} {scope : Scope} (h : M.fn[i]? = some ⟨(x, none), x, x, params, body, scope, [], []⟩)
    (S : C8.scC ["pool", "many", "figure", "held"] ["pool", "many"] scope = true) (hl : ((["pool", "many", "figure", "held"] : List Str).all fun y => decide (scope.names.lookup y = some .local)) = true) (hg : decide (scope.names.lookup ("int" : Str) = some .globalImplicit ∧ scope.names.lookup ("divmod" : Str) = some .globalImplicit) = true)
    (hbl : (M.bl.contains "int" && M.bl.contains "divmod") = true) (hB : DrawBody m body)
    (hb : ∀ (kV doc pm : Value) (an : Option Addr) (cdv ct : Value) (us : List Value), us.length = 2 → bindArgs (PySem.W.fnOf x x params body scope .none kV doc pm an cdv ct) ⟨us, []⟩ = pure ((["pool", "many"] : List Str).zip us)) :
    FnFactG P w K mg base 1 x true ["pool", "many"] [] (drawF m) := by
  obtain ⟨fd, F⟩ := hf.c.def_ i h
  have F' : FunD K x x params body scope [] [] (He.ga K x) fd := F
  have FS := C8.fnScope_by S
  rw [Bool.and_eq_true] at hbl
  have hg := of_decide_eq_true hg
  refine ⟨He.ga K x, fd, fnG F' FS (fun vs H Q E h => ?_) fun cdv A outer s H vs Q E hr gd h => ?_, hf.glo h, F'.kp, F'.bindsN hb, fun kw hkw => nomatch hkw⟩
  · obtain ⟨P0, q, wl, ds, d, w', b, hl, _⟩ := h
    exact hl
  · obtain ⟨P0, q, wl, ds, d, w', bs, hlen, hv, ev, hQ⟩ := h
    obtain ⟨a, us, rfl, rfl, hr⟩ := hv
    obtain ⟨many, rfl⟩ : ∃ many, ds = [.int many] := by
      match ds, ev with
      | [.int many], _ => exact ⟨many, rfl⟩
      | [], ev => cases (show (none : Option (PyData × W)) = some (d, w') from by cases wl <;> exact ev)
      | [.none], ev => cases (show (none : Option (PyData × W)) = some (d, w') from by cases wl <;> exact ev)
      | [.bool _], ev => cases (show (none : Option (PyData × W)) = some (d, w') from by cases wl <;> exact ev)
      | [.str _], ev => cases (show (none : Option (PyData × W)) = some (d, w') from by cases wl <;> exact ev)
      | [.list _], ev => cases (show (none : Option (PyData × W)) = some (d, w') from by cases wl <;> exact ev)
      | [.tuple _], ev => cases (show (none : Option (PyData × W)) = some (d, w') from by cases wl <;> exact ev)
      | [.dict _], ev => cases (show (none : Option (PyData × W)) = some (d, w') from by cases wl <;> exact ev)
      | y :: _ :: _, ev => cases (show (none : Option (PyData × W)) = some (d, w') from by cases y <;> exact ev)
    cases hr with
    | cons r1 r2 =>
      cases r1
      cases r2
      obtain ⟨t, h1, h2⟩ := hB (cxOf CX0 P w K mg base ["pool", "many", "figure", "held"] x scope (He.ga K x) cdv A outer s H E).nox rfl rfl (fun y hy => of_decide_eq_true (List.all_eq_true.mp hl y hy)) hg.1 hg.2 (hf.free (List.contains_iff_mem.mp hbl.1)) (hf.free (List.contains_iff_mem.mp hbl.2))
        { nx := fun _ H' => Q .non H', rt := Q } a wl w' many H d (L2.start ["pool", "many", "figure", "held"] [.ref a, .int many]) rfl rfl rfl (bs.pool a rfl).2 ev fun v H' k1 k2 k3 => by
          obtain ⟨j, rfl, rfl⟩ := k3
          refine hQ H' _ ⟨fun b o n e => k1 b o (fun z => n (by rw [z])) e, fun b e => ?_⟩ (.int _)
          cases e
          exact k2
      exact ⟨t, PSs.nox h1, h2⟩
end RX

-- RX20
set_option Elab.async false
set_option linter.all false
set_option maxRecDepth 100000
set_option maxHeartbeats 4000000
/-! RX20: a def that ends by a new list of ints (the law's pool); the law over a range. -/
namespace RX
open PySem PySem.Spec PyProof.Rows L2
variable [PWd]
/-- the body b, then return e, a new list of ints -/
def runN (C : Ctx) (n : Nat) (b : SL) (e : E) (args : List D) : Option W := do
  let (o, w) ← (evSL C b (env0 false n args)).run []
  match o with
  | .next ρ => do
    let (d, _) ← (evE C e (visE ρ)).run w
    match d with
    | .list ds => intsD ds
    | _ => none
  | _ => none
/-- a def's promise: a new list of ints, by a function of data -/
def spN (K : PySem.W.Frag) (n : Nat) (m : List D → Option W) : Sp := fun vs H Q _ => ∃ P ds ns, (∀ a ∈ P, H a ≠ none) ∧ vs.length = n ∧ RpAll K (hide H P) vs ds ∧ m ds = some ns ∧
  ∀ H' a, Ext none [] H H' → H a = none → H' a = some (.lst (ns.map V.int)) → Q (.ref a) H'
section
variable {P : Program} {w : World} {K : PySem.W.Frag} {mg : Str → Option Value} {base : Heap}
theorem pss_snoc {X : Cx} {C : Ctx} {pl : Bool} {b : SL} {body : List Stmt} {st : Stmt} {t : TS} (h1 : PSs X body (tS X.K pl (evSL C b))) (h2 : PS X st t) : PSs X (body ++ [st]) (tSeq (tS X.K pl (evSL C b)) t) := by
  have key : ∀ (l : List Stmt) (t1 : TS), PSs X l t1 → PSs X (l ++ [st]) (tSeq t1 t) := by
    intro l t1 h
    refine ⟨fun pins s σ H D I hh => ?_⟩
    have r := h.run pins s σ H { D with nx := t D } I hh
    have ex : execs (l ++ [st]) X.env = (do
      match ← execs l X.env with
      | .next => execs [st] X.env
      | f => pure f) := by
      clear r hh I h
      induction l with
      | nil =>
        show execs [st] X.env = _
        have : execs [] X.env = pure Flow.next := rfl
        rw [this, pure_bind]
      | cons a l ih =>
        have e1 : ∀ r, execs (a :: r) X.env = (do match ← exec a X.env with | .next => execs r X.env | f => pure f) := fun _ => rfl
        rw [List.cons_append, e1, ih, e1, bind_assoc]
        congr 1
        funext f
        cases f <;> simp only [pure_bind]
    rw [ex]
    refine wpAny_bind (thn r fun f s1 q => ?_)
    cases f with
    | next =>
      obtain ⟨σ', H', I', q⟩ := q
      exact (pss_one h2).run pins s1 σ' H' D I' q
    | ret v => exact wpAny_pure q
    | brk => exact wpAny_pure q
    | cont => exact wpAny_pure q
  exact key _ _ h1
/-- the promise of a def that ends by a new list -/
structure PoolG (P : Program) (w : World) (K : PySem.W.Frag) (mg : Str → Option Value) (base : Heap) (k : Nat) (x : Str) (ar : List Str) (m : List D → Option W) : Prop where
  ex : ∃ f fd, FnOkG P w K mg base k f fd ar (spN K ar.length m) ∧ mg x = some (.ref f) ∧ PySem.W.keepIn K (.ref f) = true ∧ Binds K fd ar []
theorem pool_fact {M : Md} (hf : HF M K mg) (i : Nat) {x : Str} {params : Arguments} {body0 : List Stmt} {pe : Expr} {rp : Pos} {scope : Scope} {C : Ctx} {T : Tab} {k : Nat} {N ps : List Str} {b : SL} {e : E}
    (h : M.fn[i]? = some ⟨(x, none), x, x, params, body0 ++ [.Return (some pe) rp], scope, [], []⟩) (S : C8.scC N ps scope = true) (hm : mtSL T false N scope b body0 = true) (hme : mtE T false N scope e pe = true) (hn : isNew e = true) (g : GlobOk P w K mg base C T k)
    (hb : ∀ (kV doc pm : Value) (an : Option Addr) (cdv ct : Value) (us : List Value), us.length = ps.length → bindArgs (PySem.W.fnOf x x params (body0 ++ [.Return (some pe) rp]) scope .none kV doc pm an cdv ct) ⟨us, []⟩ = pure (ps.zip us)) :
    PoolG P w K mg base (k + 1) x ps (runN C N.length b e) := by
  obtain ⟨fd, F⟩ := hf.c.def_ i h
  have F' : FunD K x x params (body0 ++ [.Return (some pe) rp]) scope [] [] (He.ga K x) fd := F
  have FS := C8.fnScope_by S
  refine ⟨He.ga K x, fd, fnG F' FS (fun vs H Q E h => ?_) fun cdv A outer s H vs Q E hr gd h => ?_, hf.glo h, F'.kp, F'.bindsN hb⟩
  · obtain ⟨P0, ds, ns, _, hl, _⟩ := h
    exact hl
  · obtain ⟨P0, ds, ns, tr, hl, hv, ev, hQ⟩ := h
    have xo := g.xok (CX := CX0) (N := N) (qual := x) (scope := scope) (f := He.ga K x) (cd := cdv) (A := A) (outer := outer) (s := s) (H := H) (E := E) FS.nd hr gd
    have hpl : ps.length ≤ N.length := by have := congrArg List.length FS.pre; rw [List.length_take] at this; omega
    refine ⟨_, PSs.nox (pss_snoc (okSL b _ body0 xo (fun _ => rfl) FS.kind PassesOwn.never hm) (ps_ret (okF (C := C) (pl := false) xo (ScRel.self fun _ => rfl) hme hn))), ?_⟩
    unfold runN at ev
    rw [Option.bind_eq_bind, Option.bind_eq_some_iff] at ev
    obtain ⟨⟨o, w1⟩, e1, ev⟩ := ev
    have sr := SR.start (K := K) (N := N) (vs := vs) (pl := false) (P0 := P0) (q := none) (wl := []) (ds := ds) (H := H) ⟨tr, fun a z => nomatch z⟩ (by omega) (by rw [if_neg Bool.false_ne_true]; exact ⟨rfl, hv⟩)
    refine ⟨P0, none, H, _, [], [], o, w1, sr, e1, ?_⟩
    cases o with
    | next ρ =>
      have ev : ((evE C e (visE ρ)).run w1).bind (fun r => match r.1 with | .list ds => intsD ds | _ => none) = some ns := ev
      rw [Option.bind_eq_some_iff] at ev
      obtain ⟨⟨d, w2⟩, e2, ev⟩ := ev
      intro σ' H' ow' s' _
      cases d with
      | list es =>
        refine ⟨_, none, _, w1, es, w2, s'.sitV, e2, fun H2 a xs x2 n2 hl2 hz2 r2 => ?_⟩
        obtain ⟨rfl, _⟩ := r2.intsOf ev
        have x0 : Ext none [] H H2 := ⟨fun b o n e => x2.keep b o n (s'.keep b o n e), fun b z => nomatch z⟩
        refine hQ H2 a x0 ?_ hl2
        cases z : H a with
        | none => rfl
        | some o =>
          rw [s'.keep a o (by simp) z] at n2
          cases n2
      | _ => cases ev
    | _ => cases ev
end
end RX

-- RX21
set_option Elab.async false
set_option linter.all false
set_option maxRecDepth 100000
set_option maxHeartbeats 4000000
/-! RX21: the law: a loop over a range of one def of the pool. -/
namespace RX
open PySem PySem.Spec PyProof.Rows L2
variable [PWd]
/-- the law's promise -/
def spLaw (K : PySem.W.Frag) : Sp := fun vs H Q _ => ∃ (a : Addr) (ns : List Int), vs = [.ref a] ∧ SqL K H a (ns.map V.int) ∧ ns.length ≤ 63 ∧ (∀ z ∈ ns, Builtin.Int.intBits z ≤ 1048576) ∧ ∀ H', Q (.bl true) H'
/-- what is left to show of a law of this form, without a machine -/
def Plain (C : Ctx) (it : RX.It) (mp : List D → Option W) (mr : Fn) : Prop := ∀ ns : List Int, ns.length ≤ 63 → (∀ z ∈ ns, Builtin.Int.intBits z ≤ 1048576) →
  ∃ xs w0, (evIt C it [some (.list (ns.map .int)), none]).run [] = some (xs, w0) ∧ ∀ x ∈ xs, ∃ j ws w', x = .int j ∧ mp [.list (ns.map .int), .int j] = some ws ∧ (mr []).run ws = some (.bool true, w')
section
variable {P : Program} {w : World} {K : PySem.W.Frag} {mg : Str → Option Value} {p1 p2 p3 p4 p5 p6 p7 p8 p9 p10 p11 p12 p13 p14 : Pos}
theorem law_fact {M : Md} (hf : HF M K mg) (i : Nat) {x tn rn pn : Str} {params : Arguments} {pit : Expr} {scope : Scope} {C : Ctx} {T : Tab} {k : Nat} {it : RX.It} {mp : List D → Option W} {mr : Fn} {arp arr : List Str}
    (h : M.fn[i]? = some ⟨(x, none), x, x, params, [.For (.Name tn p1) pit [.If (.UnaryOp .Not (.Call (.Name rn p2) [.Call (.Name pn p3) [.Name "script" p4, .Name tn p5] [] p6] [] p7) p8) [.Return (some (.Constant (.bool false) 0 p9)) p10] [] p11] [] p12, .Return (some (.Constant (.bool true) 0 p13)) p14], scope, [], []⟩)
    (S : C8.scC ["script", tn] ["script"] scope = true) (ht : (visB scope tn && locB scope tn && plainName tn && visB scope "script" && glB scope rn && glB scope pn && plainName rn && plainName pn && !itTup it) = true) (hmi : mtI T false ["script", tn] scope it pit = true)
    (lp : arp.length = 2) (lr : arr.length = 1) (plain : Plain C it mp mr) :
    ∃ fd, (∀ (hb : ∀ (kV doc pm : Value) (an : Option Addr) (cdv ct : Value) (us : List Value), us.length = 1 → bindArgs (PySem.W.fnOf x x params [.For (.Name tn p1) pit [.If (.UnaryOp .Not (.Call (.Name rn p2) [.Call (.Name pn p3) [.Name "script" p4, .Name tn p5] [] p6] [] p7) p8) [.Return (some (.Constant (.bool false) 0 p9)) p10] [] p11] [] p12, .Return (some (.Constant (.bool true) 0 p13)) p14] scope .none kV doc pm an cdv ct) ⟨us, []⟩ = pure ((["script"] : List Str).zip us)),
      ∀ (s : Shared) (u : Value), BindsTo s fd ⟨[u], []⟩ [("script", u)]) ∧ ∀ base, GlobOk P w K mg base C T k → PoolG P w K mg base k pn arp mp → FnFactG P w K mg base k rn true arr [] mr → FnOkG P w K mg base (k + 1) (He.ga K x) fd ["script"] (spLaw K) := by
  obtain ⟨fd, F⟩ := hf.c.def_ i h
  have F' : FunD K x x params [.For (.Name tn p1) pit [.If (.UnaryOp .Not (.Call (.Name rn p2) [.Call (.Name pn p3) [.Name "script" p4, .Name tn p5] [] p6] [] p7) p8) [.Return (some (.Constant (.bool false) 0 p9)) p10] [] p11] [] p12, .Return (some (.Constant (.bool true) 0 p13)) p14] scope [] [] (He.ga K x) fd := F
  have FS := C8.fnScope_by S
  simp only [Bool.and_eq_true, Bool.not_eq_true'] at ht
  obtain ⟨⟨⟨⟨⟨⟨⟨⟨t1, t2⟩, t3⟩, t4⟩, t5⟩, t6⟩, t7⟩, t8⟩, t9⟩ := ht
  have pn3 : ∀ {y : Str}, plainName y = true → (y == ("__debug__" : Str)) = false ∧ (y == ("__classdict__" : Str)) = false := fun {y} hy => by
    unfold plainName at hy
    simp only [Bool.and_eq_true, bne_iff_ne, ne_eq] at hy
    exact ⟨by simpa using hy.1.1, by simpa using hy.1.2⟩
  refine ⟨fd, fun hb s u => FunD.bindsA (ps := ["script"]) F' hb s [u] rfl, fun base g hp hr => ?_⟩
  obtain ⟨fp, fdp, Fp, mp1, kp1, bp⟩ := hp.ex
  obtain ⟨fr, fdr, Fr, mr1, kr1, br, _⟩ := hr.ex
  refine (fnG F' FS (fun vs H Q E h => ?_) fun cdv A outer s H vs Q E hrm gd h => ?_)
  · obtain ⟨a, ns, rfl, _⟩ := h
    rfl
  · have xo := g.xok (CX := CX0) (N := ["script", tn]) (qual := x) (scope := scope) (f := He.ga K x) (cd := cdv) (A := A) (outer := outer) (s := s) (H := H) (E := E) FS.nd hrm gd
    generalize hX : (cxOf CX0 P w K mg base ["script", tn] x scope (He.ga K x) cdv A outer s H E).nox = X at xo
    have e1 : X.prog = P := by rw [← hX]; rfl
    have sr : ScRel X X.env.scope := ScRel.self fun y => by rw [← hX]; rfl
    have sc : X.env.scope = scope := by rw [← hX]; rfl
    have xN : X.N = (["script", tn] : List Str) := by rw [← hX]; rfl
    have i0 : X.N[0]? = some ("script" : Str) := by rw [xN]; rfl
    have i1 : X.N[1]? = some tn := by rw [xN]; rfl
    have room : Room k X.A := xo.room
    have FpX : FnOkG X.prog X.w X.K X.mg X.base k fp fdp arp (spN X.K arp.length mp) := by rw [← hX]; exact Fp
    have FrX : FnOkG X.prog X.w X.K X.mg X.base k fr fdr arr (spD X.K true arr.length mr) := by rw [← hX]; exact Fr
    have mpX : X.mg pn = some (.ref fp) := by rw [← hX]; exact mp1
    have mrX : X.mg rn = some (.ref fr) := by rw [← hX]; exact mr1
    have kpX : PySem.W.keepIn X.K (.ref fp) = true := by rw [← hX]; exact kp1
    have krX : PySem.W.keepIn X.K (.ref fr) = true := by rw [← hX]; exact kr1
    have bpX : Binds X.K fdp arp [] := by rw [← hX]; exact bp
    have brX : Binds X.K fdr arr [] := by rw [← hX]; exact br
    have own : PassesOwn (model X.prog X.w) X.A X.env X.xe := by rw [← hX]; exact PassesOwn.never
    have XK : X.K = K := by rw [← hX]; rfl
    rw [← sc] at t1 t2 t4 t5 t6 hmi
    have vs0 : PE X (.Name "script" p4) (tVar 0) := pe_var i0 (sr.vis _ t4)
    have vt : PE X (.Name tn p5) (tVar 1) := pe_var i1 (sr.vis _ t1) (pn3 t3).1 (pn3 t3).2
    obtain ⟨lo1, lo2⟩ := sr.loc tn t2
    have cP := pe_callG (p := p3) (pos := p6) FpX room xo.gd (sr.gl _ t6) mpX kpX bpX (pa_cons vs0 (pa_cons vt pa_nil rfl) rfl) (pn3 t8).1 rfl rfl
    have cR := pe_callG (p := p2) (pos := p7) FrX room xo.gd (sr.gl _ t5) mrX krX brX (pa_cons cP pa_nil rfl) (pn3 t7).1 rfl rfl
    have bodyP := pss_one (ps_if (pos := p11) (pt_not (pos := p8) (pt_val cR (by intro _; rfl))) (pss_one (ps_ret (pos := p10) (pe_bl (X := X) (b := false) (j := 0) (pos := p9)))) pss_nil)
    have loop := ps_for (pos := p12) own xo.calm (okI it X X.env.scope (.Name tn p1) pit xo sr (by rw [xN]; exact hmi) fun z => by rw [t9] at z; cases z) (pg_name (pos := p1) xo.nd i1 lo1 lo2) bodyP (fun y => fold_ok (mtI_notSet (by exact hmi)) y)
    subst hX
    refine ⟨_, PSs.nox (pss_cons loop (pss_one (ps_ret (pe_bl (b := true) (j := 0))))), ?_⟩
    obtain ⟨a, ns, rfl, hS, hlen, hbits, hQ⟩ := h
    obtain ⟨xs, w0, eit, hall⟩ := plain ns hlen hbits
    have z63 : ns.length ≤ sizeLine := Nat.le_trans hlen (by decide)
    have hh : ∀ Hc : Hp, hide Hc [] = Hc := fun Hc => by funext b; exact if_neg (by simp)
    have rel : ∀ {Hc : Hp}, SqL K Hc a (ns.map V.int) → Rp K (hide Hc []) (.ref a) (.list (ns.map .int)) := fun {Hc} hq => by
      rw [hh]
      exact .lst hq (by rw [List.length_map]; exact z63) (RpAll.ofInts K Hc ns)
    have sit : ∀ {Hc : Hp} {σ : L2.St}, σ[0]? = some (some (.ref a)) → 2 ≤ σ.length → SqL K Hc a (ns.map V.int) → Sit K false [] none [some (.list (ns.map .int)), none] [] σ Hc := fun {Hc σ} h0 h1 hq => by
      refine ⟨⟨fun b hb => (nomatch hb), fun b hb => (nomatch hb)⟩, rfl, fun b hb => (nomatch hb), fun j d e => ?_, h1⟩
      match j, e with
      | 0, e => cases e; exact ⟨_, h0, rel hq⟩
      | 1, e => cases e
      | j + 2, e => cases (show (none : Option PyData) = some d from e)
    have w0nil : w0 = w0 := rfl
    refine ⟨[], none, _, [], xs, w0, sit rfl (Nat.le_refl 2) hS, eit, fun J H1 as G Y x1 wd => ?_⟩
    have sm1 : Same H H1 := fun b o e => x1.keep b o (by simp) e
    let Pv : Nat → L2.St → Hp → Prop := fun j σ' Hc => σ'[0]? = some (some (V.ref a)) ∧ 2 ≤ σ'.length ∧ Same H1 Hc
    refine for_it wd.wk Pv ⟨rfl, Nat.le_refl 2, fun _ _ z => z⟩ (fun j σ' Hc _ pv => wd.stay H1 Hc wd.g0 fun b hb o e => pv.2.2 b o e) (fun j y σ' Hc Hc' hlt pv hy => ?_) fun σ' Hc pv => hQ Hc
    obtain ⟨q0, q1, q2⟩ := pv
    obtain ⟨gr, rx⟩ := wd.item j Hc y Hc' xs[j] [] hlt (wd.stay H1 Hc wd.g0 fun b hb o e => q2 b o e) (by rw [hh, hh]; exact q2) (fun b hb => (nomatch hb)) hy (List.getElem?_eq_getElem hlt)
    have smg : Same Hc Hc' := by
      rcases gr with rfl | ⟨t, o, nt, rfl⟩
      · exact fun _ _ z => z
      · exact fun b o' e => by rw [upd_ne (ne_of_none e nt)]; exact e
    obtain ⟨jj, ws, w', exj, epool, eright⟩ := hall xs[j] (List.getElem_mem hlt)
    rw [exj] at rx
    cases rx
    have s0 : (σ'.set 1 (some (V.int jj)))[0]? = some (some (V.ref a)) := by rw [List.getElem?_set_ne (by decide)]; exact q0
    have s1 : (σ'.set 1 (some (V.int jj)))[1]? = some (some (V.int jj)) := List.getElem?_set_self (by omega)
    have hS' : SqL K Hc' a (ns.map V.int) := Same.seq (show Same H Hc' from fun b o e => smg b o (q2 b o (sm1 b o e))) hS
    refine ⟨.ref a, s0, .int jj, s1, [], [.list (ns.map .int), .int jj], ws, fun b hb => (nomatch hb), by rw [lp]; rfl, .cons (rel hS') (.cons (.int jj) .nil), epool, fun H2 b x2 n2 l2 => ?_⟩
    refine ⟨[b], some b, ws, [], .bool true, w', ⟨fun c hc => ?_, fun c hc => ?_⟩, by rw [lr]; rfl, ?_, eright, fun H3 v x3 r3 => ?_⟩
    · rw [List.mem_singleton] at hc
      rw [hc, l2]
      simp
    · cases hc
      exact ⟨List.mem_singleton.mpr rfl, l2⟩
    · rw [if_pos rfl]
      exact ⟨b, [], rfl, rfl, .nil⟩
    · cases r3
      refine ⟨_, rfl, ?_⟩
      refine ⟨s0, by rw [List.length_set]; exact q1, fun c o e => ?_⟩
      have e2 := x2.keep c o (by simp) (smg c o (q2 c o e))
      have nb : c ≠ b := fun z => by
        have := smg c o (q2 c o e)
        rw [z, n2] at this
        cases this
      exact x3.keep c o (by simpa using nb) e2
end
def retE : Stmt → Expr
  | .Return (some e) _ => e
  | _ => .Constant .none 0 ⟨0, 0, 0, 0⟩
def retP : Stmt → Pos
  | .Return _ p => p
  | _ => ⟨0, 0, 0, 0⟩
end RX

-- G01
set_option Elab.async false
set_option linter.all false
set_option maxRecDepth 100000
set_option maxHeartbeats 4000000
namespace LW
open PySem PySem.Spec PyProof.Rows L2 RX
section
variable [PWd] {K : PySem.W.Frag} {mg : Str → Option Value} {base : Heap}
def B_is_tuple_of : SL := (.cons (.ret (.and (.isi (.loc 0) "tuple") (.cmp .eq (.b1 .len (.loc 0)) (.loc 1)))) .nil)
def T_is_tuple_of : Tab := ⟨[], [], ["isinstance", "tuple", "len"], []⟩
def C_is_tuple_of : RX.Ctx := ⟨[], []⟩
def F_is_tuple_of : Fn := runD C_is_tuple_of false 2 B_is_tuple_of
theorem m_is_tuple_of : mtSL T_is_tuple_of false ["value", "many"] (defScope (top 6)) B_is_tuple_of (defBody (top 6)) = true := by decide +kernel
theorem f_is_tuple_of (hf : HF md K mg) : FnFactG PWd.P PWd.w K mg base 1 "is_tuple_of" false ["value", "many"] [] F_is_tuple_of :=
  hf.fn 0 rfl (k := 0) (N := ["value", "many"]) (C := C_is_tuple_of) (T := T_is_tuple_of) (by decide +kernel) m_is_tuple_of (hf.glob .nil .nil (by decide +kernel) (by decide +kernel))
    (fun _ _ _ _ _ _ us hl => match us, hl with | [_, _], _ => rfl) (fun _ _ _ _ _ _ kw hkw => nomatch hkw)
def B_is_name : SL := (.cons (.ite (.or (.not (.isi (.loc 0) "str")) (.not (.chain .le .le (.cst (.int 1)) (.b1 .len (.loc 0)) (.glb 0)))) (.cons (.ret (.cst (.bool false))) .nil) .nil) (.cons (.ret (.b1 .all (.comp [1] (.seq (.loc 0)) false (.cst .none) (.cmp .isin (.loc 1) (.glb 1))))) .nil))
def T_is_name : Tab := ⟨[], ["MOST_LETTERS", "LETTERS"], ["isinstance", "str", "len", "all"], []⟩
def C_is_name : RX.Ctx := ⟨[], [(.int 8), (.str "abcdefghijklmnopqrstuvwxyz")]⟩
def F_is_name : Fn := runD C_is_name false 2 B_is_name
theorem m_is_name : mtSL T_is_name false ["value", "letter"] (defScope (top 7)) B_is_name (defBody (top 7)) = true := by decide +kernel
theorem f_is_name (hf : HF md K mg) : FnFactG PWd.P PWd.w K mg base 1 "is_name" false ["value"] [] F_is_name :=
  hf.fn 1 rfl (k := 0) (N := ["value", "letter"]) (C := C_is_name) (T := T_is_name) (by decide +kernel) m_is_name (hf.glob .nil (.cons (hf.cstI 0 rfl) (.cons (hf.cstI 1 rfl) .nil)) (by decide +kernel) (by decide +kernel))
    (fun _ _ _ _ _ _ us hl => match us, hl with | [_], _ => rfl) (fun _ _ _ _ _ _ kw hkw => nomatch hkw)
def B_are_rising : SL := (.cons (.ret (.b1 .all (.comp [1] (.rng2 (.cst (.int 1)) (.b1 .len (.loc 0))) false (.cst .none) (.cmp .lt (.idx (.loc 0) (.bin .sub (.loc 1) (.cst (.int 1)))) (.idx (.loc 0) (.loc 1)))))) .nil)
def T_are_rising : Tab := ⟨[], [], ["all", "range", "len"], []⟩
def C_are_rising : RX.Ctx := ⟨[], []⟩
def F_are_rising : Fn := runD C_are_rising false 2 B_are_rising
theorem m_are_rising : mtSL T_are_rising false ["value", "index"] (defScope (top 8)) B_are_rising (defBody (top 8)) = true := by decide +kernel
theorem f_are_rising (hf : HF md K mg) : FnFactG PWd.P PWd.w K mg base 1 "are_rising" false ["value"] [] F_are_rising :=
  hf.fn 2 rfl (k := 0) (N := ["value", "index"]) (C := C_are_rising) (T := T_are_rising) (by decide +kernel) m_are_rising (hf.glob .nil .nil (by decide +kernel) (by decide +kernel))
    (fun _ _ _ _ _ _ us hl => match us, hl with | [_], _ => rfl) (fun _ _ _ _ _ _ kw hkw => nomatch hkw)
def B_is_outcome_of : SL := (.cons (.ret (.and (.isi (.loc 1) "str") (.cmp .isin (.loc 1) (.loc 0)))) .nil)
def T_is_outcome_of : Tab := ⟨[], [], ["isinstance", "str"], []⟩
def C_is_outcome_of : RX.Ctx := ⟨[], []⟩
def F_is_outcome_of : Fn := runD C_is_outcome_of false 2 B_is_outcome_of
theorem m_is_outcome_of : mtSL T_is_outcome_of false ["outcomes", "value"] (defScope (top 13)) B_is_outcome_of (defBody (top 13)) = true := by decide +kernel
theorem f_is_outcome_of (hf : HF md K mg) : FnFactG PWd.P PWd.w K mg base 1 "is_outcome_of" false ["outcomes", "value"] [] F_is_outcome_of :=
  hf.fn 3 rfl (k := 0) (N := ["outcomes", "value"]) (C := C_is_outcome_of) (T := T_is_outcome_of) (by decide +kernel) m_is_outcome_of (hf.glob .nil .nil (by decide +kernel) (by decide +kernel))
    (fun _ _ _ _ _ _ us hl => match us, hl with | [_, _], _ => rfl) (fun _ _ _ _ _ _ kw hkw => nomatch hkw)
def B_is_pair_of : SL := (.cons (.ite (.not (.call false 0 (.cons (.loc 1) (.cons (.cst (.int 2)) .nil)) [])) (.cons (.ret (.cst (.bool false))) .nil) .nil) (.cons (.ret (.and (.call false 1 (.cons (.loc 0) (.cons (.idx (.loc 1) (.cst (.int 0))) .nil)) []) (.call false 1 (.cons (.loc 0) (.cons (.idx (.loc 1) (.cst (.int 1))) .nil)) []))) .nil))
def T_is_pair_of : Tab := ⟨[("is_tuple_of", false, ["value", "many"], []), ("is_outcome_of", false, ["outcomes", "value"], [])], [], [], []⟩
def C_is_pair_of : RX.Ctx := ⟨[F_is_tuple_of, F_is_outcome_of], []⟩
def F_is_pair_of : Fn := runD C_is_pair_of false 2 B_is_pair_of
theorem m_is_pair_of : mtSL T_is_pair_of false ["outcomes", "value"] (defScope (top 14)) B_is_pair_of (defBody (top 14)) = true := by decide +kernel
theorem f_is_pair_of (hf : HF md K mg) : FnFactG PWd.P PWd.w K mg base 2 "is_pair_of" false ["outcomes", "value"] [] F_is_pair_of :=
  hf.fn 4 rfl (k := 1) (N := ["outcomes", "value"]) (C := C_is_pair_of) (T := T_is_pair_of) (by decide +kernel) m_is_pair_of (hf.glob (.cons (f_is_tuple_of hf) (by decide) (.cons (f_is_outcome_of hf) (by decide) .nil)) .nil (by decide +kernel) (by decide +kernel))
    (fun _ _ _ _ _ _ us hl => match us, hl with | [_, _], _ => rfl) (fun _ _ _ _ _ _ kw hkw => nomatch hkw)
def B_are_outcomes : SL := (.cons (.ite (.or (.not (.isi (.loc 0) "tuple")) (.not (.chain .le .le (.cst (.int 1)) (.b1 .len (.loc 0)) (.glb 0)))) (.cons (.ret (.cst (.bool false))) .nil) .nil) (.cons (.ret (.and (.b1 .all (.comp [1] (.seq (.loc 0)) false (.cst .none) (.call false 0 (.cons (.loc 1) .nil) []))) (.call false 1 (.cons (.loc 0) .nil) []))) .nil))
def T_are_outcomes : Tab := ⟨[("is_name", false, ["value"], []), ("are_rising", false, ["value"], [])], ["MOST_OUTCOMES"], ["isinstance", "tuple", "len", "all"], []⟩
def C_are_outcomes : RX.Ctx := ⟨[F_is_name, F_are_rising], [(.int 10)]⟩
def F_are_outcomes : Fn := runD C_are_outcomes false 2 B_are_outcomes
theorem m_are_outcomes : mtSL T_are_outcomes false ["value", "each"] (defScope (top 15)) B_are_outcomes (defBody (top 15)) = true := by decide +kernel
theorem f_are_outcomes (hf : HF md K mg) : FnFactG PWd.P PWd.w K mg base 2 "are_outcomes" false ["value"] [] F_are_outcomes :=
  hf.fn 5 rfl (k := 1) (N := ["value", "each"]) (C := C_are_outcomes) (T := T_are_outcomes) (by decide +kernel) m_are_outcomes (hf.glob (.cons (f_is_name hf) (by decide) (.cons (f_are_rising hf) (by decide) .nil)) (.cons (hf.cstI 2 rfl) .nil) (by decide +kernel) (by decide +kernel))
    (fun _ _ _ _ _ _ us hl => match us, hl with | [_], _ => rfl) (fun _ _ _ _ _ _ kw hkw => nomatch hkw)
def B_are_pairs_of : SL := (.cons (.ite (.or (.not (.isi (.loc 1) "tuple")) (.not (.b1 .all (.comp [2] (.seq (.loc 1)) false (.cst .none) (.call false 0 (.cons (.loc 0) (.cons (.loc 2) .nil)) []))))) (.cons (.ret (.cst (.bool false))) .nil) .nil) (.cons (.ret (.call false 1 (.cons (.loc 1) .nil) [])) .nil))
def T_are_pairs_of : Tab := ⟨[("is_pair_of", false, ["outcomes", "value"], []), ("are_rising", false, ["value"], [])], [], ["isinstance", "tuple", "all"], []⟩
def C_are_pairs_of : RX.Ctx := ⟨[F_is_pair_of, F_are_rising], []⟩
def F_are_pairs_of : Fn := runD C_are_pairs_of false 3 B_are_pairs_of
theorem m_are_pairs_of : mtSL T_are_pairs_of false ["outcomes", "value", "each"] (defScope (top 16)) B_are_pairs_of (defBody (top 16)) = true := by decide +kernel
theorem f_are_pairs_of (hf : HF md K mg) : FnFactG PWd.P PWd.w K mg base 3 "are_pairs_of" false ["outcomes", "value"] [] F_are_pairs_of :=
  hf.fn 6 rfl (k := 2) (N := ["outcomes", "value", "each"]) (C := C_are_pairs_of) (T := T_are_pairs_of) (by decide +kernel) m_are_pairs_of (hf.glob (.cons (f_is_pair_of hf) (by decide) (.cons (f_are_rising hf) (by decide) .nil)) .nil (by decide +kernel) (by decide +kernel))
    (fun _ _ _ _ _ _ us hl => match us, hl with | [_, _], _ => rfl) (fun _ _ _ _ _ _ kw hkw => nomatch hkw)
def B_is_ground_by : SL := (.cons (.ite (.or (.not (.call false 0 (.cons (.loc 0) (.cons (.cst (.int 2)) .nil)) [])) (.not (.call false 1 (.cons (.idx (.loc 0) (.glb 0)) .nil) []))) (.cons (.ret (.cst (.bool false))) .nil) .nil) (.cons (.ret (.call false 2 (.cons (.idx (.loc 0) (.glb 0)) (.cons (.idx (.loc 0) (.glb 1)) .nil)) [])) .nil))
def T_is_ground_by : Tab := ⟨[("is_tuple_of", false, ["value", "many"], []), ("are_outcomes", false, ["value"], []), ("are_pairs_of", false, ["outcomes", "value"], [])], ["OUTCOMES", "PAIRS"], [], []⟩
def C_is_ground_by : RX.Ctx := ⟨[F_is_tuple_of, F_are_outcomes, F_are_pairs_of], [(.int 0), (.int 1)]⟩
def F_is_ground_by : Fn := runD C_is_ground_by false 1 B_is_ground_by
theorem m_is_ground_by : mtSL T_is_ground_by false ["value"] (defScope (top 17)) B_is_ground_by (defBody (top 17)) = true := by decide +kernel
theorem f_is_ground_by (hf : HF md K mg) : FnFactG PWd.P PWd.w K mg base 4 "is_ground_by" false ["value"] [] F_is_ground_by :=
  hf.fn 7 rfl (k := 3) (N := ["value"]) (C := C_is_ground_by) (T := T_is_ground_by) (by decide +kernel) m_is_ground_by (hf.glob (.cons (f_is_tuple_of hf) (by decide) (.cons (f_are_outcomes hf) (by decide) (.cons (f_are_pairs_of hf) (by decide) .nil))) (.cons (hf.cstI 3 rfl) (.cons (hf.cstI 4 rfl) .nil)) (by decide +kernel) (by decide +kernel))
    (fun _ _ _ _ _ _ us hl => match us, hl with | [_], _ => rfl) (fun _ _ _ _ _ _ kw hkw => nomatch hkw)
def B_are_onward : SL := (.cons (.ret (.b1 .all (.comp [3, 4] (.seq (.loc 0)) true (.cmp .eq (.loc 3) (.loc 2)) (.cmp .isin (.tup (.cons (.loc 1) (.cons (.loc 4) .nil))) (.loc 0))))) .nil)
def T_are_onward : Tab := ⟨[], [], ["all"], []⟩
def C_are_onward : RX.Ctx := ⟨[], []⟩
def F_are_onward : Fn := runD C_are_onward false 5 B_are_onward
theorem m_are_onward : mtSL T_are_onward false ["pairs", "one", "two", "start", "to"] (defScope (top 18)) B_are_onward (defBody (top 18)) = true := by decide +kernel
theorem f_are_onward (hf : HF md K mg) : FnFactG PWd.P PWd.w K mg base 1 "are_onward" false ["pairs", "one", "two"] [] F_are_onward :=
  hf.fn 8 rfl (k := 0) (N := ["pairs", "one", "two", "start", "to"]) (C := C_are_onward) (T := T_are_onward) (by decide +kernel) m_are_onward (hf.glob .nil .nil (by decide +kernel) (by decide +kernel))
    (fun _ _ _ _ _ _ us hl => match us, hl with | [_, _, _], _ => rfl) (fun _ _ _ _ _ _ kw hkw => nomatch hkw)
def B_is_ordered_by : SL := (.cons (.asg false 1 (.dcomp [2] (.seq (.idx (.loc 0) (.glb 0))) false (.cst .none) (.loc 2) (.cst (.bool true)))) (.cons (.ite (.not (.b1 .all (.comp [3] (.seq (.idx (.loc 0) (.glb 1))) false (.cst .none) (.cmp .isin (.tup (.cons (.loc 3) (.cons (.loc 3) .nil))) (.loc 1))))) (.cons (.ret (.cst (.bool false))) .nil) .nil) (.cons (.ret (.b1 .all (.comp [4, 5] (.seq (.loc 1)) false (.cst .none) (.call false 0 (.cons (.loc 1) (.cons (.loc 4) (.cons (.loc 5) .nil))) [])))) .nil)))
def T_is_ordered_by : Tab := ⟨[("are_onward", false, ["pairs", "one", "two"], [])], ["PAIRS", "OUTCOMES"], ["all"], []⟩
def C_is_ordered_by : RX.Ctx := ⟨[F_are_onward], [(.int 1), (.int 0)]⟩
def F_is_ordered_by : Fn := runD C_is_ordered_by false 6 B_is_ordered_by
theorem m_is_ordered_by : mtSL T_is_ordered_by false ["ground", "pairs", "pair", "outcome", "one", "two"] (defScope (top 19)) B_is_ordered_by (defBody (top 19)) = true := by decide +kernel
theorem f_is_ordered_by (hf : HF md K mg) : FnFactG PWd.P PWd.w K mg base 2 "is_ordered_by" false ["ground"] [] F_is_ordered_by :=
  hf.fn 9 rfl (k := 1) (N := ["ground", "pairs", "pair", "outcome", "one", "two"]) (C := C_is_ordered_by) (T := T_is_ordered_by) (by decide +kernel) m_is_ordered_by (hf.glob (.cons (f_are_onward hf) (by decide) .nil) (.cons (hf.cstI 4 rfl) (.cons (hf.cstI 3 rfl) .nil)) (by decide +kernel) (by decide +kernel))
    (fun _ _ _ _ _ _ us hl => match us, hl with | [_], _ => rfl) (fun _ _ _ _ _ _ kw hkw => nomatch hkw)
def B_check_ground : SL := (.cons (.ite (.not (.call false 0 (.cons (.loc 0) .nil) [])) (.cons (.stuck) .nil) .nil) .nil)
def T_check_ground : Tab := ⟨[("is_ground_by", false, ["value"], [])], [], [], []⟩
def C_check_ground : RX.Ctx := ⟨[F_is_ground_by], []⟩
def F_check_ground : Fn := runD C_check_ground false 1 B_check_ground
theorem m_check_ground : mtSL T_check_ground false ["value"] (defScope (top 21)) B_check_ground (defBody (top 21)) = true := by decide +kernel
theorem f_check_ground (hf : HF md K mg) : FnFactG PWd.P PWd.w K mg base 5 "check_ground" false ["value"] [] F_check_ground :=
  hf.fn 10 rfl (k := 4) (N := ["value"]) (C := C_check_ground) (T := T_check_ground) (by decide +kernel) m_check_ground (hf.glob (.cons (f_is_ground_by hf) (by decide) .nil) .nil (by decide +kernel) (by decide +kernel))
    (fun _ _ _ _ _ _ us hl => match us, hl with | [_], _ => rfl) (fun _ _ _ _ _ _ kw hkw => nomatch hkw)
def B_is_ground : SL := (.cons (.ret (.call false 0 (.cons (.loc 0) .nil) [])) .nil)
def T_is_ground : Tab := ⟨[("is_ground_by", false, ["value"], [])], [], [], []⟩
def C_is_ground : RX.Ctx := ⟨[F_is_ground_by], []⟩
def F_is_ground : Fn := runD C_is_ground false 1 B_is_ground
theorem m_is_ground : mtSL T_is_ground false ["value"] (defScope (top 23)) B_is_ground (defBody (top 23)) = true := by decide +kernel
theorem f_is_ground (hf : HF md K mg) : FnFactG PWd.P PWd.w K mg base 5 "is_ground" false ["value"] [[0]] F_is_ground :=
  hf.fn 11 rfl (k := 4) (N := ["value"]) (C := C_is_ground) (T := T_is_ground) (by decide +kernel) m_is_ground (hf.glob (.cons (f_is_ground_by hf) (by decide) .nil) .nil (by decide +kernel) (by decide +kernel))
    (fun _ _ _ _ _ _ us hl => match us, hl with | [_], _ => rfl) (fun _ _ _ _ _ _ kw hkw ws hl => by
    simp only [List.mem_cons, List.not_mem_nil, or_false] at hkw
    subst hkw
    match ws, hl with | [_], _ => rfl)
def B_is_ordered : SL := (.cons (.expr (.call false 0 (.cons (.loc 0) .nil) [])) (.cons (.ret (.call false 1 (.cons (.loc 0) .nil) [])) .nil))
def T_is_ordered : Tab := ⟨[("check_ground", false, ["value"], []), ("is_ordered_by", false, ["ground"], [])], [], [], []⟩
def C_is_ordered : RX.Ctx := ⟨[F_check_ground, F_is_ordered_by], []⟩
def F_is_ordered : Fn := runD C_is_ordered false 1 B_is_ordered
theorem m_is_ordered : mtSL T_is_ordered false ["ground"] (defScope (top 24)) B_is_ordered (defBody (top 24)) = true := by decide +kernel
theorem f_is_ordered (hf : HF md K mg) : FnFactG PWd.P PWd.w K mg base 6 "is_ordered" false ["ground"] [] F_is_ordered :=
  hf.fn 12 rfl (k := 5) (N := ["ground"]) (C := C_is_ordered) (T := T_is_ordered) (by decide +kernel) m_is_ordered (hf.glob (.cons (f_check_ground hf) (by decide) (.cons (f_is_ordered_by hf) (by decide) .nil)) .nil (by decide +kernel) (by decide +kernel))
    (fun _ _ _ _ _ _ us hl => match us, hl with | [_], _ => rfl) (fun _ _ _ _ _ _ kw hkw => nomatch hkw)
def F_law_draw : Fn := drawF 2147483587
theorem drawB : DrawBody 2147483587 (defBody (top 27)) := fun X c1 c2 c3 c4 c5 c6 c7 D a w w' many H d σ d1 d2 d3 d4 d5 d6 => draw_body (by decide) c1 c2 c3 c4 c5 c6 c7 d1 d2 d3 d4 d5 d6
theorem f_law_draw (hf : HF md K mg) : FnFactG PWd.P PWd.w K mg base 1 "_law_draw" true ["pool", "many"] [] F_law_draw :=
  draw_fact hf 14 rfl (by decide +kernel) (by decide +kernel) (by decide +kernel) (by decide +kernel) drawB (fun _ _ _ _ _ _ us hl => match us, hl with | [_, _], _ => rfl)
def B_law_pick : SL := (.cons (.ret (.idx (.loc 1) (.call true 0 (.cons (.b1 .len (.loc 1)) .nil) []))) .nil)
def T_law_pick : Tab := ⟨[("_law_draw", true, ["pool", "many"], [])], [], ["len"], []⟩
def C_law_pick : RX.Ctx := ⟨[F_law_draw], []⟩
def F_law_pick : Fn := runD C_law_pick true 2 B_law_pick
theorem m_law_pick : mtSL T_law_pick true ["pool", "some"] (defScope (top 28)) B_law_pick (defBody (top 28)) = true := by decide +kernel
theorem f_law_pick (hf : HF md K mg) : FnFactG PWd.P PWd.w K mg base 2 "_law_pick" true ["pool", "some"] [] F_law_pick :=
  hf.fn 15 rfl (k := 1) (N := ["pool", "some"]) (C := C_law_pick) (T := T_law_pick) (by decide +kernel) m_law_pick (hf.glob (.cons (f_law_draw hf) (by decide) .nil) .nil (by decide +kernel) (by decide +kernel))
    (fun _ _ _ _ _ _ us hl => match us, hl with | [_, _], _ => rfl) (fun _ _ _ _ _ _ kw hkw => nomatch hkw)
def B_law_same : SL := (.cons (.ite (.isi (.loc 0) "tuple") (.cons (.ret (.and (.isi (.loc 1) "tuple") (.and (.cmp .eq (.b1 .len (.loc 0)) (.b1 .len (.loc 1))) (.cmp .eq (.comp [2] (.rng (.b1 .len (.loc 0))) true (.not (.call false 0 (.cons (.idx (.loc 0) (.loc 2)) (.cons (.idx (.loc 1) (.loc 2)) .nil)) [])) (.loc 2)) (.lst .nil))))) .nil) .nil) (.cons (.ite (.or (.isi (.loc 0) "bool") (.isi (.loc 1) "bool")) (.cons (.ret (.and (.isi (.loc 0) "bool") (.and (.isi (.loc 1) "bool") (.cmp .eq (.loc 0) (.loc 1))))) .nil) .nil) (.cons (.ret (.and (.cmp .eq (.isi (.loc 0) "int") (.isi (.loc 1) "int")) (.and (.cmp .eq (.isi (.loc 0) "str") (.isi (.loc 1) "str")) (.cmp .eq (.loc 0) (.loc 1))))) .nil)))
def T_law_same : Tab := ⟨[("_law_same", false, ["one", "other"], [])], [], ["isinstance", "tuple", "len", "range", "bool", "int", "str"], []⟩
def Fr_law_same : Nat → Fn
  | 0 => fun _ => lift none
  | n + 1 => runD ⟨[Fr_law_same n], []⟩ false 3 B_law_same
def C_law_same (n : Nat) : RX.Ctx := ⟨[Fr_law_same n], []⟩
theorem Fr_law_same_succ (n : Nat) : Fr_law_same (n + 1) = runD (C_law_same n) false 3 B_law_same := rfl
def F_law_same : Fn := Fr_law_same 5
theorem m_law_same : mtSL T_law_same false ["one", "other", "k"] (defScope (top 29)) B_law_same (defBody (top 29)) = true := by decide +kernel
theorem fr_law_same (hf : HF md K mg) : ∀ n, FnFactG PWd.P PWd.w K mg base (n + 0) "_law_same" false ["one", "other"] [] (Fr_law_same n)
  | 0 => (hf.fn0 (pl := false) (ps := ["one", "other"]) (ks := []) 16 rfl (fun _ _ _ _ _ _ us hl => match us, hl with | [_, _], _ => rfl) (fun _ _ _ _ _ _ kw hkw => nomatch hkw)).mono (by omega)
  | n + 1 => by
    have z := hf.fn (base := base) (P := PWd.P) (w := PWd.w) (pl := false) (ps := ["one", "other"]) (ks := []) 16 rfl (k := n + 0) (N := ["one", "other", "k"]) (C := C_law_same n) (T := T_law_same) (by decide +kernel) m_law_same (hf.glob (.cons (fr_law_same hf n) (Nat.le_refl _) .nil) .nil (by decide +kernel) (by decide +kernel)) (fun _ _ _ _ _ _ us hl => match us, hl with | [_, _], _ => rfl) (fun _ _ _ _ _ _ kw hkw => nomatch hkw)
    rw [Fr_law_same_succ, show n + 1 + 0 = n + 0 + 1 by omega]
    exact z
theorem f_law_same (hf : HF md K mg) : FnFactG PWd.P PWd.w K mg base 6 "_law_same" false ["one", "other"] [] F_law_same := (fr_law_same hf 5).mono (by decide)
def B_law_put : SL := (.cons (.ret (.bin .add (.bin .add (.slc false true (.loc 0) (.cst .none) (.loc 1)) (.tup (.cons (.loc 2) .nil))) (.slc true false (.loc 0) (.bin .add (.loc 1) (.cst (.int 1))) (.cst .none)))) .nil)
def T_law_put : Tab := ⟨[], [], [], []⟩
def C_law_put : RX.Ctx := ⟨[], []⟩
def F_law_put : Fn := runD C_law_put false 3 B_law_put
theorem m_law_put : mtSL T_law_put false ["some", "at", "each"] (defScope (top 30)) B_law_put (defBody (top 30)) = true := by decide +kernel
theorem f_law_put (hf : HF md K mg) : FnFactG PWd.P PWd.w K mg base 1 "_law_put" false ["some", "at", "each"] [] F_law_put :=
  hf.fn 17 rfl (k := 0) (N := ["some", "at", "each"]) (C := C_law_put) (T := T_law_put) (by decide +kernel) m_law_put (hf.glob .nil .nil (by decide +kernel) (by decide +kernel))
    (fun _ _ _ _ _ _ us hl => match us, hl with | [_, _, _], _ => rfl) (fun _ _ _ _ _ _ kw hkw => nomatch hkw)
def B_law_tells : SL := (.cons (.ret (.ite (.loc 1) (.cmp .is (.loc 0) (.cst (.bool true))) (.cmp .is (.loc 0) (.cst (.bool false))))) .nil)
def T_law_tells : Tab := ⟨[], [], [], []⟩
def C_law_tells : RX.Ctx := ⟨[], []⟩
def F_law_tells : Fn := runD C_law_tells false 2 B_law_tells
theorem m_law_tells : mtSL T_law_tells false ["told", "due"] (defScope (top 31)) B_law_tells (defBody (top 31)) = true := by decide +kernel
theorem f_law_tells (hf : HF md K mg) : FnFactG PWd.P PWd.w K mg base 1 "_law_tells" false ["told", "due"] [] F_law_tells :=
  hf.fn 18 rfl (k := 0) (N := ["told", "due"]) (C := C_law_tells) (T := T_law_tells) (by decide +kernel) m_law_tells (hf.glob .nil .nil (by decide +kernel) (by decide +kernel))
    (fun _ _ _ _ _ _ us hl => match us, hl with | [_, _], _ => rfl) (fun _ _ _ _ _ _ kw hkw => nomatch hkw)
def B_law_name : SL := (.cons (.asg false 2 (.lst (.cons (.cst (.str "outcomes")) (.cons (.cst (.str "to")) (.cons (.cst (.str "put")) (.cons (.cst (.str "drop")) (.cons (.cst (.str "mix")) (.cons (.cst (.str "undo")) (.cons (.cst (.str "done")) (.cons (.cst (.str "lot")) (.cons (.cst (.str "gap")) (.cons (.cst (.str "apart")) (.cons (.cst (.str "below")) (.cons (.cst (.str "yes")) (.cons (.cst (.str "no")) (.cons (.cst (.str "names")) (.cons (.cst (.str "none")) (.cons (.cst (.str "mean")) .nil)))))))))))))))))) (.cons (.asg false 3 (.ite (.cmp .eq (.call true 0 (.cons (.cst (.int 5)) .nil) []) (.cst (.int 0))) (.call true 1 (.cons (.loc 2) .nil) []) (.cst (.str "")))) (.cons (.for [4] (.rng (.ite (.cmp .eq (.loc 3) (.cst (.str ""))) (.call true 1 (.cons (.lst (.cons (.cst (.int 1)) (.cons (.cst (.int 1)) (.cons (.cst (.int 2)) (.cons (.cst (.int 3)) (.cons (.cst (.int 8)) .nil)))))) .nil) []) (.cst (.int 0)))) (.cons (.asg false 3 (.bin .add (.loc 3) (.idx (.cst (.str "abcdefghijklmnopqrstuvwxyz")) (.call true 0 (.cons (.cst (.int 26)) .nil) [])))) .nil)) (.cons (.ret (.ite (.cmp .notin (.loc 3) (.loc 1)) (.loc 3) (.idx (.comp [5] (.seq (.cst (.str "abcdefghijklmnopqrstuvwxyz"))) true (.cmp .notin (.bin .add (.loc 5) (.cst (.str "x"))) (.loc 1)) (.bin .add (.loc 5) (.cst (.str "x")))) (.cst (.int 0))))) .nil))))
def T_law_name : Tab := ⟨[("_law_draw", true, ["pool", "many"], []), ("_law_pick", true, ["pool", "some"], [])], [], ["range"], []⟩
def C_law_name : RX.Ctx := ⟨[F_law_draw, F_law_pick], []⟩
def F_law_name : Fn := runD C_law_name true 6 B_law_name
theorem m_law_name : mtSL T_law_name true ["pool", "names", "some", "found", "lap", "each"] (defScope (top 32)) B_law_name (defBody (top 32)) = true := by decide +kernel
theorem f_law_name (hf : HF md K mg) : FnFactG PWd.P PWd.w K mg base 3 "_law_name" true ["pool", "names"] [] F_law_name :=
  hf.fn 19 rfl (k := 2) (N := ["pool", "names", "some", "found", "lap", "each"]) (C := C_law_name) (T := T_law_name) (by decide +kernel) m_law_name (hf.glob (.cons (f_law_draw hf) (by decide) (.cons (f_law_pick hf) (by decide) .nil)) .nil (by decide +kernel) (by decide +kernel))
    (fun _ _ _ _ _ _ us hl => match us, hl with | [_, _], _ => rfl) (fun _ _ _ _ _ _ kw hkw => nomatch hkw)
def B_law_outcomes : SL := (.cons (.new 2 (.lst .nil)) (.cons (.for [3] (.rng (.loc 1)) (.cons (.app true 2 (.call true 0 (.cons (.loc 2) .nil) [])) .nil)) (.cons (.ret (.b1 .tuple (.b1 .sortedD (.loc 2)))) .nil)))
def T_law_outcomes : Tab := ⟨[("_law_name", true, ["pool", "names"], [])], [], ["range", "tuple", "sorted"], []⟩
def C_law_outcomes : RX.Ctx := ⟨[F_law_name], []⟩
def F_law_outcomes : Fn := runD C_law_outcomes true 4 B_law_outcomes
theorem m_law_outcomes : mtSL T_law_outcomes true ["pool", "many", "found", "lap"] (defScope (top 33)) B_law_outcomes (defBody (top 33)) = true := by decide +kernel
theorem f_law_outcomes (hf : HF md K mg) : FnFactG PWd.P PWd.w K mg base 4 "_law_outcomes" true ["pool", "many"] [] F_law_outcomes :=
  hf.fn 20 rfl (k := 3) (N := ["pool", "many", "found", "lap"]) (C := C_law_outcomes) (T := T_law_outcomes) (by decide +kernel) m_law_outcomes (hf.glob (.cons (f_law_name hf) (by decide) .nil) .nil (by decide +kernel) (by decide +kernel))
    (fun _ _ _ _ _ _ us hl => match us, hl with | [_, _], _ => rfl) (fun _ _ _ _ _ _ kw hkw => nomatch hkw)
def B_law_ground : SL := (.cons (.par false [4, 5] (.cons (.call true 0 (.cons (.loc 1) .nil) []) (.cons (.lst .nil) .nil))) (.cons (.for [3] (.seq (.loc 4)) (.cons (.asg false 5 (.bin .add (.loc 5) (.comp [6] (.seq (.loc 4)) true (.cmp .lt (.call true 1 (.cons (.cst (.int 4)) .nil) []) (.loc 2)) (.tup (.cons (.loc 3) (.cons (.loc 6) .nil)))))) .nil)) (.cons (.ret (.tup (.cons (.loc 4) (.cons (.b1 .tuple (.loc 5)) .nil)))) .nil)))
def T_law_ground : Tab := ⟨[("_law_outcomes", true, ["pool", "many"], []), ("_law_draw", true, ["pool", "many"], [])], [], ["tuple"], []⟩
def C_law_ground : RX.Ctx := ⟨[F_law_outcomes, F_law_draw], []⟩
def F_law_ground : Fn := runD C_law_ground true 7 B_law_ground
theorem m_law_ground : mtSL T_law_ground true ["pool", "many", "share", "one", "outcomes", "pairs", "other"] (defScope (top 34)) B_law_ground (defBody (top 34)) = true := by decide +kernel
theorem f_law_ground (hf : HF md K mg) : FnFactG PWd.P PWd.w K mg base 5 "_law_ground" true ["pool", "many", "share"] [] F_law_ground :=
  hf.fn 21 rfl (k := 4) (N := ["pool", "many", "share", "one", "outcomes", "pairs", "other"]) (C := C_law_ground) (T := T_law_ground) (by decide +kernel) m_law_ground (hf.glob (.cons (f_law_outcomes hf) (by decide) (.cons (f_law_draw hf) (by decide) .nil)) .nil (by decide +kernel) (by decide +kernel))
    (fun _ _ _ _ _ _ us hl => match us, hl with | [_, _, _], _ => rfl) (fun _ _ _ _ _ _ kw hkw => nomatch hkw)
def B_law_closed : SL := (.cons (.par false [2, 3] (.cons (.idx (.loc 0) (.cst (.int 0))) (.cons (.lst .nil) .nil))) (.cons (.for [1] (.seq (.loc 2)) (.cons (.asgT false [4, 5] (.tup (.cons (.lst (.cons (.loc 1) .nil)) (.cons (.cst (.int 0)) .nil)))) (.cons (.whl 18446744073709551616 (.cmp .lt (.loc 5) (.b1 .len (.loc 4))) (.cons (.asg false 4 (.bin .add (.loc 4) (.comp [7, 6] (.seq (.idx (.loc 0) (.cst (.int 1)))) true (.and (.cmp .eq (.loc 7) (.idx (.loc 4) (.loc 5))) (.cmp .notin (.loc 6) (.loc 4))) (.loc 6)))) (.cons (.asg false 5 (.bin .add (.loc 5) (.cst (.int 1)))) .nil))) (.cons (.asg false 3 (.bin .add (.loc 3) (.comp [6] (.seq (.loc 2)) true (.cmp .isin (.loc 6) (.loc 4)) (.tup (.cons (.loc 1) (.cons (.loc 6) .nil)))))) .nil)))) (.cons (.ret (.tup (.cons (.loc 2) (.cons (.b1 .tuple (.loc 3)) .nil)))) .nil)))
def T_law_closed : Tab := ⟨[], [], ["len", "tuple"], []⟩
def C_law_closed : RX.Ctx := ⟨[], []⟩
def F_law_closed : Fn := runD C_law_closed false 8 B_law_closed
theorem m_law_closed : mtSL T_law_closed false ["ground", "one", "outcomes", "found", "met", "at", "other", "start"] (defScope (top 35)) B_law_closed (defBody (top 35)) = true := by decide +kernel
theorem f_law_closed (hf : HF md K mg) : FnFactG PWd.P PWd.w K mg base 1 "_law_closed" false ["ground"] [] F_law_closed :=
  hf.fn 22 rfl (k := 0) (N := ["ground", "one", "outcomes", "found", "met", "at", "other", "start"]) (C := C_law_closed) (T := T_law_closed) (by decide +kernel) m_law_closed (hf.glob .nil .nil (by decide +kernel) (by decide +kernel))
    (fun _ _ _ _ _ _ us hl => match us, hl with | [_], _ => rfl) (fun _ _ _ _ _ _ kw hkw => nomatch hkw)
def B_law_not_name : SL := (.cons (.ret (.call true 0 (.cons (.lst (.cons (.cst (.str "")) (.cons (.cst (.str "Ann")) (.cons (.cst (.str "abcdefghi")) (.cons (.cst (.str "a b")) (.cons (.cst (.str "a1")) (.cons (.cst (.str " a")) (.cons (.cst (.str "a ")) (.cons (.cst (.str "a-b")) (.cons (.cst (.str "b
")) (.cons (.cst (.int 1)) (.cons (.cst .none) (.cons (.cst (.bool true)) (.cons (.tup (.cons (.cst (.str "a")) .nil)) (.cons (.lst (.cons (.cst (.str "a")) .nil)) (.cons (.tup .nil) (.cons (.cst (.str "a_b")) (.cons (.cst (.str "annA")) .nil)))))))))))))))))) .nil) [])) .nil)
def T_law_not_name : Tab := ⟨[("_law_pick", true, ["pool", "some"], [])], [], [], []⟩
def C_law_not_name : RX.Ctx := ⟨[F_law_pick], []⟩
def F_law_not_name : Fn := runD C_law_not_name true 1 B_law_not_name
theorem m_law_not_name : mtSL T_law_not_name true ["pool"] (defScope (top 36)) B_law_not_name (defBody (top 36)) = true := by decide +kernel
theorem f_law_not_name (hf : HF md K mg) : FnFactG PWd.P PWd.w K mg base 3 "_law_not_name" true ["pool"] [] F_law_not_name :=
  hf.fn 23 rfl (k := 2) (N := ["pool"]) (C := C_law_not_name) (T := T_law_not_name) (by decide +kernel) m_law_not_name (hf.glob (.cons (f_law_pick hf) (by decide) .nil) .nil (by decide +kernel) (by decide +kernel))
    (fun _ _ _ _ _ _ us hl => match us, hl with | [_], _ => rfl) (fun _ _ _ _ _ _ kw hkw => nomatch hkw)
def B_law_not_outcome : SL := (.cons (.asg false 2 (.call true 0 (.cons (.b1 .list (.loc 1)) .nil) [])) (.cons (.ret (.call true 1 (.cons (.lst (.cons (.loc 2) (.cons (.loc 2) (.cons (.bin .add (.idx (.loc 1) (.cst (.int 0))) (.cst (.str "xxxxxxxx"))) (.cons (.m0 "upper" (.idx (.loc 1) (.cst (.int 0)))) (.cons (.tup (.cons (.idx (.loc 1) (.cst (.int 0))) .nil)) (.cons (.cst .none) (.cons (.cst (.int 0)) (.cons (.cst (.bool true)) (.cons (.cst (.str "")) (.cons (.lst (.cons (.idx (.loc 1) (.cst (.int 0))) .nil)) (.cons (.loc 1) .nil)))))))))))) .nil) [])) .nil))
def T_law_not_outcome : Tab := ⟨[("_law_name", true, ["pool", "names"], []), ("_law_pick", true, ["pool", "some"], [])], [], ["list"], []⟩
def C_law_not_outcome : RX.Ctx := ⟨[F_law_name, F_law_pick], []⟩
def F_law_not_outcome : Fn := runD C_law_not_outcome true 3 B_law_not_outcome
theorem m_law_not_outcome : mtSL T_law_not_outcome true ["pool", "outcomes", "new"] (defScope (top 37)) B_law_not_outcome (defBody (top 37)) = true := by decide +kernel
theorem f_law_not_outcome (hf : HF md K mg) : FnFactG PWd.P PWd.w K mg base 4 "_law_not_outcome" true ["pool", "outcomes"] [] F_law_not_outcome :=
  hf.fn 24 rfl (k := 3) (N := ["pool", "outcomes", "new"]) (C := C_law_not_outcome) (T := T_law_not_outcome) (by decide +kernel) m_law_not_outcome (hf.glob (.cons (f_law_name hf) (by decide) (.cons (f_law_pick hf) (by decide) .nil)) .nil (by decide +kernel) (by decide +kernel))
    (fun _ _ _ _ _ _ us hl => match us, hl with | [_, _], _ => rfl) (fun _ _ _ _ _ _ kw hkw => nomatch hkw)
def B_law_not_outcomes : SL := (.cons (.par false [2, 3] (.cons (.call true 0 (.cons (.cst (.int 5)) .nil) []) (.cons (.call true 0 (.cons (.b1 .len (.loc 1)) .nil) []) .nil))) (.cons (.ite (.cmp .eq (.loc 2) (.cst (.int 0))) (.cons (.ret (.b1 .tuple (.comp [4] (.seq (.cst (.str "abcdefghijk"))) false (.cst .none) (.bin .add (.cst (.str "ab")) (.loc 4))))) .nil) .nil) (.cons (.ite (.cmp .eq (.loc 2) (.cst (.int 1))) (.cons (.ret (.bin .add (.bin .add (.slc false true (.loc 1) (.cst .none) (.loc 3)) (.tup (.cons (.idx (.loc 1) (.loc 3)) .nil))) (.slc true false (.loc 1) (.loc 3) (.cst .none)))) .nil) .nil) (.cons (.ite (.and (.cmp .eq (.loc 2) (.cst (.int 2))) (.cmp .gt (.b1 .len (.loc 1)) (.cst (.int 1)))) (.cons (.ret (.rev (.loc 1))) .nil) .nil) (.cons (.ite (.cmp .eq (.loc 2) (.cst (.int 3))) (.cons (.ret (.call false 1 (.cons (.loc 1) (.cons (.loc 3) (.cons (.call true 2 .nil []) .nil))) [])) .nil) .nil) (.cons (.ret (.call true 3 (.cons (.lst (.cons (.tup .nil) (.cons (.cst .none) (.cons (.b1 .list (.loc 1)) (.cons (.idx (.loc 1) (.cst (.int 0))) (.cons (.cst (.bool true)) (.cons .ed (.cons (.tup (.cons (.loc 1) .nil)) .nil)))))))) .nil) [])) .nil))))))
def T_law_not_outcomes : Tab := ⟨[("_law_draw", true, ["pool", "many"], []), ("_law_put", false, ["some", "at", "each"], []), ("_law_not_name", true, ["pool"], []), ("_law_pick", true, ["pool", "some"], [])], [], ["len", "tuple", "list"], []⟩
def C_law_not_outcomes : RX.Ctx := ⟨[F_law_draw, F_law_put, F_law_not_name, F_law_pick], []⟩
def F_law_not_outcomes : Fn := runD C_law_not_outcomes true 5 B_law_not_outcomes
theorem m_law_not_outcomes : mtSL T_law_not_outcomes true ["pool", "outcomes", "way", "at", "letter"] (defScope (top 38)) B_law_not_outcomes (defBody (top 38)) = true := by decide +kernel
theorem f_law_not_outcomes (hf : HF md K mg) : FnFactG PWd.P PWd.w K mg base 4 "_law_not_outcomes" true ["pool", "outcomes"] [] F_law_not_outcomes :=
  hf.fn 25 rfl (k := 3) (N := ["pool", "outcomes", "way", "at", "letter"]) (C := C_law_not_outcomes) (T := T_law_not_outcomes) (by decide +kernel) m_law_not_outcomes (hf.glob (.cons (f_law_draw hf) (by decide) (.cons (f_law_put hf) (by decide) (.cons (f_law_not_name hf) (by decide) (.cons (f_law_pick hf) (by decide) .nil)))) .nil (by decide +kernel) (by decide +kernel))
    (fun _ _ _ _ _ _ us hl => match us, hl with | [_, _], _ => rfl) (fun _ _ _ _ _ _ kw hkw => nomatch hkw)
def B_law_not_ground : SL := (.cons (.asgT false [2, 3] (.loc 1)) (.cons (.par false [4, 5] (.cons (.call true 0 (.cons (.cst (.int 8)) .nil) []) (.cons (.call true 0 (.cons (.b1 .len (.loc 3)) .nil) []) .nil))) (.cons (.asgT false [6, 7] (.idx (.loc 3) (.loc 5))) (.cons (.ite (.cmp .lt (.loc 4) (.cst (.int 2))) (.cons (.asg false 8 (.call true 1 (.cons (.loc 2) .nil) [])) (.cons (.ret (.tup (.cons (.loc 2) (.cons (.call false 2 (.cons (.loc 3) (.cons (.loc 5) (.cons (.ite (.cmp .eq (.loc 4) (.cst (.int 0))) (.tup (.cons (.loc 6) (.cons (.loc 8) .nil))) (.tup (.cons (.loc 8) (.cons (.loc 7) .nil)))) .nil))) []) .nil)))) .nil)) .nil) (.cons (.ite (.cmp .eq (.loc 4) (.cst (.int 2))) (.cons (.ret (.tup (.cons (.loc 2) (.cons (.call false 2 (.cons (.loc 3) (.cons (.loc 5) (.cons (.call true 3 (.cons (.lst (.cons (.cst .none) (.cons (.tup (.cons (.loc 6) .nil)) (.cons (.tup (.cons (.loc 6) (.cons (.loc 7) (.cons (.loc 6) .nil)))) (.cons (.lst (.cons (.loc 6) (.cons (.loc 7) .nil))) (.cons (.bin .add (.loc 6) (.loc 7)) (.cons (.tup .nil) (.cons (.cst (.bool true)) .nil)))))))) .nil) []) .nil))) []) .nil)))) .nil) .nil) (.cons (.ite (.cmp .eq (.loc 4) (.cst (.int 3))) (.cons (.ret (.tup (.cons (.call true 4 (.cons (.loc 2) .nil) []) (.cons (.loc 3) .nil)))) .nil) .nil) (.cons (.ite (.cmp .eq (.loc 4) (.cst (.int 4))) (.cons (.ret (.tup (.cons (.loc 2) (.cons (.bin .add (.bin .add (.slc false true (.loc 3) (.cst .none) (.loc 5)) (.tup (.cons (.idx (.loc 3) (.loc 5)) .nil))) (.slc true false (.loc 3) (.loc 5) (.cst .none))) .nil)))) .nil) .nil) (.cons (.ite (.and (.cmp .eq (.loc 4) (.cst (.int 5))) (.cmp .gt (.b1 .len (.loc 3)) (.cst (.int 1)))) (.cons (.ret (.tup (.cons (.loc 2) (.cons (.rev (.loc 3)) .nil)))) .nil) .nil) (.cons (.ret (.call true 3 (.cons (.lst (.cons (.cst .none) (.cons (.tup .nil) (.cons (.b1 .list (.loc 1)) (.cons (.tup (.cons (.loc 2) .nil)) (.cons (.bin .add (.loc 1) (.tup (.cons (.tup .nil) .nil))) (.cons (.tup (.cons (.loc 2) (.cons (.b1 .list (.loc 3)) .nil))) (.cons (.tup (.cons (.loc 3) (.cons (.loc 2) .nil))) (.cons (.loc 2) (.cons (.tup (.cons (.loc 2) (.cons (.cst .none) .nil))) (.cons (.cst (.str "ground")) (.cons (.cst (.int 0)) (.cons (.cst (.bool true)) (.cons (.tup (.cons (.loc 2) (.cons (.idx (.loc 3) (.cst (.int 0))) .nil))) .nil)))))))))))))) .nil) [])) .nil)))))))))
def T_law_not_ground : Tab := ⟨[("_law_draw", true, ["pool", "many"], []), ("_law_not_outcome", true, ["pool", "outcomes"], []), ("_law_put", false, ["some", "at", "each"], []), ("_law_pick", true, ["pool", "some"], []), ("_law_not_outcomes", true, ["pool", "outcomes"], [])], [], ["len", "list"], []⟩
def C_law_not_ground : RX.Ctx := ⟨[F_law_draw, F_law_not_outcome, F_law_put, F_law_pick, F_law_not_outcomes], []⟩
def F_law_not_ground : Fn := runD C_law_not_ground true 9 B_law_not_ground
theorem m_law_not_ground : mtSL T_law_not_ground true ["pool", "ground", "outcomes", "pairs", "way", "at", "one", "other", "odd"] (defScope (top 39)) B_law_not_ground (defBody (top 39)) = true := by decide +kernel
theorem f_law_not_ground (hf : HF md K mg) : FnFactG PWd.P PWd.w K mg base 5 "_law_not_ground" true ["pool", "ground"] [] F_law_not_ground :=
  hf.fn 26 rfl (k := 4) (N := ["pool", "ground", "outcomes", "pairs", "way", "at", "one", "other", "odd"]) (C := C_law_not_ground) (T := T_law_not_ground) (by decide +kernel) m_law_not_ground (hf.glob (.cons (f_law_draw hf) (by decide) (.cons (f_law_not_outcome hf) (by decide) (.cons (f_law_put hf) (by decide) (.cons (f_law_pick hf) (by decide) (.cons (f_law_not_outcomes hf) (by decide) .nil))))) .nil (by decide +kernel) (by decide +kernel))
    (fun _ _ _ _ _ _ us hl => match us, hl with | [_, _], _ => rfl) (fun _ _ _ _ _ _ kw hkw => nomatch hkw)
def B_law_is_name : SL := (.cons (.ret (.and (.isi (.loc 0) "str") (.and (.chain .lt .lt (.cst (.int 0)) (.b1 .len (.loc 0)) (.cst (.int 9))) (.cmp .eq (.comp [1] (.seq (.loc 0)) true (.cmp .notin (.loc 1) (.cst (.str "abcdefghijklmnopqrstuvwxyz"))) (.loc 1)) (.lst .nil))))) .nil)
def T_law_is_name : Tab := ⟨[], [], ["isinstance", "str", "len"], []⟩
def C_law_is_name : RX.Ctx := ⟨[], []⟩
def F_law_is_name : Fn := runD C_law_is_name false 2 B_law_is_name
theorem m_law_is_name : mtSL T_law_is_name false ["told", "sign"] (defScope (top 40)) B_law_is_name (defBody (top 40)) = true := by decide +kernel
theorem f_law_is_name (hf : HF md K mg) : FnFactG PWd.P PWd.w K mg base 1 "_law_is_name" false ["told"] [] F_law_is_name :=
  hf.fn 27 rfl (k := 0) (N := ["told", "sign"]) (C := C_law_is_name) (T := T_law_is_name) (by decide +kernel) m_law_is_name (hf.glob .nil .nil (by decide +kernel) (by decide +kernel))
    (fun _ _ _ _ _ _ us hl => match us, hl with | [_], _ => rfl) (fun _ _ _ _ _ _ kw hkw => nomatch hkw)
def B_law_is_ground : SL := (.cons (.ite (.or (.not (.isi (.loc 0) "tuple")) (.or (.cmp .ne (.b1 .len (.loc 0)) (.cst (.int 2))) (.or (.not (.isi (.idx (.loc 0) (.cst (.int 0))) "tuple")) (.not (.isi (.idx (.loc 0) (.cst (.int 1))) "tuple"))))) (.cons (.ret (.cst (.bool false))) .nil) .nil) (.cons (.asgT false [2, 3] (.loc 0)) (.cons (.ite (.or (.not (.chain .lt .lt (.cst (.int 0)) (.b1 .len (.loc 2)) (.cst (.int 11)))) (.cmp .ne (.comp [5] (.seq (.loc 2)) true (.not (.call false 0 (.cons (.loc 5) .nil) [])) (.loc 5)) (.lst .nil))) (.cons (.ret (.cst (.bool false))) .nil) .nil) (.cons (.ite (.cmp .ne (.comp [4] (.rng (.bin .sub (.b1 .len (.loc 2)) (.cst (.int 1)))) true (.cmp .ge (.idx (.loc 2) (.loc 4)) (.idx (.loc 2) (.bin .add (.loc 4) (.cst (.int 1))))) (.loc 4)) (.lst .nil)) (.cons (.ret (.cst (.bool false))) .nil) .nil) (.cons (.for [1] (.seq (.loc 3)) (.cons (.ite (.or (.not (.isi (.loc 1) "tuple")) (.or (.cmp .ne (.b1 .len (.loc 1)) (.cst (.int 2))) (.or (.not (.call false 0 (.cons (.idx (.loc 1) (.cst (.int 0))) .nil) [])) (.or (.not (.call false 0 (.cons (.idx (.loc 1) (.cst (.int 1))) .nil) [])) (.or (.cmp .notin (.idx (.loc 1) (.cst (.int 0))) (.loc 2)) (.cmp .notin (.idx (.loc 1) (.cst (.int 1))) (.loc 2))))))) (.cons (.ret (.cst (.bool false))) .nil) .nil) .nil)) (.cons (.ret (.cmp .eq (.comp [4] (.rng (.bin .sub (.b1 .len (.loc 3)) (.cst (.int 1)))) true (.cmp .ge (.idx (.loc 3) (.loc 4)) (.idx (.loc 3) (.bin .add (.loc 4) (.cst (.int 1))))) (.loc 4)) (.lst .nil))) .nil))))))
def T_law_is_ground : Tab := ⟨[("_law_is_name", false, ["told"], [])], [], ["isinstance", "tuple", "len", "range"], []⟩
def C_law_is_ground : RX.Ctx := ⟨[F_law_is_name], []⟩
def F_law_is_ground : Fn := runD C_law_is_ground false 6 B_law_is_ground
theorem m_law_is_ground : mtSL T_law_is_ground false ["told", "pair", "outcomes", "pairs", "k", "one"] (defScope (top 41)) B_law_is_ground (defBody (top 41)) = true := by decide +kernel
theorem f_law_is_ground (hf : HF md K mg) : FnFactG PWd.P PWd.w K mg base 2 "_law_is_ground" false ["told"] [] F_law_is_ground :=
  hf.fn 28 rfl (k := 1) (N := ["told", "pair", "outcomes", "pairs", "k", "one"]) (C := C_law_is_ground) (T := T_law_is_ground) (by decide +kernel) m_law_is_ground (hf.glob (.cons (f_law_is_name hf) (by decide) .nil) .nil (by decide +kernel) (by decide +kernel))
    (fun _ _ _ _ _ _ us hl => match us, hl with | [_], _ => rfl) (fun _ _ _ _ _ _ kw hkw => nomatch hkw)
def B_law_near : SL := (.cons (.asgT false [2, 3] (.loc 1)) (.cons (.asgT false [4, 5] (.tup (.cons (.call true 0 (.cons (.cst (.int 7)) .nil) []) (.cons (.call true 0 (.cons (.b1 .len (.loc 2)) .nil) []) .nil)))) (.cons (.ite (.cmp .eq (.loc 4) (.cst (.int 0))) (.cons (.ret (.tup (.cons (.bin .add (.slc false true (.loc 2) (.cst .none) (.loc 5)) (.slc true false (.loc 2) (.bin .add (.loc 5) (.cst (.int 1))) (.cst .none))) (.cons (.loc 3) .nil)))) .nil) .nil) (.cons (.ite (.cmp .eq (.loc 4) (.cst (.int 1))) (.cons (.ret (.tup (.cons (.loc 2) (.cons (.b1 .tuple (.comp [7] (.seq (.loc 3)) true (.cmp .notin (.idx (.loc 2) (.loc 5)) (.loc 7)) (.loc 7))) .nil)))) .nil) .nil) (.cons (.ite (.cmp .eq (.loc 4) (.cst (.int 2))) (.cons (.ret (.tup (.cons (.loc 2) (.cons (.b1 .tuple (.comp [8, 9] (.seq (.loc 3)) false (.cst .none) (.tup (.cons (.loc 9) (.cons (.loc 8) .nil))))) .nil)))) .nil) .nil) (.cons (.ite (.cmp .eq (.loc 4) (.cst (.int 3))) (.cons (.ret (.tup (.cons (.b1 .tuple (.b1 .sortedD (.bin .add (.b1 .list (.loc 2)) (.lst (.cons (.cst (.str "zzzzzzzz")) .nil))))) (.cons (.loc 3) .nil)))) .nil) .nil) (.cons (.ite (.and (.cmp .eq (.loc 4) (.cst (.int 4))) (.cmp .ne (.loc 3) (.tup .nil))) (.cons (.asg false 6 (.call true 0 (.cons (.b1 .len (.loc 3)) .nil) [])) (.cons (.ret (.tup (.cons (.loc 2) (.cons (.bin .add (.slc false true (.loc 3) (.cst .none) (.loc 6)) (.slc true false (.loc 3) (.bin .add (.loc 6) (.cst (.int 1))) (.cst .none))) .nil)))) .nil)) .nil) (.cons (.ret (.tup (.cons (.loc 2) (.cons (.b1 .tuple (.b1 .sortedD (.bin .add (.b1 .list (.loc 3)) (.lst (.cons (.tup (.cons (.idx (.loc 2) (.loc 5)) (.cons (.idx (.loc 2) (.cst (.int 0))) .nil))) .nil))))) .nil)))) .nil))))))))
def T_law_near : Tab := ⟨[("_law_draw", true, ["pool", "many"], [])], [], ["len", "tuple", "sorted", "list"], []⟩
def C_law_near : RX.Ctx := ⟨[F_law_draw], []⟩
def F_law_near : Fn := runD C_law_near true 10 B_law_near
theorem m_law_near : mtSL T_law_near true ["pool", "ground", "outcomes", "pairs", "way", "at", "k", "pair", "one", "other"] (defScope (top 42)) B_law_near (defBody (top 42)) = true := by decide +kernel
theorem f_law_near (hf : HF md K mg) : FnFactG PWd.P PWd.w K mg base 2 "_law_near" true ["pool", "ground"] [] F_law_near :=
  hf.fn 29 rfl (k := 1) (N := ["pool", "ground", "outcomes", "pairs", "way", "at", "k", "pair", "one", "other"]) (C := C_law_near) (T := T_law_near) (by decide +kernel) m_law_near (hf.glob (.cons (f_law_draw hf) (by decide) .nil) .nil (by decide +kernel) (by decide +kernel))
    (fun _ _ _ _ _ _ us hl => match us, hl with | [_, _], _ => rfl) (fun _ _ _ _ _ _ kw hkw => nomatch hkw)
def B_law_right : SL := (.cons (.for [1] (.rng (.cst (.int 6))) (.cons (.asg false 5 (.call true 0 (.cons (.idx (.lst (.cons (.cst (.int 10)) (.cons (.cst (.int 1)) (.cons (.cst (.int 2)) (.cons (.cst (.int 3)) (.cons (.cst (.int 4)) (.cons (.cst (.int 6)) .nil))))))) (.loc 1)) (.cons (.bin .add (.cst (.int 1)) (.call true 1 (.cons (.cst (.int 4)) .nil) [])) .nil)) [])) (.cons (.asg false 6 (.tup (.cons (.b1 .tuple (.b1 .list (.idx (.loc 5) (.cst (.int 0))))) (.cons (.b1 .tuple (.b1 .list (.idx (.loc 5) (.cst (.int 1))))) .nil)))) (.cons (.ite (.or (.cmp .isnot (.call false 2 (.cons (.loc 5) .nil) []) (.cst (.bool true))) (.or (.cmp .isnot (.call false 2 (.cons (.tup (.cons (.idx (.loc 5) (.cst (.int 0))) (.cons (.tup .nil) .nil))) .nil) [0]) (.cst (.bool true))) (.not (.call false 3 (.cons (.call false 4 (.cons (.loc 5) .nil) []) (.cons (.cmp .eq (.call false 5 (.cons (.loc 5) .nil) []) (.loc 5)) .nil)) [])))) (.cons (.ret (.cst (.bool false))) .nil) .nil) (.cons (.asg false 7 (.comp [9] (.rng (.cst (.int 10))) false (.cst .none) (.call true 6 (.cons (.loc 5) .nil) []))) (.cons (.ite (.cmp .ne (.idx (.loc 5) (.cst (.int 1))) (.tup .nil)) (.cons (.asg false 7 (.bin .add (.loc 7) (.comp [9] (.rng (.cst (.int 12))) false (.cst .none) (.call true 7 (.cons (.loc 5) .nil) [])))) .nil) .nil) (.cons (.for [8] (.seq (.bin .add (.loc 7) (.lst (.cons (.idx (.loc 5) (.cst (.int 0))) (.cons (.idx (.loc 5) (.cst (.int 1))) (.cons (.cst .none) (.cons (.cst (.int 0)) (.cons (.lst .nil) (.cons .ed (.cons (.cst (.str "")) (.cons (.cst (.bool true)) (.cons (.tup .nil) (.cons (.tup (.cons (.tup .nil) (.cons (.tup .nil) .nil))) (.cons (.tup (.cons (.slc false true (.idx (.loc 5) (.cst (.int 0))) (.cst .none) (.cst (.int 1))) (.cons (.idx (.loc 5) (.cst (.int 1))) .nil))) (.cons (.bin .add (.loc 5) (.tup (.cons (.tup .nil) .nil))) .nil))))))))))))))) (.cons (.ite (.or (.not (.call false 3 (.cons (.call false 2 (.cons (.loc 8) .nil) []) (.cons (.call false 8 (.cons (.loc 8) .nil) []) .nil)) [])) (.not (.call false 3 (.cons (.call false 2 (.cons (.loc 8) .nil) [0]) (.cons (.call false 8 (.cons (.loc 8) .nil) []) .nil)) []))) (.cons (.ret (.cst (.bool false))) .nil) .nil) .nil)) (.cons (.ite (.not (.call false 9 (.cons (.loc 5) (.cons (.loc 6) .nil)) [])) (.cons (.ret (.cst (.bool false))) .nil) .nil) .nil)))))))) (.cons (.asg false 2 (.b1 .tuple (.comp [10] (.seq (.cst (.str "abcdefghijk"))) false (.cst .none) (.bin .add (.cst (.str "ab")) (.loc 10))))) (.cons (.asg false 3 (.tup .nil)) (.cons (.for [4] (.seq (.slc false true (.loc 2) (.cst .none) (.cst (.int 10)))) (.cons (.asg false 3 (.bin .add (.loc 3) (.b1 .tuple (.comp [11] (.seq (.slc false true (.loc 2) (.cst .none) (.cst (.int 10)))) false (.cst .none) (.tup (.cons (.loc 4) (.cons (.loc 11) .nil))))))) .nil)) (.cons (.ite (.or (.cmp .isnot (.call false 2 (.cons (.tup (.cons (.slc false true (.loc 2) (.cst .none) (.cst (.int 10))) (.cons (.loc 3) .nil))) .nil) []) (.cst (.bool true))) (.or (.cmp .isnot (.call false 2 (.cons (.tup (.cons (.loc 2) (.cons (.tup .nil) .nil))) .nil) []) (.cst (.bool false))) (.cmp .isnot (.call false 2 (.cons (.tup (.cons (.slc false true (.loc 2) (.cst .none) (.cst (.int 10))) (.cons (.rev (.loc 3)) .nil))) .nil) []) (.cst (.bool false))))) (.cons (.ret (.cst (.bool false))) .nil) .nil) (.cons (.ret (.and (.cmp .is (.call false 2 (.cons (.tup (.cons (.tup (.cons (.cst (.str "a")) .nil)) (.cons (.tup (.cons (.tup (.cons (.cst (.str "a")) (.cons (.cst (.str "a")) .nil))) .nil)) .nil))) .nil) []) (.cst (.bool true))) (.and (.cmp .is (.call false 2 (.cons (.tup (.cons (.tup (.cons (.cst (.str "b")) (.cons (.cst (.str "a")) .nil))) (.cons (.tup .nil) .nil))) .nil) []) (.cst (.bool false))) (.cmp .is (.call false 2 (.cons (.tup (.cons (.tup (.cons (.cst (.str "a")) (.cons (.cst (.str "a")) .nil))) (.cons (.tup .nil) .nil))) .nil) []) (.cst (.bool false)))))) .nil))))))
def T_law_right : Tab := ⟨[("_law_ground", true, ["pool", "many", "share"], []), ("_law_draw", true, ["pool", "many"], []), ("is_ground", false, ["value"], [[0]]), ("_law_tells", false, ["told", "due"], []), ("is_ordered", false, ["ground"], []), ("_law_closed", false, ["ground"], []), ("_law_near", true, ["pool", "ground"], []), ("_law_not_ground", true, ["pool", "ground"], []), ("_law_is_ground", false, ["told"], []), ("_law_same", false, ["one", "other"], [])], [], ["range", "tuple", "list"], []⟩
def C_law_right : RX.Ctx := ⟨[F_law_ground, F_law_draw, F_is_ground, F_law_tells, F_is_ordered, F_law_closed, F_law_near, F_law_not_ground, F_law_is_ground, F_law_same], []⟩
def F_law_right : Fn := runD C_law_right true 12 B_law_right
theorem m_law_right : mtSL T_law_right true ["pool", "lap", "letters", "everything", "one", "ground", "held", "some", "value", "each", "sign", "other"] (defScope (top 43)) B_law_right (defBody (top 43)) = true := by decide +kernel
theorem f_law_right (hf : HF md K mg) : FnFactG PWd.P PWd.w K mg base 7 "_law_right" true ["pool"] [] F_law_right :=
  hf.fn 30 rfl (k := 6) (N := ["pool", "lap", "letters", "everything", "one", "ground", "held", "some", "value", "each", "sign", "other"]) (C := C_law_right) (T := T_law_right) (by decide +kernel) m_law_right (hf.glob (.cons (f_law_ground hf) (by decide) (.cons (f_law_draw hf) (by decide) (.cons (f_is_ground hf) (by decide) (.cons (f_law_tells hf) (by decide) (.cons (f_is_ordered hf) (by decide) (.cons (f_law_closed hf) (by decide) (.cons (f_law_near hf) (by decide) (.cons (f_law_not_ground hf) (by decide) (.cons (f_law_is_ground hf) (by decide) (.cons (f_law_same hf) (by decide) .nil)))))))))) .nil (by decide +kernel) (by decide +kernel))
    (fun _ _ _ _ _ _ us hl => match us, hl with | [_], _ => rfl) (fun _ _ _ _ _ _ kw hkw => nomatch hkw)
end
section
variable [PWd] {K : PySem.W.Frag} {mg : Str → Option Value} {base : Heap}
def B_law_pool : SL := (.cons (.par false [3, 4] (.cons (.ite (.cmp .lt (.loc 1) (.b1 .len (.loc 0))) (.b1 .int (.idx (.loc 0) (.loc 1))) (.bin .add (.bin .mul (.cst (.int 70001)) (.loc 1)) (.cst (.int 4123)))) (.cons (.bin .add (.cst (.int 918327)) (.bin .mul (.cst (.int 5087)) (.loc 1))) .nil))) (.cons (.for [2] (.seq (.slc false true (.loc 0) (.cst .none) (.cst (.int 63)))) (.cons (.asg false 4 (.bin .mod (.b1 .int (.bin .add (.bin .add (.bin .mul (.loc 4) (.cst (.int 48271))) (.bin .mod (.b1 .int (.loc 2)) (.cst (.int 2147483587)))) (.cst (.int 727)))) (.cst (.int 2147483587)))) .nil)) .nil))
def E_law_pool : E := (.lst (.cons (.bin .mod (.b1 .int (.bin .add (.loc 4) (.bin .mul (.loc 3) (.cst (.int 1013))))) (.cst (.int 2147483587))) (.cons (.ite (.or (.cmp .lt (.loc 3) (.cst (.int 0))) (.cmp .ge (.loc 3) (.bin .pow (.cst (.int 10)) (.cst (.int 18))))) (.b1 .abs (.loc 3)) (.cst (.int 0))) (.cons (.cst (.int 0)) .nil))))
def T_law_pool : Tab := ⟨[], [], ["len", "int", "abs"], []⟩
def C_law_pool : RX.Ctx := ⟨[], []⟩
def F_law_pool : List PyData → Option W := runN C_law_pool 5 B_law_pool E_law_pool
theorem f_law_pool (hf : HF md K mg) : PoolG PWd.P PWd.w K mg base 1 "_law_pool" ["script", "lap"] F_law_pool :=
  pool_fact hf 13 (k := 0) (N := ["script", "lap", "cell", "own", "stirred"]) (C := C_law_pool) (T := T_law_pool) (params := defArgs (top 26)) (body0 := (defBody (top 26)).take 2) (pe := retE ((defBody (top 26)).getD 2 (.Pass ⟨0, 0, 0, 0⟩))) (rp := retP ((defBody (top 26)).getD 2 (.Pass ⟨0, 0, 0, 0⟩))) (scope := defScope (top 26)) rfl (by decide +kernel) (b := B_law_pool) (e := E_law_pool) (by decide +kernel) (by decide +kernel) rfl (hf.glob .nil .nil (by decide +kernel) (by decide +kernel))
    (fun _ _ _ _ _ _ us hl => match us, hl with | [_, _], _ => rfl)
def T_law : Tab := ⟨[], [], ["range", "max", "min", "len"], []⟩
def C_law : RX.Ctx := ⟨[], []⟩
def It_law : RX.It := (.rng (.b2 .max (.cst (.int 2)) (.b2 .min (.b1 .len (.loc 0)) (.cst (.int 3)))))
end
end LW

-- PL1
set_option Elab.async false
set_option linter.all false
set_option maxRecDepth 100000
set_option maxHeartbeats 1000000
set_option exponentiation.threshold 20000
/-! PL1: fractions as data; the evaluator's steps; pure comprehensions and loops. -/
namespace RX
open PySem
theorem run_bind {α β : Type} (x : M α) (f : α → M β) (w : W) : (x >>= f).run w = (x.run w).bind fun p => (f p.1).run p.2 := rfl
theorem run_pure {α : Type} (a : α) (w : W) : (pure a : M α).run w = some (a, w) := rfl
theorem run_lift {α : Type} (o : Option α) (w : W) : (RX.lift o).run w = o.map fun a => (a, w) := rfl
theorem run_const {α : Type} (d : α) (w : W) : StateT.run (m := Option) (fun w => some (d, w)) w = some (d, w) := rfl
theorem run_call {α : Type} (o : Option (α × W)) (w : W) : StateT.run (m := Option) (fun w => o.map fun r => (r.1, w)) w = o.map fun r => (r.1, w) := rfl
theorem run_ite {α : Type} {c : Prop} [Decidable c] (x y : M α) (w : W) : (if c then x else y).run w = if c then x.run w else y.run w := by
  split <;> rfl
/-- a value without a look at the pool -/
def Ev (m : M D) (d : D) : Prop := ∀ w, m.run w = some (d, w)
/-- a fraction as the program has it -/
def fq (q : Rat) : D := .tuple [.int q.num, .int (q.den : Int)]
def Sm (q : Rat) : Prop := q.num.natAbs < 2 ^ 4000 ∧ q.den < 2 ^ 4000
theorem log2_lt_pow {n k : Nat} (h : n < 2 ^ k) (hk : 0 < k) : n.log2 < k := by
  by_cases z : n = 0
  · subst z
    have : Nat.log2 0 = 0 := by decide
    omega
  · exact (Nat.log2_lt z).mpr h
theorem fq_mk (n : Int) (u : Nat) (hu : u ≠ 0) : PyData.tuple [.int (n / ((Nat.gcd n.natAbs u : Nat) : Int)), .int ((u : Int) / ((Nat.gcd n.natAbs u : Nat) : Int))] = fq (mkRat n u) := by
  unfold fq
  rw [Rat.num_mkRat, Rat.den_mkRat, if_neg hu, if_neg hu, Nat.gcd_comm u n.natAbs]
  rw [Int.natCast_ediv]
theorem mk_add (a b : Rat) : mkRat (a.num * b.den + b.num * a.den) (a.den * b.den) = a + b := by
  rw [Rat.add_def, Rat.normalize_eq_mkRat]
theorem mk_mul (a b : Rat) : mkRat (a.num * b.num) (a.den * b.den) = a * b := by
  rw [Rat.mul_def, Rat.normalize_eq_mkRat]
theorem mk_sub (a b : Rat) : mkRat (a.num * b.den - b.num * a.den) (a.den * b.den) = a - b := by
  rw [Rat.sub_def, Rat.normalize_eq_mkRat]
theorem gcd_log {n u : Nat} (hu : u ≠ 0) (h : u < 2 ^ 8000) : (Nat.gcd n u).log2 < 9000 := by
  have h1 : Nat.gcd n u ≤ u := Nat.gcd_le_right n (by omega)
  exact Nat.lt_trans (log2_lt_pow (Nat.lt_of_le_of_lt h1 h) (by decide)) (by decide)
theorem den_mul {a b : Rat} (ha : Sm a) (hb : Sm b) : a.den * b.den < 2 ^ 8000 := by
  have := Nat.mul_lt_mul'' ha.2 hb.2
  rwa [← Nat.pow_add] at this
theorem log_sum {a b : Nat} (ha : a < 2 ^ 8000) (hb : b < 2 ^ 8000) : a.log2 + b.log2 < 100000000 := by
  have := log2_lt_pow ha (by decide)
  have := log2_lt_pow hb (by decide)
  omega
theorem lt8 {n : Nat} (h : n < 2 ^ 4000) : n < 2 ^ 8000 := Nat.lt_of_lt_of_le h (Nat.pow_le_pow_right (by decide) (by decide))
theorem Sm.n {a : Rat} (h : Sm a) : a.num.natAbs < 2 ^ 8000 := lt8 h.1
theorem Sm.d {a : Rat} (h : Sm a) : ((a.den : Int)).natAbs < 2 ^ 8000 := by rw [Int.natAbs_natCast]; exact lt8 h.2
/-- comprehensions without a look at the pool -/
theorem comp_pure {f : D → M (Option D)} {g : D → Option D} {xs : List D} (h : ∀ x ∈ xs, ∀ w, (f x).run w = some (g x, w)) (w : W) : (compM f xs).run w = some (xs.filterMap g, w) := by
  induction xs with
  | nil => rfl
  | cons x r ih =>
    have h1 := h x (List.mem_cons_self ..) w
    have h2 := ih (fun y hy => h y (List.mem_cons_of_mem _ hy))
    show ((f x >>= fun o => compM f r >>= fun ys => pure (match o with | some y => y :: ys | none => ys)) : M (List D)).run w = _
    rw [run_bind, h1]
    show ((compM f r >>= fun ys => pure (match g x with | some y => y :: ys | none => ys)) : M (List D)).run w = _
    rw [run_bind, h2]
    rw [List.filterMap_cons]
    cases g x <;> rfl
theorem compMM_pure {f : D → M (List D)} {g : D → List D} {xs : List D} (h : ∀ x ∈ xs, ∀ w, (f x).run w = some (g x, w)) (w : W) : (compMM f xs).run w = some (xs.flatMap g, w) := by
  induction xs with
  | nil => rfl
  | cons x r ih =>
    have h1 := h x (List.mem_cons_self ..) w
    have h2 := ih (fun y hy => h y (List.mem_cons_of_mem _ hy))
    show ((f x >>= fun a => compMM f r >>= fun ys => pure (a ++ ys)) : M (List D)).run w = _
    rw [run_bind, h1]
    show ((compMM f r >>= fun ys => pure (g x ++ ys)) : M (List D)).run w = _
    rw [run_bind, h2]
    rfl
/-- a loop whose body goes on: the names by an invariant -/
theorem for_next {α : Type} {f : D → Env2 → M Out} (e : α → Env2) (g : α → D → α) : ∀ {xs : List D} {a : α}, (∀ a x w, x ∈ xs → (f x (e a)).run w = some (.next (e (g a x)), w)) → ∀ w, (forM f xs (e a)).run w = some (.next (e (xs.foldl g a)), w)
  | [], a, h, w => rfl
  | x :: r, a, h, w => by
    have h1 := h a x w (List.mem_cons_self ..)
    have h2 := for_next e g (xs := r) (a := g a x) (fun a y w hy => h a y w (List.mem_cons_of_mem _ hy)) w
    show ((f x (e a) >>= fun o => match o with
      | .next ρ' => forM f r ρ'
      | .cont ρ' => forM f r ρ'
      | .brk ρ' => pure (.next ρ')
      | .ret d => pure (.ret d)) : M Out).run w = _
    rw [run_bind, h1]
    exact h2
/-! ### by statements -/
section
variable {C : Ctx}
theorem SL_cons {s : S} {ss : SL} {ρ : Env2} : evSL C (.cons s ss) ρ = (evS C s ρ >>= fun o => match o with
    | .next ρ' => evSL C ss ρ'
    | .brk ρ' => pure (.brk ρ')
    | .cont ρ' => pure (.cont ρ')
    | .ret d => pure (.ret d)) := rfl
theorem SL_next {s : S} {ss : SL} {ρ ρ' : Env2} {w w' : W} (h : (evS C s ρ).run w = some (.next ρ', w')) : (evSL C (.cons s ss) ρ).run w = (evSL C ss ρ').run w' := by
  rw [SL_cons, run_bind, h]
  rfl
theorem SL_ret {s : S} {ss : SL} {ρ : Env2} {d : D} {w w' : W} (h : (evS C s ρ).run w = some (.ret d, w')) : (evSL C (.cons s ss) ρ).run w = some (.ret d, w') := by
  rw [SL_cons, run_bind, h]
  rfl
theorem SL_nil {ρ : Env2} {w : W} : (evSL C .nil ρ).run w = some (.next ρ, w) := by
  unfold evSL
  rfl
theorem D_ret {pl : Bool} {n : Nat} {b : SL} {args : List D} {d : D} {w w' : W} (h : (evSL C b (env0 pl n args)).run w = some (.ret d, w')) : (runD C pl n b args).run w = some (d, w') := by
  unfold runD
  rw [run_bind, h]
  rfl
theorem D_next {pl : Bool} {n : Nat} {b : SL} {args : List D} {ρ : Env2} {w w' : W} (h : (evSL C b (env0 pl n args)).run w = some (.next ρ, w')) : (runD C pl n b args).run w = some (.none, w') := by
  unfold runD
  rw [run_bind, h]
  rfl
theorem S_ret {e : E} {ρ : Env2} {d : D} {w w' : W} (h : (evE C e (allE ρ)).run w = some (d, w')) : (evS C (.ret e) ρ).run w = some (.ret d, w') := by
  unfold evS
  rw [run_bind, h]
  rfl
/-- a def of one return -/
theorem ret1 {pl : Bool} {n : Nat} {e : E} {args : List D} {d : D} {w w' : W} (h : (evE C e (allE (env0 pl n args))).run w = some (d, w')) : (runD C pl n (.cons (.ret e) .nil) args).run w = some (d, w') := D_ret (SL_ret (S_ret h))
theorem S_ite {c : E} {a b : SL} {ρ : Env2} {t : Bool} {w w1 : W} (h : (evE C c (allE ρ)).run w = some (.bool t, w1)) : (evS C (.ite c a b) ρ).run w = (if t then evSL C a ρ else evSL C b ρ).run w1 := by
  unfold evS evT
  rw [run_bind, run_bind, h]
  rfl
theorem S_for {tg : List Nat} {it : It} {b : SL} {ρ : Env2} {xs : List D} {o : Out} {w w1 w2 : W} (h : (evIt C it (visE ρ)).run w = some (xs, w1)) (hf : (forM (fun x ρ => do
      let ρ' ← lift (bindT2 tg x ρ)
      evSL C b ρ') xs ρ).run w1 = some (o, w2)) : (evS C (.for tg it b) ρ).run w = some (o, w2) := by
  unfold evS
  rw [run_bind, h]
  exact hf
/-- a loop whose turns all go on -/
theorem for_list {f : D → Env2 → M Out} : ∀ {xs : List D} (st : Nat → Env2), (∀ i x w, xs[i]? = some x → (f x (st i)).run w = some (.next (st (i + 1)), w)) → ∀ w, (forM f xs (st 0)).run w = some (.next (st xs.length), w)
  | [], st, h, w => rfl
  | x :: r, st, h, w => by
    have h2 := for_list (xs := r) (fun i => st (i + 1)) (fun i y w hy => h (i + 1) y w (by simpa using hy)) w
    unfold forM
    rw [run_bind, h 0 x w rfl]
    exact h2
/-- .. each turn by the pool's state -/
theorem for_listW {f : D → Env2 → M Out} : ∀ {xs : List D} (I : Nat → Env2 → W → Prop) (ρ : Env2) (w : W), I 0 ρ w → (∀ i x ρ w, xs[i]? = some x → I i ρ w → ∃ ρ' w', (f x ρ).run w = some (.next ρ', w') ∧ I (i + 1) ρ' w') →
    ∃ ρ' w', (forM f xs ρ).run w = some (.next ρ', w') ∧ I xs.length ρ' w'
  | [], I, ρ, w, h0, h => ⟨ρ, w, rfl, h0⟩
  | x :: r, I, ρ, w, h0, h => by
    obtain ⟨ρ1, w1, e1, h1⟩ := h 0 x ρ w rfl h0
    obtain ⟨ρ2, w2, e2, h2⟩ := for_listW (xs := r) (fun i => I (i + 1)) ρ1 w1 h1 fun i y ρ w hy hi => h (i + 1) y ρ w (by simpa using hy) hi
    refine ⟨ρ2, w2, ?_, h2⟩
    unfold forM
    rw [run_bind, e1]
    exact e2
theorem E_comp {tg : List Nat} {it : It} {cond elt : E} {ρ : Env} {xs : List D} {w w1 : W} (g : D → D) (h : (evIt C it ρ).run w = some (xs, w1)) (hb : ∀ x ∈ xs, ∃ ρ', bindT tg x (wipeE tg ρ) = some ρ' ∧ ∀ w, (evE C elt ρ').run w = some (g x, w)) :
    (evE C (.comp tg it false cond elt) ρ).run w = some (.list (xs.map g), w1) := by
  unfold evE
  rw [run_bind, h]
  show ((compM _ xs >>= fun ys => pure (PyData.list ys)) : M D).run w1 = _
  rw [run_bind, comp_pure (g := fun x => some (g x)) (fun x hx w => ?_)]
  · rw [show xs.filterMap (fun x => some (g x)) = xs.map g from by clear hb h; induction xs with | nil => rfl | cons x r ih => rw [List.filterMap_cons, ih]; rfl]
    rfl
  · obtain ⟨ρ', e1, e2⟩ := hb x hx
    rw [run_bind, run_lift, e1]
    show ((evE C elt ρ' >>= fun y => pure (some y)) : M (Option D)).run w = _
    rw [run_bind, e2]
    rfl
theorem E_compIf {tg : List Nat} {it : It} {cond elt : E} {ρ : Env} {xs : List D} {w w1 : W} (p : D → Bool) (g : D → D) (h : (evIt C it ρ).run w = some (xs, w1)) (hb : ∀ x ∈ xs, ∃ ρ', bindT tg x (wipeE tg ρ) = some ρ' ∧ (∀ w, (evE C cond ρ').run w = some (.bool (p x), w)) ∧ (p x = true → ∀ w, (evE C elt ρ').run w = some (g x, w))) :
    (evE C (.comp tg it true cond elt) ρ).run w = some (.list ((xs.filter p).map g), w1) := by
  unfold evE
  rw [run_bind, h]
  show ((compM _ xs >>= fun ys => pure (PyData.list ys)) : M D).run w1 = _
  rw [run_bind, comp_pure (g := fun x => if p x then some (g x) else none) (fun x hx w => ?_)]
  · have : xs.filterMap (fun x => if p x then some (g x) else none) = (xs.filter p).map g := by
      clear hb h
      induction xs with
      | nil => rfl
      | cons x r ih =>
        rw [List.filterMap_cons, List.filter_cons]
        by_cases hp : p x = true
        · simp only [hp, if_true, List.map_cons, ih]
        · simp only [hp, ih]
          rfl
    rw [this]
    rfl
  · obtain ⟨ρ', e1, e2, e3⟩ := hb x hx
    rw [run_bind, run_lift, e1]
    show ((((evE C cond ρ' >>= fun c => lift (asBool c)) : M Bool) >>= fun b => (if b then (evE C elt ρ' >>= fun y => pure (some y)) else pure none)) : M (Option D)).run w = _
    rw [run_bind, run_bind, e2]
    show (if p x then (evE C elt ρ' >>= fun y => pure (some y)) else pure none : M (Option D)).run w = _
    by_cases hp : p x = true
    · rw [if_pos hp, if_pos hp, run_bind, e3 hp]
      rfl
    · rw [if_neg hp, if_neg hp]
      rfl
/-- comprehensions that draw: what holds of each -/
theorem compM_all {f : D → M (Option D)} {P : D → Prop} : ∀ {xs : List D} (w : W), (∀ x ∈ xs, ∀ w, w.length = 3 → ∃ y w', (f x).run w = some (some y, w') ∧ w'.length = 3 ∧ P y) → w.length = 3 → ∃ ys w', (compM f xs).run w = some (ys, w') ∧ w'.length = 3 ∧ ys.length = xs.length ∧ ∀ y ∈ ys, P y
  | [], w, h, hw => ⟨[], w, rfl, hw, rfl, fun y hy => nomatch hy⟩
  | x :: r, w, h, hw => by
    obtain ⟨y, w1, e1, h1, p1⟩ := h x (List.mem_cons_self ..) w hw
    obtain ⟨ys, w2, e2, h2, l2, p2⟩ := compM_all (xs := r) w1 (fun z hz => h z (List.mem_cons_of_mem _ hz)) h1
    refine ⟨y :: ys, w2, ?_, h2, by simp [l2], fun z hz => ?_⟩
    · unfold compM
      rw [run_bind, e1]
      show ((compM f r >>= fun ys => pure (y :: ys)) : M (List D)).run w1 = _
      rw [run_bind, e2]
      rfl
    · rcases List.mem_cons.mp hz with rfl | hz
      · exact p1
      · exact p2 z hz
/-- .. of a list of a known form -/
theorem compM_map {α : Type} {F : D → M (Option D)} {f : α → D} {h : α → Option D} : ∀ {l : List α} (w : W), (∀ a ∈ l, ∀ w, (F (f a)).run w = some (h a, w)) → (compM F (l.map f)).run w = some (l.filterMap h, w)
  | [], w, _ => rfl
  | a :: r, w, hh => by
    have ih := compM_map (l := r) w (fun b hb => hh b (List.mem_cons_of_mem _ hb))
    rw [List.map_cons]
    show ((F (f a) >>= fun o => compM F (r.map f) >>= fun ys => pure (match o with | some y => y :: ys | none => ys)) : M (List D)).run w = _
    rw [run_bind, hh a (List.mem_cons_self ..) w]
    show ((compM F (r.map f) >>= fun ys => pure (match h a with | some y => y :: ys | none => ys)) : M (List D)).run w = _
    rw [run_bind, ih, List.filterMap_cons]
    cases h a <;> rfl
theorem E_compM {α : Type} {tg : List Nat} {it : It} {cond elt : E} {ρ : Env} {l : List α} {f : α → D} (h : α → D) {w w1 : W} (hx : (evIt C it ρ).run w = some (l.map f, w1)) (hb : ∀ a ∈ l, ∃ ρ', bindT tg (f a) (wipeE tg ρ) = some ρ' ∧ ∀ w, (evE C elt ρ').run w = some (h a, w)) :
    (evE C (.comp tg it false cond elt) ρ).run w = some (.list (l.map h), w1) := by
  unfold evE
  rw [run_bind, hx]
  show ((compM _ (l.map f) >>= fun ys => pure (PyData.list ys)) : M D).run w1 = _
  rw [run_bind, compM_map (h := fun a => some (h a)) w1 (fun a ha w => ?_)]
  · have : l.filterMap (fun a => some (h a)) = l.map h := by
      clear hb hx
      induction l with
      | nil => rfl
      | cons a r ih => rw [List.filterMap_cons, ih]; rfl
    rw [this]
    rfl
  · obtain ⟨ρ', e1, e2⟩ := hb a ha
    rw [run_bind, run_lift, e1]
    show ((evE C elt ρ' >>= fun y => pure (some y)) : M (Option D)).run w = _
    rw [run_bind, e2]
    rfl
theorem E_compIfM {α : Type} {tg : List Nat} {it : It} {cond elt : E} {ρ : Env} {l : List α} {f : α → D} (p : α → Bool) (h : α → D) {w w1 : W} (hx : (evIt C it ρ).run w = some (l.map f, w1))
    (hb : ∀ a ∈ l, ∃ ρ', bindT tg (f a) (wipeE tg ρ) = some ρ' ∧ (∀ w, (evE C cond ρ').run w = some (.bool (p a), w)) ∧ (p a = true → ∀ w, (evE C elt ρ').run w = some (h a, w))) :
    (evE C (.comp tg it true cond elt) ρ).run w = some (.list ((l.filter p).map h), w1) := by
  unfold evE
  rw [run_bind, hx]
  show ((compM _ (l.map f) >>= fun ys => pure (PyData.list ys)) : M D).run w1 = _
  rw [run_bind, compM_map (h := fun a => if p a then some (h a) else none) w1 (fun a ha w => ?_)]
  · have : l.filterMap (fun a => if p a then some (h a) else none) = (l.filter p).map h := by
      clear hb hx
      induction l with
      | nil => rfl
      | cons a r ih =>
        rw [List.filterMap_cons, List.filter_cons]
        by_cases hp : p a = true
        · simp only [hp, if_true, List.map_cons, ih]
        · simp only [hp, ih]
          rfl
    rw [this]
    rfl
  · obtain ⟨ρ', e1, e2, e3⟩ := hb a ha
    rw [run_bind, run_lift, e1]
    show ((((evE C cond ρ' >>= fun c => lift (asBool c)) : M Bool) >>= fun b => (if b then (evE C elt ρ' >>= fun y => pure (some y)) else pure none)) : M (Option D)).run w = _
    rw [run_bind, run_bind, e2]
    show (if p a then (evE C elt ρ' >>= fun y => pure (some y)) else pure none : M (Option D)).run w = _
    by_cases hp : p a = true
    · rw [if_pos hp, if_pos hp, run_bind, e3 hp]
      rfl
    · rw [if_neg hp, if_neg hp]
      rfl
theorem compMM_map {α : Type} {F : D → M (List D)} {f : α → D} {h : α → List D} : ∀ {l : List α} (w : W), (∀ a ∈ l, ∀ w, (F (f a)).run w = some (h a, w)) → (compMM F (l.map f)).run w = some (l.flatMap h, w)
  | [], w, _ => rfl
  | a :: r, w, hh => by
    have ih := compMM_map (l := r) w (fun b hb => hh b (List.mem_cons_of_mem _ hb))
    rw [List.map_cons]
    show ((F (f a) >>= fun o => compMM F (r.map f) >>= fun ys => pure (o ++ ys)) : M (List D)).run w = _
    rw [run_bind, hh a (List.mem_cons_self ..) w]
    show ((compMM F (r.map f) >>= fun ys => pure (h a ++ ys)) : M (List D)).run w = _
    rw [run_bind, ih]
    rfl
theorem E_comp2M {α β : Type} {tg tg2 : List Nat} {it it2 : It} {elt : E} {ρ : Env} {l : List α} {f : α → D} (L : α → List β) (f2 : β → D) (h : α → β → D) {w w1 : W} (hx : (evIt C it ρ).run w = some (l.map f, w1))
    (hb : ∀ a ∈ l, ∃ ρ', bindT tg (f a) (wipeE (tg ++ tg2) ρ) = some ρ' ∧ (∀ w, (evIt C it2 ρ').run w = some ((L a).map f2, w)) ∧ ∀ b ∈ L a, ∃ ρ'', bindT tg2 (f2 b) (wipeE tg2 ρ') = some ρ'' ∧ ∀ w, (evE C elt ρ'').run w = some (h a b, w))
    (hs : (l.flatMap fun a => (L a).map (h a)).length ≤ sizeLine) :
    (evE C (.comp2 tg it tg2 it2 elt) ρ).run w = some (.list (l.flatMap fun a => (L a).map (h a)), w1) := by
  unfold evE
  rw [run_bind, hx]
  show ((compMM _ (l.map f) >>= fun ys => if ys.length ≤ sizeLine then pure (PyData.list ys) else lift none) : M D).run w1 = _
  rw [run_bind, compMM_map (h := fun a => (L a).map (h a)) w1 (fun a ha w => ?_)]
  · show (if _ then _ else _ : M D).run w1 = _
    rw [if_pos hs]
    rfl
  · obtain ⟨ρ', e1, e2, e3⟩ := hb a ha
    rw [run_bind, run_lift, e1]
    show ((evIt C it2 ρ' >>= fun zs => compM _ zs) : M (List D)).run w = _
    rw [run_bind, e2]
    show (compM _ ((L a).map f2)).run w = _
    rw [compM_map (h := fun b => some (h a b)) w (fun b hb2 w => ?_)]
    · have : ∀ l : List β, l.filterMap (fun b => some (h a b)) = l.map (h a) := by
        intro l
        induction l with
        | nil => rfl
        | cons b r ih => rw [List.filterMap_cons, ih]; rfl
      rw [this]
    · obtain ⟨ρ'', e4, e5⟩ := e3 b hb2
      rw [run_bind, run_lift, e4]
      show ((evE C elt ρ'' >>= fun y => pure (some y)) : M (Option D)).run w = _
      rw [run_bind, e5]
      rfl
/-- a loop that may return -/
theorem for_find {α : Type} {F : D → Env2 → M Out} {f : α → D} (p : α → Bool) (d : α → D) (I : Env2 → Prop) : ∀ {l : List α} (ρ : Env2), I ρ → (∀ a ∈ l, ∀ ρ w, I ρ → if p a = true then (F (f a) ρ).run w = some (.ret (d a), w) else ∃ ρ', (F (f a) ρ).run w = some (.next ρ', w) ∧ I ρ') → ∀ w,
    ∃ ρ', I ρ' ∧ (forM F (l.map f) ρ).run w = some ((match l.find? p with | some a => .ret (d a) | none => .next ρ'), w)
  | [], ρ, hI, _, w => ⟨ρ, hI, rfl⟩
  | a :: r, ρ, hI, h, w => by
    have h1 := h a (List.mem_cons_self ..) ρ w hI
    rw [List.map_cons, List.find?_cons]
    unfold forM
    by_cases hp : p a = true
    · rw [if_pos hp] at h1
      refine ⟨ρ, hI, ?_⟩
      rw [run_bind, h1, hp]
      rfl
    · rw [if_neg hp] at h1
      obtain ⟨ρ1, e1, i1⟩ := h1
      obtain ⟨ρ2, i2, e2⟩ := for_find p d I (l := r) ρ1 i1 (fun b hb => h b (List.mem_cons_of_mem _ hb)) w
      refine ⟨ρ2, i2, ?_⟩
      rw [run_bind, e1, show p a = false by simpa using hp]
      exact e2
end
end RX

-- PW
set_option Elab.async false
set_option linter.all false
set_option maxRecDepth 100000
set_option maxHeartbeats 1000000
set_option exponentiation.threshold 20000
/-! PW: what holds behind a run: rules by the syntax. -/
namespace RX
open PySem
def Wp {α : Type} (m : M α) (w : W) (Q : α → W → Prop) : Prop := ∃ a w', m.run w = some (a, w') ∧ Q a w'
section
variable {α β : Type} {w : W}
theorem Wp.mono {m : M α} {Q R : α → W → Prop} (h : Wp m w Q) (hh : ∀ a w', Q a w' → R a w') : Wp m w R := let ⟨a, w', e, q⟩ := h; ⟨a, w', e, hh _ _ q⟩
theorem wp_bind {x : M α} {f : α → M β} {Q : β → W → Prop} : Wp (x >>= f) w Q ↔ Wp x w fun a w' => Wp (f a) w' Q := by
  constructor
  · rintro ⟨b, w2, e, q⟩
    rw [run_bind] at e
    cases h : x.run w with
    | none => rw [h] at e; cases e
    | some p => rw [h] at e; exact ⟨p.1, p.2, h, b, w2, e, q⟩
  · rintro ⟨a, w1, e, b, w2, e2, q⟩
    refine ⟨b, w2, ?_, q⟩
    rw [run_bind, e]
    exact e2
theorem wp_pure {a : α} {Q : α → W → Prop} : Wp (pure a : M α) w Q ↔ Q a w := by
  constructor
  · rintro ⟨b, w2, e, q⟩
    cases e
    exact q
  · exact fun q => ⟨a, w, rfl, q⟩
theorem wp_lift {o : Option α} {Q : α → W → Prop} : Wp (lift o) w Q ↔ ∃ a, o = some a ∧ Q a w := by
  constructor
  · rintro ⟨b, w2, e, q⟩
    rw [run_lift] at e
    cases o with
    | none => cases e
    | some a => cases e; exact ⟨_, rfl, q⟩
  · rintro ⟨a, rfl, q⟩
    exact ⟨a, w, rfl, q⟩
theorem wp_of {m : M α} {a : α} {w' : W} {Q : α → W → Prop} (h : m.run w = some (a, w')) : Wp m w Q ↔ Q a w' := by
  constructor
  · rintro ⟨b, w2, e, q⟩
    rw [h] at e
    cases e
    exact q
  · exact fun q => ⟨a, w', h, q⟩
theorem wp_ite {c : Prop} [Decidable c] {x y : M α} {Q : α → W → Prop} : Wp (if c then x else y) w Q ↔ if c then Wp x w Q else Wp y w Q := by split <;> rfl
end
section
variable {C : Ctx} {ρ : Env} {w : W} {Q : D → W → Prop}
theorem wp_loc {i : Nat} : Wp (evE C (.loc i) ρ) w Q ↔ ∃ d, getv ρ i = some d ∧ Q d w := wp_lift
theorem wp_cst {d : D} : Wp (evE C (.cst d) ρ) w Q ↔ Q d w := wp_pure
theorem wp_ed : Wp (evE C .ed ρ) w Q ↔ Q (.dict []) w := wp_pure
theorem wp_glb {k : Nat} : Wp (evE C (.glb k) ρ) w Q ↔ ∃ d, C.cs[k]? = some d ∧ Q d w := wp_lift
theorem wp_bin {o : Bop} {a b : E} : Wp (evE C (.bin o a b) ρ) w Q ↔ Wp (evE C a ρ) w fun x w => Wp (evE C b ρ) w fun y w => ∃ z, bop o x y = some z ∧ Q z w := by
  rw [show evE C (.bin o a b) ρ = (evE C a ρ >>= fun x => evE C b ρ >>= fun y => lift (bop o x y)) from rfl]
  simp only [wp_bind, wp_lift]
theorem wp_neg {a : E} : Wp (evE C (.neg a) ρ) w Q ↔ Wp (evE C a ρ) w fun x w => ∃ i, asInt x = some i ∧ Q (.int (-i)) w := by
  rw [show evE C (.neg a) ρ = (evE C a ρ >>= fun x => lift (asInt x) >>= fun i => pure (.int (-i))) from rfl]
  simp only [wp_bind, wp_lift, wp_pure]
theorem wp_not {a : E} : Wp (evE C (.not a) ρ) w Q ↔ Wp (evE C a ρ) w fun x w => ∃ b, asBool x = some b ∧ Q (.bool (!b)) w := by
  rw [show evE C (.not a) ρ = (evE C a ρ >>= fun x => lift (asBool x) >>= fun i => pure (.bool (!i))) from rfl]
  simp only [wp_bind, wp_lift, wp_pure]
theorem wp_and {a b : E} : Wp (evE C (.and a b) ρ) w Q ↔ Wp (evE C a ρ) w fun x w => ∃ c, asBool x = some c ∧ if c = true then Wp (evE C b ρ) w Q else Q (.bool false) w := by
  rw [show evE C (.and a b) ρ = (evE C a ρ >>= fun x => lift (asBool x) >>= fun c => if c then evE C b ρ else pure (.bool false)) from rfl]
  simp only [wp_bind, wp_lift, wp_pure, wp_ite]
theorem wp_or {a b : E} : Wp (evE C (.or a b) ρ) w Q ↔ Wp (evE C a ρ) w fun x w => ∃ c, asBool x = some c ∧ if c = true then Q (.bool true) w else Wp (evE C b ρ) w Q := by
  rw [show evE C (.or a b) ρ = (evE C a ρ >>= fun x => lift (asBool x) >>= fun c => if c then pure (.bool true) else evE C b ρ) from rfl]
  simp only [wp_bind, wp_lift, wp_pure, wp_ite]
theorem wp_cmp {o : Cop} {a b : E} : Wp (evE C (.cmp o a b) ρ) w Q ↔ Wp (evE C a ρ) w fun x w => Wp (evE C b ρ) w fun y w => ∃ c, cop o x y = some c ∧ Q (.bool c) w := by
  rw [show evE C (.cmp o a b) ρ = (evE C a ρ >>= fun x => evE C b ρ >>= fun y => lift (cop o x y) >>= fun c => pure (.bool c)) from rfl]
  simp only [wp_bind, wp_lift, wp_pure]
theorem wp_iteE {c a b : E} : Wp (evE C (.ite c a b) ρ) w Q ↔ Wp (evE C c ρ) w fun x w => ∃ k, asBool x = some k ∧ if k = true then Wp (evE C a ρ) w Q else Wp (evE C b ρ) w Q := by
  rw [show evE C (.ite c a b) ρ = (evE C c ρ >>= fun x => lift (asBool x) >>= fun k => if k then evE C a ρ else evE C b ρ) from rfl]
  simp only [wp_bind, wp_lift, wp_pure, wp_ite]
theorem wp_tup {es : EL} : Wp (evE C (.tup es) ρ) w Q ↔ Wp (evL C es ρ) w fun xs w => xs.length ≤ sizeLine ∧ Q (.tuple xs) w := by
  rw [show evE C (.tup es) ρ = (evL C es ρ >>= fun xs => if xs.length ≤ sizeLine then pure (.tuple xs) else lift none) from rfl]
  simp only [wp_bind, wp_lift, wp_pure, wp_ite]
  constructor
  · refine fun h => h.mono fun a w' q => ?_
    split at q
    · exact ⟨by assumption, q⟩
    · obtain ⟨_, e, _⟩ := q; cases e
  · exact fun h => h.mono fun a w' q => by rw [if_pos q.1]; exact q.2
theorem wp_lst {es : EL} : Wp (evE C (.lst es) ρ) w Q ↔ Wp (evL C es ρ) w fun xs w => xs.length ≤ sizeLine ∧ Q (.list xs) w := by
  rw [show evE C (.lst es) ρ = (evL C es ρ >>= fun xs => if xs.length ≤ sizeLine then pure (.list xs) else lift none) from rfl]
  simp only [wp_bind, wp_lift, wp_pure, wp_ite]
  constructor
  · refine fun h => h.mono fun a w' q => ?_
    split at q
    · exact ⟨by assumption, q⟩
    · obtain ⟨_, e, _⟩ := q; cases e
  · exact fun h => h.mono fun a w' q => by rw [if_pos q.1]; exact q.2
theorem wp_idx {a b : E} : Wp (evE C (.idx a b) ρ) w Q ↔ Wp (evE C a ρ) w fun x w => Wp (evE C b ρ) w fun y w => ∃ z, idx x y = some z ∧ Q z w := by
  rw [show evE C (.idx a b) ρ = (evE C a ρ >>= fun x => evE C b ρ >>= fun y => lift (idx x y)) from rfl]
  simp only [wp_bind, wp_lift, wp_pure]
theorem wp_b1 {o : Bi} {a : E} : Wp (evE C (.b1 o a) ρ) w Q ↔ Wp (evE C a ρ) w fun x w => ∃ z, bi1 o x = some z ∧ Q z w := by
  rw [show evE C (.b1 o a) ρ = (evE C a ρ >>= fun x => lift (bi1 o x)) from rfl]
  simp only [wp_bind, wp_lift, wp_pure]
theorem wp_b2 {o : Bj} {a b : E} : Wp (evE C (.b2 o a b) ρ) w Q ↔ Wp (evE C a ρ) w fun x w => Wp (evE C b ρ) w fun y w => ∃ z, bi2 o x y = some z ∧ Q z w := by
  rw [show evE C (.b2 o a b) ρ = (evE C a ρ >>= fun x => evE C b ρ >>= fun y => lift (bi2 o x y)) from rfl]
  simp only [wp_bind, wp_lift, wp_pure]
theorem wp_isi {a : E} {T : String} : Wp (evE C (.isi a T) ρ) w Q ↔ Wp (evE C a ρ) w fun x w => ∃ b, isO T x = some b ∧ Q (.bool b) w := by
  rw [show evE C (.isi a T) ρ = (evE C a ρ >>= fun x => lift (isO T x) >>= fun b => pure (.bool b)) from rfl]
  simp only [wp_bind, wp_lift, wp_pure]
theorem wp_slcF {a lo hi : E} : Wp (evE C (.slc true false a lo hi) ρ) w Q ↔ Wp (evE C a ρ) w fun x w => Wp (evE C lo ρ) w fun y w => ∃ i, asInt y = some i ∧ ∃ z, slc x (some i) none = some z ∧ Q z w := by
  rw [show evE C (.slc true false a lo hi) ρ = (evE C a ρ >>= fun x => (evE C lo ρ >>= fun y => lift (asInt y) >>= fun i => pure (some i)) >>= fun l => (pure none : M (Option Int)) >>= fun h => lift (slc x l h)) from rfl]
  simp only [wp_bind, wp_lift, wp_pure]
theorem wp_slcT {a lo hi : E} : Wp (evE C (.slc false true a lo hi) ρ) w Q ↔ Wp (evE C a ρ) w fun x w => Wp (evE C hi ρ) w fun y w => ∃ i, asInt y = some i ∧ ∃ z, slc x none (some i) = some z ∧ Q z w := by
  rw [show evE C (.slc false true a lo hi) ρ = (evE C a ρ >>= fun x => (pure none : M (Option Int)) >>= fun l => (evE C hi ρ >>= fun y => lift (asInt y) >>= fun i => pure (some i)) >>= fun h => lift (slc x l h)) from rfl]
  simp only [wp_bind, wp_lift, wp_pure]
/-- the k-th def of a context -/
def fnAt (C : Ctx) (k : Nat) : Fn := match C.fns[k]? with
  | some f => f
  | none => fun _ => lift none
theorem fnAt0 {f : Fn} {fs : List Fn} {cs : List D} : fnAt ⟨f :: fs, cs⟩ 0 = f := rfl
theorem fnAtS {f : Fn} {fs : List Fn} {cs : List D} {k : Nat} : fnAt ⟨f :: fs, cs⟩ (k + 1) = fnAt ⟨fs, cs⟩ k := rfl
/-- a call that draws -/
theorem wp_callP {k : Nat} {es : EL} : Wp (evE C (.call true k es []) ρ) w Q ↔ Wp (evL C es ρ) w fun xs w => Wp (fnAt C k xs) w Q := by
  have e : evE C (.call true k es []) ρ = (evL C es ρ >>= fun xs => fnAt C k xs) := by
    show (evL C es ρ >>= fun xs => match C.fns[k]? with
    | some f => f xs
    | none => lift none) = _
    congr 1
    funext xs
    unfold fnAt
    cases C.fns[k]? <;> rfl
  rw [e, wp_bind]
/-- a call that does not -/
theorem wp_callK {k : Nat} {es : EL} {kw : List Nat} : Wp (evE C (.call false k es kw) ρ) w Q ↔ Wp (evL C es ρ) w fun xs w => Wp (fnAt C k (permA kw xs)) [] fun d _ => Q d w := by
  have e : evE C (.call false k es kw) ρ = (evL C es ρ >>= fun xs => (fun w => ((fnAt C k (permA kw xs)).run []).map fun r => (r.1, w) : M D)) := by
    show (evL C es ρ >>= fun xs => match C.fns[k]? with
    | some f => fun w => ((f (permA kw xs)).run []).map fun r => (r.1, w)
    | none => lift none) = _
    congr 1
    funext xs
    unfold fnAt
    cases C.fns[k]? <;> rfl
  rw [e, wp_bind]
  have key : ∀ (f : M D) w, Wp (fun w => (f.run []).map fun r => (r.1, w) : M D) w Q ↔ Wp f [] fun d _ => Q d w := fun f w => by
    constructor
    · rintro ⟨d, w2, e, q⟩
      have e : (f.run []).map (fun r => (r.1, w)) = some (d, w2) := e
      cases h : f.run [] with
      | none => rw [h] at e; cases e
      | some p => rw [h] at e; cases e; exact ⟨_, _, h, q⟩
    · rintro ⟨d, w2, e, q⟩
      refine ⟨d, w, ?_, q⟩
      show (f.run []).map (fun r => (r.1, w)) = _
      rw [e]
      rfl
  simp only [key]
theorem permA_nil {α : Type} (xs : List α) : permA [] xs = xs := rfl
theorem permA10 {α : Type} (x y : α) : permA [1, 0] [x, y] = [y, x] := rfl
theorem permA210 {α : Type} (x y z : α) : permA [2, 1, 0] [x, y, z] = [z, y, x] := rfl
theorem wp_call {k : Nat} {es : EL} : Wp (evE C (.call false k es []) ρ) w Q ↔ Wp (evL C es ρ) w fun xs w => Wp (fnAt C k xs) [] fun d _ => Q d w := wp_callK
theorem wp_nil {Q : List D → W → Prop} : Wp (evL C .nil ρ) w Q ↔ Q [] w := wp_pure
theorem wp_cons {e : E} {es : EL} {Q : List D → W → Prop} : Wp (evL C (.cons e es) ρ) w Q ↔ Wp (evE C e ρ) w fun x w => Wp (evL C es ρ) w fun xs w => Q (x :: xs) w := by
  rw [show evL C (.cons e es) ρ = (evE C e ρ >>= fun x => evL C es ρ >>= fun xs => pure (x :: xs)) from rfl]
  simp only [wp_bind, wp_lift, wp_pure]
theorem wp_seq {e : E} {Q : List D → W → Prop} : Wp (evIt C (.seq e) ρ) w Q ↔ Wp (evE C e ρ) w fun x w => ∃ xs, items x = some xs ∧ Q xs w := by
  rw [show evIt C (.seq e) ρ = (evE C e ρ >>= fun x => lift (items x)) from rfl]
  simp only [wp_bind, wp_lift, wp_pure]
theorem wp_rng {e : E} {Q : List D → W → Prop} : Wp (evIt C (.rng e) ρ) w Q ↔ Wp (evE C e ρ) w fun x w => ∃ i, asInt x = some i ∧ ∃ xs, rangeD 0 i = some xs ∧ Q xs w := by
  rw [show evIt C (.rng e) ρ = (evE C e ρ >>= fun x => lift (asInt x) >>= fun i => lift (rangeD 0 i)) from rfl]
  simp only [wp_bind, wp_lift, wp_pure]
theorem wp_rng2 {a b : E} {Q : List D → W → Prop} : Wp (evIt C (.rng2 a b) ρ) w Q ↔ Wp (evE C a ρ) w fun x w => Wp (evE C b ρ) w fun y w => ∃ i, asInt x = some i ∧ ∃ j, asInt y = some j ∧ ∃ xs, rangeD i j = some xs ∧ Q xs w := by
  rw [show evIt C (.rng2 a b) ρ = (evE C a ρ >>= fun x => evE C b ρ >>= fun y => lift (asInt x) >>= fun i => lift (asInt y) >>= fun j => lift (rangeD i j)) from rfl]
  simp only [wp_bind, wp_lift, wp_pure]
end
/-! ### statements -/
section
variable {C : Ctx} {ρ : Env2} {w : W} {Q : Out → W → Prop}
/-- what is asked behind a statement, before the rest -/
def Rest (C : Ctx) (ss : SL) (Q : Out → W → Prop) (o : Out) (w : W) : Prop := match o with
  | .next ρ' => Wp (evSL C ss ρ') w Q
  | .brk ρ' => Q (.brk ρ') w
  | .cont ρ' => Q (.cont ρ') w
  | .ret d => Q (.ret d) w
theorem wp_SLnil : Wp (evSL C .nil ρ) w Q ↔ Q (.next ρ) w := by
  rw [show evSL C .nil ρ = pure (.next ρ) from by unfold evSL; rfl, wp_pure]
theorem wp_SL {s : S} {ss : SL} : Wp (evSL C (.cons s ss) ρ) w Q ↔ Wp (evS C s ρ) w (Rest C ss Q) := by
  rw [SL_cons, wp_bind]
  constructor
  · exact fun h => h.mono fun o w' q => by
      cases o with
      | next ρ' => exact q
      | brk ρ' => exact wp_pure (Q := Q).mp q
      | cont ρ' => exact wp_pure (Q := Q).mp q
      | ret d => exact wp_pure (Q := Q).mp q
  · exact fun h => h.mono fun o w' q => by
      cases o with
      | next ρ' => exact q
      | brk ρ' => exact wp_pure (Q := Q).mpr q
      | cont ρ' => exact wp_pure (Q := Q).mpr q
      | ret d => exact wp_pure (Q := Q).mpr q
theorem wp_D {pl : Bool} {n : Nat} {b : SL} {args : List D} {Q : D → W → Prop} (h : Wp (evSL C b (env0 pl n args)) w fun o w' => match o with
    | .next _ => Q .none w'
    | .ret d => Q d w'
    | _ => False) : Wp (runD C pl n b args) w Q := by
  unfold runD
  rw [wp_bind]
  refine h.mono fun o w' q => ?_
  cases o with
  | next ρ' => exact wp_pure.mpr q
  | ret d => exact wp_pure.mpr q
  | brk ρ' => exact q.elim
  | cont ρ' => exact q.elim
theorem wp_asg {i : Nat} {e : E} : Wp (evS C (.asg false i e) ρ) w Q ↔ Wp (evE C e (visE ρ)) w fun x w => Q (.next (ρ.set i (some (false, x)))) w := by
  rw [show evS C (.asg false i e) ρ = (evE C e (visE ρ) >>= fun x => if !false || noL x then pure (.next (ρ.set i (some (false, x)))) else lift none) from rfl, wp_bind]
  simp only [Bool.not_false, Bool.true_or, if_true, wp_pure]
theorem wp_asgD {i : Nat} {e : E} : Wp (evS C (.asg true i e) ρ) w Q ↔ Wp (evE C e (allE ρ)) w fun x w => noL x = true ∧ Q (.next (ρ.set i (some (false, x)))) w := by
  rw [show evS C (.asg true i e) ρ = (evE C e (allE ρ) >>= fun x => if !true || noL x then pure (.next (ρ.set i (some (false, x)))) else lift none) from rfl, wp_bind]
  simp only [Bool.not_true, Bool.false_or, wp_ite, wp_pure, wp_lift]
  constructor
  · refine fun h => h.mono fun a w' q => ?_
    split at q
    · exact ⟨by assumption, q⟩
    · obtain ⟨_, e, _⟩ := q; cases e
  · exact fun h => h.mono fun a w' q => by rw [if_pos q.1]; exact q.2
theorem wp_new {i : Nat} {e : E} : Wp (evS C (.new i e) ρ) w Q ↔ Wp (evE C e (visE ρ)) w fun x w => ∃ xs, x = .list xs ∧ Q (.next (ρ.set i (some (true, .list xs)))) w := by
  rw [show evS C (.new i e) ρ = (evE C e (visE ρ) >>= fun x => match x with
    | .list xs => pure (.next (ρ.set i (some (true, .list xs))))
    | _ => lift none) from rfl, wp_bind]
  constructor
  · refine fun h => h.mono fun a w' q => ?_
    cases a with
    | list xs => exact ⟨xs, rfl, wp_pure.mp q⟩
    | _ => obtain ⟨_, e, _⟩ := wp_lift.mp q; cases e
  · exact fun h => h.mono fun a w' q => by
      obtain ⟨xs, rfl, q⟩ := q
      exact wp_pure.mpr q
theorem wp_free {i : Nat} : Wp (evS C (.free i) ρ) w Q ↔ Q (.next (match get2 ρ i with
    | some (_, x) => ρ.set i (some (false, x))
    | none => ρ)) w := by
  rw [show evS C (.free i) ρ = pure (.next (match get2 ρ i with
    | some (_, x) => ρ.set i (some (false, x))
    | none => ρ)) from rfl, wp_pure]
theorem wp_app {i : Nat} {e : E} : Wp (evS C (.app false i e) ρ) w Q ↔ Wp (evE C e (visE ρ)) w fun x w => ∃ xs, listAt ρ i = some xs ∧ xs.length < sizeLine ∧ Q (.next (ρ.set i (some (true, .list (xs ++ [x]))))) w := by
  rw [show evS C (.app false i e) ρ = (evE C e (visE ρ) >>= fun x => lift (listAt ρ i) >>= fun xs => if (!false || noL x) && decide (xs.length < sizeLine) then pure (.next (ρ.set i (some (true, .list (xs ++ [x]))))) else lift none) from rfl]
  simp only [wp_bind, wp_lift, Bool.not_false, Bool.true_or, Bool.true_and, wp_ite, wp_pure, decide_eq_true_eq]
  constructor
  · refine fun h => h.mono fun a w' q => ?_
    obtain ⟨xs, e, q⟩ := q
    split at q
    · exact ⟨xs, e, by assumption, q⟩
    · obtain ⟨_, e, _⟩ := q; cases e
  · exact fun h => h.mono fun a w' q => by
      obtain ⟨xs, e, q⟩ := q
      exact ⟨xs, e, by rw [if_pos q.1]; exact q.2⟩
theorem wp_iteS {c : E} {a b : SL} : Wp (evS C (.ite c a b) ρ) w Q ↔ Wp (evE C c (allE ρ)) w fun x w => ∃ k, asBool x = some k ∧ if k = true then Wp (evSL C a ρ) w Q else Wp (evSL C b ρ) w Q := by
  rw [show evS C (.ite c a b) ρ = ((evE C c (allE ρ) >>= fun x => lift (asBool x)) >>= fun k => if k then evSL C a ρ else evSL C b ρ) from rfl]
  simp only [wp_bind, wp_lift, wp_pure, wp_ite]
theorem wp_retS {e : E} : Wp (evS C (.ret e) ρ) w Q ↔ Wp (evE C e (allE ρ)) w fun x w => Q (.ret x) w := by
  rw [show evS C (.ret e) ρ = (evE C e (allE ρ) >>= fun x => pure (.ret x)) from rfl]
  simp only [wp_bind, wp_lift, wp_pure]
theorem wp_expr {e : E} : Wp (evS C (.expr e) ρ) w Q ↔ Wp (evE C e (allE ρ)) w fun x w => Q (.next ρ) w := by
  rw [show evS C (.expr e) ρ = (evE C e (allE ρ) >>= fun x => pure (.next ρ)) from rfl]
  simp only [wp_bind, wp_lift, wp_pure]
/-- names set beside one another -/
theorem wp_par {is : List Nat} {es : EL} : Wp (evS C (.par false is es) ρ) w Q ↔ Wp (evL C es (visE ρ)) w fun xs w => ∃ ρ', setAll2 is xs ρ = some ρ' ∧ Q (.next ρ') w := by
  rw [show evS C (.par false is es) ρ = (evL C es (visE ρ) >>= fun xs => if !false || noLs xs then (lift (setAll2 is xs ρ) >>= fun ρ' => pure (.next ρ')) else lift none) from rfl]
  simp only [wp_bind, wp_lift, wp_pure, Bool.not_false, Bool.true_or, if_true]
theorem wp_asgT {is : List Nat} {e : E} : Wp (evS C (.asgT false is e) ρ) w Q ↔ Wp (evE C e (visE ρ)) w fun x w => ∃ xs, x = .tuple xs ∧ ∃ ρ', setAll2 is xs ρ = some ρ' ∧ Q (.next ρ') w := by
  rw [show evS C (.asgT false is e) ρ = (evE C e (visE ρ) >>= fun x => match x with
    | .tuple xs => if !false || noLs xs then (lift (setAll2 is xs ρ) >>= fun ρ' => pure (.next ρ')) else lift none
    | _ => lift none) from rfl]
  simp only [wp_bind]
  constructor
  · refine fun h => h.mono fun a w' q => ?_
    cases a with
    | tuple xs =>
      refine ⟨xs, rfl, ?_⟩
      simpa only [wp_bind, wp_lift, wp_pure, Bool.not_false, Bool.true_or, if_true] using q
    | _ => obtain ⟨_, e, _⟩ := wp_lift.mp q; cases e
  · exact fun h => h.mono fun a w' q => by
      obtain ⟨xs, rfl, q⟩ := q
      simpa only [wp_bind, wp_lift, wp_pure, Bool.not_false, Bool.true_or, if_true] using q
theorem wp_parN {is : List Nat} {i : Nat} {es : EL} {e : E} : Wp (evS C (.parN is i es e) ρ) w Q ↔ Wp (evL C es (visE ρ)) w fun xs w => Wp (evE C e (visE ρ)) w fun x w => ∃ ρ', setAll2 is xs ρ = some ρ' ∧ ∃ ys, x = .list ys ∧ Q (.next (ρ'.set i (some (true, .list ys)))) w := by
  rw [show evS C (.parN is i es e) ρ = (evL C es (visE ρ) >>= fun xs => evE C e (visE ρ) >>= fun x => lift (setAll2 is xs ρ) >>= fun ρ' => match x with
    | .list ys => pure (.next (ρ'.set i (some (true, .list ys))))
    | _ => lift none) from rfl]
  simp only [wp_bind, wp_lift]
  constructor
  · refine fun h => h.mono fun xs w' q => q.mono fun a w' q => ?_
    obtain ⟨ρ', e, q⟩ := q
    refine ⟨ρ', e, ?_⟩
    cases a with
    | list xs => exact ⟨xs, rfl, wp_pure.mp q⟩
    | _ => obtain ⟨_, e, _⟩ := wp_lift.mp q; cases e
  · exact fun h => h.mono fun xs w' q => q.mono fun a w' q => by
      obtain ⟨ρ', e, ys, rfl, q⟩ := q
      exact ⟨ρ', e, wp_pure.mpr q⟩
theorem wp_popT {is : List Nat} {i : Nat} {k : E} : Wp (evS C (.popT is i k) ρ) w Q ↔ Wp (evE C k (allE ρ)) w fun x w => ∃ n, asInt x = some n ∧ ∃ xs, listAt ρ i = some xs ∧ (0 ≤ n ∧ n < 2 ^ 63) ∧ ∃ y, xs[n.toNat]? = some y ∧ ∃ ρ', bindT2 is y (ρ.set i (some (true, .list (xs.eraseIdx n.toNat)))) = some ρ' ∧ Q (.next ρ') w := by
  rw [show evS C (.popT is i k) ρ = (evE C k (allE ρ) >>= fun n => lift (asInt n) >>= fun n => lift (listAt ρ i) >>= fun xs => if 0 ≤ n ∧ n < 2 ^ 63 then (lift xs[n.toNat]? >>= fun y => lift (bindT2 is y (ρ.set i (some (true, .list (xs.eraseIdx n.toNat))))) >>= fun ρ' => pure (.next ρ')) else lift none) from rfl]
  simp only [wp_bind, wp_lift, wp_pure, wp_ite]
  constructor
  · refine fun h => h.mono fun a w' q => ?_
    obtain ⟨n, e, xs, e2, q⟩ := q
    split at q
    · exact ⟨n, e, xs, e2, by assumption, q⟩
    · obtain ⟨_, e, _⟩ := q; cases e
  · exact fun h => h.mono fun a w' q => by
      obtain ⟨n, e, xs, e2, q⟩ := q
      exact ⟨n, e, xs, e2, by rw [if_pos q.1]; exact q.2⟩
/-! ### loops -/
/-- a loop: an invariant by the number of turns; each turn goes on, or ends it by a return that is asked -/
theorem wp_for {tg : List Nat} {it : It} {b : SL} (I : Nat → Env2 → W → Prop) (h : Wp (evIt C it (visE ρ)) w fun xs w => I 0 ρ w ∧
    (∀ i x ρ w, xs[i]? = some x → I i ρ w → ∃ ρ', bindT2 tg x ρ = some ρ' ∧ Wp (evSL C b ρ') w fun o w' => match o with
      | .next ρ'' => I (i + 1) ρ'' w'
      | .cont ρ'' => I (i + 1) ρ'' w'
      | .ret d => Q (.ret d) w'
      | .brk _ => False) ∧ ∀ ρ w, I xs.length ρ w → Q (.next ρ) w) : Wp (evS C (.for tg it b) ρ) w Q := by
  rw [show evS C (.for tg it b) ρ = (evIt C it (visE ρ) >>= fun xs => forM (fun x ρ => lift (bindT2 tg x ρ) >>= fun ρ' => evSL C b ρ') xs ρ) from rfl, wp_bind]
  refine h.mono fun xs w1 q => ?_
  obtain ⟨h0, h1, h2⟩ := q
  clear h
  induction xs generalizing I ρ w1 with
  | nil =>
    show Wp (pure (.next ρ)) w1 Q
    rw [wp_pure]
    exact h2 _ _ h0
  | cons x r ih =>
    obtain ⟨ρ', e, t⟩ := h1 0 x ρ w1 rfl h0
    rw [show forM (fun x ρ => lift (bindT2 tg x ρ) >>= fun ρ' => evSL C b ρ') (x :: r) ρ = ((lift (bindT2 tg x ρ) >>= fun ρ' => evSL C b ρ') >>= fun o => match o with
      | .next ρ' => forM (fun x ρ => lift (bindT2 tg x ρ) >>= fun ρ' => evSL C b ρ') r ρ'
      | .cont ρ' => forM (fun x ρ => lift (bindT2 tg x ρ) >>= fun ρ' => evSL C b ρ') r ρ'
      | .brk ρ' => pure (.next ρ')
      | .ret d => pure (.ret d)) from rfl, wp_bind, wp_bind, wp_lift]
    refine ⟨ρ', e, t.mono fun o w' q => ?_⟩
    cases o with
    | next ρ'' => exact ih (fun i => I (i + 1)) w' q (fun i y ρ w hy hi => h1 (i + 1) y ρ w (by simpa using hy) hi) (fun ρ w hi => h2 ρ w hi)
    | cont ρ'' => exact ih (fun i => I (i + 1)) w' q (fun i y ρ w hy hi => h1 (i + 1) y ρ w (by simpa using hy) hi) (fun ρ w hi => h2 ρ w hi)
    | ret d => exact wp_pure.mpr q
    | brk _ => exact q.elim
/-- .. over a list of a known form -/
theorem wp_forL {α : Type} {tg : List Nat} {it : It} {b : SL} (f : α → D) (l : List α) (I : Nat → Env2 → W → Prop) (hx : Wp (evIt C it (visE ρ)) w fun xs w => xs = l.map f ∧ I 0 ρ w)
    (h1 : ∀ i a ρ w, l[i]? = some a → I i ρ w → ∃ ρ', bindT2 tg (f a) ρ = some ρ' ∧ Wp (evSL C b ρ') w fun o w' => match o with
      | .next ρ'' => I (i + 1) ρ'' w'
      | .cont ρ'' => I (i + 1) ρ'' w'
      | .ret d => Q (.ret d) w'
      | .brk _ => False) (h2 : ∀ ρ w, I l.length ρ w → Q (.next ρ) w) : Wp (evS C (.for tg it b) ρ) w Q := by
  refine wp_for I (hx.mono fun xs w' q => ?_)
  obtain ⟨rfl, h0⟩ := q
  refine ⟨h0, fun i x ρ w hx hi => ?_, fun ρ w hi => h2 ρ w (by rwa [List.length_map] at hi)⟩
  rw [List.getElem?_map, Option.map_eq_some_iff] at hx
  obtain ⟨a, ha, rfl⟩ := hx
  exact h1 i a ρ w ha hi
/-- a loop over a drawn list, by what holds of each-/
theorem wp_forP {tg : List Nat} {it : It} {b : SL} (P : D → Prop) (I : Env2 → W → Prop) (hx : Wp (evIt C it (visE ρ)) w fun xs w => (∀ x ∈ xs, P x) ∧ I ρ w)
    (h1 : ∀ x ρ w, P x → I ρ w → ∃ ρ', bindT2 tg x ρ = some ρ' ∧ Wp (evSL C b ρ') w fun o w' => match o with
      | .next ρ'' => I ρ'' w'
      | .cont ρ'' => I ρ'' w'
      | .ret d => Q (.ret d) w'
      | .brk _ => False) (h2 : ∀ ρ w, I ρ w → Q (.next ρ) w) : Wp (evS C (.for tg it b) ρ) w Q :=
  wp_for (fun _ => I) (hx.mono fun xs w' q => ⟨q.2, fun i x ρ w hx hi => h1 x ρ w (q.1 x (List.mem_of_getElem? hx)) hi, fun ρ w hi => h2 ρ w hi⟩)
end
/-! ### comprehensions -/
inductive All2 {α β : Type} (P : α → β → Prop) : List α → List β → Prop where
  | nil : All2 P [] []
  | cons {a : α} {b : β} {l : List α} {m : List β} : P a b → All2 P l m → All2 P (a :: l) (b :: m)
theorem All2.len {α β : Type} {P : α → β → Prop} {l : List α} {m : List β} (h : All2 P l m) : l.length = m.length := by
  induction h with
  | nil => rfl
  | cons _ _ ih => simp [ih]
theorem All2.right {α β : Type} {P : α → β → Prop} {l : List α} {m : List β} (h : All2 P l m) : ∀ b ∈ m, ∃ a ∈ l, P a b := by
  induction h with
  | nil => exact fun b hb => nomatch hb
  | cons p _ ih =>
    intro b hb
    rcases List.mem_cons.mp hb with rfl | hb
    · exact ⟨_, List.mem_cons_self .., p⟩
    · obtain ⟨a, ha, q⟩ := ih b hb
      exact ⟨a, List.mem_cons_of_mem _ ha, q⟩
theorem All2.map {α β γ : Type} {P : α → β → Prop} {f : α → γ} {g : β → γ} {l : List α} {m : List β} (h : All2 P l m) (hh : ∀ a b, P a b → f a = g b) : l.map f = m.map g := by
  induction h with
  | nil => rfl
  | cons p _ ih => rw [List.map_cons, List.map_cons, hh _ _ p, ih]
section
variable {C : Ctx} {ρ : Env} {w : W} {Q : D → W → Prop}
theorem wp_compM {α β : Type} {F : D → M (Option D)} {f : α → D} {g : β → D} {P : α → β → Prop} {I : W → Prop} : ∀ {l : List α} {w : W}, (∀ a ∈ l, ∀ w, I w → Wp (F (f a)) w fun o w' => I w' ∧ ∃ b, o = some (g b) ∧ P a b) → I w →
    Wp (compM F (l.map f)) w fun ys w' => I w' ∧ ∃ bs, ys = bs.map g ∧ All2 P l bs
  | [], w, _, hI => wp_pure.mpr ⟨hI, [], rfl, .nil⟩
  | a :: r, w, h, hI => by
    rw [List.map_cons, show compM F (f a :: r.map f) = (F (f a) >>= fun o => compM F (r.map f) >>= fun ys => pure (match o with | some y => y :: ys | none => ys)) from rfl, wp_bind]
    refine (h a (List.mem_cons_self ..) w hI).mono fun o w1 q => ?_
    obtain ⟨h1, b, rfl, p⟩ := q
    rw [wp_bind]
    refine (wp_compM (fun c hc => h c (List.mem_cons_of_mem _ hc)) h1).mono fun ys w2 q => ?_
    obtain ⟨h2, bs, rfl, ps⟩ := q
    exact wp_pure.mpr ⟨h2, b :: bs, rfl, .cons p ps⟩
/-- a comprehension that draws: I of the pool stays -/
theorem wp_comp {α β : Type} {tg : List Nat} {it : It} {cond elt : E} (f : α → D) (g : β → D) (P : α → β → Prop) (I : W → Prop) (h : Wp (evIt C it ρ) w fun xs w => I w ∧ ∃ l : List α, xs = l.map f ∧
    (∀ a ∈ l, ∀ w, I w → ∃ ρ', bindT tg (f a) (wipeE tg ρ) = some ρ' ∧ Wp (evE C elt ρ') w fun y w' => I w' ∧ ∃ b, y = g b ∧ P a b) ∧ ∀ bs w, I w → All2 P l bs → Q (.list (bs.map g)) w) : Wp (evE C (.comp tg it false cond elt) ρ) w Q := by
  rw [show evE C (.comp tg it false cond elt) ρ = (evIt C it ρ >>= fun xs => compM (fun x => lift (bindT tg x (wipeE tg ρ)) >>= fun ρ' => (pure true : M Bool) >>= fun b => if b then (evE C elt ρ' >>= fun y => pure (some y)) else pure none) xs >>= fun ys => pure (.list ys)) from rfl, wp_bind]
  refine h.mono fun xs w1 q => ?_
  obtain ⟨hI, l, rfl, h1, h2⟩ := q
  rw [wp_bind]
  refine (wp_compM (g := g) (P := P) (I := I) (fun a ha w hw => ?_) hI).mono fun ys w2 q => ?_
  · obtain ⟨ρ', e, t⟩ := h1 a ha w hw
    rw [wp_bind, wp_lift]
    refine ⟨ρ', e, ?_⟩
    rw [wp_bind, wp_pure]
    show Wp (evE C elt ρ' >>= fun y => pure (some y)) w _
    rw [wp_bind]
    refine t.mono fun y w' q => ?_
    rw [wp_pure]
    obtain ⟨q1, b, rfl, p⟩ := q
    exact ⟨q1, b, rfl, p⟩
  · obtain ⟨hw, bs, rfl, ps⟩ := q
    exact wp_pure.mpr (h2 bs w2 hw ps)
theorem All2.eqMap {α β : Type} {h : α → β} {l : List α} {m : List β} (H : All2 (fun a b => b = h a) l m) : m = l.map h := by
  induction H with
  | nil => rfl
  | cons p _ ih => rw [List.map_cons, p, ih]
/-- a comprehension that does not draw -/
theorem wp_compF {α : Type} {tg : List Nat} {it : It} {cond elt : E} (f h : α → D) (l : List α) (hx : Wp (evIt C it ρ) w fun xs w' => xs = l.map f ∧ w' = w)
    (h1 : ∀ a ∈ l, ∃ ρ', bindT tg (f a) (wipeE tg ρ) = some ρ' ∧ ∀ w, Wp (evE C elt ρ') w fun y w' => y = h a ∧ w' = w) (q : Q (.list (l.map h)) w) : Wp (evE C (.comp tg it false cond elt) ρ) w Q := by
  obtain ⟨xs, w1, e, rfl, rfl⟩ := hx
  refine ⟨_, w1, E_compM h e fun a ha => ?_, q⟩
  obtain ⟨ρ', e1, t⟩ := h1 a ha
  refine ⟨ρ', e1, fun w => ?_⟩
  obtain ⟨y, w', e2, rfl, rfl⟩ := t w
  exact e2
theorem wp_compIf {α : Type} {tg : List Nat} {it : It} {cond elt : E} (f : α → D) (p : α → Bool) (h : α → D) (l : List α) (hx : Wp (evIt C it ρ) w fun xs w' => xs = l.map f ∧ w' = w)
    (h1 : ∀ a ∈ l, ∃ ρ', bindT tg (f a) (wipeE tg ρ) = some ρ' ∧ (∀ w, Wp (evE C cond ρ') w fun y w' => y = .bool (p a) ∧ w' = w) ∧ (p a = true → ∀ w, Wp (evE C elt ρ') w fun y w' => y = h a ∧ w' = w)) (q : Q (.list ((l.filter p).map h)) w) : Wp (evE C (.comp tg it true cond elt) ρ) w Q := by
  obtain ⟨xs, w1, e, rfl, rfl⟩ := hx
  refine ⟨_, w1, E_compIfM p h e fun a ha => ?_, q⟩
  obtain ⟨ρ', e1, t, u⟩ := h1 a ha
  refine ⟨ρ', e1, fun w => ?_, fun hp w => ?_⟩
  · obtain ⟨y, w', e2, rfl, rfl⟩ := t w
    exact e2
  · obtain ⟨y, w', e2, rfl, rfl⟩ := u hp w
    exact e2
/-- a comprehension that draws, over a list of a known form -/
theorem wp_compL {α β : Type} {tg : List Nat} {it : It} {cond elt : E} (f : α → D) (g : β → D) (P : α → β → Prop) (I : W → Prop) (l : List α) (hx : Wp (evIt C it ρ) w fun xs w' => xs = l.map f ∧ I w')
    (h1 : ∀ a ∈ l, ∀ w, I w → ∃ ρ', bindT tg (f a) (wipeE tg ρ) = some ρ' ∧ Wp (evE C elt ρ') w fun y w' => I w' ∧ ∃ b, y = g b ∧ P a b) (q : ∀ bs w, I w → All2 P l bs → Q (.list (bs.map g)) w) : Wp (evE C (.comp tg it false cond elt) ρ) w Q :=
  wp_comp f g P I (hx.mono fun _ _ h => ⟨h.2, l, h.1, h1, q⟩)
end
theorem eqv_bools (a b : Bool) : PyData.eqv (.bool a) (.bool b) = (a == b) := by cases a <;> cases b <;> decide +kernel
theorem shaped_bool (a : Bool) : SeqAt.shaped (.bool a) = true := by cases a <;> decide +kernel
theorem cop_eq_bool {a b : Bool} : cop .eq (.bool a) (.bool b) = some (a == b) := by
  show (if SeqAt.shaped (.bool a) && SeqAt.shaped (.bool b) then some (PyData.eqv (.bool a) (.bool b)) else none) = _
  rw [eqv_bools, shaped_bool, shaped_bool]
  rfl
theorem cop_ne_bool {a b : Bool} : cop .ne (.bool a) (.bool b) = some (a != b) := by
  show (if SeqAt.shaped (.bool a) && SeqAt.shaped (.bool b) then some (!PyData.eqv (.bool a) (.bool b)) else none) = _
  rw [eqv_bools, shaped_bool, shaped_bool]
  rfl
theorem repr_two (a b : Bool) : bi1 .repr (.list [.bool a, .bool b]) = some (PyData.str (PyData.shown (.list [.bool a, .bool b]))) := by
  have h : showsB (.list [.bool a, .bool b]) = true := by cases a <;> cases b <;> decide +kernel
  show (if showsB (.list [.bool a, .bool b]) then some (PyData.str (PyData.shown (.list [.bool a, .bool b]))) else none) = _
  rw [h]
  rfl
theorem repr_two_ne (a b : Bool) : cop .ne (PyData.str (PyData.shown (.list [.bool a, .bool a]))) (PyData.str (PyData.shown (.list [.bool b, .bool b]))) = some (a != b) := by cases a <;> cases b <;> decide +kernel
theorem repr_bool (a : Bool) : bi1 .repr (.bool a) = some (PyData.str (if a then "True" else "False")) := rfl
theorem repr_bool_ne (a b : Bool) : cop .ne (PyData.str (if a then "True" else "False")) (PyData.str (if b then "True" else "False")) = some (a != b) := by cases a <;> cases b <;> decide +kernel
theorem shaped_int (a : Int) : SeqAt.shaped (.int a) = true := by simp [SeqAt.shaped, PyData.canLay0, PyData.depth]
theorem eqv_ints (a b : Int) : PyData.eqv (.int a) (.int b) = decide (a = b) := by unfold PyData.eqv; rfl
theorem cop_eq_int {a b : Int} : cop .eq (.int a) (.int b) = some (decide (a = b)) := by
  show (if SeqAt.shaped (.int a) && SeqAt.shaped (.int b) then some (PyData.eqv (.int a) (.int b)) else none) = _
  rw [eqv_ints, shaped_int, shaped_int]
  rfl
theorem cop_ne_int {a b : Int} : cop .ne (.int a) (.int b) = some (!decide (a = b)) := by
  show (if SeqAt.shaped (.int a) && SeqAt.shaped (.int b) then some (!PyData.eqv (.int a) (.int b)) else none) = _
  rw [eqv_ints, shaped_int, shaped_int]
  rfl
theorem wp_draw {m many : Int} (hm : 0 < many) (hl : many.natAbs.log2 < 9000) {w : W} (hw : w.length = 3) {Q : D → W → Prop} (q : ∀ r w', 0 ≤ r → r < many → w'.length = 3 → Q (.int r) w') : Wp (drawF m [.int many]) w Q := by
  match w, hw with
  | [a, b, c], _ =>
    have e : (drawF m [.int many]).run [a, b, c] = (if 0 < many ∧ many.natAbs.log2 < 9000 then
      (if 0 < b then some (.int (b % many), [a, b / many, c])
        else some (.int ((a * (a % 20011 + 30011) + 70001 * (c + 1) + 9) % m / 128 % many), [(a * (a % 20011 + 30011) + 70001 * (c + 1) + 9) % m, b, c + 1])) else none) := rfl
    rw [if_pos ⟨hm, hl⟩] at e
    by_cases hb : 0 < b
    · rw [if_pos hb] at e
      exact ⟨_, _, e, q _ _ (Int.emod_nonneg _ (by omega)) (Int.emod_lt_of_pos _ hm) rfl⟩
    · rw [if_neg hb] at e
      exact ⟨_, _, e, q _ _ (Int.emod_nonneg _ (by omega)) (Int.emod_lt_of_pos _ hm) rfl⟩
theorem wp_ev {m : M D} {d : D} (h : Ev m d) {w : W} {Q : D → W → Prop} (q : Q d w) : Wp m w Q := ⟨d, w, h w, q⟩
end RX

-- PWpool
set_option Elab.async false
set_option linter.all false
set_option maxRecDepth 100000
set_option maxHeartbeats 1000000
set_option exponentiation.threshold 20000
/-! PWpool: the laws' pool. -/
namespace RX
open PySem
def poolB (c1 c2 c3 m : Int) : SL := .cons (.par false [3, 4] (.cons (.ite (.cmp .lt (.loc 1) (.b1 .len (.loc 0))) (.b1 .int (.idx (.loc 0) (.loc 1))) (.bin .add (.bin .mul (.cst (.int 70001)) (.loc 1)) (.cst (.int c1)))) (.cons (.bin .add (.cst (.int c2)) (.bin .mul (.cst (.int 5087)) (.loc 1))) .nil))) (.cons (.for [2] (.seq (.slc false true (.loc 0) (.cst .none) (.cst (.int 63)))) (.cons (.asg false 4 (.bin .mod (.b1 .int (.bin .add (.bin .add (.bin .mul (.loc 4) (.cst (.int 48271))) (.bin .mod (.b1 .int (.loc 2)) (.cst (.int m)))) (.cst (.int c3)))) (.cst (.int m)))) .nil)) .nil)
def poolE (m : Int) : E := .lst (.cons (.bin .mod (.b1 .int (.bin .add (.loc 4) (.bin .mul (.loc 3) (.cst (.int 1013))))) (.cst (.int m))) (.cons (.ite (.or (.cmp .lt (.loc 3) (.cst (.int 0))) (.cmp .ge (.loc 3) (.bin .pow (.cst (.int 10)) (.cst (.int 18))))) (.b1 .abs (.loc 3)) (.cst (.int 0))) (.cons (.cst (.int 0)) .nil)))
theorem sz2' : (2 : Nat) ≤ sizeLine := by decide
theorem log_le {n k : Nat} (h : n < 2 ^ 40) (hk : k < 2 ^ 40) : n.log2 + k.log2 < 100000000 := by
  have h1 := log2_lt_pow h (by decide)
  have h2 := log2_lt_pow hk (by decide)
  omega
theorem cut63 {l : List D} (h : l.length ≤ 63) : cutD l none (some 63) = l := by
  unfold cutD
  have e1 : HT.sIx l.length 0 none = 0 := rfl
  have e2 : HT.sIx l.length l.length (some 63) = l.length := by
    unfold HT.sIx
    simp
    omega
  rw [e1, e2]
  simp
def PoolQ (ns : List Int) (j : Nat) (o : Out) (w : W) : Prop := w = [] ∧ ∃ i s a2, o = .next [some (false, .list (ns.map .int)), some (false, .int (j : Int)), a2, some (false, .int i), some (false, .int s)] ∧ i.natAbs.log2 ≤ 1048576
theorem idx_at0 {l : List D} {i : Nat} {x : D} (h : l[i]? = some x) : L2.atI l (i : Int) = some x := by
  unfold L2.atI L2.ixN
  have hl : i < l.length := (List.getElem?_eq_some_iff.mp h).1
  simp [hl]
  exact (List.getElem?_eq_some_iff.mp h).2
theorem pool_run {c1 c2 c3 m : Int} (h1 : 0 ≤ c1 ∧ c1 < 2 ^ 30) (h2 : 0 ≤ c2 ∧ c2 < 2 ^ 30) (h3 : 0 ≤ c3 ∧ c3 < 2 ^ 30) (hm : 0 < m ∧ m < 2 ^ 32) {ns : List Int} (hl : ns.length ≤ 63) (hb : ∀ z ∈ ns, Builtin.Int.intBits z ≤ 1048576) {j : Nat} (hj : j ≤ 100) :
    Wp (evSL ⟨[], []⟩ (poolB c1 c2 c3 m) (env0 false 5 [.list (ns.map .int), .int (j : Int)])) [] (PoolQ ns j) := by
  have key : ∀ own : Int, own.natAbs.log2 ≤ 1048576 → Wp (evSL ⟨[], []⟩ (.cons (.for [2] (.seq (.slc false true (.loc 0) (.cst .none) (.cst (.int 63)))) (.cons (.asg false 4 (.bin .mod (.b1 .int (.bin .add (.bin .add (.bin .mul (.loc 4) (.cst (.int 48271))) (.bin .mod (.b1 .int (.loc 2)) (.cst (.int m)))) (.cst (.int c3)))) (.cst (.int m)))) .nil)) .nil) [some (false, .list (ns.map .int)), some (false, .int (j : Int)), none, some (false, .int own), some (false, .int (c2 + 5087 * (j : Int)))]) [] (PoolQ ns j) := fun own ho => by
    rw [wp_SL]
    refine wp_forL PyData.int ns (fun i ρ w => w = [] ∧ ∃ s a2, 0 ≤ s ∧ s < 2 ^ 38 ∧ ρ = [some (false, .list (ns.map .int)), some (false, .int (j : Int)), a2, some (false, .int own), some (false, .int s)]) ?_ ?_ ?_
    · have hc := cut63 (l := ns.map PyData.int) (by rw [List.length_map]; exact hl)
      simp [-Prod.forall, -Prod.exists, -List.map_map, -List.getD_eq_getElem?_getD, wp_loc, wp_cst, wp_glb, wp_ed, wp_bin, wp_neg, wp_not, wp_and, wp_or, wp_cmp, wp_iteE, wp_tup, wp_lst, wp_idx, wp_b1, wp_b2, wp_isi, wp_slcF, wp_slcT, wp_callP, wp_call, wp_callK, fnAt0, fnAtS, wp_nil, wp_cons, wp_seq, wp_rng, wp_rng2, wp_SLnil, wp_SL, Rest, wp_asg, wp_asgD, wp_new, wp_free, wp_app, wp_iteS, wp_retS, wp_expr, wp_par, wp_asgT, wp_parN, wp_popT, env0, rdE, visE, allE, get2, getv, visO, allO, setAll, setAll2, bindT, bindT2, wipeE, noL, noLs, listAt, permA_nil, permA10, permA210, sz2', bop.eq_1, bop.eq_2, bop.eq_3, bop.eq_4, bop.eq_5, bop.eq_6, bop.eq_7, bop.eq_8, bop.eq_9, cop_eq_int, cop_ne_int, cop_eq_bool, cop_ne_bool, repr_two, repr_bool, cop.eq_3, cop.eq_4, cop.eq_5, cop.eq_6, cop.eq_7, cop.eq_8, cop.eq_9, cop.eq_10, cop.eq_11, cop.eq_12, cop.eq_13, cop.eq_14, cop.eq_15, bi1.eq_1, bi1.eq_2, bi1.eq_3, bi1.eq_4, bi1.eq_5, bi1.eq_6, bi1.eq_7, bi1.eq_8, bi1.eq_9, bi1.eq_10, bi1.eq_11, bi1.eq_12, bi1.eq_13, bi1.eq_14, bi1.eq_19, bi2.eq_1, bi2.eq_2, bi2.eq_3, bi2.eq_4, asInt.eq_1, asBool.eq_1, items.eq_1, items.eq_2, items.eq_3, slc.eq_1, slc.eq_2, slc.eq_3, isInst.eq_1, isInst.eq_2, isInst.eq_3, isInst.eq_4, isInst.eq_5, isInst.eq_6, isInst.eq_7, isO.eq_1, isO.eq_2, isO.eq_3, isO.eq_4, isO.eq_5, isO.eq_6, isO.eq_7, inD.eq_1, inD.eq_2, inD.eq_3, hc]
      omega
    · rintro i z ρ w hz ⟨rfl, s, a2, s0, s1, rfl⟩
      refine ⟨_, rfl, ?_⟩
      have l1 := log_le (n := s.natAbs) (k := 48271) (by omega) (by decide)
      simp [-Prod.forall, -Prod.exists, -List.map_map, -List.getD_eq_getElem?_getD, wp_loc, wp_cst, wp_glb, wp_ed, wp_bin, wp_neg, wp_not, wp_and, wp_or, wp_cmp, wp_iteE, wp_tup, wp_lst, wp_idx, wp_b1, wp_b2, wp_isi, wp_slcF, wp_slcT, wp_callP, wp_call, wp_callK, fnAt0, fnAtS, wp_nil, wp_cons, wp_seq, wp_rng, wp_rng2, wp_SLnil, wp_SL, Rest, wp_asg, wp_asgD, wp_new, wp_free, wp_app, wp_iteS, wp_retS, wp_expr, wp_par, wp_asgT, wp_parN, wp_popT, env0, rdE, visE, allE, get2, getv, visO, allO, setAll, setAll2, bindT, bindT2, wipeE, noL, noLs, listAt, permA_nil, permA10, permA210, sz2', bop.eq_1, bop.eq_2, bop.eq_3, bop.eq_4, bop.eq_5, bop.eq_6, bop.eq_7, bop.eq_8, bop.eq_9, cop_eq_int, cop_ne_int, cop_eq_bool, cop_ne_bool, repr_two, repr_bool, cop.eq_3, cop.eq_4, cop.eq_5, cop.eq_6, cop.eq_7, cop.eq_8, cop.eq_9, cop.eq_10, cop.eq_11, cop.eq_12, cop.eq_13, cop.eq_14, cop.eq_15, bi1.eq_1, bi1.eq_2, bi1.eq_3, bi1.eq_4, bi1.eq_5, bi1.eq_6, bi1.eq_7, bi1.eq_8, bi1.eq_9, bi1.eq_10, bi1.eq_11, bi1.eq_12, bi1.eq_13, bi1.eq_14, bi1.eq_19, bi2.eq_1, bi2.eq_2, bi2.eq_3, bi2.eq_4, asInt.eq_1, asBool.eq_1, items.eq_1, items.eq_2, items.eq_3, slc.eq_1, slc.eq_2, slc.eq_3, isInst.eq_1, isInst.eq_2, isInst.eq_3, isInst.eq_4, isInst.eq_5, isInst.eq_6, isInst.eq_7, isO.eq_1, isO.eq_2, isO.eq_3, isO.eq_4, isO.eq_5, isO.eq_6, isO.eq_7, inD.eq_1, inD.eq_2, inD.eq_3, hm.1, l1]
      have e1 := Int.emod_nonneg (s * 48271 + z % m + c3) (show m ≠ 0 by omega)
      have e2 := Int.emod_lt_of_pos (s * 48271 + z % m + c3) hm.1
      refine ⟨e1, by omega⟩
    · rintro ρ w ⟨rfl, s, a2, s0, s1, rfl⟩
      simp [-Prod.forall, -Prod.exists, -List.map_map, -List.getD_eq_getElem?_getD, wp_loc, wp_cst, wp_glb, wp_ed, wp_bin, wp_neg, wp_not, wp_and, wp_or, wp_cmp, wp_iteE, wp_tup, wp_lst, wp_idx, wp_b1, wp_b2, wp_isi, wp_slcF, wp_slcT, wp_callP, wp_call, wp_callK, fnAt0, fnAtS, wp_nil, wp_cons, wp_seq, wp_rng, wp_rng2, wp_SLnil, wp_SL, Rest, wp_asg, wp_asgD, wp_new, wp_free, wp_app, wp_iteS, wp_retS, wp_expr, wp_par, wp_asgT, wp_parN, wp_popT, env0, rdE, visE, allE, get2, getv, visO, allO, setAll, setAll2, bindT, bindT2, wipeE, noL, noLs, listAt, permA_nil, permA10, permA210, sz2', bop.eq_1, bop.eq_2, bop.eq_3, bop.eq_4, bop.eq_5, bop.eq_6, bop.eq_7, bop.eq_8, bop.eq_9, cop_eq_int, cop_ne_int, cop_eq_bool, cop_ne_bool, repr_two, repr_bool, cop.eq_3, cop.eq_4, cop.eq_5, cop.eq_6, cop.eq_7, cop.eq_8, cop.eq_9, cop.eq_10, cop.eq_11, cop.eq_12, cop.eq_13, cop.eq_14, cop.eq_15, bi1.eq_1, bi1.eq_2, bi1.eq_3, bi1.eq_4, bi1.eq_5, bi1.eq_6, bi1.eq_7, bi1.eq_8, bi1.eq_9, bi1.eq_10, bi1.eq_11, bi1.eq_12, bi1.eq_13, bi1.eq_14, bi1.eq_19, bi2.eq_1, bi2.eq_2, bi2.eq_3, bi2.eq_4, asInt.eq_1, asBool.eq_1, items.eq_1, items.eq_2, items.eq_3, slc.eq_1, slc.eq_2, slc.eq_3, isInst.eq_1, isInst.eq_2, isInst.eq_3, isInst.eq_4, isInst.eq_5, isInst.eq_6, isInst.eq_7, isO.eq_1, isO.eq_2, isO.eq_3, isO.eq_4, isO.eq_5, isO.eq_6, isO.eq_7, inD.eq_1, inD.eq_2, inD.eq_3]
      exact ⟨rfl, _, _, _, rfl, ho⟩
  unfold poolB
  rw [wp_SL, wp_par]
  have l1 := log_le (n := 70001) (k := j) (by decide) (by omega)
  have l2 := log_le (n := 5087) (k := j) (by decide) (by omega)
  by_cases hc : j < ns.length
  · obtain ⟨z, hz⟩ : ∃ z, ns[j]? = some z := ⟨_, List.getElem?_eq_getElem hc⟩
    have hi : idx (.list (ns.map PyData.int)) (.int (j : Int)) = some (.int z) := by
      show ixD (ns.map PyData.int) _ = _
      exact idx_at0 (by rw [List.getElem?_map, hz]; rfl)
    have hzb : z.natAbs.log2 ≤ 1048576 := by
      have := hb z (List.mem_of_getElem? hz)
      unfold Builtin.Int.intBits at this
      split at this
      · rename_i h
        rw [show z = 0 by simpa using h]
        decide
      · omega
    simp [-Prod.forall, -Prod.exists, -List.map_map, -List.getD_eq_getElem?_getD, wp_loc, wp_cst, wp_glb, wp_ed, wp_bin, wp_neg, wp_not, wp_and, wp_or, wp_cmp, wp_iteE, wp_tup, wp_lst, wp_idx, wp_b1, wp_b2, wp_isi, wp_slcF, wp_slcT, wp_callP, wp_call, wp_callK, fnAt0, fnAtS, wp_nil, wp_cons, wp_seq, wp_rng, wp_rng2, wp_SLnil, Rest, wp_asg, wp_asgD, wp_new, wp_free, wp_app, wp_iteS, wp_retS, wp_expr, wp_par, wp_asgT, wp_parN, wp_popT, env0, rdE, visE, allE, get2, getv, visO, allO, setAll, setAll2, bindT, bindT2, wipeE, noL, noLs, listAt, permA_nil, permA10, permA210, sz2', bop.eq_1, bop.eq_2, bop.eq_3, bop.eq_4, bop.eq_5, bop.eq_6, bop.eq_7, bop.eq_8, bop.eq_9, cop_eq_int, cop_ne_int, cop_eq_bool, cop_ne_bool, repr_two, repr_bool, cop.eq_3, cop.eq_4, cop.eq_5, cop.eq_6, cop.eq_7, cop.eq_8, cop.eq_9, cop.eq_10, cop.eq_11, cop.eq_12, cop.eq_13, cop.eq_14, cop.eq_15, bi1.eq_1, bi1.eq_2, bi1.eq_3, bi1.eq_4, bi1.eq_5, bi1.eq_6, bi1.eq_7, bi1.eq_8, bi1.eq_9, bi1.eq_10, bi1.eq_11, bi1.eq_12, bi1.eq_13, bi1.eq_14, bi1.eq_19, bi2.eq_1, bi2.eq_2, bi2.eq_3, bi2.eq_4, asInt.eq_1, asBool.eq_1, items.eq_1, items.eq_2, items.eq_3, slc.eq_1, slc.eq_2, slc.eq_3, isInst.eq_1, isInst.eq_2, isInst.eq_3, isInst.eq_4, isInst.eq_5, isInst.eq_6, isInst.eq_7, isO.eq_1, isO.eq_2, isO.eq_3, isO.eq_4, isO.eq_5, isO.eq_6, isO.eq_7, inD.eq_1, inD.eq_2, inD.eq_3, hc, hi, l2]
    exact key z hzb
  · simp [-Prod.forall, -Prod.exists, -List.map_map, -List.getD_eq_getElem?_getD, wp_loc, wp_cst, wp_glb, wp_ed, wp_bin, wp_neg, wp_not, wp_and, wp_or, wp_cmp, wp_iteE, wp_tup, wp_lst, wp_idx, wp_b1, wp_b2, wp_isi, wp_slcF, wp_slcT, wp_callP, wp_call, wp_callK, fnAt0, fnAtS, wp_nil, wp_cons, wp_seq, wp_rng, wp_rng2, wp_SLnil, Rest, wp_asg, wp_asgD, wp_new, wp_free, wp_app, wp_iteS, wp_retS, wp_expr, wp_par, wp_asgT, wp_parN, wp_popT, env0, rdE, visE, allE, get2, getv, visO, allO, setAll, setAll2, bindT, bindT2, wipeE, noL, noLs, listAt, permA_nil, permA10, permA210, sz2', bop.eq_1, bop.eq_2, bop.eq_3, bop.eq_4, bop.eq_5, bop.eq_6, bop.eq_7, bop.eq_8, bop.eq_9, cop_eq_int, cop_ne_int, cop_eq_bool, cop_ne_bool, repr_two, repr_bool, cop.eq_3, cop.eq_4, cop.eq_5, cop.eq_6, cop.eq_7, cop.eq_8, cop.eq_9, cop.eq_10, cop.eq_11, cop.eq_12, cop.eq_13, cop.eq_14, cop.eq_15, bi1.eq_1, bi1.eq_2, bi1.eq_3, bi1.eq_4, bi1.eq_5, bi1.eq_6, bi1.eq_7, bi1.eq_8, bi1.eq_9, bi1.eq_10, bi1.eq_11, bi1.eq_12, bi1.eq_13, bi1.eq_14, bi1.eq_19, bi2.eq_1, bi2.eq_2, bi2.eq_3, bi2.eq_4, asInt.eq_1, asBool.eq_1, items.eq_1, items.eq_2, items.eq_3, slc.eq_1, slc.eq_2, slc.eq_3, isInst.eq_1, isInst.eq_2, isInst.eq_3, isInst.eq_4, isInst.eq_5, isInst.eq_6, isInst.eq_7, isO.eq_1, isO.eq_2, isO.eq_3, isO.eq_4, isO.eq_5, isO.eq_6, isO.eq_7, inD.eq_1, inD.eq_2, inD.eq_3, hc, l1, l2]
    exact key _ (by
      have : (70001 * (j : Int) + c1).natAbs < 2 ^ 40 := by omega
      exact Nat.le_trans (Nat.le_of_lt (log2_lt_pow this (by decide))) (by decide))
theorem pool_list {m i s : Int} (hm : 0 < m ∧ m < 2 ^ 32) {x y z : Option D} (hi : i.natAbs.log2 ≤ 1048576) : Wp (evE ⟨[], []⟩ (poolE m) [x, y, z, some (.int i), some (.int s)]) [] fun d w => ∃ a b c, d = .list [.int a, .int b, .int c] := by
  have l1 : i.natAbs.log2 + Nat.log2 1013 < 100000000 := by
    have : Nat.log2 1013 = 9 := by decide
    omega
  unfold poolE
  have h3 : 3 ≤ sizeLine := by decide
  by_cases h1 : i < 0
  · simp [-Prod.forall, -Prod.exists, -List.map_map, -List.getD_eq_getElem?_getD, wp_loc, wp_cst, wp_glb, wp_ed, wp_bin, wp_neg, wp_not, wp_and, wp_or, wp_cmp, wp_iteE, wp_tup, wp_lst, wp_idx, wp_b1, wp_b2, wp_isi, wp_slcF, wp_slcT, wp_callP, wp_call, wp_callK, fnAt0, fnAtS, wp_nil, wp_cons, wp_seq, wp_rng, wp_rng2, wp_SLnil, wp_SL, Rest, wp_asg, wp_asgD, wp_new, wp_free, wp_app, wp_iteS, wp_retS, wp_expr, wp_par, wp_asgT, wp_parN, wp_popT, env0, rdE, visE, allE, get2, getv, visO, allO, setAll, setAll2, bindT, bindT2, wipeE, noL, noLs, listAt, permA_nil, permA10, permA210, sz2', bop.eq_1, bop.eq_2, bop.eq_3, bop.eq_4, bop.eq_5, bop.eq_6, bop.eq_7, bop.eq_8, bop.eq_9, cop_eq_int, cop_ne_int, cop_eq_bool, cop_ne_bool, repr_two, repr_bool, cop.eq_3, cop.eq_4, cop.eq_5, cop.eq_6, cop.eq_7, cop.eq_8, cop.eq_9, cop.eq_10, cop.eq_11, cop.eq_12, cop.eq_13, cop.eq_14, cop.eq_15, bi1.eq_1, bi1.eq_2, bi1.eq_3, bi1.eq_4, bi1.eq_5, bi1.eq_6, bi1.eq_7, bi1.eq_8, bi1.eq_9, bi1.eq_10, bi1.eq_11, bi1.eq_12, bi1.eq_13, bi1.eq_14, bi1.eq_19, bi2.eq_1, bi2.eq_2, bi2.eq_3, bi2.eq_4, asInt.eq_1, asBool.eq_1, items.eq_1, items.eq_2, items.eq_3, slc.eq_1, slc.eq_2, slc.eq_3, isInst.eq_1, isInst.eq_2, isInst.eq_3, isInst.eq_4, isInst.eq_5, isInst.eq_6, isInst.eq_7, isO.eq_1, isO.eq_2, isO.eq_3, isO.eq_4, isO.eq_5, isO.eq_6, isO.eq_7, inD.eq_1, inD.eq_2, inD.eq_3, hm.1, l1, h1, h3]
  · by_cases h2 : i ≥ 10 ^ 18
    · have h2' : 1000000000000000000 ≤ i := h2
      simp [-Prod.forall, -Prod.exists, -List.map_map, -List.getD_eq_getElem?_getD, wp_loc, wp_cst, wp_glb, wp_ed, wp_bin, wp_neg, wp_not, wp_and, wp_or, wp_cmp, wp_iteE, wp_tup, wp_lst, wp_idx, wp_b1, wp_b2, wp_isi, wp_slcF, wp_slcT, wp_callP, wp_call, wp_callK, fnAt0, fnAtS, wp_nil, wp_cons, wp_seq, wp_rng, wp_rng2, wp_SLnil, wp_SL, Rest, wp_asg, wp_asgD, wp_new, wp_free, wp_app, wp_iteS, wp_retS, wp_expr, wp_par, wp_asgT, wp_parN, wp_popT, env0, rdE, visE, allE, get2, getv, visO, allO, setAll, setAll2, bindT, bindT2, wipeE, noL, noLs, listAt, permA_nil, permA10, permA210, sz2', bop.eq_1, bop.eq_2, bop.eq_3, bop.eq_4, bop.eq_5, bop.eq_6, bop.eq_7, bop.eq_8, bop.eq_9, cop_eq_int, cop_ne_int, cop_eq_bool, cop_ne_bool, repr_two, repr_bool, cop.eq_3, cop.eq_4, cop.eq_5, cop.eq_6, cop.eq_7, cop.eq_8, cop.eq_9, cop.eq_10, cop.eq_11, cop.eq_12, cop.eq_13, cop.eq_14, cop.eq_15, bi1.eq_1, bi1.eq_2, bi1.eq_3, bi1.eq_4, bi1.eq_5, bi1.eq_6, bi1.eq_7, bi1.eq_8, bi1.eq_9, bi1.eq_10, bi1.eq_11, bi1.eq_12, bi1.eq_13, bi1.eq_14, bi1.eq_19, bi2.eq_1, bi2.eq_2, bi2.eq_3, bi2.eq_4, asInt.eq_1, asBool.eq_1, items.eq_1, items.eq_2, items.eq_3, slc.eq_1, slc.eq_2, slc.eq_3, isInst.eq_1, isInst.eq_2, isInst.eq_3, isInst.eq_4, isInst.eq_5, isInst.eq_6, isInst.eq_7, isO.eq_1, isO.eq_2, isO.eq_3, isO.eq_4, isO.eq_5, isO.eq_6, isO.eq_7, inD.eq_1, inD.eq_2, inD.eq_3, hm.1, l1, h1, h2', h3]
    · have h2' : ¬ 1000000000000000000 ≤ i := h2
      simp [-Prod.forall, -Prod.exists, -List.map_map, -List.getD_eq_getElem?_getD, wp_loc, wp_cst, wp_glb, wp_ed, wp_bin, wp_neg, wp_not, wp_and, wp_or, wp_cmp, wp_iteE, wp_tup, wp_lst, wp_idx, wp_b1, wp_b2, wp_isi, wp_slcF, wp_slcT, wp_callP, wp_call, wp_callK, fnAt0, fnAtS, wp_nil, wp_cons, wp_seq, wp_rng, wp_rng2, wp_SLnil, wp_SL, Rest, wp_asg, wp_asgD, wp_new, wp_free, wp_app, wp_iteS, wp_retS, wp_expr, wp_par, wp_asgT, wp_parN, wp_popT, env0, rdE, visE, allE, get2, getv, visO, allO, setAll, setAll2, bindT, bindT2, wipeE, noL, noLs, listAt, permA_nil, permA10, permA210, sz2', bop.eq_1, bop.eq_2, bop.eq_3, bop.eq_4, bop.eq_5, bop.eq_6, bop.eq_7, bop.eq_8, bop.eq_9, cop_eq_int, cop_ne_int, cop_eq_bool, cop_ne_bool, repr_two, repr_bool, cop.eq_3, cop.eq_4, cop.eq_5, cop.eq_6, cop.eq_7, cop.eq_8, cop.eq_9, cop.eq_10, cop.eq_11, cop.eq_12, cop.eq_13, cop.eq_14, cop.eq_15, bi1.eq_1, bi1.eq_2, bi1.eq_3, bi1.eq_4, bi1.eq_5, bi1.eq_6, bi1.eq_7, bi1.eq_8, bi1.eq_9, bi1.eq_10, bi1.eq_11, bi1.eq_12, bi1.eq_13, bi1.eq_14, bi1.eq_19, bi2.eq_1, bi2.eq_2, bi2.eq_3, bi2.eq_4, asInt.eq_1, asBool.eq_1, items.eq_1, items.eq_2, items.eq_3, slc.eq_1, slc.eq_2, slc.eq_3, isInst.eq_1, isInst.eq_2, isInst.eq_3, isInst.eq_4, isInst.eq_5, isInst.eq_6, isInst.eq_7, isO.eq_1, isO.eq_2, isO.eq_3, isO.eq_4, isO.eq_5, isO.eq_6, isO.eq_7, inD.eq_1, inD.eq_2, inD.eq_3, hm.1, l1, h1, h2', h3]
theorem pool_ws {c1 c2 c3 m : Int} (h1 : 0 ≤ c1 ∧ c1 < 2 ^ 30) (h2 : 0 ≤ c2 ∧ c2 < 2 ^ 30) (h3 : 0 ≤ c3 ∧ c3 < 2 ^ 30) (hm : 0 < m ∧ m < 2 ^ 32) {ns : List Int} (hl : ns.length ≤ 63) (hb : ∀ z ∈ ns, Builtin.Int.intBits z ≤ 1048576) {j : Nat} (hj : j ≤ 100) :
    ∃ ws, runN ⟨[], []⟩ 5 (poolB c1 c2 c3 m) (poolE m) [.list (ns.map .int), .int (j : Int)] = some ws ∧ ws.length = 3 := by
  obtain ⟨o, w, e, rfl, i, s, a2, rfl, hi⟩ := pool_run h1 h2 h3 hm hl hb hj
  obtain ⟨d, w', e2, a, b, c, rfl⟩ := pool_list (i := i) (s := s) (x := some (.list (ns.map .int))) (y := some (.int (j : Int))) (z := visO a2) hm hi
  refine ⟨[a, b, c], ?_, rfl⟩
  unfold runN
  rw [e]
  show ((evE ⟨[], []⟩ (poolE m) (visE _)).run []).bind _ = _
  rw [show visE [some (false, .list (ns.map .int)), some (false, .int (j : Int)), a2, some (false, .int i), some (false, .int s)] = [some (.list (ns.map .int)), some (.int (j : Int)), visO a2, some (.int i), some (.int s)] from rfl, e2]
  rfl
/-- the law's range over max(a, min(len, b)) -/
theorem law_range {C : Ctx} {a b : Nat} (hb : b ≤ 100) (ha : a ≤ 100) (ns : List Int) : (evIt C (.rng (.b2 .max (.cst (.int (a : Int))) (.b2 .min (.b1 .len (.loc 0)) (.cst (.int (b : Int)))))) [some (.list (ns.map .int)), none]).run [] = some ((List.range (max a (min ns.length b))).map fun k => PyData.int (k : Nat), []) := by
  have hn : max a (min ns.length b) ≤ 100 := by omega
  have e : (if (if (b : Int) < ((ns.map PyData.int).length : Nat) then (b : Int) else ((ns.map PyData.int).length : Nat)) > (a : Int) then (if (b : Int) < ((ns.map PyData.int).length : Nat) then (b : Int) else ((ns.map PyData.int).length : Nat)) else (a : Int)) = ((max a (min ns.length b) : Nat) : Int) := by
    rw [List.length_map]
    split <;> split <;> omega
  have hr : rangeD 0 ((max a (min ns.length b) : Nat) : Int) = some ((List.range (max a (min ns.length b))).map fun k => PyData.int (k : Nat)) := by
    unfold rangeD
    rw [if_pos ⟨by decide, by decide, by omega, by omega, by omega⟩]
    simp
  show (lift (rangeD 0 (if (if (b : Int) < ((ns.map PyData.int).length : Nat) then (b : Int) else ((ns.map PyData.int).length : Nat)) > (a : Int) then (if (b : Int) < ((ns.map PyData.int).length : Nat) then (b : Int) else ((ns.map PyData.int).length : Nat)) else (a : Int))) : M (List D)).run [] = _
  rw [e, hr]
  rfl
/-- a law of this form by what its one def says -/
theorem plain_of {C : Ctx} {a b : Nat} (hb : b ≤ 100) (ha : a ≤ 100) {c1 c2 c3 m : Int} (h1 : 0 ≤ c1 ∧ c1 < 2 ^ 30) (h2 : 0 ≤ c2 ∧ c2 < 2 ^ 30) (h3 : 0 ≤ c3 ∧ c3 < 2 ^ 30) (hm : 0 < m ∧ m < 2 ^ 32) {mr : Fn} (hr : ∀ w : W, w.length = 3 → Wp (mr []) w fun d _ => d = .bool true) :
    Plain C (.rng (.b2 .max (.cst (.int (a : Int))) (.b2 .min (.b1 .len (.loc 0)) (.cst (.int (b : Int)))))) (runN ⟨[], []⟩ 5 (poolB c1 c2 c3 m) (poolE m)) mr := by
  intro ns hl hbits
  refine ⟨_, [], law_range hb ha ns, fun x hx => ?_⟩
  obtain ⟨k, hk, rfl⟩ := List.mem_map.mp hx
  have hk := List.mem_range.mp hk
  obtain ⟨ws, e, hw⟩ := pool_ws h1 h2 h3 hm hl hbits (j := k) (by omega)
  obtain ⟨d, w', e2, rfl⟩ := hr ws hw
  exact ⟨_, ws, w', rfl, e, e2⟩
end RX

-- PW2
set_option Elab.async false
set_option linter.all false
set_option maxRecDepth 100000
set_option maxHeartbeats 1000000
set_option exponentiation.threshold 20000
/-! PW2: more rules by the syntax: chains, reversals, methods, dict comprehensions, comprehensions whose test draws, while. -/
namespace RX
open PySem
section
variable {C : Ctx} {ρ : Env} {w : W} {Q : D → W → Prop}
def revD : D → Option D
  | .list xs => some (.list xs.reverse)
  | .tuple xs => some (.tuple xs.reverse)
  | _ => none
theorem wp_rev {a : E} : Wp (evE C (.rev a) ρ) w Q ↔ Wp (evE C a ρ) w fun x w => ∃ y, revD x = some y ∧ Q y w := by
  rw [show evE C (.rev a) ρ = (evE C a ρ >>= fun x => match x with
    | .list xs => pure (.list xs.reverse)
    | .tuple xs => pure (.tuple xs.reverse)
    | _ => lift none) from rfl]
  simp only [wp_bind]
  constructor
  · refine fun h => h.mono fun a w' q => ?_
    cases a with
    | list xs => exact ⟨_, rfl, wp_pure.mp q⟩
    | tuple xs => exact ⟨_, rfl, wp_pure.mp q⟩
    | _ => obtain ⟨_, e, _⟩ := wp_lift.mp q; cases e
  · exact fun h => h.mono fun a w' q => by
      obtain ⟨y, e, q⟩ := q
      cases a with
      | list xs => cases e; exact wp_pure.mpr q
      | tuple xs => cases e; exact wp_pure.mpr q
      | _ => cases e
theorem wp_m0 {m : String} {a : E} : Wp (evE C (.m0 m a) ρ) w Q ↔ Wp (evE C a ρ) w fun x w => ∃ y, m0D m x = some y ∧ Q y w := by
  rw [show evE C (.m0 m a) ρ = (evE C a ρ >>= fun x => lift (m0D m x)) from rfl]
  simp only [wp_bind, wp_lift]
theorem wp_dget {a k z : E} : Wp (evE C (.dget a k z) ρ) w Q ↔ Wp (evE C a ρ) w fun x w => ∃ xs, asDc x = some xs ∧ Wp (evE C k ρ) w fun y w => Wp (evE C z ρ) w fun d w => ∃ ks, toTK y = some ks ∧ Q ((atDc xs ks).getD d) w := by
  rw [show evE C (.dget a k z) ρ = (evE C a ρ >>= fun x => lift (asDc x) >>= fun xs => evE C k ρ >>= fun y => evE C z ρ >>= fun d => lift (toTK y) >>= fun ks => pure ((atDc xs ks).getD d)) from rfl]
  simp only [wp_bind, wp_lift, wp_pure]
theorem wp_chain {o p : Cop} {a b c : E} : Wp (evE C (.chain o p a b c) ρ) w Q ↔ Wp (evE C a ρ) w fun x w => Wp (evE C b ρ) w fun y w => ∃ t, cop o x y = some t ∧ if t = true then Wp (evE C c ρ) w fun z w => ∃ u, cop p y z = some u ∧ Q (.bool u) w else Q (.bool false) w := by
  rw [show evE C (.chain o p a b c) ρ = (evE C a ρ >>= fun x => evE C b ρ >>= fun y => lift (cop o x y) >>= fun k => if k then (evE C c ρ >>= fun z => lift (cop p y z) >>= fun k => pure (.bool k)) else pure (.bool false)) from rfl]
  simp only [wp_bind, wp_lift, wp_pure, wp_ite]
theorem wp_slcN {a lo hi : E} : Wp (evE C (.slc false false a lo hi) ρ) w Q ↔ Wp (evE C a ρ) w fun x w => ∃ z, slc x none none = some z ∧ Q z w := by
  rw [show evE C (.slc false false a lo hi) ρ = (evE C a ρ >>= fun x => (pure none : M (Option Int)) >>= fun l => (pure none : M (Option Int)) >>= fun h => lift (slc x l h)) from rfl]
  simp only [wp_bind, wp_lift, wp_pure]
theorem wp_slcB {a lo hi : E} : Wp (evE C (.slc true true a lo hi) ρ) w Q ↔ Wp (evE C a ρ) w fun x w => Wp (evE C lo ρ) w fun y w => ∃ i, asInt y = some i ∧ Wp (evE C hi ρ) w fun y w => ∃ j, asInt y = some j ∧ ∃ z, slc x (some i) (some j) = some z ∧ Q z w := by
  rw [show evE C (.slc true true a lo hi) ρ = (evE C a ρ >>= fun x => (evE C lo ρ >>= fun y => lift (asInt y) >>= fun i => pure (some i)) >>= fun l => (evE C hi ρ >>= fun y => lift (asInt y) >>= fun i => pure (some i)) >>= fun h => lift (slc x l h)) from rfl]
  simp only [wp_bind, wp_lift, wp_pure]
/-- a comprehension whose test draws: some of the list, in their order -/
theorem wp_compS {α : Type} {tg : List Nat} {it : It} {cond elt : E} (f h : α → D) (I : W → Prop) (l : List α) (hx : Wp (evIt C it ρ) w fun xs w' => xs = l.map f ∧ I w')
    (h1 : ∀ a ∈ l, ∃ ρ', bindT tg (f a) (wipeE tg ρ) = some ρ' ∧ (∀ w, I w → Wp (evE C cond ρ') w fun y w' => I w' ∧ ∃ b, y = .bool b) ∧ ∀ w, Wp (evE C elt ρ') w fun y w' => y = h a ∧ w' = w) (q : ∀ (bs : List α) (w : W), I w → List.Sublist bs l → Q (.list (bs.map h)) w) : Wp (evE C (.comp tg it true cond elt) ρ) w Q := by
  rw [show evE C (.comp tg it true cond elt) ρ = (evIt C it ρ >>= fun xs => compM (fun x => lift (bindT tg x (wipeE tg ρ)) >>= fun ρ' => (evE C cond ρ' >>= fun c => lift (asBool c) : M Bool) >>= fun b => if b then (evE C elt ρ' >>= fun y => pure (some y)) else pure none) xs >>= fun ys => pure (.list ys)) from rfl, wp_bind]
  refine hx.mono fun xs w1 ⟨e, hI⟩ => ?_
  subst e
  rw [wp_bind]
  have key : ∀ (l : List α) (w : W), (∀ a ∈ l, ∃ ρ', bindT tg (f a) (wipeE tg ρ) = some ρ' ∧ (∀ w, I w → Wp (evE C cond ρ') w fun y w' => I w' ∧ ∃ b, y = .bool b) ∧ ∀ w, Wp (evE C elt ρ') w fun y w' => y = h a ∧ w' = w) → I w →
      Wp (compM (fun x => lift (bindT tg x (wipeE tg ρ)) >>= fun ρ' => (evE C cond ρ' >>= fun c => lift (asBool c) : M Bool) >>= fun b => if b then (evE C elt ρ' >>= fun y => pure (some y)) else pure none) (l.map f)) w fun ys w' => I w' ∧ ∃ bs : List α, ys = bs.map h ∧ List.Sublist bs l := by
    intro l
    induction l with
    | nil => exact fun w _ hI => wp_pure.mpr ⟨hI, [], rfl, .slnil⟩
    | cons a r ih =>
      intro w h1 hI
      obtain ⟨ρ', e1, c1, t1⟩ := h1 a (List.mem_cons_self ..)
      rw [List.map_cons, show ∀ F : D → M (Option D), compM F (f a :: r.map f) = (F (f a) >>= fun o => compM F (r.map f) >>= fun ys => pure (match o with | some y => y :: ys | none => ys)) from fun _ => rfl, wp_bind, wp_bind, wp_lift]
      refine ⟨ρ', e1, ?_⟩
      rw [wp_bind, wp_bind]
      refine (c1 w hI).mono fun y w2 ⟨hI2, b, e⟩ => ?_
      subst e
      rw [wp_lift]
      refine ⟨b, rfl, ?_⟩
      cases b with
      | true =>
        show Wp (evE C elt ρ' >>= fun y => pure (some y)) w2 _
        rw [wp_bind]
        refine (t1 w2).mono fun y w3 ⟨e2, e3⟩ => ?_
        subst e2 e3
        rw [wp_pure, wp_bind]
        refine (ih w3 (fun b hb => h1 b (List.mem_cons_of_mem _ hb)) hI2).mono fun ys w4 ⟨hI4, bs, e4, sb⟩ => ?_
        subst e4
        exact wp_pure.mpr ⟨hI4, a :: bs, rfl, sb.cons_cons a⟩
      | false =>
        show Wp (pure none) w2 _
        rw [wp_pure, wp_bind]
        refine (ih w2 (fun b hb => h1 b (List.mem_cons_of_mem _ hb)) hI2).mono fun ys w4 ⟨hI4, bs, e4, sb⟩ => ?_
        subst e4
        exact wp_pure.mpr ⟨hI4, bs, rfl, sb.cons a⟩
  refine (key l w1 h1 hI).mono fun ys w2 ⟨hI2, bs, e, sb⟩ => ?_
  subst e
  exact wp_pure.mpr (q bs w2 hI2 sb)
/-- a dict comprehension that does not draw -/
theorem wp_dcompF {α : Type} {tg : List Nat} {it : It} {cond key val : E} (f : α → D) (k : α → List L2.Key) (v : α → D) (l : List α) (hx : Wp (evIt C it ρ) w fun xs w' => xs = l.map f ∧ w' = w)
    (h1 : ∀ a ∈ l, ∃ ρ', bindT tg (f a) (wipeE tg ρ) = some ρ' ∧ (∀ w, Wp (evE C key ρ') w fun y w' => y = keysD (k a) ∧ w' = w) ∧ ∀ w, Wp (evE C val ρ') w fun y w' => y = v a ∧ w' = w) (hk : ∀ a ∈ l, toTK (keysD (k a)) = some (k a)) (q : Q (dcD (l.foldl (fun acc a => putDc acc (k a) (v a)) [])) w) : Wp (evE C (.dcomp tg it false cond key val) ρ) w Q := by
  rw [show evE C (.dcomp tg it false cond key val) ρ = (evIt C it ρ >>= fun xs => compD (fun x => lift (bindT tg x (wipeE tg ρ)) >>= fun ρ' => (pure true : M Bool) >>= fun b => if b then (evE C key ρ' >>= fun k => evE C val ρ' >>= fun y => lift (toTK k) >>= fun ks => pure (some (ks, y))) else pure none) xs [] >>= fun ys => pure (dcD ys)) from rfl, wp_bind]
  refine hx.mono fun xs w1 ⟨e, e2⟩ => ?_
  subst e e2
  rw [wp_bind]
  have go : ∀ (l : List α) (acc : Dc) (w : W), (∀ a ∈ l, ∃ ρ', bindT tg (f a) (wipeE tg ρ) = some ρ' ∧ (∀ w, Wp (evE C key ρ') w fun y w' => y = keysD (k a) ∧ w' = w) ∧ ∀ w, Wp (evE C val ρ') w fun y w' => y = v a ∧ w' = w) → (∀ a ∈ l, toTK (keysD (k a)) = some (k a)) →
      Wp (compD (fun x => lift (bindT tg x (wipeE tg ρ)) >>= fun ρ' => (pure true : M Bool) >>= fun b => if b then (evE C key ρ' >>= fun k => evE C val ρ' >>= fun y => lift (toTK k) >>= fun ks => pure (some (ks, y))) else pure none) (l.map f) acc) w fun ys w' => ys = l.foldl (fun acc a => putDc acc (k a) (v a)) acc ∧ w' = w := by
    intro l
    induction l with
    | nil => exact fun acc w _ _ => wp_pure.mpr ⟨rfl, rfl⟩
    | cons a r ih =>
      intro acc w h1 hk
      obtain ⟨ρ', e1, c1, t1⟩ := h1 a (List.mem_cons_self ..)
      rw [List.map_cons, show ∀ F : D → M (Option (List L2.Key × D)), compD F (f a :: r.map f) acc = (F (f a) >>= fun o => compD F (r.map f) (match o with | some p => putDc acc p.1 p.2 | none => acc)) from fun _ => rfl, wp_bind, wp_bind, wp_lift]
      refine ⟨ρ', e1, ?_⟩
      rw [wp_bind, wp_pure]
      show Wp (evE C key ρ' >>= fun k => evE C val ρ' >>= fun y => lift (toTK k) >>= fun ks => pure (some (ks, y))) w _
      rw [wp_bind]
      refine (c1 w).mono fun y w2 ⟨e2, e3⟩ => ?_
      subst e2 e3
      rw [wp_bind]
      refine (t1 w2).mono fun y w3 ⟨e2, e3⟩ => ?_
      subst e2 e3
      rw [wp_bind, wp_lift]
      refine ⟨_, hk a (List.mem_cons_self ..), ?_⟩
      rw [wp_pure]
      exact ih _ w3 (fun b hb => h1 b (List.mem_cons_of_mem _ hb)) (fun b hb => hk b (List.mem_cons_of_mem _ hb))
  refine (go l [] w1 h1 hk).mono fun ys w2 ⟨e1, e2⟩ => ?_
  subst e1 e2
  exact wp_pure.mpr q
end
/-- while -/
theorem wp_whl {C : Ctx} {c : E} {b : SL} {Q : Out → W → Prop} (I : Nat → Env2 → W → Prop) (h : ∀ k ρ w, I k ρ w → Wp (evE C c (allE ρ)) w fun x w' => ∃ t, asBool x = some t ∧ if t = true then Wp (evSL C b ρ) w' fun o w2 => match o with
      | .next ρ' => ∃ k' < k, I k' ρ' w2
      | .cont ρ' => ∃ k' < k, I k' ρ' w2
      | .ret d => Q (.ret d) w2
      | .brk ρ' => Q (.next ρ') w2
    else Q (.next ρ) w') : ∀ (n k : Nat) (ρ : Env2) (w : W), k < n → I k ρ w → Wp (evS C (.whl n c b) ρ) w Q := by
  have go : ∀ (n k : Nat) (ρ : Env2) (w : W), k < n → I k ρ w → Wp (whileM (fun ρ => evT C c (allE ρ)) (evSL C b) n ρ) w Q := by
    intro n
    induction n with
    | zero => exact fun k ρ w hk _ => absurd hk (Nat.not_lt_zero _)
    | succ n ih =>
      intro k ρ w hk hI
      rw [show whileM (fun ρ => evT C c (allE ρ)) (evSL C b) (n + 1) ρ = ((evE C c (allE ρ) >>= fun x => lift (asBool x)) >>= fun t => if t then (evSL C b ρ >>= fun o => match o with
        | .next ρ' => whileM (fun ρ => evT C c (allE ρ)) (evSL C b) n ρ'
        | .cont ρ' => whileM (fun ρ => evT C c (allE ρ)) (evSL C b) n ρ'
        | .brk ρ' => pure (.next ρ')
        | .ret d => pure (.ret d)) else pure (.next ρ)) from rfl, wp_bind, wp_bind]
      refine (h k ρ w hI).mono fun x w1 ⟨t, e, q⟩ => ?_
      rw [wp_lift]
      refine ⟨t, e, ?_⟩
      cases t with
      | false => exact wp_pure.mpr q
      | true =>
        show Wp (evSL C b ρ >>= _) w1 Q
        rw [wp_bind]
        refine (show Wp (evSL C b ρ) w1 _ from q).mono fun o w2 q => ?_
        cases o with
        | next ρ' => obtain ⟨k', h1, h2⟩ := q; exact ih k' ρ' w2 (by omega) h2
        | cont ρ' => obtain ⟨k', h1, h2⟩ := q; exact ih k' ρ' w2 (by omega) h2
        | brk ρ' => exact wp_pure.mpr q
        | ret d => exact wp_pure.mpr q
  exact fun n k ρ w hk hI => go n k ρ w hk hI
end RX
namespace RX
open PySem
theorem wp_appD {C : Ctx} {ρ : Env2} {w : W} {Q : Out → W → Prop} {i : Nat} {e : E} : Wp (evS C (.app true i e) ρ) w Q ↔ Wp (evE C e (allE ρ)) w fun x w => ∃ xs, listAt ρ i = some xs ∧ noL x = true ∧ xs.length < sizeLine ∧ Q (.next (ρ.set i (some (true, .list (xs ++ [x]))))) w := by
  rw [show evS C (.app true i e) ρ = (evE C e (allE ρ) >>= fun x => lift (listAt ρ i) >>= fun xs => if (!true || noL x) && decide (xs.length < sizeLine) then pure (.next (ρ.set i (some (true, .list (xs ++ [x]))))) else lift none) from rfl]
  simp only [wp_bind, wp_lift, Bool.not_true, Bool.false_or, wp_ite, wp_pure, Bool.and_eq_true, decide_eq_true_eq]
  constructor
  · refine fun h => h.mono fun a w' q => ?_
    obtain ⟨xs, e, q⟩ := q
    split at q
    · rename_i c
      exact ⟨xs, e, c.1, c.2, q⟩
    · obtain ⟨_, e, _⟩ := q; cases e
  · exact fun h => h.mono fun a w' q => by
      obtain ⟨xs, e, q1, q2, q⟩ := q
      exact ⟨xs, e, by rw [if_pos ⟨q1, q2⟩]; exact q⟩
end RX

-- U_n1
set_option Elab.async false
set_option linter.all false
set_option maxRecDepth 100000
set_option maxHeartbeats 1000000
set_option exponentiation.threshold 20000
namespace LW
open PySem RX
/-! ### names and signs -/
theorem sz2 : 2 ≤ sizeLine := by decide
theorem ev_of {m : RX.M D} {d : D} (h : ∀ w, Wp m w fun x w' => x = d ∧ w' = w) : Ev m d := fun w => by
  obtain ⟨x, w', e, rfl, rfl⟩ := h w
  exact e
def abc : Str := "abcdefghijklmnopqrstuvwxyz"
def inL (c : Nat) : Bool := !(Builtin.Str.occurrences abc ⟨#[c]⟩ 0 abc.length 1).isEmpty
theorem inL_low {c : Nat} (h : 97 ≤ c) (h2 : c ≤ 122) : inL c = true := by
  have key : ∀ k, k < 26 → inL (97 + k) = true := by decide +kernel
  have := key (c - 97) (by omega)
  rwa [show 97 + (c - 97) = c by omega] at this
theorem cop_inL (c : Nat) : cop .isin (.str ⟨#[c]⟩) (.str "abcdefghijklmnopqrstuvwxyz") = some (inL c) := rfl
theorem cop_ninL (c : Nat) : cop .notin (.str ⟨#[c]⟩) (.str "abcdefghijklmnopqrstuvwxyz") = some (!inL c) := rfl
def nmB (x : Str) : Bool := decide (1 ≤ x.length) && decide (x.length ≤ 8) && x.cps.toList.all inL
def nmD : D → Bool
  | .str x => nmB x
  | _ => false
/-- isinstance may be asked -/
def Pl (d : D) : Prop := ∀ T, isO T d = some (isInst T d)
theorem pl_str (x : Str) : Pl (.str x) := fun _ => rfl
theorem pl_tup (x : List D) : Pl (.tuple x) := fun _ => rfl
theorem pl_shaped {d : D} (h : SeqAt.shaped d = true) : Pl d := by
  cases d with
  | dict kvs => simp [SeqAt.shaped, PyData.canLay0] at h
  | _ => exact fun _ => rfl
theorem bools_map {α : Type} (f : α → Bool) : ∀ l : List α, boolsD (l.map fun a => PyData.bool (f a)) = some (l.map f)
  | [] => rfl
  | a :: r => by
    show (boolsD (r.map fun a => PyData.bool (f a))).map _ = _
    rw [bools_map f r]
    rfl
theorem all_map {α : Type} (f : α → Bool) (l : List α) : bi1 .all (.list (l.map fun a => PyData.bool (f a))) = some (.bool (l.all f)) := by
  show (boolsD (l.map fun a => PyData.bool (f a))).map (fun bs => PyData.bool (bs.all id)) = _
  rw [bools_map]
  simp [List.all_map, Function.comp_def]
theorem str_len (x : Str) : x.cps.toList.length = x.length := Array.length_toList
theorem ev_is_name (d : D) (hd : Pl d) : Ev (F_is_name [d]) (.bool (nmD d)) := ev_of fun w => by
  have hs := hd "str"
  refine wp_D ?_
  cases d with
  | str x =>
    simp [B_is_name, C_is_name, -Prod.forall, -Prod.exists, -List.map_map, -List.getD_eq_getElem?_getD, wp_loc, wp_cst, wp_glb, wp_ed, wp_bin, wp_neg, wp_not, wp_and, wp_or, wp_cmp, wp_iteE, wp_tup, wp_lst, wp_idx, wp_b1, wp_b2, wp_isi, wp_slcF, wp_slcT, wp_callP, wp_call, wp_callK, fnAt0, fnAtS, wp_nil, wp_cons, wp_seq, wp_rng, wp_rng2, wp_SLnil, wp_SL, Rest, wp_asg, wp_asgD, wp_new, wp_free, wp_app, wp_iteS, wp_retS, wp_expr, wp_par, wp_asgT, wp_parN, wp_popT, env0, rdE, visE, allE, get2, getv, visO, allO, setAll, setAll2, bindT, bindT2, wipeE, noL, noLs, listAt, permA_nil, permA10, permA210, sz2, bop.eq_1, bop.eq_2, bop.eq_3, bop.eq_4, bop.eq_5, bop.eq_6, bop.eq_7, bop.eq_8, bop.eq_9, cop_eq_int, cop_ne_int, cop_eq_bool, cop_ne_bool, repr_two, repr_bool, cop.eq_3, cop.eq_4, cop.eq_5, cop.eq_6, cop.eq_7, cop.eq_8, cop.eq_9, cop.eq_10, cop.eq_11, cop.eq_12, cop.eq_13, cop.eq_14, cop.eq_15, bi1.eq_1, bi1.eq_2, bi1.eq_3, bi1.eq_4, bi1.eq_5, bi1.eq_6, bi1.eq_7, bi1.eq_8, bi1.eq_9, bi1.eq_10, bi1.eq_11, bi1.eq_12, bi1.eq_13, bi1.eq_14, bi1.eq_19, bi2.eq_1, bi2.eq_2, bi2.eq_3, bi2.eq_4, asInt.eq_1, asBool.eq_1, items.eq_1, items.eq_2, items.eq_3, slc.eq_1, slc.eq_2, slc.eq_3, isInst.eq_1, isInst.eq_2, isInst.eq_3, isInst.eq_4, isInst.eq_5, isInst.eq_6, isInst.eq_7, isO.eq_1, isO.eq_2, isO.eq_3, isO.eq_4, isO.eq_5, isO.eq_6, isO.eq_7, inD.eq_1, inD.eq_2, inD.eq_3, wp_chain]
    by_cases h1 : 1 ≤ x.length
    · by_cases h2 : x.length ≤ 8
      · refine .inr ⟨by omega, .inr ⟨by omega, ?_⟩⟩
        refine wp_compF (fun c : Nat => (.str ⟨#[c]⟩ : D)) (fun c => .bool (inL c)) x.cps.toList ?_ ?_ ?_
        · simp [-Prod.forall, -Prod.exists, -List.map_map, -List.getD_eq_getElem?_getD, wp_loc, wp_cst, wp_glb, wp_ed, wp_bin, wp_neg, wp_not, wp_and, wp_or, wp_cmp, wp_iteE, wp_tup, wp_lst, wp_idx, wp_b1, wp_b2, wp_isi, wp_slcF, wp_slcT, wp_callP, wp_call, wp_callK, fnAt0, fnAtS, wp_nil, wp_cons, wp_seq, wp_rng, wp_rng2, wp_SLnil, wp_SL, Rest, wp_asg, wp_asgD, wp_new, wp_free, wp_app, wp_iteS, wp_retS, wp_expr, wp_par, wp_asgT, wp_parN, wp_popT, env0, rdE, visE, allE, get2, getv, visO, allO, setAll, setAll2, bindT, bindT2, wipeE, noL, noLs, listAt, permA_nil, permA10, permA210, sz2, bop.eq_1, bop.eq_2, bop.eq_3, bop.eq_4, bop.eq_5, bop.eq_6, bop.eq_7, bop.eq_8, bop.eq_9, cop_eq_int, cop_ne_int, cop_eq_bool, cop_ne_bool, repr_two, repr_bool, cop.eq_3, cop.eq_4, cop.eq_5, cop.eq_6, cop.eq_7, cop.eq_8, cop.eq_9, cop.eq_10, cop.eq_11, cop.eq_12, cop.eq_13, cop.eq_14, cop.eq_15, bi1.eq_1, bi1.eq_2, bi1.eq_3, bi1.eq_4, bi1.eq_5, bi1.eq_6, bi1.eq_7, bi1.eq_8, bi1.eq_9, bi1.eq_10, bi1.eq_11, bi1.eq_12, bi1.eq_13, bi1.eq_14, bi1.eq_19, bi2.eq_1, bi2.eq_2, bi2.eq_3, bi2.eq_4, asInt.eq_1, asBool.eq_1, items.eq_1, items.eq_2, items.eq_3, slc.eq_1, slc.eq_2, slc.eq_3, isInst.eq_1, isInst.eq_2, isInst.eq_3, isInst.eq_4, isInst.eq_5, isInst.eq_6, isInst.eq_7, isO.eq_1, isO.eq_2, isO.eq_3, isO.eq_4, isO.eq_5, isO.eq_6, isO.eq_7, inD.eq_1, inD.eq_2, inD.eq_3]
        · refine fun c _ => ⟨_, rfl, fun w => ?_⟩
          simp [-Prod.forall, -Prod.exists, -List.map_map, -List.getD_eq_getElem?_getD, wp_loc, wp_cst, wp_glb, wp_ed, wp_bin, wp_neg, wp_not, wp_and, wp_or, wp_cmp, wp_iteE, wp_tup, wp_lst, wp_idx, wp_b1, wp_b2, wp_isi, wp_slcF, wp_slcT, wp_callP, wp_call, wp_callK, fnAt0, fnAtS, wp_nil, wp_cons, wp_seq, wp_rng, wp_rng2, wp_SLnil, wp_SL, Rest, wp_asg, wp_asgD, wp_new, wp_free, wp_app, wp_iteS, wp_retS, wp_expr, wp_par, wp_asgT, wp_parN, wp_popT, env0, rdE, visE, allE, get2, getv, visO, allO, setAll, setAll2, bindT, bindT2, wipeE, noL, noLs, listAt, permA_nil, permA10, permA210, sz2, bop.eq_1, bop.eq_2, bop.eq_3, bop.eq_4, bop.eq_5, bop.eq_6, bop.eq_7, bop.eq_8, bop.eq_9, cop_eq_int, cop_ne_int, cop_eq_bool, cop_ne_bool, repr_two, repr_bool, cop.eq_3, cop.eq_4, cop.eq_5, cop.eq_6, cop.eq_7, cop.eq_8, cop.eq_9, cop.eq_10, cop.eq_11, cop.eq_12, cop.eq_13, cop.eq_14, cop.eq_15, bi1.eq_1, bi1.eq_2, bi1.eq_3, bi1.eq_4, bi1.eq_5, bi1.eq_6, bi1.eq_7, bi1.eq_8, bi1.eq_9, bi1.eq_10, bi1.eq_11, bi1.eq_12, bi1.eq_13, bi1.eq_14, bi1.eq_19, bi2.eq_1, bi2.eq_2, bi2.eq_3, bi2.eq_4, asInt.eq_1, asBool.eq_1, items.eq_1, items.eq_2, items.eq_3, slc.eq_1, slc.eq_2, slc.eq_3, isInst.eq_1, isInst.eq_2, isInst.eq_3, isInst.eq_4, isInst.eq_5, isInst.eq_6, isInst.eq_7, isO.eq_1, isO.eq_2, isO.eq_3, isO.eq_4, isO.eq_5, isO.eq_6, isO.eq_7, inD.eq_1, inD.eq_2, inD.eq_3, inL, abc, Classical.em]
        · exact ⟨_, all_map inL _, by simp [nmD, nmB, h1, h2], rfl⟩
      · exact .inr ⟨by omega, .inl ⟨by omega, by simp [nmD, nmB, h2]⟩⟩
    · exact .inl ⟨by omega, by simp [nmD, nmB, h1]⟩
  | dict kvs =>
    simp [B_is_name, C_is_name, -Prod.forall, -Prod.exists, -List.map_map, -List.getD_eq_getElem?_getD, wp_loc, wp_cst, wp_glb, wp_ed, wp_bin, wp_neg, wp_not, wp_and, wp_or, wp_cmp, wp_iteE, wp_tup, wp_lst, wp_idx, wp_b1, wp_b2, wp_isi, wp_slcF, wp_slcT, wp_callP, wp_call, wp_callK, fnAt0, fnAtS, wp_nil, wp_cons, wp_seq, wp_rng, wp_rng2, wp_SLnil, wp_SL, Rest, wp_asg, wp_asgD, wp_new, wp_free, wp_app, wp_iteS, wp_retS, wp_expr, wp_par, wp_asgT, wp_parN, wp_popT, env0, rdE, visE, allE, get2, getv, visO, allO, setAll, setAll2, bindT, bindT2, wipeE, noL, noLs, listAt, permA_nil, permA10, permA210, sz2, bop.eq_1, bop.eq_2, bop.eq_3, bop.eq_4, bop.eq_5, bop.eq_6, bop.eq_7, bop.eq_8, bop.eq_9, cop_eq_int, cop_ne_int, cop_eq_bool, cop_ne_bool, repr_two, repr_bool, cop.eq_3, cop.eq_4, cop.eq_5, cop.eq_6, cop.eq_7, cop.eq_8, cop.eq_9, cop.eq_10, cop.eq_11, cop.eq_12, cop.eq_13, cop.eq_14, cop.eq_15, bi1.eq_1, bi1.eq_2, bi1.eq_3, bi1.eq_4, bi1.eq_5, bi1.eq_6, bi1.eq_7, bi1.eq_8, bi1.eq_9, bi1.eq_10, bi1.eq_11, bi1.eq_12, bi1.eq_13, bi1.eq_14, bi1.eq_19, bi2.eq_1, bi2.eq_2, bi2.eq_3, bi2.eq_4, asInt.eq_1, asBool.eq_1, items.eq_1, items.eq_2, items.eq_3, slc.eq_1, slc.eq_2, slc.eq_3, isInst.eq_1, isInst.eq_2, isInst.eq_3, isInst.eq_4, isInst.eq_5, isInst.eq_6, isInst.eq_7, isO.eq_1, isO.eq_2, isO.eq_3, isO.eq_4, isO.eq_5, isO.eq_6, isO.eq_7, inD.eq_1, inD.eq_2, inD.eq_3, hs, isInst, nmD]
  | _ => simp [B_is_name, C_is_name, -Prod.forall, -Prod.exists, -List.map_map, -List.getD_eq_getElem?_getD, wp_loc, wp_cst, wp_glb, wp_ed, wp_bin, wp_neg, wp_not, wp_and, wp_or, wp_cmp, wp_iteE, wp_tup, wp_lst, wp_idx, wp_b1, wp_b2, wp_isi, wp_slcF, wp_slcT, wp_callP, wp_call, wp_callK, fnAt0, fnAtS, wp_nil, wp_cons, wp_seq, wp_rng, wp_rng2, wp_SLnil, wp_SL, Rest, wp_asg, wp_asgD, wp_new, wp_free, wp_app, wp_iteS, wp_retS, wp_expr, wp_par, wp_asgT, wp_parN, wp_popT, env0, rdE, visE, allE, get2, getv, visO, allO, setAll, setAll2, bindT, bindT2, wipeE, noL, noLs, listAt, permA_nil, permA10, permA210, sz2, bop.eq_1, bop.eq_2, bop.eq_3, bop.eq_4, bop.eq_5, bop.eq_6, bop.eq_7, bop.eq_8, bop.eq_9, cop_eq_int, cop_ne_int, cop_eq_bool, cop_ne_bool, repr_two, repr_bool, cop.eq_3, cop.eq_4, cop.eq_5, cop.eq_6, cop.eq_7, cop.eq_8, cop.eq_9, cop.eq_10, cop.eq_11, cop.eq_12, cop.eq_13, cop.eq_14, cop.eq_15, bi1.eq_1, bi1.eq_2, bi1.eq_3, bi1.eq_4, bi1.eq_5, bi1.eq_6, bi1.eq_7, bi1.eq_8, bi1.eq_9, bi1.eq_10, bi1.eq_11, bi1.eq_12, bi1.eq_13, bi1.eq_14, bi1.eq_19, bi2.eq_1, bi2.eq_2, bi2.eq_3, bi2.eq_4, asInt.eq_1, asBool.eq_1, items.eq_1, items.eq_2, items.eq_3, slc.eq_1, slc.eq_2, slc.eq_3, isInst.eq_1, isInst.eq_2, isInst.eq_3, isInst.eq_4, isInst.eq_5, isInst.eq_6, isInst.eq_7, isO.eq_1, isO.eq_2, isO.eq_3, isO.eq_4, isO.eq_5, isO.eq_6, isO.eq_7, inD.eq_1, inD.eq_2, inD.eq_3, nmD]
theorem filter_nil {α : Type} (p : α → Bool) : ∀ l : List α, ((l.filter fun a => !p a) = [] ↔ l.all p = true)
  | [] => by simp
  | a :: r => by
    have ih := filter_nil p r
    cases h : p a <;> simp [h, ih]
theorem eq_nil {l : List D} (h : SeqAt.shaped (.list l) = true) : cop .eq (.list l) (.list []) = some (decide (l = [])) := by
  have e : (if RX.shaped (.list l) && RX.shaped (.list []) then some (PyData.eqv (.list l) (.list [])) else eqNil (.list l) (.list [])) = some (PyData.eqv (.list l) (.list [])) := by
    rw [if_pos]
    rw [Bool.and_eq_true]
    exact ⟨h, by decide +kernel⟩
  refine (show cop .eq (.list l) (.list []) = _ from e).trans ?_
  cases l <;> simp [PyData.eqv, PyData.eqvAll]
theorem ne_nil {l : List D} (h : SeqAt.shaped (.list l) = true) : cop .ne (.list l) (.list []) = some (!decide (l = [])) := by
  have e : (if RX.shaped (.list l) && RX.shaped (.list []) then some (!PyData.eqv (.list l) (.list [])) else none) = some (!PyData.eqv (.list l) (.list [])) := by
    rw [if_pos]
    rw [Bool.and_eq_true]
    exact ⟨h, by decide +kernel⟩
  refine (show cop .ne (.list l) (.list []) = _ from e).trans ?_
  cases l <;> simp [PyData.eqv, PyData.eqvAll]
theorem canAll {l : List D} : PyData.canLayAll0 l = l.all PyData.canLay0 := by
  induction l with
  | nil => simp [PyData.canLayAll0]
  | cons a r ih => simp [PyData.canLayAll0, ih]
theorem depthAll_le {l : List D} {n : Nat} : PyData.depthAll l ≤ n ↔ ∀ a ∈ l, PyData.depth a ≤ n := by
  induction l with
  | nil => simp [PyData.depthAll]
  | cons a r ih =>
    simp only [PyData.depthAll, List.mem_cons, forall_eq_or_imp, ← ih]
    omega
/-- data of a depth -/
def Sd (n : Nat) (d : D) : Prop := PyData.canLay0 d = true ∧ PyData.depth d ≤ n
theorem Sd.sh {n : Nat} {d : D} (h : Sd n d) (hn : n ≤ 64) : SeqAt.shaped d = true := by
  unfold SeqAt.shaped
  rw [Bool.and_eq_true]
  exact ⟨h.1, decide_eq_true (Nat.le_trans h.2 hn)⟩
theorem Sd.mono {n m : Nat} {d : D} (h : Sd n d) (hn : n ≤ m) : Sd m d := ⟨h.1, Nat.le_trans h.2 hn⟩
theorem sd_list {n : Nat} {l : List D} : Sd (n + 1) (.list l) ↔ ∀ d ∈ l, Sd n d := by
  unfold Sd
  rw [show PyData.canLay0 (.list l) = PyData.canLayAll0 l by simp [PyData.canLay0], show PyData.depth (.list l) = PyData.depthAll l + 1 by simp [PyData.depth], canAll, List.all_eq_true, Nat.add_le_add_iff_right, depthAll_le]
  exact ⟨fun h d hd => ⟨h.1 d hd, h.2 d hd⟩, fun h => ⟨fun d hd => (h d hd).1, fun d hd => (h d hd).2⟩⟩
theorem sd_tup {n : Nat} {l : List D} : Sd (n + 1) (.tuple l) ↔ ∀ d ∈ l, Sd n d := by
  unfold Sd
  rw [show PyData.canLay0 (.tuple l) = PyData.canLayAll0 l by simp [PyData.canLay0], show PyData.depth (.tuple l) = PyData.depthAll l + 1 by simp [PyData.depth], canAll, List.all_eq_true, Nat.add_le_add_iff_right, depthAll_le]
  exact ⟨fun h d hd => ⟨h.1 d hd, h.2 d hd⟩, fun h => ⟨fun d hd => (h d hd).1, fun d hd => (h d hd).2⟩⟩
theorem sd_str {n : Nat} {x : Str} : Sd n (.str x) ↔ PyData.strOk x = true := by
  unfold Sd
  rw [show PyData.canLay0 (.str x) = PyData.strOk x by simp [PyData.canLay0], show PyData.depth (.str x) = 0 by simp [PyData.depth]]
  exact ⟨fun h => h.1, fun h => ⟨h, Nat.zero_le _⟩⟩
theorem sd_int {n : Nat} {i : Int} : Sd n (.int i) := ⟨by simp [PyData.canLay0], by simp [PyData.depth]⟩
theorem sd_bool {n : Nat} {i : Bool} : Sd n (.bool i) := ⟨by simp [PyData.canLay0], by simp [PyData.depth]⟩
theorem sd_none {n : Nat} : Sd n .none := ⟨by simp [PyData.canLay0], by simp [PyData.depth]⟩
end LW

-- U_n2
set_option Elab.async false
set_option linter.all false
set_option maxRecDepth 100000
set_option maxHeartbeats 1000000
set_option exponentiation.threshold 20000
namespace LW
open PySem RX
/-! ### rising rows -/
theorem lt_str (a b : Str) : lexS a b = PySem.W.dataLt (.str a) (.str b) := by
  rw [PySem.W.dataLt_str]; rfl
def atD (l : List D) (k : Nat) : D := l.getD k .none
def riseD (l : List D) : Bool := (List.range (l.length - 1)).all fun k => PySem.W.dataLt (atD l k) (atD l (k + 1))
/-- neighbours can be ordered -/
def Cmp (l : List D) : Prop := ∀ k, k + 1 < l.length → cop .lt (atD l k) (atD l (k + 1)) = some (PySem.W.dataLt (atD l k) (atD l (k + 1))) ∧ cop .ge (atD l k) (atD l (k + 1)) = some (!PySem.W.dataLt (atD l k) (atD l (k + 1)))
theorem atD_get {l : List D} {k : Nat} (h : k < l.length) : l[k]? = some (atD l k) := by
  unfold atD
  rw [List.getD, List.getElem?_eq_getElem h]
  rfl
theorem ixT {l : List D} {k : Nat} (h : k < l.length) : idx (.tuple l) (.int (k : Int)) = some (atD l k) := idx_at0 (atD_get h)
theorem atD_mem {l : List D} {k : Nat} (h : k < l.length) : atD l k ∈ l := List.mem_of_getElem? (atD_get h)
theorem cmp_str {l : List D} (h : ∀ d ∈ l, ∃ x, d = .str x) : Cmp l := fun k hk => by
  obtain ⟨a, ha⟩ := h _ (atD_mem (l := l) (k := k) (by omega))
  obtain ⟨b, hb⟩ := h _ (atD_mem (l := l) (k := k + 1) hk)
  rw [ha, hb]
  refine ⟨?_, rfl⟩
  show some (lexS a b) = _
  rw [lt_str]
theorem alike_pair (a b c d : Str) : PySem.W.alike (.tuple [.str a, .str b]) (.tuple [.str c, .str d]) = true := by
  simp [PySem.W.alike, PySem.W.alikeAll]
theorem cmp_pair {l : List D} (h : ∀ d ∈ l, ∃ x y, d = .tuple [.str x, .str y]) (hs : ∀ d ∈ l, SeqAt.shaped d = true) : Cmp l := fun k hk => by
  have m1 := atD_mem (l := l) (k := k) (by omega)
  have m2 := atD_mem (l := l) (k := k + 1) hk
  obtain ⟨a, b, ha⟩ := h _ m1
  obtain ⟨c, d, hb⟩ := h _ m2
  have s1 := hs _ m1
  have s2 := hs _ m2
  rw [ha] at s1
  rw [hb] at s2
  rw [ha, hb]
  have o : ordB (.tuple [.str a, .str b]) (.tuple [.str c, .str d]) = true := by
    unfold ordB
    rw [alike_pair, s1, s2]
    rfl
  constructor
  · show (if _ then _ else _) = _
    rw [if_pos o]
  · show (if _ then _ else _) = _
    rw [if_pos o]
theorem range1 {n : Nat} (h : n ≤ 16777216) : rangeD 1 (n : Int) = some ((List.range (n - 1)).map fun k : Nat => PyData.int (1 + (k : Int))) := by
  unfold rangeD
  rw [if_pos ⟨by decide, by decide, by omega, by omega, by omega⟩]
  have : ((n : Int) - 1).toNat = n - 1 := by omega
  rw [this]
theorem range0 {i : Int} {n : Nat} (e : i.toNat = n) (h : i ≤ 16777216) (h0 : -100 ≤ i) : rangeD 0 i = some ((List.range n).map fun k : Nat => PyData.int (k : Int)) := by
  unfold rangeD
  rw [if_pos ⟨by decide, by decide, by omega, by omega, by omega⟩]
  have : (i - 0).toNat = n := by omega
  rw [this]
  simp
theorem ev_are_rising (l : List D) (h : Cmp l) (hl : l.length ≤ 16777216) : Ev (F_are_rising [.tuple l]) (.bool (riseD l)) := ev_of fun w => by
  refine wp_D ?_
  simp [B_are_rising, C_are_rising, -Prod.forall, -Prod.exists, -List.map_map, -List.getD_eq_getElem?_getD, wp_loc, wp_cst, wp_glb, wp_ed, wp_bin, wp_neg, wp_not, wp_and, wp_or, wp_cmp, wp_iteE, wp_tup, wp_lst, wp_idx, wp_b1, wp_b2, wp_isi, wp_slcF, wp_slcT, wp_callP, wp_call, wp_callK, fnAt0, fnAtS, wp_nil, wp_cons, wp_seq, wp_rng, wp_rng2, wp_SLnil, wp_SL, Rest, wp_asg, wp_asgD, wp_new, wp_free, wp_app, wp_iteS, wp_retS, wp_expr, wp_par, wp_asgT, wp_parN, wp_popT, env0, rdE, visE, allE, get2, getv, visO, allO, setAll, setAll2, bindT, bindT2, wipeE, noL, noLs, listAt, permA_nil, permA10, permA210, sz2, bop.eq_1, bop.eq_2, bop.eq_3, bop.eq_4, bop.eq_5, bop.eq_6, bop.eq_7, bop.eq_8, bop.eq_9, cop_eq_int, cop_ne_int, cop_eq_bool, cop_ne_bool, repr_two, repr_bool, cop.eq_3, cop.eq_4, cop.eq_5, cop.eq_6, cop.eq_7, cop.eq_8, cop.eq_9, cop.eq_10, cop.eq_11, cop.eq_12, cop.eq_13, cop.eq_14, cop.eq_15, bi1.eq_1, bi1.eq_2, bi1.eq_3, bi1.eq_4, bi1.eq_5, bi1.eq_6, bi1.eq_7, bi1.eq_8, bi1.eq_9, bi1.eq_10, bi1.eq_11, bi1.eq_12, bi1.eq_13, bi1.eq_14, bi1.eq_19, bi2.eq_1, bi2.eq_2, bi2.eq_3, bi2.eq_4, asInt.eq_1, asBool.eq_1, items.eq_1, items.eq_2, items.eq_3, slc.eq_1, slc.eq_2, slc.eq_3, isInst.eq_1, isInst.eq_2, isInst.eq_3, isInst.eq_4, isInst.eq_5, isInst.eq_6, isInst.eq_7, isO.eq_1, isO.eq_2, isO.eq_3, isO.eq_4, isO.eq_5, isO.eq_6, isO.eq_7, inD.eq_1, inD.eq_2, inD.eq_3]
  refine wp_compF (fun k : Nat => (.int (1 + (k : Int)) : D)) (fun k => .bool (PySem.W.dataLt (atD l k) (atD l (k + 1)))) (List.range (l.length - 1)) ?_ ?_ ?_
  · simp [-Prod.forall, -Prod.exists, -List.map_map, -List.getD_eq_getElem?_getD, wp_loc, wp_cst, wp_glb, wp_ed, wp_bin, wp_neg, wp_not, wp_and, wp_or, wp_cmp, wp_iteE, wp_tup, wp_lst, wp_idx, wp_b1, wp_b2, wp_isi, wp_slcF, wp_slcT, wp_callP, wp_call, wp_callK, fnAt0, fnAtS, wp_nil, wp_cons, wp_seq, wp_rng, wp_rng2, wp_SLnil, wp_SL, Rest, wp_asg, wp_asgD, wp_new, wp_free, wp_app, wp_iteS, wp_retS, wp_expr, wp_par, wp_asgT, wp_parN, wp_popT, env0, rdE, visE, allE, get2, getv, visO, allO, setAll, setAll2, bindT, bindT2, wipeE, noL, noLs, listAt, permA_nil, permA10, permA210, sz2, bop.eq_1, bop.eq_2, bop.eq_3, bop.eq_4, bop.eq_5, bop.eq_6, bop.eq_7, bop.eq_8, bop.eq_9, cop_eq_int, cop_ne_int, cop_eq_bool, cop_ne_bool, repr_two, repr_bool, cop.eq_3, cop.eq_4, cop.eq_5, cop.eq_6, cop.eq_7, cop.eq_8, cop.eq_9, cop.eq_10, cop.eq_11, cop.eq_12, cop.eq_13, cop.eq_14, cop.eq_15, bi1.eq_1, bi1.eq_2, bi1.eq_3, bi1.eq_4, bi1.eq_5, bi1.eq_6, bi1.eq_7, bi1.eq_8, bi1.eq_9, bi1.eq_10, bi1.eq_11, bi1.eq_12, bi1.eq_13, bi1.eq_14, bi1.eq_19, bi2.eq_1, bi2.eq_2, bi2.eq_3, bi2.eq_4, asInt.eq_1, asBool.eq_1, items.eq_1, items.eq_2, items.eq_3, slc.eq_1, slc.eq_2, slc.eq_3, isInst.eq_1, isInst.eq_2, isInst.eq_3, isInst.eq_4, isInst.eq_5, isInst.eq_6, isInst.eq_7, isO.eq_1, isO.eq_2, isO.eq_3, isO.eq_4, isO.eq_5, isO.eq_6, isO.eq_7, inD.eq_1, inD.eq_2, inD.eq_3, range1 hl]
  · intro k hk
    have hk := List.mem_range.mp hk
    refine ⟨_, rfl, fun w => ?_⟩
    have e1 : (1 + (k : Int) - 1) = ((k : Nat) : Int) := by omega
    have e2 : (1 + (k : Int)) = ((k + 1 : Nat) : Int) := by omega
    have i1 := ixT (l := l) (k := k) (by omega)
    have i2 := ixT (l := l) (k := k + 1) (by omega)
    have c := (h k (by omega)).1
    simp [-Prod.forall, -Prod.exists, -List.map_map, -List.getD_eq_getElem?_getD, wp_loc, wp_cst, wp_glb, wp_ed, wp_bin, wp_neg, wp_not, wp_and, wp_or, wp_cmp, wp_iteE, wp_tup, wp_lst, wp_idx, wp_b1, wp_b2, wp_isi, wp_slcF, wp_slcT, wp_callP, wp_call, wp_callK, fnAt0, fnAtS, wp_nil, wp_cons, wp_seq, wp_rng, wp_rng2, wp_SLnil, wp_SL, Rest, wp_asg, wp_asgD, wp_new, wp_free, wp_app, wp_iteS, wp_retS, wp_expr, wp_par, wp_asgT, wp_parN, wp_popT, env0, rdE, visE, allE, get2, getv, visO, allO, setAll, setAll2, bindT, bindT2, wipeE, noL, noLs, listAt, permA_nil, permA10, permA210, sz2, bop.eq_1, bop.eq_2, bop.eq_3, bop.eq_4, bop.eq_5, bop.eq_6, bop.eq_7, bop.eq_8, bop.eq_9, cop_eq_int, cop_ne_int, cop_eq_bool, cop_ne_bool, repr_two, repr_bool, cop.eq_3, cop.eq_4, cop.eq_5, cop.eq_6, cop.eq_7, cop.eq_8, cop.eq_9, cop.eq_10, cop.eq_11, cop.eq_12, cop.eq_13, cop.eq_14, cop.eq_15, bi1.eq_1, bi1.eq_2, bi1.eq_3, bi1.eq_4, bi1.eq_5, bi1.eq_6, bi1.eq_7, bi1.eq_8, bi1.eq_9, bi1.eq_10, bi1.eq_11, bi1.eq_12, bi1.eq_13, bi1.eq_14, bi1.eq_19, bi2.eq_1, bi2.eq_2, bi2.eq_3, bi2.eq_4, asInt.eq_1, asBool.eq_1, items.eq_1, items.eq_2, items.eq_3, slc.eq_1, slc.eq_2, slc.eq_3, isInst.eq_1, isInst.eq_2, isInst.eq_3, isInst.eq_4, isInst.eq_5, isInst.eq_6, isInst.eq_7, isO.eq_1, isO.eq_2, isO.eq_3, isO.eq_4, isO.eq_5, isO.eq_6, isO.eq_7, inD.eq_1, inD.eq_2, inD.eq_3, RX.getv, e1, i1]
    rw [e2, i2]
    simp [c]
  · exact ⟨_, all_map _ _, by simp [riseD]⟩
/-- law: [k for k in range(len(l) - 1) if l[k] >= l[k + 1]] -/
theorem wp_falls {C : RX.Ctx} {ρ : RX.Env} {w : W} {Q : D → W → Prop} {i sk : Nat} {l : List D} (hρ : RX.getv ρ i = some (.tuple l)) (hne : sk ≠ i) (hsk : sk < ρ.length) (h : Cmp l) (hl : l.length ≤ 16777216)
    (q : Q (.list (((List.range (l.length - 1)).filter fun k => !PySem.W.dataLt (atD l k) (atD l (k + 1))).map fun k : Nat => PyData.int (k : Int))) w) :
    Wp (evE C (.comp [sk] (.rng (.bin .sub (.b1 .len (.loc i)) (.cst (.int 1)))) true (.cmp .ge (.idx (.loc i) (.loc sk)) (.idx (.loc i) (.bin .add (.loc sk) (.cst (.int 1))))) (.loc sk)) ρ) w Q := by
  refine wp_compIf (fun k : Nat => (.int (k : Int) : D)) (fun k => !PySem.W.dataLt (atD l k) (atD l (k + 1))) (fun k => .int (k : Int)) (List.range (l.length - 1)) ?_ ?_ q
  · have r := range0 (i := (l.length : Int) - 1) (n := l.length - 1) (by omega) (by omega) (by omega)
    have hρ' : (ρ[i]?).join = some (.tuple l) := hρ
    simp [-Prod.forall, -Prod.exists, -List.map_map, -List.getD_eq_getElem?_getD, wp_loc, wp_cst, wp_glb, wp_ed, wp_bin, wp_neg, wp_not, wp_and, wp_or, wp_cmp, wp_iteE, wp_tup, wp_lst, wp_idx, wp_b1, wp_b2, wp_isi, wp_slcF, wp_slcT, wp_callP, wp_call, wp_callK, fnAt0, fnAtS, wp_nil, wp_cons, wp_seq, wp_rng, wp_rng2, wp_SLnil, wp_SL, Rest, wp_asg, wp_asgD, wp_new, wp_free, wp_app, wp_iteS, wp_retS, wp_expr, wp_par, wp_asgT, wp_parN, wp_popT, env0, rdE, visE, allE, get2, getv, visO, allO, setAll, setAll2, bindT, bindT2, wipeE, noL, noLs, listAt, permA_nil, permA10, permA210, sz2, bop.eq_1, bop.eq_2, bop.eq_3, bop.eq_4, bop.eq_5, bop.eq_6, bop.eq_7, bop.eq_8, bop.eq_9, cop_eq_int, cop_ne_int, cop_eq_bool, cop_ne_bool, repr_two, repr_bool, cop.eq_3, cop.eq_4, cop.eq_5, cop.eq_6, cop.eq_7, cop.eq_8, cop.eq_9, cop.eq_10, cop.eq_11, cop.eq_12, cop.eq_13, cop.eq_14, cop.eq_15, bi1.eq_1, bi1.eq_2, bi1.eq_3, bi1.eq_4, bi1.eq_5, bi1.eq_6, bi1.eq_7, bi1.eq_8, bi1.eq_9, bi1.eq_10, bi1.eq_11, bi1.eq_12, bi1.eq_13, bi1.eq_14, bi1.eq_19, bi2.eq_1, bi2.eq_2, bi2.eq_3, bi2.eq_4, asInt.eq_1, asBool.eq_1, items.eq_1, items.eq_2, items.eq_3, slc.eq_1, slc.eq_2, slc.eq_3, isInst.eq_1, isInst.eq_2, isInst.eq_3, isInst.eq_4, isInst.eq_5, isInst.eq_6, isInst.eq_7, isO.eq_1, isO.eq_2, isO.eq_3, isO.eq_4, isO.eq_5, isO.eq_6, isO.eq_7, inD.eq_1, inD.eq_2, inD.eq_3, hρ', r]
  · intro k hk
    have hk := List.mem_range.mp hk
    have g1 : RX.getv (List.set (RX.wipeE [sk] ρ) sk (some (PyData.int (k : Int)))) i = some (.tuple l) := by
      unfold RX.getv RX.wipeE at *
      simp only [List.foldl_cons, List.foldl_nil]
      rw [List.getElem?_set_ne hne, List.getElem?_set_ne hne]
      exact hρ
    have g2 : RX.getv (List.set (RX.wipeE [sk] ρ) sk (some (PyData.int (k : Int)))) sk = some (.int (k : Int)) := by
      unfold RX.getv RX.wipeE
      simp only [List.foldl_cons, List.foldl_nil]
      rw [List.getElem?_set_self (by rw [List.length_set]; exact hsk)]
      rfl
    have i1 := ixT (l := l) (k := k) (by omega)
    have i2 := ixT (l := l) (k := k + 1) (by omega)
    have c := (h k (by omega)).2
    refine ⟨_, rfl, fun w => ?_, fun _ w => ?_⟩
    · rw [wp_cmp]
      simp only [wp_idx, wp_loc, wp_bin, wp_cst, bop, g1, g2]
      simp [i1]
      have e2 : ((k : Int) + 1) = ((k + 1 : Nat) : Int) := by omega
      rw [e2, i2]
      simp [c]
    · simp only [wp_loc, g2]
      simp
theorem falls_nil (l : List D) : (((List.range (l.length - 1)).filter fun k => !PySem.W.dataLt (atD l k) (atD l (k + 1))).map (fun k : Nat => PyData.int (k : Int)) = []) ↔ riseD l = true := by
  rw [List.map_eq_nil_iff]
  exact filter_nil _ _
theorem shp_ints (l : List Nat) : SeqAt.shaped (.list (l.map fun k : Nat => PyData.int (k : Int))) = true := (sd_list (n := 0).mpr fun d hd => by
  obtain ⟨k, _, rfl⟩ := List.mem_map.mp hd
  exact sd_int).sh (by decide)
end LW

-- U_n3
set_option Elab.async false
set_option linter.all false
set_option maxRecDepth 100000
set_option maxHeartbeats 1000000
set_option exponentiation.threshold 20000
namespace LW
open PySem RX
/-! ### what is a ground -/
def strD : D → Bool
  | .str _ => true
  | _ => false
theorem inst_str (d : D) : isInst "str" d = strD d := by cases d <;> rfl
def tupD : D → Bool
  | .tuple _ => true
  | _ => false
theorem inst_tup (d : D) : isInst "tuple" d = tupD d := by cases d <;> rfl
def memD (os : List D) (v : D) : Bool := os.any fun z => PyData.eqv z v
def outB (os : List D) (v : D) : Bool := strD v && memD os v
theorem cop_mem {os : List D} {v : D} (h : SeqAt.shaped v = true) (g : SeqAt.shaped (.tuple os) = true) : cop .isin v (.tuple os) = some (memD os v) := by
  show (if _ then _ else _) = _
  rw [if_pos (by rw [Bool.and_eq_true]; exact ⟨h, g⟩)]
  rfl
theorem cop_nmem {os : List D} {v : D} (h : SeqAt.shaped v = true) (g : SeqAt.shaped (.tuple os) = true) : cop .notin v (.tuple os) = some (!memD os v) := by
  show Option.map _ (if _ then _ else _) = _
  rw [if_pos (by rw [Bool.and_eq_true]; exact ⟨h, g⟩)]
  rfl
theorem ev_is_outcome_of (os : List D) (v : D) (h : SeqAt.shaped v = true) (g : SeqAt.shaped (.tuple os) = true) : Ev (F_is_outcome_of [.tuple os, v]) (.bool (outB os v)) := ev_of fun w => by
  refine wp_D ?_
  have p := pl_shaped h "str"
  rw [inst_str] at p
  have c := cop_mem h g
  have c' : inD v (.tuple os) = some (memD os v) := c
  cases e : strD v <;> simp [B_is_outcome_of, C_is_outcome_of, -Prod.forall, -Prod.exists, -List.map_map, -List.getD_eq_getElem?_getD, wp_loc, wp_cst, wp_glb, wp_ed, wp_bin, wp_neg, wp_not, wp_and, wp_or, wp_cmp, wp_iteE, wp_tup, wp_lst, wp_idx, wp_b1, wp_b2, wp_isi, wp_slcF, wp_slcT, wp_callP, wp_call, wp_callK, fnAt0, fnAtS, wp_nil, wp_cons, wp_seq, wp_rng, wp_rng2, wp_SLnil, wp_SL, Rest, wp_asg, wp_asgD, wp_new, wp_free, wp_app, wp_iteS, wp_retS, wp_expr, wp_par, wp_asgT, wp_parN, wp_popT, env0, rdE, visE, allE, get2, getv, visO, allO, setAll, setAll2, bindT, bindT2, wipeE, noL, noLs, listAt, permA_nil, permA10, permA210, sz2, bop.eq_1, bop.eq_2, bop.eq_3, bop.eq_4, bop.eq_5, bop.eq_6, bop.eq_7, bop.eq_8, bop.eq_9, cop_eq_int, cop_ne_int, cop_eq_bool, cop_ne_bool, repr_two, repr_bool, cop.eq_3, cop.eq_4, cop.eq_5, cop.eq_6, cop.eq_7, cop.eq_8, cop.eq_9, cop.eq_10, cop.eq_11, cop.eq_12, cop.eq_13, cop.eq_14, cop.eq_15, bi1.eq_1, bi1.eq_2, bi1.eq_3, bi1.eq_4, bi1.eq_5, bi1.eq_6, bi1.eq_7, bi1.eq_8, bi1.eq_9, bi1.eq_10, bi1.eq_11, bi1.eq_12, bi1.eq_13, bi1.eq_14, bi1.eq_19, bi2.eq_1, bi2.eq_2, bi2.eq_3, bi2.eq_4, asInt.eq_1, asBool.eq_1, items.eq_1, items.eq_2, items.eq_3, slc.eq_1, slc.eq_2, slc.eq_3, isInst.eq_1, isInst.eq_2, isInst.eq_3, isInst.eq_4, isInst.eq_5, isInst.eq_6, isInst.eq_7, isO.eq_1, isO.eq_2, isO.eq_3, isO.eq_4, isO.eq_5, isO.eq_6, isO.eq_7, inD.eq_1, inD.eq_2, inD.eq_3, -inD.eq_2, p, e, c', outB]
theorem ev_is_tuple_of (v : D) (n : Int) (h : Pl v) : Ev (F_is_tuple_of [v, .int n]) (.bool (match v with | .tuple l => decide ((l.length : Int) = n) | _ => false)) := ev_of fun w => by
  refine wp_D ?_
  have h' := h "tuple"
  cases v with
  | dict kvs => simp [B_is_tuple_of, C_is_tuple_of, -Prod.forall, -Prod.exists, -List.map_map, -List.getD_eq_getElem?_getD, wp_loc, wp_cst, wp_glb, wp_ed, wp_bin, wp_neg, wp_not, wp_and, wp_or, wp_cmp, wp_iteE, wp_tup, wp_lst, wp_idx, wp_b1, wp_b2, wp_isi, wp_slcF, wp_slcT, wp_callP, wp_call, wp_callK, fnAt0, fnAtS, wp_nil, wp_cons, wp_seq, wp_rng, wp_rng2, wp_SLnil, wp_SL, Rest, wp_asg, wp_asgD, wp_new, wp_free, wp_app, wp_iteS, wp_retS, wp_expr, wp_par, wp_asgT, wp_parN, wp_popT, env0, rdE, visE, allE, get2, getv, visO, allO, setAll, setAll2, bindT, bindT2, wipeE, noL, noLs, listAt, permA_nil, permA10, permA210, sz2, bop.eq_1, bop.eq_2, bop.eq_3, bop.eq_4, bop.eq_5, bop.eq_6, bop.eq_7, bop.eq_8, bop.eq_9, cop_eq_int, cop_ne_int, cop_eq_bool, cop_ne_bool, repr_two, repr_bool, cop.eq_3, cop.eq_4, cop.eq_5, cop.eq_6, cop.eq_7, cop.eq_8, cop.eq_9, cop.eq_10, cop.eq_11, cop.eq_12, cop.eq_13, cop.eq_14, cop.eq_15, bi1.eq_1, bi1.eq_2, bi1.eq_3, bi1.eq_4, bi1.eq_5, bi1.eq_6, bi1.eq_7, bi1.eq_8, bi1.eq_9, bi1.eq_10, bi1.eq_11, bi1.eq_12, bi1.eq_13, bi1.eq_14, bi1.eq_19, bi2.eq_1, bi2.eq_2, bi2.eq_3, bi2.eq_4, asInt.eq_1, asBool.eq_1, items.eq_1, items.eq_2, items.eq_3, slc.eq_1, slc.eq_2, slc.eq_3, isInst.eq_1, isInst.eq_2, isInst.eq_3, isInst.eq_4, isInst.eq_5, isInst.eq_6, isInst.eq_7, isO.eq_1, isO.eq_2, isO.eq_3, isO.eq_4, isO.eq_5, isO.eq_6, isO.eq_7, inD.eq_1, inD.eq_2, inD.eq_3, h', isInst]
  | tuple l =>
    simp [B_is_tuple_of, C_is_tuple_of, -Prod.forall, -Prod.exists, -List.map_map, -List.getD_eq_getElem?_getD, wp_loc, wp_cst, wp_glb, wp_ed, wp_bin, wp_neg, wp_not, wp_and, wp_or, wp_cmp, wp_iteE, wp_tup, wp_lst, wp_idx, wp_b1, wp_b2, wp_isi, wp_slcF, wp_slcT, wp_callP, wp_call, wp_callK, fnAt0, fnAtS, wp_nil, wp_cons, wp_seq, wp_rng, wp_rng2, wp_SLnil, wp_SL, Rest, wp_asg, wp_asgD, wp_new, wp_free, wp_app, wp_iteS, wp_retS, wp_expr, wp_par, wp_asgT, wp_parN, wp_popT, env0, rdE, visE, allE, get2, getv, visO, allO, setAll, setAll2, bindT, bindT2, wipeE, noL, noLs, listAt, permA_nil, permA10, permA210, sz2, bop.eq_1, bop.eq_2, bop.eq_3, bop.eq_4, bop.eq_5, bop.eq_6, bop.eq_7, bop.eq_8, bop.eq_9, cop_eq_int, cop_ne_int, cop_eq_bool, cop_ne_bool, repr_two, repr_bool, cop.eq_3, cop.eq_4, cop.eq_5, cop.eq_6, cop.eq_7, cop.eq_8, cop.eq_9, cop.eq_10, cop.eq_11, cop.eq_12, cop.eq_13, cop.eq_14, cop.eq_15, bi1.eq_1, bi1.eq_2, bi1.eq_3, bi1.eq_4, bi1.eq_5, bi1.eq_6, bi1.eq_7, bi1.eq_8, bi1.eq_9, bi1.eq_10, bi1.eq_11, bi1.eq_12, bi1.eq_13, bi1.eq_14, bi1.eq_19, bi2.eq_1, bi2.eq_2, bi2.eq_3, bi2.eq_4, asInt.eq_1, asBool.eq_1, items.eq_1, items.eq_2, items.eq_3, slc.eq_1, slc.eq_2, slc.eq_3, isInst.eq_1, isInst.eq_2, isInst.eq_3, isInst.eq_4, isInst.eq_5, isInst.eq_6, isInst.eq_7, isO.eq_1, isO.eq_2, isO.eq_3, isO.eq_4, isO.eq_5, isO.eq_6, isO.eq_7, inD.eq_1, inD.eq_2, inD.eq_3]
    omega
  | _ => simp [B_is_tuple_of, C_is_tuple_of, -Prod.forall, -Prod.exists, -List.map_map, -List.getD_eq_getElem?_getD, wp_loc, wp_cst, wp_glb, wp_ed, wp_bin, wp_neg, wp_not, wp_and, wp_or, wp_cmp, wp_iteE, wp_tup, wp_lst, wp_idx, wp_b1, wp_b2, wp_isi, wp_slcF, wp_slcT, wp_callP, wp_call, wp_callK, fnAt0, fnAtS, wp_nil, wp_cons, wp_seq, wp_rng, wp_rng2, wp_SLnil, wp_SL, Rest, wp_asg, wp_asgD, wp_new, wp_free, wp_app, wp_iteS, wp_retS, wp_expr, wp_par, wp_asgT, wp_parN, wp_popT, env0, rdE, visE, allE, get2, getv, visO, allO, setAll, setAll2, bindT, bindT2, wipeE, noL, noLs, listAt, permA_nil, permA10, permA210, sz2, bop.eq_1, bop.eq_2, bop.eq_3, bop.eq_4, bop.eq_5, bop.eq_6, bop.eq_7, bop.eq_8, bop.eq_9, cop_eq_int, cop_ne_int, cop_eq_bool, cop_ne_bool, repr_two, repr_bool, cop.eq_3, cop.eq_4, cop.eq_5, cop.eq_6, cop.eq_7, cop.eq_8, cop.eq_9, cop.eq_10, cop.eq_11, cop.eq_12, cop.eq_13, cop.eq_14, cop.eq_15, bi1.eq_1, bi1.eq_2, bi1.eq_3, bi1.eq_4, bi1.eq_5, bi1.eq_6, bi1.eq_7, bi1.eq_8, bi1.eq_9, bi1.eq_10, bi1.eq_11, bi1.eq_12, bi1.eq_13, bi1.eq_14, bi1.eq_19, bi2.eq_1, bi2.eq_2, bi2.eq_3, bi2.eq_4, asInt.eq_1, asBool.eq_1, items.eq_1, items.eq_2, items.eq_3, slc.eq_1, slc.eq_2, slc.eq_3, isInst.eq_1, isInst.eq_2, isInst.eq_3, isInst.eq_4, isInst.eq_5, isInst.eq_6, isInst.eq_7, isO.eq_1, isO.eq_2, isO.eq_3, isO.eq_4, isO.eq_5, isO.eq_6, isO.eq_7, inD.eq_1, inD.eq_2, inD.eq_3]
def pairB (os : List D) : D → Bool
  | .tuple [a, b] => outB os a && outB os b
  | _ => false
theorem ev_is_pair_of (os : List D) (v : D) (n : Nat) (hn : n ≤ 60) (h : Sd (n + 1) v) (g : SeqAt.shaped (.tuple os) = true) : Ev (F_is_pair_of [.tuple os, v]) (.bool (pairB os v)) := ev_of fun w => by
  have hv := h.sh (by omega)
  refine wp_D ?_
  simp [B_is_pair_of, C_is_pair_of, -Prod.forall, -Prod.exists, -List.map_map, -List.getD_eq_getElem?_getD, wp_loc, wp_cst, wp_glb, wp_ed, wp_bin, wp_neg, wp_not, wp_and, wp_or, wp_cmp, wp_iteE, wp_tup, wp_lst, wp_idx, wp_b1, wp_b2, wp_isi, wp_slcF, wp_slcT, wp_callP, wp_call, wp_callK, fnAt0, fnAtS, wp_nil, wp_cons, wp_seq, wp_rng, wp_rng2, wp_SLnil, wp_SL, Rest, wp_asg, wp_asgD, wp_new, wp_free, wp_app, wp_iteS, wp_retS, wp_expr, wp_par, wp_asgT, wp_parN, wp_popT, env0, rdE, visE, allE, get2, getv, visO, allO, setAll, setAll2, bindT, bindT2, wipeE, noL, noLs, listAt, permA_nil, permA10, permA210, sz2, bop.eq_1, bop.eq_2, bop.eq_3, bop.eq_4, bop.eq_5, bop.eq_6, bop.eq_7, bop.eq_8, bop.eq_9, cop_eq_int, cop_ne_int, cop_eq_bool, cop_ne_bool, repr_two, repr_bool, cop.eq_3, cop.eq_4, cop.eq_5, cop.eq_6, cop.eq_7, cop.eq_8, cop.eq_9, cop.eq_10, cop.eq_11, cop.eq_12, cop.eq_13, cop.eq_14, cop.eq_15, bi1.eq_1, bi1.eq_2, bi1.eq_3, bi1.eq_4, bi1.eq_5, bi1.eq_6, bi1.eq_7, bi1.eq_8, bi1.eq_9, bi1.eq_10, bi1.eq_11, bi1.eq_12, bi1.eq_13, bi1.eq_14, bi1.eq_19, bi2.eq_1, bi2.eq_2, bi2.eq_3, bi2.eq_4, asInt.eq_1, asBool.eq_1, items.eq_1, items.eq_2, items.eq_3, slc.eq_1, slc.eq_2, slc.eq_3, isInst.eq_1, isInst.eq_2, isInst.eq_3, isInst.eq_4, isInst.eq_5, isInst.eq_6, isInst.eq_7, isO.eq_1, isO.eq_2, isO.eq_3, isO.eq_4, isO.eq_5, isO.eq_6, isO.eq_7, inD.eq_1, inD.eq_2, inD.eq_3]
  refine wp_ev (ev_is_tuple_of v 2 (pl_shaped hv)) ?_
  match v, h with
  | .tuple [a, b], h =>
    have ha := (sd_tup.mp h a (by simp)).sh (by omega)
    have hb := (sd_tup.mp h b (by simp)).sh (by omega)
    simp [-Prod.forall, -Prod.exists, -List.map_map, -List.getD_eq_getElem?_getD, wp_loc, wp_cst, wp_glb, wp_ed, wp_bin, wp_neg, wp_not, wp_and, wp_or, wp_cmp, wp_iteE, wp_tup, wp_lst, wp_idx, wp_b1, wp_b2, wp_isi, wp_slcF, wp_slcT, wp_callP, wp_call, wp_callK, fnAt0, fnAtS, wp_nil, wp_cons, wp_seq, wp_rng, wp_rng2, wp_SLnil, wp_SL, Rest, wp_asg, wp_asgD, wp_new, wp_free, wp_app, wp_iteS, wp_retS, wp_expr, wp_par, wp_asgT, wp_parN, wp_popT, env0, rdE, visE, allE, get2, getv, visO, allO, setAll, setAll2, bindT, bindT2, wipeE, noL, noLs, listAt, permA_nil, permA10, permA210, sz2, bop.eq_1, bop.eq_2, bop.eq_3, bop.eq_4, bop.eq_5, bop.eq_6, bop.eq_7, bop.eq_8, bop.eq_9, cop_eq_int, cop_ne_int, cop_eq_bool, cop_ne_bool, repr_two, repr_bool, cop.eq_3, cop.eq_4, cop.eq_5, cop.eq_6, cop.eq_7, cop.eq_8, cop.eq_9, cop.eq_10, cop.eq_11, cop.eq_12, cop.eq_13, cop.eq_14, cop.eq_15, bi1.eq_1, bi1.eq_2, bi1.eq_3, bi1.eq_4, bi1.eq_5, bi1.eq_6, bi1.eq_7, bi1.eq_8, bi1.eq_9, bi1.eq_10, bi1.eq_11, bi1.eq_12, bi1.eq_13, bi1.eq_14, bi1.eq_19, bi2.eq_1, bi2.eq_2, bi2.eq_3, bi2.eq_4, asInt.eq_1, asBool.eq_1, items.eq_1, items.eq_2, items.eq_3, slc.eq_1, slc.eq_2, slc.eq_3, isInst.eq_1, isInst.eq_2, isInst.eq_3, isInst.eq_4, isInst.eq_5, isInst.eq_6, isInst.eq_7, isO.eq_1, isO.eq_2, isO.eq_3, isO.eq_4, isO.eq_5, isO.eq_6, isO.eq_7, inD.eq_1, inD.eq_2, inD.eq_3, idx, L2.ixN, L2.atI, ixD]
    refine wp_ev (ev_is_outcome_of os a ha g) ?_
    cases e : outB os a
    · simp [-Prod.forall, -Prod.exists, -List.map_map, -List.getD_eq_getElem?_getD, wp_loc, wp_cst, wp_glb, wp_ed, wp_bin, wp_neg, wp_not, wp_and, wp_or, wp_cmp, wp_iteE, wp_tup, wp_lst, wp_idx, wp_b1, wp_b2, wp_isi, wp_slcF, wp_slcT, wp_callP, wp_call, wp_callK, fnAt0, fnAtS, wp_nil, wp_cons, wp_seq, wp_rng, wp_rng2, wp_SLnil, wp_SL, Rest, wp_asg, wp_asgD, wp_new, wp_free, wp_app, wp_iteS, wp_retS, wp_expr, wp_par, wp_asgT, wp_parN, wp_popT, env0, rdE, visE, allE, get2, getv, visO, allO, setAll, setAll2, bindT, bindT2, wipeE, noL, noLs, listAt, permA_nil, permA10, permA210, sz2, bop.eq_1, bop.eq_2, bop.eq_3, bop.eq_4, bop.eq_5, bop.eq_6, bop.eq_7, bop.eq_8, bop.eq_9, cop_eq_int, cop_ne_int, cop_eq_bool, cop_ne_bool, repr_two, repr_bool, cop.eq_3, cop.eq_4, cop.eq_5, cop.eq_6, cop.eq_7, cop.eq_8, cop.eq_9, cop.eq_10, cop.eq_11, cop.eq_12, cop.eq_13, cop.eq_14, cop.eq_15, bi1.eq_1, bi1.eq_2, bi1.eq_3, bi1.eq_4, bi1.eq_5, bi1.eq_6, bi1.eq_7, bi1.eq_8, bi1.eq_9, bi1.eq_10, bi1.eq_11, bi1.eq_12, bi1.eq_13, bi1.eq_14, bi1.eq_19, bi2.eq_1, bi2.eq_2, bi2.eq_3, bi2.eq_4, asInt.eq_1, asBool.eq_1, items.eq_1, items.eq_2, items.eq_3, slc.eq_1, slc.eq_2, slc.eq_3, isInst.eq_1, isInst.eq_2, isInst.eq_3, isInst.eq_4, isInst.eq_5, isInst.eq_6, isInst.eq_7, isO.eq_1, isO.eq_2, isO.eq_3, isO.eq_4, isO.eq_5, isO.eq_6, isO.eq_7, inD.eq_1, inD.eq_2, inD.eq_3, pairB, e]
    · simp [-Prod.forall, -Prod.exists, -List.map_map, -List.getD_eq_getElem?_getD, wp_loc, wp_cst, wp_glb, wp_ed, wp_bin, wp_neg, wp_not, wp_and, wp_or, wp_cmp, wp_iteE, wp_tup, wp_lst, wp_idx, wp_b1, wp_b2, wp_isi, wp_slcF, wp_slcT, wp_callP, wp_call, wp_callK, fnAt0, fnAtS, wp_nil, wp_cons, wp_seq, wp_rng, wp_rng2, wp_SLnil, wp_SL, Rest, wp_asg, wp_asgD, wp_new, wp_free, wp_app, wp_iteS, wp_retS, wp_expr, wp_par, wp_asgT, wp_parN, wp_popT, env0, rdE, visE, allE, get2, getv, visO, allO, setAll, setAll2, bindT, bindT2, wipeE, noL, noLs, listAt, permA_nil, permA10, permA210, sz2, bop.eq_1, bop.eq_2, bop.eq_3, bop.eq_4, bop.eq_5, bop.eq_6, bop.eq_7, bop.eq_8, bop.eq_9, cop_eq_int, cop_ne_int, cop_eq_bool, cop_ne_bool, repr_two, repr_bool, cop.eq_3, cop.eq_4, cop.eq_5, cop.eq_6, cop.eq_7, cop.eq_8, cop.eq_9, cop.eq_10, cop.eq_11, cop.eq_12, cop.eq_13, cop.eq_14, cop.eq_15, bi1.eq_1, bi1.eq_2, bi1.eq_3, bi1.eq_4, bi1.eq_5, bi1.eq_6, bi1.eq_7, bi1.eq_8, bi1.eq_9, bi1.eq_10, bi1.eq_11, bi1.eq_12, bi1.eq_13, bi1.eq_14, bi1.eq_19, bi2.eq_1, bi2.eq_2, bi2.eq_3, bi2.eq_4, asInt.eq_1, asBool.eq_1, items.eq_1, items.eq_2, items.eq_3, slc.eq_1, slc.eq_2, slc.eq_3, isInst.eq_1, isInst.eq_2, isInst.eq_3, isInst.eq_4, isInst.eq_5, isInst.eq_6, isInst.eq_7, isO.eq_1, isO.eq_2, isO.eq_3, isO.eq_4, isO.eq_5, isO.eq_6, isO.eq_7, inD.eq_1, inD.eq_2, inD.eq_3, idx, L2.ixN, L2.atI, ixD]
      refine wp_ev (ev_is_outcome_of os b hb g) ?_
      simp [-Prod.forall, -Prod.exists, -List.map_map, -List.getD_eq_getElem?_getD, wp_loc, wp_cst, wp_glb, wp_ed, wp_bin, wp_neg, wp_not, wp_and, wp_or, wp_cmp, wp_iteE, wp_tup, wp_lst, wp_idx, wp_b1, wp_b2, wp_isi, wp_slcF, wp_slcT, wp_callP, wp_call, wp_callK, fnAt0, fnAtS, wp_nil, wp_cons, wp_seq, wp_rng, wp_rng2, wp_SLnil, wp_SL, Rest, wp_asg, wp_asgD, wp_new, wp_free, wp_app, wp_iteS, wp_retS, wp_expr, wp_par, wp_asgT, wp_parN, wp_popT, env0, rdE, visE, allE, get2, getv, visO, allO, setAll, setAll2, bindT, bindT2, wipeE, noL, noLs, listAt, permA_nil, permA10, permA210, sz2, bop.eq_1, bop.eq_2, bop.eq_3, bop.eq_4, bop.eq_5, bop.eq_6, bop.eq_7, bop.eq_8, bop.eq_9, cop_eq_int, cop_ne_int, cop_eq_bool, cop_ne_bool, repr_two, repr_bool, cop.eq_3, cop.eq_4, cop.eq_5, cop.eq_6, cop.eq_7, cop.eq_8, cop.eq_9, cop.eq_10, cop.eq_11, cop.eq_12, cop.eq_13, cop.eq_14, cop.eq_15, bi1.eq_1, bi1.eq_2, bi1.eq_3, bi1.eq_4, bi1.eq_5, bi1.eq_6, bi1.eq_7, bi1.eq_8, bi1.eq_9, bi1.eq_10, bi1.eq_11, bi1.eq_12, bi1.eq_13, bi1.eq_14, bi1.eq_19, bi2.eq_1, bi2.eq_2, bi2.eq_3, bi2.eq_4, asInt.eq_1, asBool.eq_1, items.eq_1, items.eq_2, items.eq_3, slc.eq_1, slc.eq_2, slc.eq_3, isInst.eq_1, isInst.eq_2, isInst.eq_3, isInst.eq_4, isInst.eq_5, isInst.eq_6, isInst.eq_7, isO.eq_1, isO.eq_2, isO.eq_3, isO.eq_4, isO.eq_5, isO.eq_6, isO.eq_7, inD.eq_1, inD.eq_2, inD.eq_3, pairB, e]
  | .tuple [], h => simp [-Prod.forall, -Prod.exists, -List.map_map, -List.getD_eq_getElem?_getD, wp_loc, wp_cst, wp_glb, wp_ed, wp_bin, wp_neg, wp_not, wp_and, wp_or, wp_cmp, wp_iteE, wp_tup, wp_lst, wp_idx, wp_b1, wp_b2, wp_isi, wp_slcF, wp_slcT, wp_callP, wp_call, wp_callK, fnAt0, fnAtS, wp_nil, wp_cons, wp_seq, wp_rng, wp_rng2, wp_SLnil, wp_SL, Rest, wp_asg, wp_asgD, wp_new, wp_free, wp_app, wp_iteS, wp_retS, wp_expr, wp_par, wp_asgT, wp_parN, wp_popT, env0, rdE, visE, allE, get2, getv, visO, allO, setAll, setAll2, bindT, bindT2, wipeE, noL, noLs, listAt, permA_nil, permA10, permA210, sz2, bop.eq_1, bop.eq_2, bop.eq_3, bop.eq_4, bop.eq_5, bop.eq_6, bop.eq_7, bop.eq_8, bop.eq_9, cop_eq_int, cop_ne_int, cop_eq_bool, cop_ne_bool, repr_two, repr_bool, cop.eq_3, cop.eq_4, cop.eq_5, cop.eq_6, cop.eq_7, cop.eq_8, cop.eq_9, cop.eq_10, cop.eq_11, cop.eq_12, cop.eq_13, cop.eq_14, cop.eq_15, bi1.eq_1, bi1.eq_2, bi1.eq_3, bi1.eq_4, bi1.eq_5, bi1.eq_6, bi1.eq_7, bi1.eq_8, bi1.eq_9, bi1.eq_10, bi1.eq_11, bi1.eq_12, bi1.eq_13, bi1.eq_14, bi1.eq_19, bi2.eq_1, bi2.eq_2, bi2.eq_3, bi2.eq_4, asInt.eq_1, asBool.eq_1, items.eq_1, items.eq_2, items.eq_3, slc.eq_1, slc.eq_2, slc.eq_3, isInst.eq_1, isInst.eq_2, isInst.eq_3, isInst.eq_4, isInst.eq_5, isInst.eq_6, isInst.eq_7, isO.eq_1, isO.eq_2, isO.eq_3, isO.eq_4, isO.eq_5, isO.eq_6, isO.eq_7, inD.eq_1, inD.eq_2, inD.eq_3, pairB]
  | .tuple [a], h => simp [-Prod.forall, -Prod.exists, -List.map_map, -List.getD_eq_getElem?_getD, wp_loc, wp_cst, wp_glb, wp_ed, wp_bin, wp_neg, wp_not, wp_and, wp_or, wp_cmp, wp_iteE, wp_tup, wp_lst, wp_idx, wp_b1, wp_b2, wp_isi, wp_slcF, wp_slcT, wp_callP, wp_call, wp_callK, fnAt0, fnAtS, wp_nil, wp_cons, wp_seq, wp_rng, wp_rng2, wp_SLnil, wp_SL, Rest, wp_asg, wp_asgD, wp_new, wp_free, wp_app, wp_iteS, wp_retS, wp_expr, wp_par, wp_asgT, wp_parN, wp_popT, env0, rdE, visE, allE, get2, getv, visO, allO, setAll, setAll2, bindT, bindT2, wipeE, noL, noLs, listAt, permA_nil, permA10, permA210, sz2, bop.eq_1, bop.eq_2, bop.eq_3, bop.eq_4, bop.eq_5, bop.eq_6, bop.eq_7, bop.eq_8, bop.eq_9, cop_eq_int, cop_ne_int, cop_eq_bool, cop_ne_bool, repr_two, repr_bool, cop.eq_3, cop.eq_4, cop.eq_5, cop.eq_6, cop.eq_7, cop.eq_8, cop.eq_9, cop.eq_10, cop.eq_11, cop.eq_12, cop.eq_13, cop.eq_14, cop.eq_15, bi1.eq_1, bi1.eq_2, bi1.eq_3, bi1.eq_4, bi1.eq_5, bi1.eq_6, bi1.eq_7, bi1.eq_8, bi1.eq_9, bi1.eq_10, bi1.eq_11, bi1.eq_12, bi1.eq_13, bi1.eq_14, bi1.eq_19, bi2.eq_1, bi2.eq_2, bi2.eq_3, bi2.eq_4, asInt.eq_1, asBool.eq_1, items.eq_1, items.eq_2, items.eq_3, slc.eq_1, slc.eq_2, slc.eq_3, isInst.eq_1, isInst.eq_2, isInst.eq_3, isInst.eq_4, isInst.eq_5, isInst.eq_6, isInst.eq_7, isO.eq_1, isO.eq_2, isO.eq_3, isO.eq_4, isO.eq_5, isO.eq_6, isO.eq_7, inD.eq_1, inD.eq_2, inD.eq_3, pairB]
  | .tuple (a :: b :: c :: r), h =>
    have : ¬ ((r.length : Int) + 1 + 1 + 1 = 2) := by omega
    simp [-Prod.forall, -Prod.exists, -List.map_map, -List.getD_eq_getElem?_getD, wp_loc, wp_cst, wp_glb, wp_ed, wp_bin, wp_neg, wp_not, wp_and, wp_or, wp_cmp, wp_iteE, wp_tup, wp_lst, wp_idx, wp_b1, wp_b2, wp_isi, wp_slcF, wp_slcT, wp_callP, wp_call, wp_callK, fnAt0, fnAtS, wp_nil, wp_cons, wp_seq, wp_rng, wp_rng2, wp_SLnil, wp_SL, Rest, wp_asg, wp_asgD, wp_new, wp_free, wp_app, wp_iteS, wp_retS, wp_expr, wp_par, wp_asgT, wp_parN, wp_popT, env0, rdE, visE, allE, get2, getv, visO, allO, setAll, setAll2, bindT, bindT2, wipeE, noL, noLs, listAt, permA_nil, permA10, permA210, sz2, bop.eq_1, bop.eq_2, bop.eq_3, bop.eq_4, bop.eq_5, bop.eq_6, bop.eq_7, bop.eq_8, bop.eq_9, cop_eq_int, cop_ne_int, cop_eq_bool, cop_ne_bool, repr_two, repr_bool, cop.eq_3, cop.eq_4, cop.eq_5, cop.eq_6, cop.eq_7, cop.eq_8, cop.eq_9, cop.eq_10, cop.eq_11, cop.eq_12, cop.eq_13, cop.eq_14, cop.eq_15, bi1.eq_1, bi1.eq_2, bi1.eq_3, bi1.eq_4, bi1.eq_5, bi1.eq_6, bi1.eq_7, bi1.eq_8, bi1.eq_9, bi1.eq_10, bi1.eq_11, bi1.eq_12, bi1.eq_13, bi1.eq_14, bi1.eq_19, bi2.eq_1, bi2.eq_2, bi2.eq_3, bi2.eq_4, asInt.eq_1, asBool.eq_1, items.eq_1, items.eq_2, items.eq_3, slc.eq_1, slc.eq_2, slc.eq_3, isInst.eq_1, isInst.eq_2, isInst.eq_3, isInst.eq_4, isInst.eq_5, isInst.eq_6, isInst.eq_7, isO.eq_1, isO.eq_2, isO.eq_3, isO.eq_4, isO.eq_5, isO.eq_6, isO.eq_7, inD.eq_1, inD.eq_2, inD.eq_3, pairB, this]
  | .none, h => simp [-Prod.forall, -Prod.exists, -List.map_map, -List.getD_eq_getElem?_getD, wp_loc, wp_cst, wp_glb, wp_ed, wp_bin, wp_neg, wp_not, wp_and, wp_or, wp_cmp, wp_iteE, wp_tup, wp_lst, wp_idx, wp_b1, wp_b2, wp_isi, wp_slcF, wp_slcT, wp_callP, wp_call, wp_callK, fnAt0, fnAtS, wp_nil, wp_cons, wp_seq, wp_rng, wp_rng2, wp_SLnil, wp_SL, Rest, wp_asg, wp_asgD, wp_new, wp_free, wp_app, wp_iteS, wp_retS, wp_expr, wp_par, wp_asgT, wp_parN, wp_popT, env0, rdE, visE, allE, get2, getv, visO, allO, setAll, setAll2, bindT, bindT2, wipeE, noL, noLs, listAt, permA_nil, permA10, permA210, sz2, bop.eq_1, bop.eq_2, bop.eq_3, bop.eq_4, bop.eq_5, bop.eq_6, bop.eq_7, bop.eq_8, bop.eq_9, cop_eq_int, cop_ne_int, cop_eq_bool, cop_ne_bool, repr_two, repr_bool, cop.eq_3, cop.eq_4, cop.eq_5, cop.eq_6, cop.eq_7, cop.eq_8, cop.eq_9, cop.eq_10, cop.eq_11, cop.eq_12, cop.eq_13, cop.eq_14, cop.eq_15, bi1.eq_1, bi1.eq_2, bi1.eq_3, bi1.eq_4, bi1.eq_5, bi1.eq_6, bi1.eq_7, bi1.eq_8, bi1.eq_9, bi1.eq_10, bi1.eq_11, bi1.eq_12, bi1.eq_13, bi1.eq_14, bi1.eq_19, bi2.eq_1, bi2.eq_2, bi2.eq_3, bi2.eq_4, asInt.eq_1, asBool.eq_1, items.eq_1, items.eq_2, items.eq_3, slc.eq_1, slc.eq_2, slc.eq_3, isInst.eq_1, isInst.eq_2, isInst.eq_3, isInst.eq_4, isInst.eq_5, isInst.eq_6, isInst.eq_7, isO.eq_1, isO.eq_2, isO.eq_3, isO.eq_4, isO.eq_5, isO.eq_6, isO.eq_7, inD.eq_1, inD.eq_2, inD.eq_3, pairB]
  | .int _, h => simp [-Prod.forall, -Prod.exists, -List.map_map, -List.getD_eq_getElem?_getD, wp_loc, wp_cst, wp_glb, wp_ed, wp_bin, wp_neg, wp_not, wp_and, wp_or, wp_cmp, wp_iteE, wp_tup, wp_lst, wp_idx, wp_b1, wp_b2, wp_isi, wp_slcF, wp_slcT, wp_callP, wp_call, wp_callK, fnAt0, fnAtS, wp_nil, wp_cons, wp_seq, wp_rng, wp_rng2, wp_SLnil, wp_SL, Rest, wp_asg, wp_asgD, wp_new, wp_free, wp_app, wp_iteS, wp_retS, wp_expr, wp_par, wp_asgT, wp_parN, wp_popT, env0, rdE, visE, allE, get2, getv, visO, allO, setAll, setAll2, bindT, bindT2, wipeE, noL, noLs, listAt, permA_nil, permA10, permA210, sz2, bop.eq_1, bop.eq_2, bop.eq_3, bop.eq_4, bop.eq_5, bop.eq_6, bop.eq_7, bop.eq_8, bop.eq_9, cop_eq_int, cop_ne_int, cop_eq_bool, cop_ne_bool, repr_two, repr_bool, cop.eq_3, cop.eq_4, cop.eq_5, cop.eq_6, cop.eq_7, cop.eq_8, cop.eq_9, cop.eq_10, cop.eq_11, cop.eq_12, cop.eq_13, cop.eq_14, cop.eq_15, bi1.eq_1, bi1.eq_2, bi1.eq_3, bi1.eq_4, bi1.eq_5, bi1.eq_6, bi1.eq_7, bi1.eq_8, bi1.eq_9, bi1.eq_10, bi1.eq_11, bi1.eq_12, bi1.eq_13, bi1.eq_14, bi1.eq_19, bi2.eq_1, bi2.eq_2, bi2.eq_3, bi2.eq_4, asInt.eq_1, asBool.eq_1, items.eq_1, items.eq_2, items.eq_3, slc.eq_1, slc.eq_2, slc.eq_3, isInst.eq_1, isInst.eq_2, isInst.eq_3, isInst.eq_4, isInst.eq_5, isInst.eq_6, isInst.eq_7, isO.eq_1, isO.eq_2, isO.eq_3, isO.eq_4, isO.eq_5, isO.eq_6, isO.eq_7, inD.eq_1, inD.eq_2, inD.eq_3, pairB]
  | .bool _, h => simp [-Prod.forall, -Prod.exists, -List.map_map, -List.getD_eq_getElem?_getD, wp_loc, wp_cst, wp_glb, wp_ed, wp_bin, wp_neg, wp_not, wp_and, wp_or, wp_cmp, wp_iteE, wp_tup, wp_lst, wp_idx, wp_b1, wp_b2, wp_isi, wp_slcF, wp_slcT, wp_callP, wp_call, wp_callK, fnAt0, fnAtS, wp_nil, wp_cons, wp_seq, wp_rng, wp_rng2, wp_SLnil, wp_SL, Rest, wp_asg, wp_asgD, wp_new, wp_free, wp_app, wp_iteS, wp_retS, wp_expr, wp_par, wp_asgT, wp_parN, wp_popT, env0, rdE, visE, allE, get2, getv, visO, allO, setAll, setAll2, bindT, bindT2, wipeE, noL, noLs, listAt, permA_nil, permA10, permA210, sz2, bop.eq_1, bop.eq_2, bop.eq_3, bop.eq_4, bop.eq_5, bop.eq_6, bop.eq_7, bop.eq_8, bop.eq_9, cop_eq_int, cop_ne_int, cop_eq_bool, cop_ne_bool, repr_two, repr_bool, cop.eq_3, cop.eq_4, cop.eq_5, cop.eq_6, cop.eq_7, cop.eq_8, cop.eq_9, cop.eq_10, cop.eq_11, cop.eq_12, cop.eq_13, cop.eq_14, cop.eq_15, bi1.eq_1, bi1.eq_2, bi1.eq_3, bi1.eq_4, bi1.eq_5, bi1.eq_6, bi1.eq_7, bi1.eq_8, bi1.eq_9, bi1.eq_10, bi1.eq_11, bi1.eq_12, bi1.eq_13, bi1.eq_14, bi1.eq_19, bi2.eq_1, bi2.eq_2, bi2.eq_3, bi2.eq_4, asInt.eq_1, asBool.eq_1, items.eq_1, items.eq_2, items.eq_3, slc.eq_1, slc.eq_2, slc.eq_3, isInst.eq_1, isInst.eq_2, isInst.eq_3, isInst.eq_4, isInst.eq_5, isInst.eq_6, isInst.eq_7, isO.eq_1, isO.eq_2, isO.eq_3, isO.eq_4, isO.eq_5, isO.eq_6, isO.eq_7, inD.eq_1, inD.eq_2, inD.eq_3, pairB]
  | .str _, h => simp [-Prod.forall, -Prod.exists, -List.map_map, -List.getD_eq_getElem?_getD, wp_loc, wp_cst, wp_glb, wp_ed, wp_bin, wp_neg, wp_not, wp_and, wp_or, wp_cmp, wp_iteE, wp_tup, wp_lst, wp_idx, wp_b1, wp_b2, wp_isi, wp_slcF, wp_slcT, wp_callP, wp_call, wp_callK, fnAt0, fnAtS, wp_nil, wp_cons, wp_seq, wp_rng, wp_rng2, wp_SLnil, wp_SL, Rest, wp_asg, wp_asgD, wp_new, wp_free, wp_app, wp_iteS, wp_retS, wp_expr, wp_par, wp_asgT, wp_parN, wp_popT, env0, rdE, visE, allE, get2, getv, visO, allO, setAll, setAll2, bindT, bindT2, wipeE, noL, noLs, listAt, permA_nil, permA10, permA210, sz2, bop.eq_1, bop.eq_2, bop.eq_3, bop.eq_4, bop.eq_5, bop.eq_6, bop.eq_7, bop.eq_8, bop.eq_9, cop_eq_int, cop_ne_int, cop_eq_bool, cop_ne_bool, repr_two, repr_bool, cop.eq_3, cop.eq_4, cop.eq_5, cop.eq_6, cop.eq_7, cop.eq_8, cop.eq_9, cop.eq_10, cop.eq_11, cop.eq_12, cop.eq_13, cop.eq_14, cop.eq_15, bi1.eq_1, bi1.eq_2, bi1.eq_3, bi1.eq_4, bi1.eq_5, bi1.eq_6, bi1.eq_7, bi1.eq_8, bi1.eq_9, bi1.eq_10, bi1.eq_11, bi1.eq_12, bi1.eq_13, bi1.eq_14, bi1.eq_19, bi2.eq_1, bi2.eq_2, bi2.eq_3, bi2.eq_4, asInt.eq_1, asBool.eq_1, items.eq_1, items.eq_2, items.eq_3, slc.eq_1, slc.eq_2, slc.eq_3, isInst.eq_1, isInst.eq_2, isInst.eq_3, isInst.eq_4, isInst.eq_5, isInst.eq_6, isInst.eq_7, isO.eq_1, isO.eq_2, isO.eq_3, isO.eq_4, isO.eq_5, isO.eq_6, isO.eq_7, inD.eq_1, inD.eq_2, inD.eq_3, pairB]
  | .list _, h => simp [-Prod.forall, -Prod.exists, -List.map_map, -List.getD_eq_getElem?_getD, wp_loc, wp_cst, wp_glb, wp_ed, wp_bin, wp_neg, wp_not, wp_and, wp_or, wp_cmp, wp_iteE, wp_tup, wp_lst, wp_idx, wp_b1, wp_b2, wp_isi, wp_slcF, wp_slcT, wp_callP, wp_call, wp_callK, fnAt0, fnAtS, wp_nil, wp_cons, wp_seq, wp_rng, wp_rng2, wp_SLnil, wp_SL, Rest, wp_asg, wp_asgD, wp_new, wp_free, wp_app, wp_iteS, wp_retS, wp_expr, wp_par, wp_asgT, wp_parN, wp_popT, env0, rdE, visE, allE, get2, getv, visO, allO, setAll, setAll2, bindT, bindT2, wipeE, noL, noLs, listAt, permA_nil, permA10, permA210, sz2, bop.eq_1, bop.eq_2, bop.eq_3, bop.eq_4, bop.eq_5, bop.eq_6, bop.eq_7, bop.eq_8, bop.eq_9, cop_eq_int, cop_ne_int, cop_eq_bool, cop_ne_bool, repr_two, repr_bool, cop.eq_3, cop.eq_4, cop.eq_5, cop.eq_6, cop.eq_7, cop.eq_8, cop.eq_9, cop.eq_10, cop.eq_11, cop.eq_12, cop.eq_13, cop.eq_14, cop.eq_15, bi1.eq_1, bi1.eq_2, bi1.eq_3, bi1.eq_4, bi1.eq_5, bi1.eq_6, bi1.eq_7, bi1.eq_8, bi1.eq_9, bi1.eq_10, bi1.eq_11, bi1.eq_12, bi1.eq_13, bi1.eq_14, bi1.eq_19, bi2.eq_1, bi2.eq_2, bi2.eq_3, bi2.eq_4, asInt.eq_1, asBool.eq_1, items.eq_1, items.eq_2, items.eq_3, slc.eq_1, slc.eq_2, slc.eq_3, isInst.eq_1, isInst.eq_2, isInst.eq_3, isInst.eq_4, isInst.eq_5, isInst.eq_6, isInst.eq_7, isO.eq_1, isO.eq_2, isO.eq_3, isO.eq_4, isO.eq_5, isO.eq_6, isO.eq_7, inD.eq_1, inD.eq_2, inD.eq_3, pairB]
  | .dict _, h => simp [-Prod.forall, -Prod.exists, -List.map_map, -List.getD_eq_getElem?_getD, wp_loc, wp_cst, wp_glb, wp_ed, wp_bin, wp_neg, wp_not, wp_and, wp_or, wp_cmp, wp_iteE, wp_tup, wp_lst, wp_idx, wp_b1, wp_b2, wp_isi, wp_slcF, wp_slcT, wp_callP, wp_call, wp_callK, fnAt0, fnAtS, wp_nil, wp_cons, wp_seq, wp_rng, wp_rng2, wp_SLnil, wp_SL, Rest, wp_asg, wp_asgD, wp_new, wp_free, wp_app, wp_iteS, wp_retS, wp_expr, wp_par, wp_asgT, wp_parN, wp_popT, env0, rdE, visE, allE, get2, getv, visO, allO, setAll, setAll2, bindT, bindT2, wipeE, noL, noLs, listAt, permA_nil, permA10, permA210, sz2, bop.eq_1, bop.eq_2, bop.eq_3, bop.eq_4, bop.eq_5, bop.eq_6, bop.eq_7, bop.eq_8, bop.eq_9, cop_eq_int, cop_ne_int, cop_eq_bool, cop_ne_bool, repr_two, repr_bool, cop.eq_3, cop.eq_4, cop.eq_5, cop.eq_6, cop.eq_7, cop.eq_8, cop.eq_9, cop.eq_10, cop.eq_11, cop.eq_12, cop.eq_13, cop.eq_14, cop.eq_15, bi1.eq_1, bi1.eq_2, bi1.eq_3, bi1.eq_4, bi1.eq_5, bi1.eq_6, bi1.eq_7, bi1.eq_8, bi1.eq_9, bi1.eq_10, bi1.eq_11, bi1.eq_12, bi1.eq_13, bi1.eq_14, bi1.eq_19, bi2.eq_1, bi2.eq_2, bi2.eq_3, bi2.eq_4, asInt.eq_1, asBool.eq_1, items.eq_1, items.eq_2, items.eq_3, slc.eq_1, slc.eq_2, slc.eq_3, isInst.eq_1, isInst.eq_2, isInst.eq_3, isInst.eq_4, isInst.eq_5, isInst.eq_6, isInst.eq_7, isO.eq_1, isO.eq_2, isO.eq_3, isO.eq_4, isO.eq_5, isO.eq_6, isO.eq_7, inD.eq_1, inD.eq_2, inD.eq_3, pairB]
def outsB : D → Bool
  | .tuple os => decide (1 ≤ os.length) && decide (os.length ≤ 10) && os.all nmD && riseD os
  | _ => false
theorem nm_str {d : D} (h : nmD d = true) : ∃ x, d = .str x ∧ nmB x = true := by
  cases d with
  | str x => exact ⟨x, rfl, h⟩
  | _ => cases h
theorem ev_are_outcomes (v : D) (n : Nat) (hn : n ≤ 60) (h : Pl v) (hs : ∀ os, v = .tuple os → ∀ d ∈ os, Sd n d) : Ev (F_are_outcomes [v]) (.bool (outsB v)) := ev_of fun w => by
  refine wp_D ?_
  have p := h "tuple"
  rw [inst_tup] at p
  match v, hs, p with
  | .tuple os, hs, _ =>
    simp [B_are_outcomes, C_are_outcomes, -Prod.forall, -Prod.exists, -List.map_map, -List.getD_eq_getElem?_getD, wp_loc, wp_cst, wp_glb, wp_ed, wp_bin, wp_neg, wp_not, wp_and, wp_or, wp_cmp, wp_iteE, wp_tup, wp_lst, wp_idx, wp_b1, wp_b2, wp_isi, wp_slcF, wp_slcT, wp_callP, wp_call, wp_callK, fnAt0, fnAtS, wp_nil, wp_cons, wp_seq, wp_rng, wp_rng2, wp_SLnil, wp_SL, Rest, wp_asg, wp_asgD, wp_new, wp_free, wp_app, wp_iteS, wp_retS, wp_expr, wp_par, wp_asgT, wp_parN, wp_popT, env0, rdE, visE, allE, get2, getv, visO, allO, setAll, setAll2, bindT, bindT2, wipeE, noL, noLs, listAt, permA_nil, permA10, permA210, sz2, bop.eq_1, bop.eq_2, bop.eq_3, bop.eq_4, bop.eq_5, bop.eq_6, bop.eq_7, bop.eq_8, bop.eq_9, cop_eq_int, cop_ne_int, cop_eq_bool, cop_ne_bool, repr_two, repr_bool, cop.eq_3, cop.eq_4, cop.eq_5, cop.eq_6, cop.eq_7, cop.eq_8, cop.eq_9, cop.eq_10, cop.eq_11, cop.eq_12, cop.eq_13, cop.eq_14, cop.eq_15, bi1.eq_1, bi1.eq_2, bi1.eq_3, bi1.eq_4, bi1.eq_5, bi1.eq_6, bi1.eq_7, bi1.eq_8, bi1.eq_9, bi1.eq_10, bi1.eq_11, bi1.eq_12, bi1.eq_13, bi1.eq_14, bi1.eq_19, bi2.eq_1, bi2.eq_2, bi2.eq_3, bi2.eq_4, asInt.eq_1, asBool.eq_1, items.eq_1, items.eq_2, items.eq_3, slc.eq_1, slc.eq_2, slc.eq_3, isInst.eq_1, isInst.eq_2, isInst.eq_3, isInst.eq_4, isInst.eq_5, isInst.eq_6, isInst.eq_7, isO.eq_1, isO.eq_2, isO.eq_3, isO.eq_4, isO.eq_5, isO.eq_6, isO.eq_7, inD.eq_1, inD.eq_2, inD.eq_3, wp_chain]
    by_cases h1 : 1 ≤ os.length
    · by_cases h2 : os.length ≤ 10
      · refine .inr ⟨by omega, .inr ⟨by omega, ?_⟩⟩
        refine wp_compF (fun d : D => d) (fun d => .bool (nmD d)) os ?_ ?_ ?_
        · simp [-Prod.forall, -Prod.exists, -List.map_map, -List.getD_eq_getElem?_getD, wp_loc, wp_cst, wp_glb, wp_ed, wp_bin, wp_neg, wp_not, wp_and, wp_or, wp_cmp, wp_iteE, wp_tup, wp_lst, wp_idx, wp_b1, wp_b2, wp_isi, wp_slcF, wp_slcT, wp_callP, wp_call, wp_callK, fnAt0, fnAtS, wp_nil, wp_cons, wp_seq, wp_rng, wp_rng2, wp_SLnil, wp_SL, Rest, wp_asg, wp_asgD, wp_new, wp_free, wp_app, wp_iteS, wp_retS, wp_expr, wp_par, wp_asgT, wp_parN, wp_popT, env0, rdE, visE, allE, get2, getv, visO, allO, setAll, setAll2, bindT, bindT2, wipeE, noL, noLs, listAt, permA_nil, permA10, permA210, sz2, bop.eq_1, bop.eq_2, bop.eq_3, bop.eq_4, bop.eq_5, bop.eq_6, bop.eq_7, bop.eq_8, bop.eq_9, cop_eq_int, cop_ne_int, cop_eq_bool, cop_ne_bool, repr_two, repr_bool, cop.eq_3, cop.eq_4, cop.eq_5, cop.eq_6, cop.eq_7, cop.eq_8, cop.eq_9, cop.eq_10, cop.eq_11, cop.eq_12, cop.eq_13, cop.eq_14, cop.eq_15, bi1.eq_1, bi1.eq_2, bi1.eq_3, bi1.eq_4, bi1.eq_5, bi1.eq_6, bi1.eq_7, bi1.eq_8, bi1.eq_9, bi1.eq_10, bi1.eq_11, bi1.eq_12, bi1.eq_13, bi1.eq_14, bi1.eq_19, bi2.eq_1, bi2.eq_2, bi2.eq_3, bi2.eq_4, asInt.eq_1, asBool.eq_1, items.eq_1, items.eq_2, items.eq_3, slc.eq_1, slc.eq_2, slc.eq_3, isInst.eq_1, isInst.eq_2, isInst.eq_3, isInst.eq_4, isInst.eq_5, isInst.eq_6, isInst.eq_7, isO.eq_1, isO.eq_2, isO.eq_3, isO.eq_4, isO.eq_5, isO.eq_6, isO.eq_7, inD.eq_1, inD.eq_2, inD.eq_3]
        · refine fun d hd => ⟨_, rfl, fun w => ?_⟩
          simp [-Prod.forall, -Prod.exists, -List.map_map, -List.getD_eq_getElem?_getD, wp_loc, wp_cst, wp_glb, wp_ed, wp_bin, wp_neg, wp_not, wp_and, wp_or, wp_cmp, wp_iteE, wp_tup, wp_lst, wp_idx, wp_b1, wp_b2, wp_isi, wp_slcF, wp_slcT, wp_callP, wp_call, wp_callK, fnAt0, fnAtS, wp_nil, wp_cons, wp_seq, wp_rng, wp_rng2, wp_SLnil, wp_SL, Rest, wp_asg, wp_asgD, wp_new, wp_free, wp_app, wp_iteS, wp_retS, wp_expr, wp_par, wp_asgT, wp_parN, wp_popT, env0, rdE, visE, allE, get2, getv, visO, allO, setAll, setAll2, bindT, bindT2, wipeE, noL, noLs, listAt, permA_nil, permA10, permA210, sz2, bop.eq_1, bop.eq_2, bop.eq_3, bop.eq_4, bop.eq_5, bop.eq_6, bop.eq_7, bop.eq_8, bop.eq_9, cop_eq_int, cop_ne_int, cop_eq_bool, cop_ne_bool, repr_two, repr_bool, cop.eq_3, cop.eq_4, cop.eq_5, cop.eq_6, cop.eq_7, cop.eq_8, cop.eq_9, cop.eq_10, cop.eq_11, cop.eq_12, cop.eq_13, cop.eq_14, cop.eq_15, bi1.eq_1, bi1.eq_2, bi1.eq_3, bi1.eq_4, bi1.eq_5, bi1.eq_6, bi1.eq_7, bi1.eq_8, bi1.eq_9, bi1.eq_10, bi1.eq_11, bi1.eq_12, bi1.eq_13, bi1.eq_14, bi1.eq_19, bi2.eq_1, bi2.eq_2, bi2.eq_3, bi2.eq_4, asInt.eq_1, asBool.eq_1, items.eq_1, items.eq_2, items.eq_3, slc.eq_1, slc.eq_2, slc.eq_3, isInst.eq_1, isInst.eq_2, isInst.eq_3, isInst.eq_4, isInst.eq_5, isInst.eq_6, isInst.eq_7, isO.eq_1, isO.eq_2, isO.eq_3, isO.eq_4, isO.eq_5, isO.eq_6, isO.eq_7, inD.eq_1, inD.eq_2, inD.eq_3]
          exact wp_ev (ev_is_name d (pl_shaped ((hs os rfl d hd).sh (by omega)))) (by simp)
        · refine ⟨_, all_map nmD os, ?_⟩
          cases e : os.all nmD
          · simp [-Prod.forall, -Prod.exists, -List.map_map, -List.getD_eq_getElem?_getD, wp_loc, wp_cst, wp_glb, wp_ed, wp_bin, wp_neg, wp_not, wp_and, wp_or, wp_cmp, wp_iteE, wp_tup, wp_lst, wp_idx, wp_b1, wp_b2, wp_isi, wp_slcF, wp_slcT, wp_callP, wp_call, wp_callK, fnAt0, fnAtS, wp_nil, wp_cons, wp_seq, wp_rng, wp_rng2, wp_SLnil, wp_SL, Rest, wp_asg, wp_asgD, wp_new, wp_free, wp_app, wp_iteS, wp_retS, wp_expr, wp_par, wp_asgT, wp_parN, wp_popT, env0, rdE, visE, allE, get2, getv, visO, allO, setAll, setAll2, bindT, bindT2, wipeE, noL, noLs, listAt, permA_nil, permA10, permA210, sz2, bop.eq_1, bop.eq_2, bop.eq_3, bop.eq_4, bop.eq_5, bop.eq_6, bop.eq_7, bop.eq_8, bop.eq_9, cop_eq_int, cop_ne_int, cop_eq_bool, cop_ne_bool, repr_two, repr_bool, cop.eq_3, cop.eq_4, cop.eq_5, cop.eq_6, cop.eq_7, cop.eq_8, cop.eq_9, cop.eq_10, cop.eq_11, cop.eq_12, cop.eq_13, cop.eq_14, cop.eq_15, bi1.eq_1, bi1.eq_2, bi1.eq_3, bi1.eq_4, bi1.eq_5, bi1.eq_6, bi1.eq_7, bi1.eq_8, bi1.eq_9, bi1.eq_10, bi1.eq_11, bi1.eq_12, bi1.eq_13, bi1.eq_14, bi1.eq_19, bi2.eq_1, bi2.eq_2, bi2.eq_3, bi2.eq_4, asInt.eq_1, asBool.eq_1, items.eq_1, items.eq_2, items.eq_3, slc.eq_1, slc.eq_2, slc.eq_3, isInst.eq_1, isInst.eq_2, isInst.eq_3, isInst.eq_4, isInst.eq_5, isInst.eq_6, isInst.eq_7, isO.eq_1, isO.eq_2, isO.eq_3, isO.eq_4, isO.eq_5, isO.eq_6, isO.eq_7, inD.eq_1, inD.eq_2, inD.eq_3, outsB, e]
          · simp [-Prod.forall, -Prod.exists, -List.map_map, -List.getD_eq_getElem?_getD, wp_loc, wp_cst, wp_glb, wp_ed, wp_bin, wp_neg, wp_not, wp_and, wp_or, wp_cmp, wp_iteE, wp_tup, wp_lst, wp_idx, wp_b1, wp_b2, wp_isi, wp_slcF, wp_slcT, wp_callP, wp_call, wp_callK, fnAt0, fnAtS, wp_nil, wp_cons, wp_seq, wp_rng, wp_rng2, wp_SLnil, wp_SL, Rest, wp_asg, wp_asgD, wp_new, wp_free, wp_app, wp_iteS, wp_retS, wp_expr, wp_par, wp_asgT, wp_parN, wp_popT, env0, rdE, visE, allE, get2, getv, visO, allO, setAll, setAll2, bindT, bindT2, wipeE, noL, noLs, listAt, permA_nil, permA10, permA210, sz2, bop.eq_1, bop.eq_2, bop.eq_3, bop.eq_4, bop.eq_5, bop.eq_6, bop.eq_7, bop.eq_8, bop.eq_9, cop_eq_int, cop_ne_int, cop_eq_bool, cop_ne_bool, repr_two, repr_bool, cop.eq_3, cop.eq_4, cop.eq_5, cop.eq_6, cop.eq_7, cop.eq_8, cop.eq_9, cop.eq_10, cop.eq_11, cop.eq_12, cop.eq_13, cop.eq_14, cop.eq_15, bi1.eq_1, bi1.eq_2, bi1.eq_3, bi1.eq_4, bi1.eq_5, bi1.eq_6, bi1.eq_7, bi1.eq_8, bi1.eq_9, bi1.eq_10, bi1.eq_11, bi1.eq_12, bi1.eq_13, bi1.eq_14, bi1.eq_19, bi2.eq_1, bi2.eq_2, bi2.eq_3, bi2.eq_4, asInt.eq_1, asBool.eq_1, items.eq_1, items.eq_2, items.eq_3, slc.eq_1, slc.eq_2, slc.eq_3, isInst.eq_1, isInst.eq_2, isInst.eq_3, isInst.eq_4, isInst.eq_5, isInst.eq_6, isInst.eq_7, isO.eq_1, isO.eq_2, isO.eq_3, isO.eq_4, isO.eq_5, isO.eq_6, isO.eq_7, inD.eq_1, inD.eq_2, inD.eq_3]
            have ha := List.all_eq_true.mp e
            refine wp_ev (ev_are_rising os (cmp_str fun d hd => let ⟨x, e, _⟩ := nm_str (ha d hd); ⟨x, e⟩) (by omega)) ?_
            simp only [outsB, e, h1, h2, decide_true, Bool.true_and]
      · exact .inr ⟨by omega, .inl ⟨by omega, by simp [outsB, h2]⟩⟩
    · exact .inl ⟨by omega, by simp [outsB, h1]⟩
  | .none, _, p => simp [B_are_outcomes, C_are_outcomes, -Prod.forall, -Prod.exists, -List.map_map, -List.getD_eq_getElem?_getD, wp_loc, wp_cst, wp_glb, wp_ed, wp_bin, wp_neg, wp_not, wp_and, wp_or, wp_cmp, wp_iteE, wp_tup, wp_lst, wp_idx, wp_b1, wp_b2, wp_isi, wp_slcF, wp_slcT, wp_callP, wp_call, wp_callK, fnAt0, fnAtS, wp_nil, wp_cons, wp_seq, wp_rng, wp_rng2, wp_SLnil, wp_SL, Rest, wp_asg, wp_asgD, wp_new, wp_free, wp_app, wp_iteS, wp_retS, wp_expr, wp_par, wp_asgT, wp_parN, wp_popT, env0, rdE, visE, allE, get2, getv, visO, allO, setAll, setAll2, bindT, bindT2, wipeE, noL, noLs, listAt, permA_nil, permA10, permA210, sz2, bop.eq_1, bop.eq_2, bop.eq_3, bop.eq_4, bop.eq_5, bop.eq_6, bop.eq_7, bop.eq_8, bop.eq_9, cop_eq_int, cop_ne_int, cop_eq_bool, cop_ne_bool, repr_two, repr_bool, cop.eq_3, cop.eq_4, cop.eq_5, cop.eq_6, cop.eq_7, cop.eq_8, cop.eq_9, cop.eq_10, cop.eq_11, cop.eq_12, cop.eq_13, cop.eq_14, cop.eq_15, bi1.eq_1, bi1.eq_2, bi1.eq_3, bi1.eq_4, bi1.eq_5, bi1.eq_6, bi1.eq_7, bi1.eq_8, bi1.eq_9, bi1.eq_10, bi1.eq_11, bi1.eq_12, bi1.eq_13, bi1.eq_14, bi1.eq_19, bi2.eq_1, bi2.eq_2, bi2.eq_3, bi2.eq_4, asInt.eq_1, asBool.eq_1, items.eq_1, items.eq_2, items.eq_3, slc.eq_1, slc.eq_2, slc.eq_3, isInst.eq_1, isInst.eq_2, isInst.eq_3, isInst.eq_4, isInst.eq_5, isInst.eq_6, isInst.eq_7, isO.eq_1, isO.eq_2, isO.eq_3, isO.eq_4, isO.eq_5, isO.eq_6, isO.eq_7, inD.eq_1, inD.eq_2, inD.eq_3, outsB]
  | .int _, _, p => simp [B_are_outcomes, C_are_outcomes, -Prod.forall, -Prod.exists, -List.map_map, -List.getD_eq_getElem?_getD, wp_loc, wp_cst, wp_glb, wp_ed, wp_bin, wp_neg, wp_not, wp_and, wp_or, wp_cmp, wp_iteE, wp_tup, wp_lst, wp_idx, wp_b1, wp_b2, wp_isi, wp_slcF, wp_slcT, wp_callP, wp_call, wp_callK, fnAt0, fnAtS, wp_nil, wp_cons, wp_seq, wp_rng, wp_rng2, wp_SLnil, wp_SL, Rest, wp_asg, wp_asgD, wp_new, wp_free, wp_app, wp_iteS, wp_retS, wp_expr, wp_par, wp_asgT, wp_parN, wp_popT, env0, rdE, visE, allE, get2, getv, visO, allO, setAll, setAll2, bindT, bindT2, wipeE, noL, noLs, listAt, permA_nil, permA10, permA210, sz2, bop.eq_1, bop.eq_2, bop.eq_3, bop.eq_4, bop.eq_5, bop.eq_6, bop.eq_7, bop.eq_8, bop.eq_9, cop_eq_int, cop_ne_int, cop_eq_bool, cop_ne_bool, repr_two, repr_bool, cop.eq_3, cop.eq_4, cop.eq_5, cop.eq_6, cop.eq_7, cop.eq_8, cop.eq_9, cop.eq_10, cop.eq_11, cop.eq_12, cop.eq_13, cop.eq_14, cop.eq_15, bi1.eq_1, bi1.eq_2, bi1.eq_3, bi1.eq_4, bi1.eq_5, bi1.eq_6, bi1.eq_7, bi1.eq_8, bi1.eq_9, bi1.eq_10, bi1.eq_11, bi1.eq_12, bi1.eq_13, bi1.eq_14, bi1.eq_19, bi2.eq_1, bi2.eq_2, bi2.eq_3, bi2.eq_4, asInt.eq_1, asBool.eq_1, items.eq_1, items.eq_2, items.eq_3, slc.eq_1, slc.eq_2, slc.eq_3, isInst.eq_1, isInst.eq_2, isInst.eq_3, isInst.eq_4, isInst.eq_5, isInst.eq_6, isInst.eq_7, isO.eq_1, isO.eq_2, isO.eq_3, isO.eq_4, isO.eq_5, isO.eq_6, isO.eq_7, inD.eq_1, inD.eq_2, inD.eq_3, outsB]
  | .bool _, _, p => simp [B_are_outcomes, C_are_outcomes, -Prod.forall, -Prod.exists, -List.map_map, -List.getD_eq_getElem?_getD, wp_loc, wp_cst, wp_glb, wp_ed, wp_bin, wp_neg, wp_not, wp_and, wp_or, wp_cmp, wp_iteE, wp_tup, wp_lst, wp_idx, wp_b1, wp_b2, wp_isi, wp_slcF, wp_slcT, wp_callP, wp_call, wp_callK, fnAt0, fnAtS, wp_nil, wp_cons, wp_seq, wp_rng, wp_rng2, wp_SLnil, wp_SL, Rest, wp_asg, wp_asgD, wp_new, wp_free, wp_app, wp_iteS, wp_retS, wp_expr, wp_par, wp_asgT, wp_parN, wp_popT, env0, rdE, visE, allE, get2, getv, visO, allO, setAll, setAll2, bindT, bindT2, wipeE, noL, noLs, listAt, permA_nil, permA10, permA210, sz2, bop.eq_1, bop.eq_2, bop.eq_3, bop.eq_4, bop.eq_5, bop.eq_6, bop.eq_7, bop.eq_8, bop.eq_9, cop_eq_int, cop_ne_int, cop_eq_bool, cop_ne_bool, repr_two, repr_bool, cop.eq_3, cop.eq_4, cop.eq_5, cop.eq_6, cop.eq_7, cop.eq_8, cop.eq_9, cop.eq_10, cop.eq_11, cop.eq_12, cop.eq_13, cop.eq_14, cop.eq_15, bi1.eq_1, bi1.eq_2, bi1.eq_3, bi1.eq_4, bi1.eq_5, bi1.eq_6, bi1.eq_7, bi1.eq_8, bi1.eq_9, bi1.eq_10, bi1.eq_11, bi1.eq_12, bi1.eq_13, bi1.eq_14, bi1.eq_19, bi2.eq_1, bi2.eq_2, bi2.eq_3, bi2.eq_4, asInt.eq_1, asBool.eq_1, items.eq_1, items.eq_2, items.eq_3, slc.eq_1, slc.eq_2, slc.eq_3, isInst.eq_1, isInst.eq_2, isInst.eq_3, isInst.eq_4, isInst.eq_5, isInst.eq_6, isInst.eq_7, isO.eq_1, isO.eq_2, isO.eq_3, isO.eq_4, isO.eq_5, isO.eq_6, isO.eq_7, inD.eq_1, inD.eq_2, inD.eq_3, outsB]
  | .str _, _, p => simp [B_are_outcomes, C_are_outcomes, -Prod.forall, -Prod.exists, -List.map_map, -List.getD_eq_getElem?_getD, wp_loc, wp_cst, wp_glb, wp_ed, wp_bin, wp_neg, wp_not, wp_and, wp_or, wp_cmp, wp_iteE, wp_tup, wp_lst, wp_idx, wp_b1, wp_b2, wp_isi, wp_slcF, wp_slcT, wp_callP, wp_call, wp_callK, fnAt0, fnAtS, wp_nil, wp_cons, wp_seq, wp_rng, wp_rng2, wp_SLnil, wp_SL, Rest, wp_asg, wp_asgD, wp_new, wp_free, wp_app, wp_iteS, wp_retS, wp_expr, wp_par, wp_asgT, wp_parN, wp_popT, env0, rdE, visE, allE, get2, getv, visO, allO, setAll, setAll2, bindT, bindT2, wipeE, noL, noLs, listAt, permA_nil, permA10, permA210, sz2, bop.eq_1, bop.eq_2, bop.eq_3, bop.eq_4, bop.eq_5, bop.eq_6, bop.eq_7, bop.eq_8, bop.eq_9, cop_eq_int, cop_ne_int, cop_eq_bool, cop_ne_bool, repr_two, repr_bool, cop.eq_3, cop.eq_4, cop.eq_5, cop.eq_6, cop.eq_7, cop.eq_8, cop.eq_9, cop.eq_10, cop.eq_11, cop.eq_12, cop.eq_13, cop.eq_14, cop.eq_15, bi1.eq_1, bi1.eq_2, bi1.eq_3, bi1.eq_4, bi1.eq_5, bi1.eq_6, bi1.eq_7, bi1.eq_8, bi1.eq_9, bi1.eq_10, bi1.eq_11, bi1.eq_12, bi1.eq_13, bi1.eq_14, bi1.eq_19, bi2.eq_1, bi2.eq_2, bi2.eq_3, bi2.eq_4, asInt.eq_1, asBool.eq_1, items.eq_1, items.eq_2, items.eq_3, slc.eq_1, slc.eq_2, slc.eq_3, isInst.eq_1, isInst.eq_2, isInst.eq_3, isInst.eq_4, isInst.eq_5, isInst.eq_6, isInst.eq_7, isO.eq_1, isO.eq_2, isO.eq_3, isO.eq_4, isO.eq_5, isO.eq_6, isO.eq_7, inD.eq_1, inD.eq_2, inD.eq_3, outsB]
  | .list _, _, p => simp [B_are_outcomes, C_are_outcomes, -Prod.forall, -Prod.exists, -List.map_map, -List.getD_eq_getElem?_getD, wp_loc, wp_cst, wp_glb, wp_ed, wp_bin, wp_neg, wp_not, wp_and, wp_or, wp_cmp, wp_iteE, wp_tup, wp_lst, wp_idx, wp_b1, wp_b2, wp_isi, wp_slcF, wp_slcT, wp_callP, wp_call, wp_callK, fnAt0, fnAtS, wp_nil, wp_cons, wp_seq, wp_rng, wp_rng2, wp_SLnil, wp_SL, Rest, wp_asg, wp_asgD, wp_new, wp_free, wp_app, wp_iteS, wp_retS, wp_expr, wp_par, wp_asgT, wp_parN, wp_popT, env0, rdE, visE, allE, get2, getv, visO, allO, setAll, setAll2, bindT, bindT2, wipeE, noL, noLs, listAt, permA_nil, permA10, permA210, sz2, bop.eq_1, bop.eq_2, bop.eq_3, bop.eq_4, bop.eq_5, bop.eq_6, bop.eq_7, bop.eq_8, bop.eq_9, cop_eq_int, cop_ne_int, cop_eq_bool, cop_ne_bool, repr_two, repr_bool, cop.eq_3, cop.eq_4, cop.eq_5, cop.eq_6, cop.eq_7, cop.eq_8, cop.eq_9, cop.eq_10, cop.eq_11, cop.eq_12, cop.eq_13, cop.eq_14, cop.eq_15, bi1.eq_1, bi1.eq_2, bi1.eq_3, bi1.eq_4, bi1.eq_5, bi1.eq_6, bi1.eq_7, bi1.eq_8, bi1.eq_9, bi1.eq_10, bi1.eq_11, bi1.eq_12, bi1.eq_13, bi1.eq_14, bi1.eq_19, bi2.eq_1, bi2.eq_2, bi2.eq_3, bi2.eq_4, asInt.eq_1, asBool.eq_1, items.eq_1, items.eq_2, items.eq_3, slc.eq_1, slc.eq_2, slc.eq_3, isInst.eq_1, isInst.eq_2, isInst.eq_3, isInst.eq_4, isInst.eq_5, isInst.eq_6, isInst.eq_7, isO.eq_1, isO.eq_2, isO.eq_3, isO.eq_4, isO.eq_5, isO.eq_6, isO.eq_7, inD.eq_1, inD.eq_2, inD.eq_3, outsB]
  | .dict _, _, p => simp [B_are_outcomes, C_are_outcomes, -Prod.forall, -Prod.exists, -List.map_map, -List.getD_eq_getElem?_getD, wp_loc, wp_cst, wp_glb, wp_ed, wp_bin, wp_neg, wp_not, wp_and, wp_or, wp_cmp, wp_iteE, wp_tup, wp_lst, wp_idx, wp_b1, wp_b2, wp_isi, wp_slcF, wp_slcT, wp_callP, wp_call, wp_callK, fnAt0, fnAtS, wp_nil, wp_cons, wp_seq, wp_rng, wp_rng2, wp_SLnil, wp_SL, Rest, wp_asg, wp_asgD, wp_new, wp_free, wp_app, wp_iteS, wp_retS, wp_expr, wp_par, wp_asgT, wp_parN, wp_popT, env0, rdE, visE, allE, get2, getv, visO, allO, setAll, setAll2, bindT, bindT2, wipeE, noL, noLs, listAt, permA_nil, permA10, permA210, sz2, bop.eq_1, bop.eq_2, bop.eq_3, bop.eq_4, bop.eq_5, bop.eq_6, bop.eq_7, bop.eq_8, bop.eq_9, cop_eq_int, cop_ne_int, cop_eq_bool, cop_ne_bool, repr_two, repr_bool, cop.eq_3, cop.eq_4, cop.eq_5, cop.eq_6, cop.eq_7, cop.eq_8, cop.eq_9, cop.eq_10, cop.eq_11, cop.eq_12, cop.eq_13, cop.eq_14, cop.eq_15, bi1.eq_1, bi1.eq_2, bi1.eq_3, bi1.eq_4, bi1.eq_5, bi1.eq_6, bi1.eq_7, bi1.eq_8, bi1.eq_9, bi1.eq_10, bi1.eq_11, bi1.eq_12, bi1.eq_13, bi1.eq_14, bi1.eq_19, bi2.eq_1, bi2.eq_2, bi2.eq_3, bi2.eq_4, asInt.eq_1, asBool.eq_1, items.eq_1, items.eq_2, items.eq_3, slc.eq_1, slc.eq_2, slc.eq_3, isInst.eq_1, isInst.eq_2, isInst.eq_3, isInst.eq_4, isInst.eq_5, isInst.eq_6, isInst.eq_7, isO.eq_1, isO.eq_2, isO.eq_3, isO.eq_4, isO.eq_5, isO.eq_6, isO.eq_7, inD.eq_1, inD.eq_2, inD.eq_3, outsB, p, tupD]
def pairsB (os : List D) : D → Bool
  | .tuple ps => ps.all (pairB os) && riseD ps
  | _ => false
theorem pairB_inv {os : List D} {d : D} (h : pairB os d = true) : ∃ x y, d = .tuple [.str x, .str y] := by
  unfold pairB at h
  split at h
  · rename_i a b
    unfold outB at h
    simp only [Bool.and_eq_true] at h
    obtain ⟨⟨h1, _⟩, h2, _⟩ := h
    cases a <;> first | cases h1 | skip
    cases b <;> first | cases h2 | skip
    exact ⟨_, _, rfl⟩
  · cases h
theorem ev_are_pairs_of (os : List D) (v : D) (n : Nat) (hn : n ≤ 58) (h : Sd (n + 2) v) (g : SeqAt.shaped (.tuple os) = true) (hl : ∀ ps, v = .tuple ps → ps.length ≤ 16777216) : Ev (F_are_pairs_of [.tuple os, v]) (.bool (pairsB os v)) := ev_of fun w => by
  refine wp_D ?_
  match v, h, hl with
  | .tuple ps, h, hl =>
    simp [B_are_pairs_of, C_are_pairs_of, -Prod.forall, -Prod.exists, -List.map_map, -List.getD_eq_getElem?_getD, wp_loc, wp_cst, wp_glb, wp_ed, wp_bin, wp_neg, wp_not, wp_and, wp_or, wp_cmp, wp_iteE, wp_tup, wp_lst, wp_idx, wp_b1, wp_b2, wp_isi, wp_slcF, wp_slcT, wp_callP, wp_call, wp_callK, fnAt0, fnAtS, wp_nil, wp_cons, wp_seq, wp_rng, wp_rng2, wp_SLnil, wp_SL, Rest, wp_asg, wp_asgD, wp_new, wp_free, wp_app, wp_iteS, wp_retS, wp_expr, wp_par, wp_asgT, wp_parN, wp_popT, env0, rdE, visE, allE, get2, getv, visO, allO, setAll, setAll2, bindT, bindT2, wipeE, noL, noLs, listAt, permA_nil, permA10, permA210, sz2, bop.eq_1, bop.eq_2, bop.eq_3, bop.eq_4, bop.eq_5, bop.eq_6, bop.eq_7, bop.eq_8, bop.eq_9, cop_eq_int, cop_ne_int, cop_eq_bool, cop_ne_bool, repr_two, repr_bool, cop.eq_3, cop.eq_4, cop.eq_5, cop.eq_6, cop.eq_7, cop.eq_8, cop.eq_9, cop.eq_10, cop.eq_11, cop.eq_12, cop.eq_13, cop.eq_14, cop.eq_15, bi1.eq_1, bi1.eq_2, bi1.eq_3, bi1.eq_4, bi1.eq_5, bi1.eq_6, bi1.eq_7, bi1.eq_8, bi1.eq_9, bi1.eq_10, bi1.eq_11, bi1.eq_12, bi1.eq_13, bi1.eq_14, bi1.eq_19, bi2.eq_1, bi2.eq_2, bi2.eq_3, bi2.eq_4, asInt.eq_1, asBool.eq_1, items.eq_1, items.eq_2, items.eq_3, slc.eq_1, slc.eq_2, slc.eq_3, isInst.eq_1, isInst.eq_2, isInst.eq_3, isInst.eq_4, isInst.eq_5, isInst.eq_6, isInst.eq_7, isO.eq_1, isO.eq_2, isO.eq_3, isO.eq_4, isO.eq_5, isO.eq_6, isO.eq_7, inD.eq_1, inD.eq_2, inD.eq_3]
    refine wp_compF (fun d : D => d) (fun d => .bool (pairB os d)) ps ?_ ?_ ?_
    · simp [-Prod.forall, -Prod.exists, -List.map_map, -List.getD_eq_getElem?_getD, wp_loc, wp_cst, wp_glb, wp_ed, wp_bin, wp_neg, wp_not, wp_and, wp_or, wp_cmp, wp_iteE, wp_tup, wp_lst, wp_idx, wp_b1, wp_b2, wp_isi, wp_slcF, wp_slcT, wp_callP, wp_call, wp_callK, fnAt0, fnAtS, wp_nil, wp_cons, wp_seq, wp_rng, wp_rng2, wp_SLnil, wp_SL, Rest, wp_asg, wp_asgD, wp_new, wp_free, wp_app, wp_iteS, wp_retS, wp_expr, wp_par, wp_asgT, wp_parN, wp_popT, env0, rdE, visE, allE, get2, getv, visO, allO, setAll, setAll2, bindT, bindT2, wipeE, noL, noLs, listAt, permA_nil, permA10, permA210, sz2, bop.eq_1, bop.eq_2, bop.eq_3, bop.eq_4, bop.eq_5, bop.eq_6, bop.eq_7, bop.eq_8, bop.eq_9, cop_eq_int, cop_ne_int, cop_eq_bool, cop_ne_bool, repr_two, repr_bool, cop.eq_3, cop.eq_4, cop.eq_5, cop.eq_6, cop.eq_7, cop.eq_8, cop.eq_9, cop.eq_10, cop.eq_11, cop.eq_12, cop.eq_13, cop.eq_14, cop.eq_15, bi1.eq_1, bi1.eq_2, bi1.eq_3, bi1.eq_4, bi1.eq_5, bi1.eq_6, bi1.eq_7, bi1.eq_8, bi1.eq_9, bi1.eq_10, bi1.eq_11, bi1.eq_12, bi1.eq_13, bi1.eq_14, bi1.eq_19, bi2.eq_1, bi2.eq_2, bi2.eq_3, bi2.eq_4, asInt.eq_1, asBool.eq_1, items.eq_1, items.eq_2, items.eq_3, slc.eq_1, slc.eq_2, slc.eq_3, isInst.eq_1, isInst.eq_2, isInst.eq_3, isInst.eq_4, isInst.eq_5, isInst.eq_6, isInst.eq_7, isO.eq_1, isO.eq_2, isO.eq_3, isO.eq_4, isO.eq_5, isO.eq_6, isO.eq_7, inD.eq_1, inD.eq_2, inD.eq_3]
    · refine fun d hd => ⟨_, rfl, fun w => ?_⟩
      simp [-Prod.forall, -Prod.exists, -List.map_map, -List.getD_eq_getElem?_getD, wp_loc, wp_cst, wp_glb, wp_ed, wp_bin, wp_neg, wp_not, wp_and, wp_or, wp_cmp, wp_iteE, wp_tup, wp_lst, wp_idx, wp_b1, wp_b2, wp_isi, wp_slcF, wp_slcT, wp_callP, wp_call, wp_callK, fnAt0, fnAtS, wp_nil, wp_cons, wp_seq, wp_rng, wp_rng2, wp_SLnil, wp_SL, Rest, wp_asg, wp_asgD, wp_new, wp_free, wp_app, wp_iteS, wp_retS, wp_expr, wp_par, wp_asgT, wp_parN, wp_popT, env0, rdE, visE, allE, get2, getv, visO, allO, setAll, setAll2, bindT, bindT2, wipeE, noL, noLs, listAt, permA_nil, permA10, permA210, sz2, bop.eq_1, bop.eq_2, bop.eq_3, bop.eq_4, bop.eq_5, bop.eq_6, bop.eq_7, bop.eq_8, bop.eq_9, cop_eq_int, cop_ne_int, cop_eq_bool, cop_ne_bool, repr_two, repr_bool, cop.eq_3, cop.eq_4, cop.eq_5, cop.eq_6, cop.eq_7, cop.eq_8, cop.eq_9, cop.eq_10, cop.eq_11, cop.eq_12, cop.eq_13, cop.eq_14, cop.eq_15, bi1.eq_1, bi1.eq_2, bi1.eq_3, bi1.eq_4, bi1.eq_5, bi1.eq_6, bi1.eq_7, bi1.eq_8, bi1.eq_9, bi1.eq_10, bi1.eq_11, bi1.eq_12, bi1.eq_13, bi1.eq_14, bi1.eq_19, bi2.eq_1, bi2.eq_2, bi2.eq_3, bi2.eq_4, asInt.eq_1, asBool.eq_1, items.eq_1, items.eq_2, items.eq_3, slc.eq_1, slc.eq_2, slc.eq_3, isInst.eq_1, isInst.eq_2, isInst.eq_3, isInst.eq_4, isInst.eq_5, isInst.eq_6, isInst.eq_7, isO.eq_1, isO.eq_2, isO.eq_3, isO.eq_4, isO.eq_5, isO.eq_6, isO.eq_7, inD.eq_1, inD.eq_2, inD.eq_3]
      exact wp_ev (ev_is_pair_of os d n (by omega) (sd_tup.mp h d hd) g) (by simp)
    · refine ⟨_, all_map (pairB os) ps, ?_⟩
      cases e : ps.all (pairB os)
      · simp [-Prod.forall, -Prod.exists, -List.map_map, -List.getD_eq_getElem?_getD, wp_loc, wp_cst, wp_glb, wp_ed, wp_bin, wp_neg, wp_not, wp_and, wp_or, wp_cmp, wp_iteE, wp_tup, wp_lst, wp_idx, wp_b1, wp_b2, wp_isi, wp_slcF, wp_slcT, wp_callP, wp_call, wp_callK, fnAt0, fnAtS, wp_nil, wp_cons, wp_seq, wp_rng, wp_rng2, wp_SLnil, wp_SL, Rest, wp_asg, wp_asgD, wp_new, wp_free, wp_app, wp_iteS, wp_retS, wp_expr, wp_par, wp_asgT, wp_parN, wp_popT, env0, rdE, visE, allE, get2, getv, visO, allO, setAll, setAll2, bindT, bindT2, wipeE, noL, noLs, listAt, permA_nil, permA10, permA210, sz2, bop.eq_1, bop.eq_2, bop.eq_3, bop.eq_4, bop.eq_5, bop.eq_6, bop.eq_7, bop.eq_8, bop.eq_9, cop_eq_int, cop_ne_int, cop_eq_bool, cop_ne_bool, repr_two, repr_bool, cop.eq_3, cop.eq_4, cop.eq_5, cop.eq_6, cop.eq_7, cop.eq_8, cop.eq_9, cop.eq_10, cop.eq_11, cop.eq_12, cop.eq_13, cop.eq_14, cop.eq_15, bi1.eq_1, bi1.eq_2, bi1.eq_3, bi1.eq_4, bi1.eq_5, bi1.eq_6, bi1.eq_7, bi1.eq_8, bi1.eq_9, bi1.eq_10, bi1.eq_11, bi1.eq_12, bi1.eq_13, bi1.eq_14, bi1.eq_19, bi2.eq_1, bi2.eq_2, bi2.eq_3, bi2.eq_4, asInt.eq_1, asBool.eq_1, items.eq_1, items.eq_2, items.eq_3, slc.eq_1, slc.eq_2, slc.eq_3, isInst.eq_1, isInst.eq_2, isInst.eq_3, isInst.eq_4, isInst.eq_5, isInst.eq_6, isInst.eq_7, isO.eq_1, isO.eq_2, isO.eq_3, isO.eq_4, isO.eq_5, isO.eq_6, isO.eq_7, inD.eq_1, inD.eq_2, inD.eq_3, pairsB, e]
      · have ha := List.all_eq_true.mp e
        simp [-Prod.forall, -Prod.exists, -List.map_map, -List.getD_eq_getElem?_getD, wp_loc, wp_cst, wp_glb, wp_ed, wp_bin, wp_neg, wp_not, wp_and, wp_or, wp_cmp, wp_iteE, wp_tup, wp_lst, wp_idx, wp_b1, wp_b2, wp_isi, wp_slcF, wp_slcT, wp_callP, wp_call, wp_callK, fnAt0, fnAtS, wp_nil, wp_cons, wp_seq, wp_rng, wp_rng2, wp_SLnil, wp_SL, Rest, wp_asg, wp_asgD, wp_new, wp_free, wp_app, wp_iteS, wp_retS, wp_expr, wp_par, wp_asgT, wp_parN, wp_popT, env0, rdE, visE, allE, get2, getv, visO, allO, setAll, setAll2, bindT, bindT2, wipeE, noL, noLs, listAt, permA_nil, permA10, permA210, sz2, bop.eq_1, bop.eq_2, bop.eq_3, bop.eq_4, bop.eq_5, bop.eq_6, bop.eq_7, bop.eq_8, bop.eq_9, cop_eq_int, cop_ne_int, cop_eq_bool, cop_ne_bool, repr_two, repr_bool, cop.eq_3, cop.eq_4, cop.eq_5, cop.eq_6, cop.eq_7, cop.eq_8, cop.eq_9, cop.eq_10, cop.eq_11, cop.eq_12, cop.eq_13, cop.eq_14, cop.eq_15, bi1.eq_1, bi1.eq_2, bi1.eq_3, bi1.eq_4, bi1.eq_5, bi1.eq_6, bi1.eq_7, bi1.eq_8, bi1.eq_9, bi1.eq_10, bi1.eq_11, bi1.eq_12, bi1.eq_13, bi1.eq_14, bi1.eq_19, bi2.eq_1, bi2.eq_2, bi2.eq_3, bi2.eq_4, asInt.eq_1, asBool.eq_1, items.eq_1, items.eq_2, items.eq_3, slc.eq_1, slc.eq_2, slc.eq_3, isInst.eq_1, isInst.eq_2, isInst.eq_3, isInst.eq_4, isInst.eq_5, isInst.eq_6, isInst.eq_7, isO.eq_1, isO.eq_2, isO.eq_3, isO.eq_4, isO.eq_5, isO.eq_6, isO.eq_7, inD.eq_1, inD.eq_2, inD.eq_3]
        refine wp_ev (ev_are_rising ps (cmp_pair (fun d hd => pairB_inv (ha d hd)) fun d hd => (sd_tup.mp h d hd).sh (by omega)) (hl ps rfl)) ?_
        simp only [pairsB, e, Bool.true_and]
  | .none, h, _ => simp [B_are_pairs_of, C_are_pairs_of, -Prod.forall, -Prod.exists, -List.map_map, -List.getD_eq_getElem?_getD, wp_loc, wp_cst, wp_glb, wp_ed, wp_bin, wp_neg, wp_not, wp_and, wp_or, wp_cmp, wp_iteE, wp_tup, wp_lst, wp_idx, wp_b1, wp_b2, wp_isi, wp_slcF, wp_slcT, wp_callP, wp_call, wp_callK, fnAt0, fnAtS, wp_nil, wp_cons, wp_seq, wp_rng, wp_rng2, wp_SLnil, wp_SL, Rest, wp_asg, wp_asgD, wp_new, wp_free, wp_app, wp_iteS, wp_retS, wp_expr, wp_par, wp_asgT, wp_parN, wp_popT, env0, rdE, visE, allE, get2, getv, visO, allO, setAll, setAll2, bindT, bindT2, wipeE, noL, noLs, listAt, permA_nil, permA10, permA210, sz2, bop.eq_1, bop.eq_2, bop.eq_3, bop.eq_4, bop.eq_5, bop.eq_6, bop.eq_7, bop.eq_8, bop.eq_9, cop_eq_int, cop_ne_int, cop_eq_bool, cop_ne_bool, repr_two, repr_bool, cop.eq_3, cop.eq_4, cop.eq_5, cop.eq_6, cop.eq_7, cop.eq_8, cop.eq_9, cop.eq_10, cop.eq_11, cop.eq_12, cop.eq_13, cop.eq_14, cop.eq_15, bi1.eq_1, bi1.eq_2, bi1.eq_3, bi1.eq_4, bi1.eq_5, bi1.eq_6, bi1.eq_7, bi1.eq_8, bi1.eq_9, bi1.eq_10, bi1.eq_11, bi1.eq_12, bi1.eq_13, bi1.eq_14, bi1.eq_19, bi2.eq_1, bi2.eq_2, bi2.eq_3, bi2.eq_4, asInt.eq_1, asBool.eq_1, items.eq_1, items.eq_2, items.eq_3, slc.eq_1, slc.eq_2, slc.eq_3, isInst.eq_1, isInst.eq_2, isInst.eq_3, isInst.eq_4, isInst.eq_5, isInst.eq_6, isInst.eq_7, isO.eq_1, isO.eq_2, isO.eq_3, isO.eq_4, isO.eq_5, isO.eq_6, isO.eq_7, inD.eq_1, inD.eq_2, inD.eq_3, pairsB]
  | .int _, h, _ => simp [B_are_pairs_of, C_are_pairs_of, -Prod.forall, -Prod.exists, -List.map_map, -List.getD_eq_getElem?_getD, wp_loc, wp_cst, wp_glb, wp_ed, wp_bin, wp_neg, wp_not, wp_and, wp_or, wp_cmp, wp_iteE, wp_tup, wp_lst, wp_idx, wp_b1, wp_b2, wp_isi, wp_slcF, wp_slcT, wp_callP, wp_call, wp_callK, fnAt0, fnAtS, wp_nil, wp_cons, wp_seq, wp_rng, wp_rng2, wp_SLnil, wp_SL, Rest, wp_asg, wp_asgD, wp_new, wp_free, wp_app, wp_iteS, wp_retS, wp_expr, wp_par, wp_asgT, wp_parN, wp_popT, env0, rdE, visE, allE, get2, getv, visO, allO, setAll, setAll2, bindT, bindT2, wipeE, noL, noLs, listAt, permA_nil, permA10, permA210, sz2, bop.eq_1, bop.eq_2, bop.eq_3, bop.eq_4, bop.eq_5, bop.eq_6, bop.eq_7, bop.eq_8, bop.eq_9, cop_eq_int, cop_ne_int, cop_eq_bool, cop_ne_bool, repr_two, repr_bool, cop.eq_3, cop.eq_4, cop.eq_5, cop.eq_6, cop.eq_7, cop.eq_8, cop.eq_9, cop.eq_10, cop.eq_11, cop.eq_12, cop.eq_13, cop.eq_14, cop.eq_15, bi1.eq_1, bi1.eq_2, bi1.eq_3, bi1.eq_4, bi1.eq_5, bi1.eq_6, bi1.eq_7, bi1.eq_8, bi1.eq_9, bi1.eq_10, bi1.eq_11, bi1.eq_12, bi1.eq_13, bi1.eq_14, bi1.eq_19, bi2.eq_1, bi2.eq_2, bi2.eq_3, bi2.eq_4, asInt.eq_1, asBool.eq_1, items.eq_1, items.eq_2, items.eq_3, slc.eq_1, slc.eq_2, slc.eq_3, isInst.eq_1, isInst.eq_2, isInst.eq_3, isInst.eq_4, isInst.eq_5, isInst.eq_6, isInst.eq_7, isO.eq_1, isO.eq_2, isO.eq_3, isO.eq_4, isO.eq_5, isO.eq_6, isO.eq_7, inD.eq_1, inD.eq_2, inD.eq_3, pairsB]
  | .bool _, h, _ => simp [B_are_pairs_of, C_are_pairs_of, -Prod.forall, -Prod.exists, -List.map_map, -List.getD_eq_getElem?_getD, wp_loc, wp_cst, wp_glb, wp_ed, wp_bin, wp_neg, wp_not, wp_and, wp_or, wp_cmp, wp_iteE, wp_tup, wp_lst, wp_idx, wp_b1, wp_b2, wp_isi, wp_slcF, wp_slcT, wp_callP, wp_call, wp_callK, fnAt0, fnAtS, wp_nil, wp_cons, wp_seq, wp_rng, wp_rng2, wp_SLnil, wp_SL, Rest, wp_asg, wp_asgD, wp_new, wp_free, wp_app, wp_iteS, wp_retS, wp_expr, wp_par, wp_asgT, wp_parN, wp_popT, env0, rdE, visE, allE, get2, getv, visO, allO, setAll, setAll2, bindT, bindT2, wipeE, noL, noLs, listAt, permA_nil, permA10, permA210, sz2, bop.eq_1, bop.eq_2, bop.eq_3, bop.eq_4, bop.eq_5, bop.eq_6, bop.eq_7, bop.eq_8, bop.eq_9, cop_eq_int, cop_ne_int, cop_eq_bool, cop_ne_bool, repr_two, repr_bool, cop.eq_3, cop.eq_4, cop.eq_5, cop.eq_6, cop.eq_7, cop.eq_8, cop.eq_9, cop.eq_10, cop.eq_11, cop.eq_12, cop.eq_13, cop.eq_14, cop.eq_15, bi1.eq_1, bi1.eq_2, bi1.eq_3, bi1.eq_4, bi1.eq_5, bi1.eq_6, bi1.eq_7, bi1.eq_8, bi1.eq_9, bi1.eq_10, bi1.eq_11, bi1.eq_12, bi1.eq_13, bi1.eq_14, bi1.eq_19, bi2.eq_1, bi2.eq_2, bi2.eq_3, bi2.eq_4, asInt.eq_1, asBool.eq_1, items.eq_1, items.eq_2, items.eq_3, slc.eq_1, slc.eq_2, slc.eq_3, isInst.eq_1, isInst.eq_2, isInst.eq_3, isInst.eq_4, isInst.eq_5, isInst.eq_6, isInst.eq_7, isO.eq_1, isO.eq_2, isO.eq_3, isO.eq_4, isO.eq_5, isO.eq_6, isO.eq_7, inD.eq_1, inD.eq_2, inD.eq_3, pairsB]
  | .str _, h, _ => simp [B_are_pairs_of, C_are_pairs_of, -Prod.forall, -Prod.exists, -List.map_map, -List.getD_eq_getElem?_getD, wp_loc, wp_cst, wp_glb, wp_ed, wp_bin, wp_neg, wp_not, wp_and, wp_or, wp_cmp, wp_iteE, wp_tup, wp_lst, wp_idx, wp_b1, wp_b2, wp_isi, wp_slcF, wp_slcT, wp_callP, wp_call, wp_callK, fnAt0, fnAtS, wp_nil, wp_cons, wp_seq, wp_rng, wp_rng2, wp_SLnil, wp_SL, Rest, wp_asg, wp_asgD, wp_new, wp_free, wp_app, wp_iteS, wp_retS, wp_expr, wp_par, wp_asgT, wp_parN, wp_popT, env0, rdE, visE, allE, get2, getv, visO, allO, setAll, setAll2, bindT, bindT2, wipeE, noL, noLs, listAt, permA_nil, permA10, permA210, sz2, bop.eq_1, bop.eq_2, bop.eq_3, bop.eq_4, bop.eq_5, bop.eq_6, bop.eq_7, bop.eq_8, bop.eq_9, cop_eq_int, cop_ne_int, cop_eq_bool, cop_ne_bool, repr_two, repr_bool, cop.eq_3, cop.eq_4, cop.eq_5, cop.eq_6, cop.eq_7, cop.eq_8, cop.eq_9, cop.eq_10, cop.eq_11, cop.eq_12, cop.eq_13, cop.eq_14, cop.eq_15, bi1.eq_1, bi1.eq_2, bi1.eq_3, bi1.eq_4, bi1.eq_5, bi1.eq_6, bi1.eq_7, bi1.eq_8, bi1.eq_9, bi1.eq_10, bi1.eq_11, bi1.eq_12, bi1.eq_13, bi1.eq_14, bi1.eq_19, bi2.eq_1, bi2.eq_2, bi2.eq_3, bi2.eq_4, asInt.eq_1, asBool.eq_1, items.eq_1, items.eq_2, items.eq_3, slc.eq_1, slc.eq_2, slc.eq_3, isInst.eq_1, isInst.eq_2, isInst.eq_3, isInst.eq_4, isInst.eq_5, isInst.eq_6, isInst.eq_7, isO.eq_1, isO.eq_2, isO.eq_3, isO.eq_4, isO.eq_5, isO.eq_6, isO.eq_7, inD.eq_1, inD.eq_2, inD.eq_3, pairsB]
  | .list _, h, _ => simp [B_are_pairs_of, C_are_pairs_of, -Prod.forall, -Prod.exists, -List.map_map, -List.getD_eq_getElem?_getD, wp_loc, wp_cst, wp_glb, wp_ed, wp_bin, wp_neg, wp_not, wp_and, wp_or, wp_cmp, wp_iteE, wp_tup, wp_lst, wp_idx, wp_b1, wp_b2, wp_isi, wp_slcF, wp_slcT, wp_callP, wp_call, wp_callK, fnAt0, fnAtS, wp_nil, wp_cons, wp_seq, wp_rng, wp_rng2, wp_SLnil, wp_SL, Rest, wp_asg, wp_asgD, wp_new, wp_free, wp_app, wp_iteS, wp_retS, wp_expr, wp_par, wp_asgT, wp_parN, wp_popT, env0, rdE, visE, allE, get2, getv, visO, allO, setAll, setAll2, bindT, bindT2, wipeE, noL, noLs, listAt, permA_nil, permA10, permA210, sz2, bop.eq_1, bop.eq_2, bop.eq_3, bop.eq_4, bop.eq_5, bop.eq_6, bop.eq_7, bop.eq_8, bop.eq_9, cop_eq_int, cop_ne_int, cop_eq_bool, cop_ne_bool, repr_two, repr_bool, cop.eq_3, cop.eq_4, cop.eq_5, cop.eq_6, cop.eq_7, cop.eq_8, cop.eq_9, cop.eq_10, cop.eq_11, cop.eq_12, cop.eq_13, cop.eq_14, cop.eq_15, bi1.eq_1, bi1.eq_2, bi1.eq_3, bi1.eq_4, bi1.eq_5, bi1.eq_6, bi1.eq_7, bi1.eq_8, bi1.eq_9, bi1.eq_10, bi1.eq_11, bi1.eq_12, bi1.eq_13, bi1.eq_14, bi1.eq_19, bi2.eq_1, bi2.eq_2, bi2.eq_3, bi2.eq_4, asInt.eq_1, asBool.eq_1, items.eq_1, items.eq_2, items.eq_3, slc.eq_1, slc.eq_2, slc.eq_3, isInst.eq_1, isInst.eq_2, isInst.eq_3, isInst.eq_4, isInst.eq_5, isInst.eq_6, isInst.eq_7, isO.eq_1, isO.eq_2, isO.eq_3, isO.eq_4, isO.eq_5, isO.eq_6, isO.eq_7, inD.eq_1, inD.eq_2, inD.eq_3, pairsB]
  | .dict _, h, _ => exact absurd h.1 (by simp [PyData.canLay0])
/-- what may be asked: shaped, or with {} at a place where only its sort is looked at -/
inductive Dom : D → Prop
  | sh {d : D} : Sd 40 d → (∀ os ps, d = .tuple [os, .tuple ps] → ps.length ≤ 16777216) → Dom d
  | ed : Dom (.dict [])
  | ed1 {x : D} : Sd 39 x → Dom (.tuple [.dict [], x])
def isG : D → Bool
  | .tuple [a, b] => outsB a && (match a with | .tuple os => pairsB os b | _ => false)
  | _ => false
end LW

-- U_n4
set_option Elab.async false
set_option linter.all false
set_option maxRecDepth 100000
set_option maxHeartbeats 1000000
set_option exponentiation.threshold 20000
namespace LW
open PySem RX
/-! ### the program's look -/
theorem pl_ed : Pl (.dict []) := fun _ => rfl
theorem Dom.pl {d : D} (h : Dom d) : Pl d := by
  cases h with
  | sh h _ => exact pl_shaped (h.sh (by decide))
  | ed => exact pl_ed
  | ed1 _ => exact pl_tup _
theorem outs_tup {a : D} (h : outsB a = true) : ∃ os, a = .tuple os := by
  cases a with
  | tuple os => exact ⟨os, rfl⟩
  | _ => cases h
theorem ev_is_ground_by (d : D) (h : Dom d) : Ev (F_is_ground_by [d]) (.bool (isG d)) := ev_of fun w => by
  refine wp_D ?_
  simp [B_is_ground_by, C_is_ground_by, -Prod.forall, -Prod.exists, -List.map_map, -List.getD_eq_getElem?_getD, wp_loc, wp_cst, wp_glb, wp_ed, wp_bin, wp_neg, wp_not, wp_and, wp_or, wp_cmp, wp_iteE, wp_tup, wp_lst, wp_idx, wp_b1, wp_b2, wp_isi, wp_slcF, wp_slcT, wp_callP, wp_call, wp_callK, fnAt0, fnAtS, wp_nil, wp_cons, wp_seq, wp_rng, wp_rng2, wp_SLnil, wp_SL, Rest, wp_asg, wp_asgD, wp_new, wp_free, wp_app, wp_iteS, wp_retS, wp_expr, wp_par, wp_asgT, wp_parN, wp_popT, env0, rdE, visE, allE, get2, getv, visO, allO, setAll, setAll2, bindT, bindT2, wipeE, noL, noLs, listAt, permA_nil, permA10, permA210, sz2, bop.eq_1, bop.eq_2, bop.eq_3, bop.eq_4, bop.eq_5, bop.eq_6, bop.eq_7, bop.eq_8, bop.eq_9, cop_eq_int, cop_ne_int, cop_eq_bool, cop_ne_bool, repr_two, repr_bool, cop.eq_3, cop.eq_4, cop.eq_5, cop.eq_6, cop.eq_7, cop.eq_8, cop.eq_9, cop.eq_10, cop.eq_11, cop.eq_12, cop.eq_13, cop.eq_14, cop.eq_15, bi1.eq_1, bi1.eq_2, bi1.eq_3, bi1.eq_4, bi1.eq_5, bi1.eq_6, bi1.eq_7, bi1.eq_8, bi1.eq_9, bi1.eq_10, bi1.eq_11, bi1.eq_12, bi1.eq_13, bi1.eq_14, bi1.eq_19, bi2.eq_1, bi2.eq_2, bi2.eq_3, bi2.eq_4, asInt.eq_1, asBool.eq_1, items.eq_1, items.eq_2, items.eq_3, slc.eq_1, slc.eq_2, slc.eq_3, isInst.eq_1, isInst.eq_2, isInst.eq_3, isInst.eq_4, isInst.eq_5, isInst.eq_6, isInst.eq_7, isO.eq_1, isO.eq_2, isO.eq_3, isO.eq_4, isO.eq_5, isO.eq_6, isO.eq_7, inD.eq_1, inD.eq_2, inD.eq_3]
  refine wp_ev (ev_is_tuple_of d 2 h.pl) ?_
  match d, h with
  | .tuple [a, b], h =>
    have pa : Pl a ∧ ∀ os, a = .tuple os → ∀ d ∈ os, Sd 38 d := by
      cases h with
      | sh h _ =>
        have z := sd_tup.mp h a (by simp)
        exact ⟨pl_shaped (z.sh (by decide)), fun os e d hd => by subst e; exact sd_tup.mp z d hd⟩
      | ed1 _ => exact ⟨pl_ed, fun os e => nomatch e⟩
    simp [-Prod.forall, -Prod.exists, -List.map_map, -List.getD_eq_getElem?_getD, wp_loc, wp_cst, wp_glb, wp_ed, wp_bin, wp_neg, wp_not, wp_and, wp_or, wp_cmp, wp_iteE, wp_tup, wp_lst, wp_idx, wp_b1, wp_b2, wp_isi, wp_slcF, wp_slcT, wp_callP, wp_call, wp_callK, fnAt0, fnAtS, wp_nil, wp_cons, wp_seq, wp_rng, wp_rng2, wp_SLnil, wp_SL, Rest, wp_asg, wp_asgD, wp_new, wp_free, wp_app, wp_iteS, wp_retS, wp_expr, wp_par, wp_asgT, wp_parN, wp_popT, env0, rdE, visE, allE, get2, getv, visO, allO, setAll, setAll2, bindT, bindT2, wipeE, noL, noLs, listAt, permA_nil, permA10, permA210, sz2, bop.eq_1, bop.eq_2, bop.eq_3, bop.eq_4, bop.eq_5, bop.eq_6, bop.eq_7, bop.eq_8, bop.eq_9, cop_eq_int, cop_ne_int, cop_eq_bool, cop_ne_bool, repr_two, repr_bool, cop.eq_3, cop.eq_4, cop.eq_5, cop.eq_6, cop.eq_7, cop.eq_8, cop.eq_9, cop.eq_10, cop.eq_11, cop.eq_12, cop.eq_13, cop.eq_14, cop.eq_15, bi1.eq_1, bi1.eq_2, bi1.eq_3, bi1.eq_4, bi1.eq_5, bi1.eq_6, bi1.eq_7, bi1.eq_8, bi1.eq_9, bi1.eq_10, bi1.eq_11, bi1.eq_12, bi1.eq_13, bi1.eq_14, bi1.eq_19, bi2.eq_1, bi2.eq_2, bi2.eq_3, bi2.eq_4, asInt.eq_1, asBool.eq_1, items.eq_1, items.eq_2, items.eq_3, slc.eq_1, slc.eq_2, slc.eq_3, isInst.eq_1, isInst.eq_2, isInst.eq_3, isInst.eq_4, isInst.eq_5, isInst.eq_6, isInst.eq_7, isO.eq_1, isO.eq_2, isO.eq_3, isO.eq_4, isO.eq_5, isO.eq_6, isO.eq_7, inD.eq_1, inD.eq_2, inD.eq_3, idx, L2.ixN, L2.atI, ixD]
    refine wp_ev (ev_are_outcomes a 38 (by decide) pa.1 pa.2) ?_
    cases e : outsB a
    · simp [-Prod.forall, -Prod.exists, -List.map_map, -List.getD_eq_getElem?_getD, wp_loc, wp_cst, wp_glb, wp_ed, wp_bin, wp_neg, wp_not, wp_and, wp_or, wp_cmp, wp_iteE, wp_tup, wp_lst, wp_idx, wp_b1, wp_b2, wp_isi, wp_slcF, wp_slcT, wp_callP, wp_call, wp_callK, fnAt0, fnAtS, wp_nil, wp_cons, wp_seq, wp_rng, wp_rng2, wp_SLnil, wp_SL, Rest, wp_asg, wp_asgD, wp_new, wp_free, wp_app, wp_iteS, wp_retS, wp_expr, wp_par, wp_asgT, wp_parN, wp_popT, env0, rdE, visE, allE, get2, getv, visO, allO, setAll, setAll2, bindT, bindT2, wipeE, noL, noLs, listAt, permA_nil, permA10, permA210, sz2, bop.eq_1, bop.eq_2, bop.eq_3, bop.eq_4, bop.eq_5, bop.eq_6, bop.eq_7, bop.eq_8, bop.eq_9, cop_eq_int, cop_ne_int, cop_eq_bool, cop_ne_bool, repr_two, repr_bool, cop.eq_3, cop.eq_4, cop.eq_5, cop.eq_6, cop.eq_7, cop.eq_8, cop.eq_9, cop.eq_10, cop.eq_11, cop.eq_12, cop.eq_13, cop.eq_14, cop.eq_15, bi1.eq_1, bi1.eq_2, bi1.eq_3, bi1.eq_4, bi1.eq_5, bi1.eq_6, bi1.eq_7, bi1.eq_8, bi1.eq_9, bi1.eq_10, bi1.eq_11, bi1.eq_12, bi1.eq_13, bi1.eq_14, bi1.eq_19, bi2.eq_1, bi2.eq_2, bi2.eq_3, bi2.eq_4, asInt.eq_1, asBool.eq_1, items.eq_1, items.eq_2, items.eq_3, slc.eq_1, slc.eq_2, slc.eq_3, isInst.eq_1, isInst.eq_2, isInst.eq_3, isInst.eq_4, isInst.eq_5, isInst.eq_6, isInst.eq_7, isO.eq_1, isO.eq_2, isO.eq_3, isO.eq_4, isO.eq_5, isO.eq_6, isO.eq_7, inD.eq_1, inD.eq_2, inD.eq_3, isG, e]
    · obtain ⟨os, rfl⟩ := outs_tup e
      cases h with
      | sh h hl =>
        simp [-Prod.forall, -Prod.exists, -List.map_map, -List.getD_eq_getElem?_getD, wp_loc, wp_cst, wp_glb, wp_ed, wp_bin, wp_neg, wp_not, wp_and, wp_or, wp_cmp, wp_iteE, wp_tup, wp_lst, wp_idx, wp_b1, wp_b2, wp_isi, wp_slcF, wp_slcT, wp_callP, wp_call, wp_callK, fnAt0, fnAtS, wp_nil, wp_cons, wp_seq, wp_rng, wp_rng2, wp_SLnil, wp_SL, Rest, wp_asg, wp_asgD, wp_new, wp_free, wp_app, wp_iteS, wp_retS, wp_expr, wp_par, wp_asgT, wp_parN, wp_popT, env0, rdE, visE, allE, get2, getv, visO, allO, setAll, setAll2, bindT, bindT2, wipeE, noL, noLs, listAt, permA_nil, permA10, permA210, sz2, bop.eq_1, bop.eq_2, bop.eq_3, bop.eq_4, bop.eq_5, bop.eq_6, bop.eq_7, bop.eq_8, bop.eq_9, cop_eq_int, cop_ne_int, cop_eq_bool, cop_ne_bool, repr_two, repr_bool, cop.eq_3, cop.eq_4, cop.eq_5, cop.eq_6, cop.eq_7, cop.eq_8, cop.eq_9, cop.eq_10, cop.eq_11, cop.eq_12, cop.eq_13, cop.eq_14, cop.eq_15, bi1.eq_1, bi1.eq_2, bi1.eq_3, bi1.eq_4, bi1.eq_5, bi1.eq_6, bi1.eq_7, bi1.eq_8, bi1.eq_9, bi1.eq_10, bi1.eq_11, bi1.eq_12, bi1.eq_13, bi1.eq_14, bi1.eq_19, bi2.eq_1, bi2.eq_2, bi2.eq_3, bi2.eq_4, asInt.eq_1, asBool.eq_1, items.eq_1, items.eq_2, items.eq_3, slc.eq_1, slc.eq_2, slc.eq_3, isInst.eq_1, isInst.eq_2, isInst.eq_3, isInst.eq_4, isInst.eq_5, isInst.eq_6, isInst.eq_7, isO.eq_1, isO.eq_2, isO.eq_3, isO.eq_4, isO.eq_5, isO.eq_6, isO.eq_7, inD.eq_1, inD.eq_2, inD.eq_3, idx, L2.ixN, L2.atI, ixD]
        refine wp_ev (ev_are_pairs_of os b 37 (by decide) (sd_tup.mp h b (by simp)) ((sd_tup.mp h (.tuple os) (by simp)).sh (by decide)) fun ps e => hl (.tuple os) ps (by rw [e])) ?_
        simp [isG, e]
  | .tuple [], h => simp [-Prod.forall, -Prod.exists, -List.map_map, -List.getD_eq_getElem?_getD, wp_loc, wp_cst, wp_glb, wp_ed, wp_bin, wp_neg, wp_not, wp_and, wp_or, wp_cmp, wp_iteE, wp_tup, wp_lst, wp_idx, wp_b1, wp_b2, wp_isi, wp_slcF, wp_slcT, wp_callP, wp_call, wp_callK, fnAt0, fnAtS, wp_nil, wp_cons, wp_seq, wp_rng, wp_rng2, wp_SLnil, wp_SL, Rest, wp_asg, wp_asgD, wp_new, wp_free, wp_app, wp_iteS, wp_retS, wp_expr, wp_par, wp_asgT, wp_parN, wp_popT, env0, rdE, visE, allE, get2, getv, visO, allO, setAll, setAll2, bindT, bindT2, wipeE, noL, noLs, listAt, permA_nil, permA10, permA210, sz2, bop.eq_1, bop.eq_2, bop.eq_3, bop.eq_4, bop.eq_5, bop.eq_6, bop.eq_7, bop.eq_8, bop.eq_9, cop_eq_int, cop_ne_int, cop_eq_bool, cop_ne_bool, repr_two, repr_bool, cop.eq_3, cop.eq_4, cop.eq_5, cop.eq_6, cop.eq_7, cop.eq_8, cop.eq_9, cop.eq_10, cop.eq_11, cop.eq_12, cop.eq_13, cop.eq_14, cop.eq_15, bi1.eq_1, bi1.eq_2, bi1.eq_3, bi1.eq_4, bi1.eq_5, bi1.eq_6, bi1.eq_7, bi1.eq_8, bi1.eq_9, bi1.eq_10, bi1.eq_11, bi1.eq_12, bi1.eq_13, bi1.eq_14, bi1.eq_19, bi2.eq_1, bi2.eq_2, bi2.eq_3, bi2.eq_4, asInt.eq_1, asBool.eq_1, items.eq_1, items.eq_2, items.eq_3, slc.eq_1, slc.eq_2, slc.eq_3, isInst.eq_1, isInst.eq_2, isInst.eq_3, isInst.eq_4, isInst.eq_5, isInst.eq_6, isInst.eq_7, isO.eq_1, isO.eq_2, isO.eq_3, isO.eq_4, isO.eq_5, isO.eq_6, isO.eq_7, inD.eq_1, inD.eq_2, inD.eq_3, isG]
  | .tuple [a], h => simp [-Prod.forall, -Prod.exists, -List.map_map, -List.getD_eq_getElem?_getD, wp_loc, wp_cst, wp_glb, wp_ed, wp_bin, wp_neg, wp_not, wp_and, wp_or, wp_cmp, wp_iteE, wp_tup, wp_lst, wp_idx, wp_b1, wp_b2, wp_isi, wp_slcF, wp_slcT, wp_callP, wp_call, wp_callK, fnAt0, fnAtS, wp_nil, wp_cons, wp_seq, wp_rng, wp_rng2, wp_SLnil, wp_SL, Rest, wp_asg, wp_asgD, wp_new, wp_free, wp_app, wp_iteS, wp_retS, wp_expr, wp_par, wp_asgT, wp_parN, wp_popT, env0, rdE, visE, allE, get2, getv, visO, allO, setAll, setAll2, bindT, bindT2, wipeE, noL, noLs, listAt, permA_nil, permA10, permA210, sz2, bop.eq_1, bop.eq_2, bop.eq_3, bop.eq_4, bop.eq_5, bop.eq_6, bop.eq_7, bop.eq_8, bop.eq_9, cop_eq_int, cop_ne_int, cop_eq_bool, cop_ne_bool, repr_two, repr_bool, cop.eq_3, cop.eq_4, cop.eq_5, cop.eq_6, cop.eq_7, cop.eq_8, cop.eq_9, cop.eq_10, cop.eq_11, cop.eq_12, cop.eq_13, cop.eq_14, cop.eq_15, bi1.eq_1, bi1.eq_2, bi1.eq_3, bi1.eq_4, bi1.eq_5, bi1.eq_6, bi1.eq_7, bi1.eq_8, bi1.eq_9, bi1.eq_10, bi1.eq_11, bi1.eq_12, bi1.eq_13, bi1.eq_14, bi1.eq_19, bi2.eq_1, bi2.eq_2, bi2.eq_3, bi2.eq_4, asInt.eq_1, asBool.eq_1, items.eq_1, items.eq_2, items.eq_3, slc.eq_1, slc.eq_2, slc.eq_3, isInst.eq_1, isInst.eq_2, isInst.eq_3, isInst.eq_4, isInst.eq_5, isInst.eq_6, isInst.eq_7, isO.eq_1, isO.eq_2, isO.eq_3, isO.eq_4, isO.eq_5, isO.eq_6, isO.eq_7, inD.eq_1, inD.eq_2, inD.eq_3, isG]
  | .tuple (a :: b :: c :: r), h =>
    have : ¬ ((r.length : Int) + 1 + 1 + 1 = 2) := by omega
    simp [-Prod.forall, -Prod.exists, -List.map_map, -List.getD_eq_getElem?_getD, wp_loc, wp_cst, wp_glb, wp_ed, wp_bin, wp_neg, wp_not, wp_and, wp_or, wp_cmp, wp_iteE, wp_tup, wp_lst, wp_idx, wp_b1, wp_b2, wp_isi, wp_slcF, wp_slcT, wp_callP, wp_call, wp_callK, fnAt0, fnAtS, wp_nil, wp_cons, wp_seq, wp_rng, wp_rng2, wp_SLnil, wp_SL, Rest, wp_asg, wp_asgD, wp_new, wp_free, wp_app, wp_iteS, wp_retS, wp_expr, wp_par, wp_asgT, wp_parN, wp_popT, env0, rdE, visE, allE, get2, getv, visO, allO, setAll, setAll2, bindT, bindT2, wipeE, noL, noLs, listAt, permA_nil, permA10, permA210, sz2, bop.eq_1, bop.eq_2, bop.eq_3, bop.eq_4, bop.eq_5, bop.eq_6, bop.eq_7, bop.eq_8, bop.eq_9, cop_eq_int, cop_ne_int, cop_eq_bool, cop_ne_bool, repr_two, repr_bool, cop.eq_3, cop.eq_4, cop.eq_5, cop.eq_6, cop.eq_7, cop.eq_8, cop.eq_9, cop.eq_10, cop.eq_11, cop.eq_12, cop.eq_13, cop.eq_14, cop.eq_15, bi1.eq_1, bi1.eq_2, bi1.eq_3, bi1.eq_4, bi1.eq_5, bi1.eq_6, bi1.eq_7, bi1.eq_8, bi1.eq_9, bi1.eq_10, bi1.eq_11, bi1.eq_12, bi1.eq_13, bi1.eq_14, bi1.eq_19, bi2.eq_1, bi2.eq_2, bi2.eq_3, bi2.eq_4, asInt.eq_1, asBool.eq_1, items.eq_1, items.eq_2, items.eq_3, slc.eq_1, slc.eq_2, slc.eq_3, isInst.eq_1, isInst.eq_2, isInst.eq_3, isInst.eq_4, isInst.eq_5, isInst.eq_6, isInst.eq_7, isO.eq_1, isO.eq_2, isO.eq_3, isO.eq_4, isO.eq_5, isO.eq_6, isO.eq_7, inD.eq_1, inD.eq_2, inD.eq_3, isG, this]
  | .none, h => simp [-Prod.forall, -Prod.exists, -List.map_map, -List.getD_eq_getElem?_getD, wp_loc, wp_cst, wp_glb, wp_ed, wp_bin, wp_neg, wp_not, wp_and, wp_or, wp_cmp, wp_iteE, wp_tup, wp_lst, wp_idx, wp_b1, wp_b2, wp_isi, wp_slcF, wp_slcT, wp_callP, wp_call, wp_callK, fnAt0, fnAtS, wp_nil, wp_cons, wp_seq, wp_rng, wp_rng2, wp_SLnil, wp_SL, Rest, wp_asg, wp_asgD, wp_new, wp_free, wp_app, wp_iteS, wp_retS, wp_expr, wp_par, wp_asgT, wp_parN, wp_popT, env0, rdE, visE, allE, get2, getv, visO, allO, setAll, setAll2, bindT, bindT2, wipeE, noL, noLs, listAt, permA_nil, permA10, permA210, sz2, bop.eq_1, bop.eq_2, bop.eq_3, bop.eq_4, bop.eq_5, bop.eq_6, bop.eq_7, bop.eq_8, bop.eq_9, cop_eq_int, cop_ne_int, cop_eq_bool, cop_ne_bool, repr_two, repr_bool, cop.eq_3, cop.eq_4, cop.eq_5, cop.eq_6, cop.eq_7, cop.eq_8, cop.eq_9, cop.eq_10, cop.eq_11, cop.eq_12, cop.eq_13, cop.eq_14, cop.eq_15, bi1.eq_1, bi1.eq_2, bi1.eq_3, bi1.eq_4, bi1.eq_5, bi1.eq_6, bi1.eq_7, bi1.eq_8, bi1.eq_9, bi1.eq_10, bi1.eq_11, bi1.eq_12, bi1.eq_13, bi1.eq_14, bi1.eq_19, bi2.eq_1, bi2.eq_2, bi2.eq_3, bi2.eq_4, asInt.eq_1, asBool.eq_1, items.eq_1, items.eq_2, items.eq_3, slc.eq_1, slc.eq_2, slc.eq_3, isInst.eq_1, isInst.eq_2, isInst.eq_3, isInst.eq_4, isInst.eq_5, isInst.eq_6, isInst.eq_7, isO.eq_1, isO.eq_2, isO.eq_3, isO.eq_4, isO.eq_5, isO.eq_6, isO.eq_7, inD.eq_1, inD.eq_2, inD.eq_3, isG]
  | .int _, h => simp [-Prod.forall, -Prod.exists, -List.map_map, -List.getD_eq_getElem?_getD, wp_loc, wp_cst, wp_glb, wp_ed, wp_bin, wp_neg, wp_not, wp_and, wp_or, wp_cmp, wp_iteE, wp_tup, wp_lst, wp_idx, wp_b1, wp_b2, wp_isi, wp_slcF, wp_slcT, wp_callP, wp_call, wp_callK, fnAt0, fnAtS, wp_nil, wp_cons, wp_seq, wp_rng, wp_rng2, wp_SLnil, wp_SL, Rest, wp_asg, wp_asgD, wp_new, wp_free, wp_app, wp_iteS, wp_retS, wp_expr, wp_par, wp_asgT, wp_parN, wp_popT, env0, rdE, visE, allE, get2, getv, visO, allO, setAll, setAll2, bindT, bindT2, wipeE, noL, noLs, listAt, permA_nil, permA10, permA210, sz2, bop.eq_1, bop.eq_2, bop.eq_3, bop.eq_4, bop.eq_5, bop.eq_6, bop.eq_7, bop.eq_8, bop.eq_9, cop_eq_int, cop_ne_int, cop_eq_bool, cop_ne_bool, repr_two, repr_bool, cop.eq_3, cop.eq_4, cop.eq_5, cop.eq_6, cop.eq_7, cop.eq_8, cop.eq_9, cop.eq_10, cop.eq_11, cop.eq_12, cop.eq_13, cop.eq_14, cop.eq_15, bi1.eq_1, bi1.eq_2, bi1.eq_3, bi1.eq_4, bi1.eq_5, bi1.eq_6, bi1.eq_7, bi1.eq_8, bi1.eq_9, bi1.eq_10, bi1.eq_11, bi1.eq_12, bi1.eq_13, bi1.eq_14, bi1.eq_19, bi2.eq_1, bi2.eq_2, bi2.eq_3, bi2.eq_4, asInt.eq_1, asBool.eq_1, items.eq_1, items.eq_2, items.eq_3, slc.eq_1, slc.eq_2, slc.eq_3, isInst.eq_1, isInst.eq_2, isInst.eq_3, isInst.eq_4, isInst.eq_5, isInst.eq_6, isInst.eq_7, isO.eq_1, isO.eq_2, isO.eq_3, isO.eq_4, isO.eq_5, isO.eq_6, isO.eq_7, inD.eq_1, inD.eq_2, inD.eq_3, isG]
  | .bool _, h => simp [-Prod.forall, -Prod.exists, -List.map_map, -List.getD_eq_getElem?_getD, wp_loc, wp_cst, wp_glb, wp_ed, wp_bin, wp_neg, wp_not, wp_and, wp_or, wp_cmp, wp_iteE, wp_tup, wp_lst, wp_idx, wp_b1, wp_b2, wp_isi, wp_slcF, wp_slcT, wp_callP, wp_call, wp_callK, fnAt0, fnAtS, wp_nil, wp_cons, wp_seq, wp_rng, wp_rng2, wp_SLnil, wp_SL, Rest, wp_asg, wp_asgD, wp_new, wp_free, wp_app, wp_iteS, wp_retS, wp_expr, wp_par, wp_asgT, wp_parN, wp_popT, env0, rdE, visE, allE, get2, getv, visO, allO, setAll, setAll2, bindT, bindT2, wipeE, noL, noLs, listAt, permA_nil, permA10, permA210, sz2, bop.eq_1, bop.eq_2, bop.eq_3, bop.eq_4, bop.eq_5, bop.eq_6, bop.eq_7, bop.eq_8, bop.eq_9, cop_eq_int, cop_ne_int, cop_eq_bool, cop_ne_bool, repr_two, repr_bool, cop.eq_3, cop.eq_4, cop.eq_5, cop.eq_6, cop.eq_7, cop.eq_8, cop.eq_9, cop.eq_10, cop.eq_11, cop.eq_12, cop.eq_13, cop.eq_14, cop.eq_15, bi1.eq_1, bi1.eq_2, bi1.eq_3, bi1.eq_4, bi1.eq_5, bi1.eq_6, bi1.eq_7, bi1.eq_8, bi1.eq_9, bi1.eq_10, bi1.eq_11, bi1.eq_12, bi1.eq_13, bi1.eq_14, bi1.eq_19, bi2.eq_1, bi2.eq_2, bi2.eq_3, bi2.eq_4, asInt.eq_1, asBool.eq_1, items.eq_1, items.eq_2, items.eq_3, slc.eq_1, slc.eq_2, slc.eq_3, isInst.eq_1, isInst.eq_2, isInst.eq_3, isInst.eq_4, isInst.eq_5, isInst.eq_6, isInst.eq_7, isO.eq_1, isO.eq_2, isO.eq_3, isO.eq_4, isO.eq_5, isO.eq_6, isO.eq_7, inD.eq_1, inD.eq_2, inD.eq_3, isG]
  | .str _, h => simp [-Prod.forall, -Prod.exists, -List.map_map, -List.getD_eq_getElem?_getD, wp_loc, wp_cst, wp_glb, wp_ed, wp_bin, wp_neg, wp_not, wp_and, wp_or, wp_cmp, wp_iteE, wp_tup, wp_lst, wp_idx, wp_b1, wp_b2, wp_isi, wp_slcF, wp_slcT, wp_callP, wp_call, wp_callK, fnAt0, fnAtS, wp_nil, wp_cons, wp_seq, wp_rng, wp_rng2, wp_SLnil, wp_SL, Rest, wp_asg, wp_asgD, wp_new, wp_free, wp_app, wp_iteS, wp_retS, wp_expr, wp_par, wp_asgT, wp_parN, wp_popT, env0, rdE, visE, allE, get2, getv, visO, allO, setAll, setAll2, bindT, bindT2, wipeE, noL, noLs, listAt, permA_nil, permA10, permA210, sz2, bop.eq_1, bop.eq_2, bop.eq_3, bop.eq_4, bop.eq_5, bop.eq_6, bop.eq_7, bop.eq_8, bop.eq_9, cop_eq_int, cop_ne_int, cop_eq_bool, cop_ne_bool, repr_two, repr_bool, cop.eq_3, cop.eq_4, cop.eq_5, cop.eq_6, cop.eq_7, cop.eq_8, cop.eq_9, cop.eq_10, cop.eq_11, cop.eq_12, cop.eq_13, cop.eq_14, cop.eq_15, bi1.eq_1, bi1.eq_2, bi1.eq_3, bi1.eq_4, bi1.eq_5, bi1.eq_6, bi1.eq_7, bi1.eq_8, bi1.eq_9, bi1.eq_10, bi1.eq_11, bi1.eq_12, bi1.eq_13, bi1.eq_14, bi1.eq_19, bi2.eq_1, bi2.eq_2, bi2.eq_3, bi2.eq_4, asInt.eq_1, asBool.eq_1, items.eq_1, items.eq_2, items.eq_3, slc.eq_1, slc.eq_2, slc.eq_3, isInst.eq_1, isInst.eq_2, isInst.eq_3, isInst.eq_4, isInst.eq_5, isInst.eq_6, isInst.eq_7, isO.eq_1, isO.eq_2, isO.eq_3, isO.eq_4, isO.eq_5, isO.eq_6, isO.eq_7, inD.eq_1, inD.eq_2, inD.eq_3, isG]
  | .list _, h => simp [-Prod.forall, -Prod.exists, -List.map_map, -List.getD_eq_getElem?_getD, wp_loc, wp_cst, wp_glb, wp_ed, wp_bin, wp_neg, wp_not, wp_and, wp_or, wp_cmp, wp_iteE, wp_tup, wp_lst, wp_idx, wp_b1, wp_b2, wp_isi, wp_slcF, wp_slcT, wp_callP, wp_call, wp_callK, fnAt0, fnAtS, wp_nil, wp_cons, wp_seq, wp_rng, wp_rng2, wp_SLnil, wp_SL, Rest, wp_asg, wp_asgD, wp_new, wp_free, wp_app, wp_iteS, wp_retS, wp_expr, wp_par, wp_asgT, wp_parN, wp_popT, env0, rdE, visE, allE, get2, getv, visO, allO, setAll, setAll2, bindT, bindT2, wipeE, noL, noLs, listAt, permA_nil, permA10, permA210, sz2, bop.eq_1, bop.eq_2, bop.eq_3, bop.eq_4, bop.eq_5, bop.eq_6, bop.eq_7, bop.eq_8, bop.eq_9, cop_eq_int, cop_ne_int, cop_eq_bool, cop_ne_bool, repr_two, repr_bool, cop.eq_3, cop.eq_4, cop.eq_5, cop.eq_6, cop.eq_7, cop.eq_8, cop.eq_9, cop.eq_10, cop.eq_11, cop.eq_12, cop.eq_13, cop.eq_14, cop.eq_15, bi1.eq_1, bi1.eq_2, bi1.eq_3, bi1.eq_4, bi1.eq_5, bi1.eq_6, bi1.eq_7, bi1.eq_8, bi1.eq_9, bi1.eq_10, bi1.eq_11, bi1.eq_12, bi1.eq_13, bi1.eq_14, bi1.eq_19, bi2.eq_1, bi2.eq_2, bi2.eq_3, bi2.eq_4, asInt.eq_1, asBool.eq_1, items.eq_1, items.eq_2, items.eq_3, slc.eq_1, slc.eq_2, slc.eq_3, isInst.eq_1, isInst.eq_2, isInst.eq_3, isInst.eq_4, isInst.eq_5, isInst.eq_6, isInst.eq_7, isO.eq_1, isO.eq_2, isO.eq_3, isO.eq_4, isO.eq_5, isO.eq_6, isO.eq_7, inD.eq_1, inD.eq_2, inD.eq_3, isG]
  | .dict _, h => simp [-Prod.forall, -Prod.exists, -List.map_map, -List.getD_eq_getElem?_getD, wp_loc, wp_cst, wp_glb, wp_ed, wp_bin, wp_neg, wp_not, wp_and, wp_or, wp_cmp, wp_iteE, wp_tup, wp_lst, wp_idx, wp_b1, wp_b2, wp_isi, wp_slcF, wp_slcT, wp_callP, wp_call, wp_callK, fnAt0, fnAtS, wp_nil, wp_cons, wp_seq, wp_rng, wp_rng2, wp_SLnil, wp_SL, Rest, wp_asg, wp_asgD, wp_new, wp_free, wp_app, wp_iteS, wp_retS, wp_expr, wp_par, wp_asgT, wp_parN, wp_popT, env0, rdE, visE, allE, get2, getv, visO, allO, setAll, setAll2, bindT, bindT2, wipeE, noL, noLs, listAt, permA_nil, permA10, permA210, sz2, bop.eq_1, bop.eq_2, bop.eq_3, bop.eq_4, bop.eq_5, bop.eq_6, bop.eq_7, bop.eq_8, bop.eq_9, cop_eq_int, cop_ne_int, cop_eq_bool, cop_ne_bool, repr_two, repr_bool, cop.eq_3, cop.eq_4, cop.eq_5, cop.eq_6, cop.eq_7, cop.eq_8, cop.eq_9, cop.eq_10, cop.eq_11, cop.eq_12, cop.eq_13, cop.eq_14, cop.eq_15, bi1.eq_1, bi1.eq_2, bi1.eq_3, bi1.eq_4, bi1.eq_5, bi1.eq_6, bi1.eq_7, bi1.eq_8, bi1.eq_9, bi1.eq_10, bi1.eq_11, bi1.eq_12, bi1.eq_13, bi1.eq_14, bi1.eq_19, bi2.eq_1, bi2.eq_2, bi2.eq_3, bi2.eq_4, asInt.eq_1, asBool.eq_1, items.eq_1, items.eq_2, items.eq_3, slc.eq_1, slc.eq_2, slc.eq_3, isInst.eq_1, isInst.eq_2, isInst.eq_3, isInst.eq_4, isInst.eq_5, isInst.eq_6, isInst.eq_7, isO.eq_1, isO.eq_2, isO.eq_3, isO.eq_4, isO.eq_5, isO.eq_6, isO.eq_7, inD.eq_1, inD.eq_2, inD.eq_3, isG]
theorem ev_is_ground (d : D) (h : Dom d) : Ev (F_is_ground [d]) (.bool (isG d)) := ev_of fun w => by
  refine wp_D ?_
  simp [B_is_ground, C_is_ground, -Prod.forall, -Prod.exists, -List.map_map, -List.getD_eq_getElem?_getD, wp_loc, wp_cst, wp_glb, wp_ed, wp_bin, wp_neg, wp_not, wp_and, wp_or, wp_cmp, wp_iteE, wp_tup, wp_lst, wp_idx, wp_b1, wp_b2, wp_isi, wp_slcF, wp_slcT, wp_callP, wp_call, wp_callK, fnAt0, fnAtS, wp_nil, wp_cons, wp_seq, wp_rng, wp_rng2, wp_SLnil, wp_SL, Rest, wp_asg, wp_asgD, wp_new, wp_free, wp_app, wp_iteS, wp_retS, wp_expr, wp_par, wp_asgT, wp_parN, wp_popT, env0, rdE, visE, allE, get2, getv, visO, allO, setAll, setAll2, bindT, bindT2, wipeE, noL, noLs, listAt, permA_nil, permA10, permA210, sz2, bop.eq_1, bop.eq_2, bop.eq_3, bop.eq_4, bop.eq_5, bop.eq_6, bop.eq_7, bop.eq_8, bop.eq_9, cop_eq_int, cop_ne_int, cop_eq_bool, cop_ne_bool, repr_two, repr_bool, cop.eq_3, cop.eq_4, cop.eq_5, cop.eq_6, cop.eq_7, cop.eq_8, cop.eq_9, cop.eq_10, cop.eq_11, cop.eq_12, cop.eq_13, cop.eq_14, cop.eq_15, bi1.eq_1, bi1.eq_2, bi1.eq_3, bi1.eq_4, bi1.eq_5, bi1.eq_6, bi1.eq_7, bi1.eq_8, bi1.eq_9, bi1.eq_10, bi1.eq_11, bi1.eq_12, bi1.eq_13, bi1.eq_14, bi1.eq_19, bi2.eq_1, bi2.eq_2, bi2.eq_3, bi2.eq_4, asInt.eq_1, asBool.eq_1, items.eq_1, items.eq_2, items.eq_3, slc.eq_1, slc.eq_2, slc.eq_3, isInst.eq_1, isInst.eq_2, isInst.eq_3, isInst.eq_4, isInst.eq_5, isInst.eq_6, isInst.eq_7, isO.eq_1, isO.eq_2, isO.eq_3, isO.eq_4, isO.eq_5, isO.eq_6, isO.eq_7, inD.eq_1, inD.eq_2, inD.eq_3]
  exact wp_ev (ev_is_ground_by d h) (by simp)
/-! ### the law's look -/
theorem cop_notinL (c : Nat) : inD (.str ⟨#[c]⟩) (.str "abcdefghijklmnopqrstuvwxyz") = some (inL c) := rfl
theorem strok_one {c : Nat} (h : c < 0x110000) : PyData.strOk ⟨#[c]⟩ = true := by
  unfold PyData.strOk
  simp [h]
theorem ev_law_is_name (d : D) (hs : SeqAt.shaped d = true) : Ev (F_law_is_name [d]) (.bool (nmD d)) := ev_of fun w => by
  refine wp_D ?_
  cases d with
  | str x =>
    simp [B_law_is_name, C_law_is_name, -Prod.forall, -Prod.exists, -List.map_map, -List.getD_eq_getElem?_getD, wp_loc, wp_cst, wp_glb, wp_ed, wp_bin, wp_neg, wp_not, wp_and, wp_or, wp_cmp, wp_iteE, wp_tup, wp_lst, wp_idx, wp_b1, wp_b2, wp_isi, wp_slcF, wp_slcT, wp_callP, wp_call, wp_callK, fnAt0, fnAtS, wp_nil, wp_cons, wp_seq, wp_rng, wp_rng2, wp_SLnil, wp_SL, Rest, wp_asg, wp_asgD, wp_new, wp_free, wp_app, wp_iteS, wp_retS, wp_expr, wp_par, wp_asgT, wp_parN, wp_popT, env0, rdE, visE, allE, get2, getv, visO, allO, setAll, setAll2, bindT, bindT2, wipeE, noL, noLs, listAt, permA_nil, permA10, permA210, sz2, bop.eq_1, bop.eq_2, bop.eq_3, bop.eq_4, bop.eq_5, bop.eq_6, bop.eq_7, bop.eq_8, bop.eq_9, cop_eq_int, cop_ne_int, cop_eq_bool, cop_ne_bool, repr_two, repr_bool, cop.eq_3, cop.eq_4, cop.eq_5, cop.eq_6, cop.eq_7, cop.eq_8, cop.eq_9, cop.eq_10, cop.eq_11, cop.eq_12, cop.eq_13, cop.eq_14, cop.eq_15, bi1.eq_1, bi1.eq_2, bi1.eq_3, bi1.eq_4, bi1.eq_5, bi1.eq_6, bi1.eq_7, bi1.eq_8, bi1.eq_9, bi1.eq_10, bi1.eq_11, bi1.eq_12, bi1.eq_13, bi1.eq_14, bi1.eq_19, bi2.eq_1, bi2.eq_2, bi2.eq_3, bi2.eq_4, asInt.eq_1, asBool.eq_1, items.eq_1, items.eq_2, items.eq_3, slc.eq_1, slc.eq_2, slc.eq_3, isInst.eq_1, isInst.eq_2, isInst.eq_3, isInst.eq_4, isInst.eq_5, isInst.eq_6, isInst.eq_7, isO.eq_1, isO.eq_2, isO.eq_3, isO.eq_4, isO.eq_5, isO.eq_6, isO.eq_7, inD.eq_1, inD.eq_2, inD.eq_3, wp_chain]
    by_cases h1 : 1 ≤ x.length
    · by_cases h2 : x.length ≤ 8
      · refine .inr ⟨by omega, .inr ⟨by omega, ?_⟩⟩
        refine wp_compIf (fun c : Nat => (.str ⟨#[c]⟩ : D)) (fun c => !inL c) (fun c => .str ⟨#[c]⟩) x.cps.toList ?_ ?_ ?_
        · simp [-Prod.forall, -Prod.exists, -List.map_map, -List.getD_eq_getElem?_getD, wp_loc, wp_cst, wp_glb, wp_ed, wp_bin, wp_neg, wp_not, wp_and, wp_or, wp_cmp, wp_iteE, wp_tup, wp_lst, wp_idx, wp_b1, wp_b2, wp_isi, wp_slcF, wp_slcT, wp_callP, wp_call, wp_callK, fnAt0, fnAtS, wp_nil, wp_cons, wp_seq, wp_rng, wp_rng2, wp_SLnil, wp_SL, Rest, wp_asg, wp_asgD, wp_new, wp_free, wp_app, wp_iteS, wp_retS, wp_expr, wp_par, wp_asgT, wp_parN, wp_popT, env0, rdE, visE, allE, get2, getv, visO, allO, setAll, setAll2, bindT, bindT2, wipeE, noL, noLs, listAt, permA_nil, permA10, permA210, sz2, bop.eq_1, bop.eq_2, bop.eq_3, bop.eq_4, bop.eq_5, bop.eq_6, bop.eq_7, bop.eq_8, bop.eq_9, cop_eq_int, cop_ne_int, cop_eq_bool, cop_ne_bool, repr_two, repr_bool, cop.eq_3, cop.eq_4, cop.eq_5, cop.eq_6, cop.eq_7, cop.eq_8, cop.eq_9, cop.eq_10, cop.eq_11, cop.eq_12, cop.eq_13, cop.eq_14, cop.eq_15, bi1.eq_1, bi1.eq_2, bi1.eq_3, bi1.eq_4, bi1.eq_5, bi1.eq_6, bi1.eq_7, bi1.eq_8, bi1.eq_9, bi1.eq_10, bi1.eq_11, bi1.eq_12, bi1.eq_13, bi1.eq_14, bi1.eq_19, bi2.eq_1, bi2.eq_2, bi2.eq_3, bi2.eq_4, asInt.eq_1, asBool.eq_1, items.eq_1, items.eq_2, items.eq_3, slc.eq_1, slc.eq_2, slc.eq_3, isInst.eq_1, isInst.eq_2, isInst.eq_3, isInst.eq_4, isInst.eq_5, isInst.eq_6, isInst.eq_7, isO.eq_1, isO.eq_2, isO.eq_3, isO.eq_4, isO.eq_5, isO.eq_6, isO.eq_7, inD.eq_1, inD.eq_2, inD.eq_3]
        · refine fun c _ => ⟨_, rfl, fun w => ?_, fun _ w => ?_⟩
          · simp [-Prod.forall, -Prod.exists, -List.map_map, -List.getD_eq_getElem?_getD, wp_loc, wp_cst, wp_glb, wp_ed, wp_bin, wp_neg, wp_not, wp_and, wp_or, wp_cmp, wp_iteE, wp_tup, wp_lst, wp_idx, wp_b1, wp_b2, wp_isi, wp_slcF, wp_slcT, wp_callP, wp_call, wp_callK, fnAt0, fnAtS, wp_nil, wp_cons, wp_seq, wp_rng, wp_rng2, wp_SLnil, wp_SL, Rest, wp_asg, wp_asgD, wp_new, wp_free, wp_app, wp_iteS, wp_retS, wp_expr, wp_par, wp_asgT, wp_parN, wp_popT, env0, rdE, visE, allE, get2, getv, visO, allO, setAll, setAll2, bindT, bindT2, wipeE, noL, noLs, listAt, permA_nil, permA10, permA210, sz2, bop.eq_1, bop.eq_2, bop.eq_3, bop.eq_4, bop.eq_5, bop.eq_6, bop.eq_7, bop.eq_8, bop.eq_9, cop_eq_int, cop_ne_int, cop_eq_bool, cop_ne_bool, repr_two, repr_bool, cop.eq_3, cop.eq_4, cop.eq_5, cop.eq_6, cop.eq_7, cop.eq_8, cop.eq_9, cop.eq_10, cop.eq_11, cop.eq_12, cop.eq_13, cop.eq_14, cop.eq_15, bi1.eq_1, bi1.eq_2, bi1.eq_3, bi1.eq_4, bi1.eq_5, bi1.eq_6, bi1.eq_7, bi1.eq_8, bi1.eq_9, bi1.eq_10, bi1.eq_11, bi1.eq_12, bi1.eq_13, bi1.eq_14, bi1.eq_19, bi2.eq_1, bi2.eq_2, bi2.eq_3, bi2.eq_4, asInt.eq_1, asBool.eq_1, items.eq_1, items.eq_2, items.eq_3, slc.eq_1, slc.eq_2, slc.eq_3, isInst.eq_1, isInst.eq_2, isInst.eq_3, isInst.eq_4, isInst.eq_5, isInst.eq_6, isInst.eq_7, isO.eq_1, isO.eq_2, isO.eq_3, isO.eq_4, isO.eq_5, isO.eq_6, isO.eq_7, inD.eq_1, inD.eq_2, inD.eq_3, -inD.eq_3, cop_notinL]
          · simp [-Prod.forall, -Prod.exists, -List.map_map, -List.getD_eq_getElem?_getD, wp_loc, wp_cst, wp_glb, wp_ed, wp_bin, wp_neg, wp_not, wp_and, wp_or, wp_cmp, wp_iteE, wp_tup, wp_lst, wp_idx, wp_b1, wp_b2, wp_isi, wp_slcF, wp_slcT, wp_callP, wp_call, wp_callK, fnAt0, fnAtS, wp_nil, wp_cons, wp_seq, wp_rng, wp_rng2, wp_SLnil, wp_SL, Rest, wp_asg, wp_asgD, wp_new, wp_free, wp_app, wp_iteS, wp_retS, wp_expr, wp_par, wp_asgT, wp_parN, wp_popT, env0, rdE, visE, allE, get2, getv, visO, allO, setAll, setAll2, bindT, bindT2, wipeE, noL, noLs, listAt, permA_nil, permA10, permA210, sz2, bop.eq_1, bop.eq_2, bop.eq_3, bop.eq_4, bop.eq_5, bop.eq_6, bop.eq_7, bop.eq_8, bop.eq_9, cop_eq_int, cop_ne_int, cop_eq_bool, cop_ne_bool, repr_two, repr_bool, cop.eq_3, cop.eq_4, cop.eq_5, cop.eq_6, cop.eq_7, cop.eq_8, cop.eq_9, cop.eq_10, cop.eq_11, cop.eq_12, cop.eq_13, cop.eq_14, cop.eq_15, bi1.eq_1, bi1.eq_2, bi1.eq_3, bi1.eq_4, bi1.eq_5, bi1.eq_6, bi1.eq_7, bi1.eq_8, bi1.eq_9, bi1.eq_10, bi1.eq_11, bi1.eq_12, bi1.eq_13, bi1.eq_14, bi1.eq_19, bi2.eq_1, bi2.eq_2, bi2.eq_3, bi2.eq_4, asInt.eq_1, asBool.eq_1, items.eq_1, items.eq_2, items.eq_3, slc.eq_1, slc.eq_2, slc.eq_3, isInst.eq_1, isInst.eq_2, isInst.eq_3, isInst.eq_4, isInst.eq_5, isInst.eq_6, isInst.eq_7, isO.eq_1, isO.eq_2, isO.eq_3, isO.eq_4, isO.eq_5, isO.eq_6, isO.eq_7, inD.eq_1, inD.eq_2, inD.eq_3]
        · have sh : SeqAt.shaped (.list ((x.cps.toList.filter fun c => !inL c).map fun c => (PyData.str ⟨#[c]⟩ : D))) = true := (sd_list (n := 0).mpr fun d hd => by
            obtain ⟨c, hc, rfl⟩ := List.mem_map.mp hd
            have hc := (List.mem_filter.mp hc).1
            have so : PyData.strOk x = true := by simpa [SeqAt.shaped, PyData.canLay0, PyData.depth] using hs
            unfold PyData.strOk at so
            rw [← Array.all_toList, List.all_eq_true] at so
            exact sd_str.mpr (strok_one (of_decide_eq_true (so c hc)))).sh (by decide)
          have e := eq_nil sh
          have f := filter_nil inL x.cps.toList
          rw [e]
          by_cases ha : x.cps.toList.all inL = true
          · exact .inr ⟨by rw [f.mpr ha]; rfl, by simp only [nmD, nmB, h1, h2, ha, decide_true, Bool.true_and], rfl⟩
          · have hb : ¬ (x.cps.toList.filter fun c => !inL c) = [] := fun z => ha (f.mp z)
            have ha' : x.cps.toList.all inL = false := by simpa using ha
            exact .inl ⟨by simp only [List.map_eq_nil_iff, hb, decide_false], by simp only [nmD, nmB, h1, h2, ha', decide_true, Bool.true_and], rfl⟩
      · exact .inr ⟨by omega, .inl ⟨by omega, by simp [nmD, nmB, h2]⟩⟩
    · exact .inl ⟨by omega, by simp [nmD, nmB, h1]⟩
  | dict kvs => simp [SeqAt.shaped, PyData.canLay0] at hs
  | _ => simp [B_law_is_name, C_law_is_name, -Prod.forall, -Prod.exists, -List.map_map, -List.getD_eq_getElem?_getD, wp_loc, wp_cst, wp_glb, wp_ed, wp_bin, wp_neg, wp_not, wp_and, wp_or, wp_cmp, wp_iteE, wp_tup, wp_lst, wp_idx, wp_b1, wp_b2, wp_isi, wp_slcF, wp_slcT, wp_callP, wp_call, wp_callK, fnAt0, fnAtS, wp_nil, wp_cons, wp_seq, wp_rng, wp_rng2, wp_SLnil, wp_SL, Rest, wp_asg, wp_asgD, wp_new, wp_free, wp_app, wp_iteS, wp_retS, wp_expr, wp_par, wp_asgT, wp_parN, wp_popT, env0, rdE, visE, allE, get2, getv, visO, allO, setAll, setAll2, bindT, bindT2, wipeE, noL, noLs, listAt, permA_nil, permA10, permA210, sz2, bop.eq_1, bop.eq_2, bop.eq_3, bop.eq_4, bop.eq_5, bop.eq_6, bop.eq_7, bop.eq_8, bop.eq_9, cop_eq_int, cop_ne_int, cop_eq_bool, cop_ne_bool, repr_two, repr_bool, cop.eq_3, cop.eq_4, cop.eq_5, cop.eq_6, cop.eq_7, cop.eq_8, cop.eq_9, cop.eq_10, cop.eq_11, cop.eq_12, cop.eq_13, cop.eq_14, cop.eq_15, bi1.eq_1, bi1.eq_2, bi1.eq_3, bi1.eq_4, bi1.eq_5, bi1.eq_6, bi1.eq_7, bi1.eq_8, bi1.eq_9, bi1.eq_10, bi1.eq_11, bi1.eq_12, bi1.eq_13, bi1.eq_14, bi1.eq_19, bi2.eq_1, bi2.eq_2, bi2.eq_3, bi2.eq_4, asInt.eq_1, asBool.eq_1, items.eq_1, items.eq_2, items.eq_3, slc.eq_1, slc.eq_2, slc.eq_3, isInst.eq_1, isInst.eq_2, isInst.eq_3, isInst.eq_4, isInst.eq_5, isInst.eq_6, isInst.eq_7, isO.eq_1, isO.eq_2, isO.eq_3, isO.eq_4, isO.eq_5, isO.eq_6, isO.eq_7, inD.eq_1, inD.eq_2, inD.eq_3, nmD]
theorem nm_shaped {x : Str} (h : SeqAt.shaped (.str x) = true) : Ev (F_law_is_name [.str x]) (.bool (nmB x)) := ev_law_is_name (.str x) h
/-- one turn of the law's loop over pairs -/
def pairBody : SL := .cons (.ite (.or (.not (.isi (.loc 1) "tuple")) (.or (.cmp .ne (.b1 .len (.loc 1)) (.cst (.int 2))) (.or (.not (.call false 0 (.cons (.idx (.loc 1) (.cst (.int 0))) .nil) [])) (.or (.not (.call false 0 (.cons (.idx (.loc 1) (.cst (.int 1))) .nil) [])) (.or (.cmp .notin (.idx (.loc 1) (.cst (.int 0))) (.loc 2)) (.cmp .notin (.idx (.loc 1) (.cst (.int 1))) (.loc 2))))))) (.cons (.ret (.cst (.bool false))) .nil) .nil) .nil
theorem out_nm {os : List D} (ho : ∀ d ∈ os, nmD d = true) (a : D) : outB os a = (nmD a && memD os a) := by
  unfold outB
  cases a with
  | str x =>
    cases hm : memD os (.str x) with
    | false => simp
    | true =>
      unfold memD at hm
      rw [List.any_eq_true] at hm
      obtain ⟨z, hz, e⟩ := hm
      obtain ⟨y, rfl, hy⟩ := nm_str (ho z hz)
      have : y = x := by simpa [PyData.eqv] using e
      subst this
      simp [strD, nmD, hy]
  | _ => simp [strD, nmD]
theorem pair_turn {os : List D} {d : D} (ho : ∀ d ∈ os, nmD d = true) (g : SeqAt.shaped (.tuple os) = true) (h : Sd 38 d) {r : Env2} {w : W} {Q : Out → W → Prop} (x0 x3 x4 x5 : Option (Bool × D))
    (q1 : pairB os d = true → Q (.next [x0, some (false, d), some (false, .tuple os), x3, x4, x5]) w) (q2 : pairB os d = false → Q (.ret (.bool false)) w) : Wp (evSL C_law_is_ground pairBody [x0, some (false, d), some (false, .tuple os), x3, x4, x5]) w Q := by
  have p := pl_shaped (h.sh (by decide)) "tuple"
  rw [inst_tup] at p
  unfold pairBody
  match d, h, p, q1, q2 with
  | .tuple [a, b], h, _, q1, q2 =>
    have ha := (sd_tup.mp h a (by simp)).sh (by decide)
    have hb := (sd_tup.mp h b (by simp)).sh (by decide)
    have c1 : inD a (.tuple os) = some (memD os a) := by
      show (if _ then _ else _) = _
      rw [if_pos (by rw [Bool.and_eq_true]; exact ⟨ha, g⟩)]
      rfl
    have c2 : inD b (.tuple os) = some (memD os b) := by
      show (if _ then _ else _) = _
      rw [if_pos (by rw [Bool.and_eq_true]; exact ⟨hb, g⟩)]
      rfl
    have pe : pairB os (.tuple [a, b]) = ((nmD a && memD os a) && (nmD b && memD os b)) := by
      show (outB os a && outB os b) = _
      rw [out_nm ho, out_nm ho]
    rw [pe] at q1 q2
    simp [C_law_is_ground, -Prod.forall, -Prod.exists, -List.map_map, -List.getD_eq_getElem?_getD, wp_loc, wp_cst, wp_glb, wp_ed, wp_bin, wp_neg, wp_not, wp_and, wp_or, wp_cmp, wp_iteE, wp_tup, wp_lst, wp_idx, wp_b1, wp_b2, wp_isi, wp_slcF, wp_slcT, wp_callP, wp_call, wp_callK, fnAt0, fnAtS, wp_nil, wp_cons, wp_seq, wp_rng, wp_rng2, wp_SLnil, wp_SL, Rest, wp_asg, wp_asgD, wp_new, wp_free, wp_app, wp_iteS, wp_retS, wp_expr, wp_par, wp_asgT, wp_parN, wp_popT, env0, rdE, visE, allE, get2, getv, visO, allO, setAll, setAll2, bindT, bindT2, wipeE, noL, noLs, listAt, permA_nil, permA10, permA210, sz2, bop.eq_1, bop.eq_2, bop.eq_3, bop.eq_4, bop.eq_5, bop.eq_6, bop.eq_7, bop.eq_8, bop.eq_9, cop_eq_int, cop_ne_int, cop_eq_bool, cop_ne_bool, repr_two, repr_bool, cop.eq_3, cop.eq_4, cop.eq_5, cop.eq_6, cop.eq_7, cop.eq_8, cop.eq_9, cop.eq_10, cop.eq_11, cop.eq_12, cop.eq_13, cop.eq_14, cop.eq_15, bi1.eq_1, bi1.eq_2, bi1.eq_3, bi1.eq_4, bi1.eq_5, bi1.eq_6, bi1.eq_7, bi1.eq_8, bi1.eq_9, bi1.eq_10, bi1.eq_11, bi1.eq_12, bi1.eq_13, bi1.eq_14, bi1.eq_19, bi2.eq_1, bi2.eq_2, bi2.eq_3, bi2.eq_4, asInt.eq_1, asBool.eq_1, items.eq_1, items.eq_2, items.eq_3, slc.eq_1, slc.eq_2, slc.eq_3, isInst.eq_1, isInst.eq_2, isInst.eq_3, isInst.eq_4, isInst.eq_5, isInst.eq_6, isInst.eq_7, isO.eq_1, isO.eq_2, isO.eq_3, isO.eq_4, isO.eq_5, isO.eq_6, isO.eq_7, inD.eq_1, inD.eq_2, inD.eq_3, -inD.eq_2, idx, L2.ixN, L2.atI, ixD]
    refine wp_ev (ev_law_is_name a ha) ?_
    cases e1 : nmD a
    · simp [-Prod.forall, -Prod.exists, -List.map_map, -List.getD_eq_getElem?_getD, wp_loc, wp_cst, wp_glb, wp_ed, wp_bin, wp_neg, wp_not, wp_and, wp_or, wp_cmp, wp_iteE, wp_tup, wp_lst, wp_idx, wp_b1, wp_b2, wp_isi, wp_slcF, wp_slcT, wp_callP, wp_call, wp_callK, fnAt0, fnAtS, wp_nil, wp_cons, wp_seq, wp_rng, wp_rng2, wp_SLnil, wp_SL, Rest, wp_asg, wp_asgD, wp_new, wp_free, wp_app, wp_iteS, wp_retS, wp_expr, wp_par, wp_asgT, wp_parN, wp_popT, env0, rdE, visE, allE, get2, getv, visO, allO, setAll, setAll2, bindT, bindT2, wipeE, noL, noLs, listAt, permA_nil, permA10, permA210, sz2, bop.eq_1, bop.eq_2, bop.eq_3, bop.eq_4, bop.eq_5, bop.eq_6, bop.eq_7, bop.eq_8, bop.eq_9, cop_eq_int, cop_ne_int, cop_eq_bool, cop_ne_bool, repr_two, repr_bool, cop.eq_3, cop.eq_4, cop.eq_5, cop.eq_6, cop.eq_7, cop.eq_8, cop.eq_9, cop.eq_10, cop.eq_11, cop.eq_12, cop.eq_13, cop.eq_14, cop.eq_15, bi1.eq_1, bi1.eq_2, bi1.eq_3, bi1.eq_4, bi1.eq_5, bi1.eq_6, bi1.eq_7, bi1.eq_8, bi1.eq_9, bi1.eq_10, bi1.eq_11, bi1.eq_12, bi1.eq_13, bi1.eq_14, bi1.eq_19, bi2.eq_1, bi2.eq_2, bi2.eq_3, bi2.eq_4, asInt.eq_1, asBool.eq_1, items.eq_1, items.eq_2, items.eq_3, slc.eq_1, slc.eq_2, slc.eq_3, isInst.eq_1, isInst.eq_2, isInst.eq_3, isInst.eq_4, isInst.eq_5, isInst.eq_6, isInst.eq_7, isO.eq_1, isO.eq_2, isO.eq_3, isO.eq_4, isO.eq_5, isO.eq_6, isO.eq_7, inD.eq_1, inD.eq_2, inD.eq_3]
      exact q2 (by simp [e1])
    · simp [-Prod.forall, -Prod.exists, -List.map_map, -List.getD_eq_getElem?_getD, wp_loc, wp_cst, wp_glb, wp_ed, wp_bin, wp_neg, wp_not, wp_and, wp_or, wp_cmp, wp_iteE, wp_tup, wp_lst, wp_idx, wp_b1, wp_b2, wp_isi, wp_slcF, wp_slcT, wp_callP, wp_call, wp_callK, fnAt0, fnAtS, wp_nil, wp_cons, wp_seq, wp_rng, wp_rng2, wp_SLnil, wp_SL, Rest, wp_asg, wp_asgD, wp_new, wp_free, wp_app, wp_iteS, wp_retS, wp_expr, wp_par, wp_asgT, wp_parN, wp_popT, env0, rdE, visE, allE, get2, getv, visO, allO, setAll, setAll2, bindT, bindT2, wipeE, noL, noLs, listAt, permA_nil, permA10, permA210, sz2, bop.eq_1, bop.eq_2, bop.eq_3, bop.eq_4, bop.eq_5, bop.eq_6, bop.eq_7, bop.eq_8, bop.eq_9, cop_eq_int, cop_ne_int, cop_eq_bool, cop_ne_bool, repr_two, repr_bool, cop.eq_3, cop.eq_4, cop.eq_5, cop.eq_6, cop.eq_7, cop.eq_8, cop.eq_9, cop.eq_10, cop.eq_11, cop.eq_12, cop.eq_13, cop.eq_14, cop.eq_15, bi1.eq_1, bi1.eq_2, bi1.eq_3, bi1.eq_4, bi1.eq_5, bi1.eq_6, bi1.eq_7, bi1.eq_8, bi1.eq_9, bi1.eq_10, bi1.eq_11, bi1.eq_12, bi1.eq_13, bi1.eq_14, bi1.eq_19, bi2.eq_1, bi2.eq_2, bi2.eq_3, bi2.eq_4, asInt.eq_1, asBool.eq_1, items.eq_1, items.eq_2, items.eq_3, slc.eq_1, slc.eq_2, slc.eq_3, isInst.eq_1, isInst.eq_2, isInst.eq_3, isInst.eq_4, isInst.eq_5, isInst.eq_6, isInst.eq_7, isO.eq_1, isO.eq_2, isO.eq_3, isO.eq_4, isO.eq_5, isO.eq_6, isO.eq_7, inD.eq_1, inD.eq_2, inD.eq_3, -inD.eq_2, idx, L2.ixN, L2.atI, ixD]
      refine wp_ev (ev_law_is_name b hb) ?_
      cases e2 : nmD b
      · simp [-Prod.forall, -Prod.exists, -List.map_map, -List.getD_eq_getElem?_getD, wp_loc, wp_cst, wp_glb, wp_ed, wp_bin, wp_neg, wp_not, wp_and, wp_or, wp_cmp, wp_iteE, wp_tup, wp_lst, wp_idx, wp_b1, wp_b2, wp_isi, wp_slcF, wp_slcT, wp_callP, wp_call, wp_callK, fnAt0, fnAtS, wp_nil, wp_cons, wp_seq, wp_rng, wp_rng2, wp_SLnil, wp_SL, Rest, wp_asg, wp_asgD, wp_new, wp_free, wp_app, wp_iteS, wp_retS, wp_expr, wp_par, wp_asgT, wp_parN, wp_popT, env0, rdE, visE, allE, get2, getv, visO, allO, setAll, setAll2, bindT, bindT2, wipeE, noL, noLs, listAt, permA_nil, permA10, permA210, sz2, bop.eq_1, bop.eq_2, bop.eq_3, bop.eq_4, bop.eq_5, bop.eq_6, bop.eq_7, bop.eq_8, bop.eq_9, cop_eq_int, cop_ne_int, cop_eq_bool, cop_ne_bool, repr_two, repr_bool, cop.eq_3, cop.eq_4, cop.eq_5, cop.eq_6, cop.eq_7, cop.eq_8, cop.eq_9, cop.eq_10, cop.eq_11, cop.eq_12, cop.eq_13, cop.eq_14, cop.eq_15, bi1.eq_1, bi1.eq_2, bi1.eq_3, bi1.eq_4, bi1.eq_5, bi1.eq_6, bi1.eq_7, bi1.eq_8, bi1.eq_9, bi1.eq_10, bi1.eq_11, bi1.eq_12, bi1.eq_13, bi1.eq_14, bi1.eq_19, bi2.eq_1, bi2.eq_2, bi2.eq_3, bi2.eq_4, asInt.eq_1, asBool.eq_1, items.eq_1, items.eq_2, items.eq_3, slc.eq_1, slc.eq_2, slc.eq_3, isInst.eq_1, isInst.eq_2, isInst.eq_3, isInst.eq_4, isInst.eq_5, isInst.eq_6, isInst.eq_7, isO.eq_1, isO.eq_2, isO.eq_3, isO.eq_4, isO.eq_5, isO.eq_6, isO.eq_7, inD.eq_1, inD.eq_2, inD.eq_3]
        exact q2 (by simp [e2])
      · simp [-Prod.forall, -Prod.exists, -List.map_map, -List.getD_eq_getElem?_getD, wp_loc, wp_cst, wp_glb, wp_ed, wp_bin, wp_neg, wp_not, wp_and, wp_or, wp_cmp, wp_iteE, wp_tup, wp_lst, wp_idx, wp_b1, wp_b2, wp_isi, wp_slcF, wp_slcT, wp_callP, wp_call, wp_callK, fnAt0, fnAtS, wp_nil, wp_cons, wp_seq, wp_rng, wp_rng2, wp_SLnil, wp_SL, Rest, wp_asg, wp_asgD, wp_new, wp_free, wp_app, wp_iteS, wp_retS, wp_expr, wp_par, wp_asgT, wp_parN, wp_popT, env0, rdE, visE, allE, get2, getv, visO, allO, setAll, setAll2, bindT, bindT2, wipeE, noL, noLs, listAt, permA_nil, permA10, permA210, sz2, bop.eq_1, bop.eq_2, bop.eq_3, bop.eq_4, bop.eq_5, bop.eq_6, bop.eq_7, bop.eq_8, bop.eq_9, cop_eq_int, cop_ne_int, cop_eq_bool, cop_ne_bool, repr_two, repr_bool, cop.eq_3, cop.eq_4, cop.eq_5, cop.eq_6, cop.eq_7, cop.eq_8, cop.eq_9, cop.eq_10, cop.eq_11, cop.eq_12, cop.eq_13, cop.eq_14, cop.eq_15, bi1.eq_1, bi1.eq_2, bi1.eq_3, bi1.eq_4, bi1.eq_5, bi1.eq_6, bi1.eq_7, bi1.eq_8, bi1.eq_9, bi1.eq_10, bi1.eq_11, bi1.eq_12, bi1.eq_13, bi1.eq_14, bi1.eq_19, bi2.eq_1, bi2.eq_2, bi2.eq_3, bi2.eq_4, asInt.eq_1, asBool.eq_1, items.eq_1, items.eq_2, items.eq_3, slc.eq_1, slc.eq_2, slc.eq_3, isInst.eq_1, isInst.eq_2, isInst.eq_3, isInst.eq_4, isInst.eq_5, isInst.eq_6, isInst.eq_7, isO.eq_1, isO.eq_2, isO.eq_3, isO.eq_4, isO.eq_5, isO.eq_6, isO.eq_7, inD.eq_1, inD.eq_2, inD.eq_3, -inD.eq_2, idx, L2.ixN, L2.atI, ixD, c1, c2]
        cases e3 : memD os a
        · simp
          exact q2 (by simp [e3])
        · cases e4 : memD os b
          · simp
            exact q2 (by simp [e4])
          · simp
            exact q1 (by simp [e1, e2, e3, e4])
  | .tuple [], h, _, q1, q2 =>
    simp [C_law_is_ground, -Prod.forall, -Prod.exists, -List.map_map, -List.getD_eq_getElem?_getD, wp_loc, wp_cst, wp_glb, wp_ed, wp_bin, wp_neg, wp_not, wp_and, wp_or, wp_cmp, wp_iteE, wp_tup, wp_lst, wp_idx, wp_b1, wp_b2, wp_isi, wp_slcF, wp_slcT, wp_callP, wp_call, wp_callK, fnAt0, fnAtS, wp_nil, wp_cons, wp_seq, wp_rng, wp_rng2, wp_SLnil, wp_SL, Rest, wp_asg, wp_asgD, wp_new, wp_free, wp_app, wp_iteS, wp_retS, wp_expr, wp_par, wp_asgT, wp_parN, wp_popT, env0, rdE, visE, allE, get2, getv, visO, allO, setAll, setAll2, bindT, bindT2, wipeE, noL, noLs, listAt, permA_nil, permA10, permA210, sz2, bop.eq_1, bop.eq_2, bop.eq_3, bop.eq_4, bop.eq_5, bop.eq_6, bop.eq_7, bop.eq_8, bop.eq_9, cop_eq_int, cop_ne_int, cop_eq_bool, cop_ne_bool, repr_two, repr_bool, cop.eq_3, cop.eq_4, cop.eq_5, cop.eq_6, cop.eq_7, cop.eq_8, cop.eq_9, cop.eq_10, cop.eq_11, cop.eq_12, cop.eq_13, cop.eq_14, cop.eq_15, bi1.eq_1, bi1.eq_2, bi1.eq_3, bi1.eq_4, bi1.eq_5, bi1.eq_6, bi1.eq_7, bi1.eq_8, bi1.eq_9, bi1.eq_10, bi1.eq_11, bi1.eq_12, bi1.eq_13, bi1.eq_14, bi1.eq_19, bi2.eq_1, bi2.eq_2, bi2.eq_3, bi2.eq_4, asInt.eq_1, asBool.eq_1, items.eq_1, items.eq_2, items.eq_3, slc.eq_1, slc.eq_2, slc.eq_3, isInst.eq_1, isInst.eq_2, isInst.eq_3, isInst.eq_4, isInst.eq_5, isInst.eq_6, isInst.eq_7, isO.eq_1, isO.eq_2, isO.eq_3, isO.eq_4, isO.eq_5, isO.eq_6, isO.eq_7, inD.eq_1, inD.eq_2, inD.eq_3]
    exact q2 rfl
  | .tuple [a], h, _, q1, q2 =>
    simp [C_law_is_ground, -Prod.forall, -Prod.exists, -List.map_map, -List.getD_eq_getElem?_getD, wp_loc, wp_cst, wp_glb, wp_ed, wp_bin, wp_neg, wp_not, wp_and, wp_or, wp_cmp, wp_iteE, wp_tup, wp_lst, wp_idx, wp_b1, wp_b2, wp_isi, wp_slcF, wp_slcT, wp_callP, wp_call, wp_callK, fnAt0, fnAtS, wp_nil, wp_cons, wp_seq, wp_rng, wp_rng2, wp_SLnil, wp_SL, Rest, wp_asg, wp_asgD, wp_new, wp_free, wp_app, wp_iteS, wp_retS, wp_expr, wp_par, wp_asgT, wp_parN, wp_popT, env0, rdE, visE, allE, get2, getv, visO, allO, setAll, setAll2, bindT, bindT2, wipeE, noL, noLs, listAt, permA_nil, permA10, permA210, sz2, bop.eq_1, bop.eq_2, bop.eq_3, bop.eq_4, bop.eq_5, bop.eq_6, bop.eq_7, bop.eq_8, bop.eq_9, cop_eq_int, cop_ne_int, cop_eq_bool, cop_ne_bool, repr_two, repr_bool, cop.eq_3, cop.eq_4, cop.eq_5, cop.eq_6, cop.eq_7, cop.eq_8, cop.eq_9, cop.eq_10, cop.eq_11, cop.eq_12, cop.eq_13, cop.eq_14, cop.eq_15, bi1.eq_1, bi1.eq_2, bi1.eq_3, bi1.eq_4, bi1.eq_5, bi1.eq_6, bi1.eq_7, bi1.eq_8, bi1.eq_9, bi1.eq_10, bi1.eq_11, bi1.eq_12, bi1.eq_13, bi1.eq_14, bi1.eq_19, bi2.eq_1, bi2.eq_2, bi2.eq_3, bi2.eq_4, asInt.eq_1, asBool.eq_1, items.eq_1, items.eq_2, items.eq_3, slc.eq_1, slc.eq_2, slc.eq_3, isInst.eq_1, isInst.eq_2, isInst.eq_3, isInst.eq_4, isInst.eq_5, isInst.eq_6, isInst.eq_7, isO.eq_1, isO.eq_2, isO.eq_3, isO.eq_4, isO.eq_5, isO.eq_6, isO.eq_7, inD.eq_1, inD.eq_2, inD.eq_3]
    exact q2 rfl
  | .tuple (a :: b :: c :: t), h, _, q1, q2 =>
    have : ¬ ((t.length : Int) + 1 + 1 + 1 = 2) := by omega
    simp [C_law_is_ground, -Prod.forall, -Prod.exists, -List.map_map, -List.getD_eq_getElem?_getD, wp_loc, wp_cst, wp_glb, wp_ed, wp_bin, wp_neg, wp_not, wp_and, wp_or, wp_cmp, wp_iteE, wp_tup, wp_lst, wp_idx, wp_b1, wp_b2, wp_isi, wp_slcF, wp_slcT, wp_callP, wp_call, wp_callK, fnAt0, fnAtS, wp_nil, wp_cons, wp_seq, wp_rng, wp_rng2, wp_SLnil, wp_SL, Rest, wp_asg, wp_asgD, wp_new, wp_free, wp_app, wp_iteS, wp_retS, wp_expr, wp_par, wp_asgT, wp_parN, wp_popT, env0, rdE, visE, allE, get2, getv, visO, allO, setAll, setAll2, bindT, bindT2, wipeE, noL, noLs, listAt, permA_nil, permA10, permA210, sz2, bop.eq_1, bop.eq_2, bop.eq_3, bop.eq_4, bop.eq_5, bop.eq_6, bop.eq_7, bop.eq_8, bop.eq_9, cop_eq_int, cop_ne_int, cop_eq_bool, cop_ne_bool, repr_two, repr_bool, cop.eq_3, cop.eq_4, cop.eq_5, cop.eq_6, cop.eq_7, cop.eq_8, cop.eq_9, cop.eq_10, cop.eq_11, cop.eq_12, cop.eq_13, cop.eq_14, cop.eq_15, bi1.eq_1, bi1.eq_2, bi1.eq_3, bi1.eq_4, bi1.eq_5, bi1.eq_6, bi1.eq_7, bi1.eq_8, bi1.eq_9, bi1.eq_10, bi1.eq_11, bi1.eq_12, bi1.eq_13, bi1.eq_14, bi1.eq_19, bi2.eq_1, bi2.eq_2, bi2.eq_3, bi2.eq_4, asInt.eq_1, asBool.eq_1, items.eq_1, items.eq_2, items.eq_3, slc.eq_1, slc.eq_2, slc.eq_3, isInst.eq_1, isInst.eq_2, isInst.eq_3, isInst.eq_4, isInst.eq_5, isInst.eq_6, isInst.eq_7, isO.eq_1, isO.eq_2, isO.eq_3, isO.eq_4, isO.eq_5, isO.eq_6, isO.eq_7, inD.eq_1, inD.eq_2, inD.eq_3, this]
    exact q2 rfl
  | .none, h, p, q1, q2 => simp [C_law_is_ground, -Prod.forall, -Prod.exists, -List.map_map, -List.getD_eq_getElem?_getD, wp_loc, wp_cst, wp_glb, wp_ed, wp_bin, wp_neg, wp_not, wp_and, wp_or, wp_cmp, wp_iteE, wp_tup, wp_lst, wp_idx, wp_b1, wp_b2, wp_isi, wp_slcF, wp_slcT, wp_callP, wp_call, wp_callK, fnAt0, fnAtS, wp_nil, wp_cons, wp_seq, wp_rng, wp_rng2, wp_SLnil, wp_SL, Rest, wp_asg, wp_asgD, wp_new, wp_free, wp_app, wp_iteS, wp_retS, wp_expr, wp_par, wp_asgT, wp_parN, wp_popT, env0, rdE, visE, allE, get2, getv, visO, allO, setAll, setAll2, bindT, bindT2, wipeE, noL, noLs, listAt, permA_nil, permA10, permA210, sz2, bop.eq_1, bop.eq_2, bop.eq_3, bop.eq_4, bop.eq_5, bop.eq_6, bop.eq_7, bop.eq_8, bop.eq_9, cop_eq_int, cop_ne_int, cop_eq_bool, cop_ne_bool, repr_two, repr_bool, cop.eq_3, cop.eq_4, cop.eq_5, cop.eq_6, cop.eq_7, cop.eq_8, cop.eq_9, cop.eq_10, cop.eq_11, cop.eq_12, cop.eq_13, cop.eq_14, cop.eq_15, bi1.eq_1, bi1.eq_2, bi1.eq_3, bi1.eq_4, bi1.eq_5, bi1.eq_6, bi1.eq_7, bi1.eq_8, bi1.eq_9, bi1.eq_10, bi1.eq_11, bi1.eq_12, bi1.eq_13, bi1.eq_14, bi1.eq_19, bi2.eq_1, bi2.eq_2, bi2.eq_3, bi2.eq_4, asInt.eq_1, asBool.eq_1, items.eq_1, items.eq_2, items.eq_3, slc.eq_1, slc.eq_2, slc.eq_3, isInst.eq_1, isInst.eq_2, isInst.eq_3, isInst.eq_4, isInst.eq_5, isInst.eq_6, isInst.eq_7, isO.eq_1, isO.eq_2, isO.eq_3, isO.eq_4, isO.eq_5, isO.eq_6, isO.eq_7, inD.eq_1, inD.eq_2, inD.eq_3]; exact q2 rfl
  | .int _, h, p, q1, q2 => simp [C_law_is_ground, -Prod.forall, -Prod.exists, -List.map_map, -List.getD_eq_getElem?_getD, wp_loc, wp_cst, wp_glb, wp_ed, wp_bin, wp_neg, wp_not, wp_and, wp_or, wp_cmp, wp_iteE, wp_tup, wp_lst, wp_idx, wp_b1, wp_b2, wp_isi, wp_slcF, wp_slcT, wp_callP, wp_call, wp_callK, fnAt0, fnAtS, wp_nil, wp_cons, wp_seq, wp_rng, wp_rng2, wp_SLnil, wp_SL, Rest, wp_asg, wp_asgD, wp_new, wp_free, wp_app, wp_iteS, wp_retS, wp_expr, wp_par, wp_asgT, wp_parN, wp_popT, env0, rdE, visE, allE, get2, getv, visO, allO, setAll, setAll2, bindT, bindT2, wipeE, noL, noLs, listAt, permA_nil, permA10, permA210, sz2, bop.eq_1, bop.eq_2, bop.eq_3, bop.eq_4, bop.eq_5, bop.eq_6, bop.eq_7, bop.eq_8, bop.eq_9, cop_eq_int, cop_ne_int, cop_eq_bool, cop_ne_bool, repr_two, repr_bool, cop.eq_3, cop.eq_4, cop.eq_5, cop.eq_6, cop.eq_7, cop.eq_8, cop.eq_9, cop.eq_10, cop.eq_11, cop.eq_12, cop.eq_13, cop.eq_14, cop.eq_15, bi1.eq_1, bi1.eq_2, bi1.eq_3, bi1.eq_4, bi1.eq_5, bi1.eq_6, bi1.eq_7, bi1.eq_8, bi1.eq_9, bi1.eq_10, bi1.eq_11, bi1.eq_12, bi1.eq_13, bi1.eq_14, bi1.eq_19, bi2.eq_1, bi2.eq_2, bi2.eq_3, bi2.eq_4, asInt.eq_1, asBool.eq_1, items.eq_1, items.eq_2, items.eq_3, slc.eq_1, slc.eq_2, slc.eq_3, isInst.eq_1, isInst.eq_2, isInst.eq_3, isInst.eq_4, isInst.eq_5, isInst.eq_6, isInst.eq_7, isO.eq_1, isO.eq_2, isO.eq_3, isO.eq_4, isO.eq_5, isO.eq_6, isO.eq_7, inD.eq_1, inD.eq_2, inD.eq_3]; exact q2 rfl
  | .bool _, h, p, q1, q2 => simp [C_law_is_ground, -Prod.forall, -Prod.exists, -List.map_map, -List.getD_eq_getElem?_getD, wp_loc, wp_cst, wp_glb, wp_ed, wp_bin, wp_neg, wp_not, wp_and, wp_or, wp_cmp, wp_iteE, wp_tup, wp_lst, wp_idx, wp_b1, wp_b2, wp_isi, wp_slcF, wp_slcT, wp_callP, wp_call, wp_callK, fnAt0, fnAtS, wp_nil, wp_cons, wp_seq, wp_rng, wp_rng2, wp_SLnil, wp_SL, Rest, wp_asg, wp_asgD, wp_new, wp_free, wp_app, wp_iteS, wp_retS, wp_expr, wp_par, wp_asgT, wp_parN, wp_popT, env0, rdE, visE, allE, get2, getv, visO, allO, setAll, setAll2, bindT, bindT2, wipeE, noL, noLs, listAt, permA_nil, permA10, permA210, sz2, bop.eq_1, bop.eq_2, bop.eq_3, bop.eq_4, bop.eq_5, bop.eq_6, bop.eq_7, bop.eq_8, bop.eq_9, cop_eq_int, cop_ne_int, cop_eq_bool, cop_ne_bool, repr_two, repr_bool, cop.eq_3, cop.eq_4, cop.eq_5, cop.eq_6, cop.eq_7, cop.eq_8, cop.eq_9, cop.eq_10, cop.eq_11, cop.eq_12, cop.eq_13, cop.eq_14, cop.eq_15, bi1.eq_1, bi1.eq_2, bi1.eq_3, bi1.eq_4, bi1.eq_5, bi1.eq_6, bi1.eq_7, bi1.eq_8, bi1.eq_9, bi1.eq_10, bi1.eq_11, bi1.eq_12, bi1.eq_13, bi1.eq_14, bi1.eq_19, bi2.eq_1, bi2.eq_2, bi2.eq_3, bi2.eq_4, asInt.eq_1, asBool.eq_1, items.eq_1, items.eq_2, items.eq_3, slc.eq_1, slc.eq_2, slc.eq_3, isInst.eq_1, isInst.eq_2, isInst.eq_3, isInst.eq_4, isInst.eq_5, isInst.eq_6, isInst.eq_7, isO.eq_1, isO.eq_2, isO.eq_3, isO.eq_4, isO.eq_5, isO.eq_6, isO.eq_7, inD.eq_1, inD.eq_2, inD.eq_3]; exact q2 rfl
  | .str _, h, p, q1, q2 => simp [C_law_is_ground, -Prod.forall, -Prod.exists, -List.map_map, -List.getD_eq_getElem?_getD, wp_loc, wp_cst, wp_glb, wp_ed, wp_bin, wp_neg, wp_not, wp_and, wp_or, wp_cmp, wp_iteE, wp_tup, wp_lst, wp_idx, wp_b1, wp_b2, wp_isi, wp_slcF, wp_slcT, wp_callP, wp_call, wp_callK, fnAt0, fnAtS, wp_nil, wp_cons, wp_seq, wp_rng, wp_rng2, wp_SLnil, wp_SL, Rest, wp_asg, wp_asgD, wp_new, wp_free, wp_app, wp_iteS, wp_retS, wp_expr, wp_par, wp_asgT, wp_parN, wp_popT, env0, rdE, visE, allE, get2, getv, visO, allO, setAll, setAll2, bindT, bindT2, wipeE, noL, noLs, listAt, permA_nil, permA10, permA210, sz2, bop.eq_1, bop.eq_2, bop.eq_3, bop.eq_4, bop.eq_5, bop.eq_6, bop.eq_7, bop.eq_8, bop.eq_9, cop_eq_int, cop_ne_int, cop_eq_bool, cop_ne_bool, repr_two, repr_bool, cop.eq_3, cop.eq_4, cop.eq_5, cop.eq_6, cop.eq_7, cop.eq_8, cop.eq_9, cop.eq_10, cop.eq_11, cop.eq_12, cop.eq_13, cop.eq_14, cop.eq_15, bi1.eq_1, bi1.eq_2, bi1.eq_3, bi1.eq_4, bi1.eq_5, bi1.eq_6, bi1.eq_7, bi1.eq_8, bi1.eq_9, bi1.eq_10, bi1.eq_11, bi1.eq_12, bi1.eq_13, bi1.eq_14, bi1.eq_19, bi2.eq_1, bi2.eq_2, bi2.eq_3, bi2.eq_4, asInt.eq_1, asBool.eq_1, items.eq_1, items.eq_2, items.eq_3, slc.eq_1, slc.eq_2, slc.eq_3, isInst.eq_1, isInst.eq_2, isInst.eq_3, isInst.eq_4, isInst.eq_5, isInst.eq_6, isInst.eq_7, isO.eq_1, isO.eq_2, isO.eq_3, isO.eq_4, isO.eq_5, isO.eq_6, isO.eq_7, inD.eq_1, inD.eq_2, inD.eq_3]; exact q2 rfl
  | .list _, h, p, q1, q2 => simp [C_law_is_ground, -Prod.forall, -Prod.exists, -List.map_map, -List.getD_eq_getElem?_getD, wp_loc, wp_cst, wp_glb, wp_ed, wp_bin, wp_neg, wp_not, wp_and, wp_or, wp_cmp, wp_iteE, wp_tup, wp_lst, wp_idx, wp_b1, wp_b2, wp_isi, wp_slcF, wp_slcT, wp_callP, wp_call, wp_callK, fnAt0, fnAtS, wp_nil, wp_cons, wp_seq, wp_rng, wp_rng2, wp_SLnil, wp_SL, Rest, wp_asg, wp_asgD, wp_new, wp_free, wp_app, wp_iteS, wp_retS, wp_expr, wp_par, wp_asgT, wp_parN, wp_popT, env0, rdE, visE, allE, get2, getv, visO, allO, setAll, setAll2, bindT, bindT2, wipeE, noL, noLs, listAt, permA_nil, permA10, permA210, sz2, bop.eq_1, bop.eq_2, bop.eq_3, bop.eq_4, bop.eq_5, bop.eq_6, bop.eq_7, bop.eq_8, bop.eq_9, cop_eq_int, cop_ne_int, cop_eq_bool, cop_ne_bool, repr_two, repr_bool, cop.eq_3, cop.eq_4, cop.eq_5, cop.eq_6, cop.eq_7, cop.eq_8, cop.eq_9, cop.eq_10, cop.eq_11, cop.eq_12, cop.eq_13, cop.eq_14, cop.eq_15, bi1.eq_1, bi1.eq_2, bi1.eq_3, bi1.eq_4, bi1.eq_5, bi1.eq_6, bi1.eq_7, bi1.eq_8, bi1.eq_9, bi1.eq_10, bi1.eq_11, bi1.eq_12, bi1.eq_13, bi1.eq_14, bi1.eq_19, bi2.eq_1, bi2.eq_2, bi2.eq_3, bi2.eq_4, asInt.eq_1, asBool.eq_1, items.eq_1, items.eq_2, items.eq_3, slc.eq_1, slc.eq_2, slc.eq_3, isInst.eq_1, isInst.eq_2, isInst.eq_3, isInst.eq_4, isInst.eq_5, isInst.eq_6, isInst.eq_7, isO.eq_1, isO.eq_2, isO.eq_3, isO.eq_4, isO.eq_5, isO.eq_6, isO.eq_7, inD.eq_1, inD.eq_2, inD.eq_3]; exact q2 rfl
  | .dict _, h, p, q1, q2 => exact absurd h.1 (by simp [PyData.canLay0])
end LW

-- U_n5
set_option Elab.async false
set_option linter.all false
set_option maxRecDepth 100000
set_option maxHeartbeats 1000000
set_option exponentiation.threshold 20000
namespace LW
open PySem RX
/-! ### the law's look at a ground -/
theorem ne_two (n : Nat) : cop .ne (.int (n : Int)) (.int 2) = some (!decide (n = 2)) := by
  rw [cop_ne_int]
  congr 2
  by_cases h : n = 2
  · subst h; rfl
  · have : ¬ (n : Int) = 2 := by omega
    simp [h, this]
theorem all_take {α : Type} (p : α → Bool) (l : List α) (i : Nat) {a : α} (h : l[i]? = some a) (h1 : (l.take i).all p = true) (h2 : p a = true) : (l.take (i + 1)).all p = true := by
  rw [List.take_add_one, h, List.all_append, h1]
  simp [h2]
theorem pairsB_nt {os : List D} {b : D} (h : tupD b = false) : pairsB os b = false := by cases b <;> first | rfl | cases h
theorem isG_a {a b : D} (h : tupD a = false) : isG (.tuple [a, b]) = false := by cases a <;> first | rfl | cases h
theorem isG_b {a b : D} (h : tupD b = false) : isG (.tuple [a, b]) = false := by
  cases a with
  | tuple os => show (outsB (.tuple os) && pairsB os b) = false; rw [pairsB_nt h, Bool.and_false]
  | _ => rfl
theorem dom_two {a b : D} (h : Dom (.tuple [a, b])) : (∀ os, a = .tuple os → Sd 39 a) ∧ Pl a ∧ Sd 39 b ∧ ∀ os ps, a = .tuple os → b = .tuple ps → ps.length ≤ 16777216 := by
  cases h with
  | sh h hl => exact ⟨fun _ _ => sd_tup.mp h a (by simp), pl_shaped ((sd_tup.mp h a (by simp)).sh (by decide)), sd_tup.mp h b (by simp), fun os ps e1 e2 => hl a ps (by rw [e2])⟩
  | ed1 h => exact ⟨fun os e => (nomatch e), pl_ed, h, fun os ps e _ => (nomatch e)⟩
theorem ev_law_is_ground (d : D) (h : Dom d) : Ev (F_law_is_ground [d]) (.bool (isG d)) := ev_of fun w => by
  refine wp_D ?_
  rw [show B_law_is_ground = .cons (.ite (.or (.not (.isi (.loc 0) "tuple")) (.or (.cmp .ne (.b1 .len (.loc 0)) (.cst (.int 2))) (.or (.not (.isi (.idx (.loc 0) (.cst (.int 0))) "tuple")) (.not (.isi (.idx (.loc 0) (.cst (.int 1))) "tuple"))))) (.cons (.ret (.cst (.bool false))) .nil) .nil) (.cons (.asgT false [2, 3] (.loc 0)) (.cons (.ite (.or (.not (.chain .lt .lt (.cst (.int 0)) (.b1 .len (.loc 2)) (.cst (.int 11)))) (.cmp .ne (.comp [5] (.seq (.loc 2)) true (.not (.call false 0 (.cons (.loc 5) .nil) [])) (.loc 5)) (.lst .nil))) (.cons (.ret (.cst (.bool false))) .nil) .nil) (.cons (.ite (.cmp .ne (.comp [4] (.rng (.bin .sub (.b1 .len (.loc 2)) (.cst (.int 1)))) true (.cmp .ge (.idx (.loc 2) (.loc 4)) (.idx (.loc 2) (.bin .add (.loc 4) (.cst (.int 1))))) (.loc 4)) (.lst .nil)) (.cons (.ret (.cst (.bool false))) .nil) .nil) (.cons (.for [1] (.seq (.loc 3)) pairBody) (.cons (.ret (.cmp .eq (.comp [4] (.rng (.bin .sub (.b1 .len (.loc 3)) (.cst (.int 1)))) true (.cmp .ge (.idx (.loc 3) (.loc 4)) (.idx (.loc 3) (.bin .add (.loc 4) (.cst (.int 1))))) (.loc 4)) (.lst .nil))) .nil))))) from rfl]
  have p := h.pl "tuple"
  rw [inst_tup] at p
  match d, h, p with
  | .tuple [a, b], h, _ =>
    obtain ⟨ha, pa, hb, hl⟩ := dom_two h
    have pa := pa "tuple"
    rw [inst_tup] at pa
    have pb := pl_shaped (hb.sh (by decide)) "tuple"
    rw [inst_tup] at pb
    cases ea : tupD a
    · have e := isG_a (b := b) ea
      simp [C_law_is_ground, -Prod.forall, -Prod.exists, -List.map_map, -List.getD_eq_getElem?_getD, wp_loc, wp_cst, wp_glb, wp_ed, wp_bin, wp_neg, wp_not, wp_and, wp_or, wp_cmp, wp_iteE, wp_tup, wp_lst, wp_idx, wp_b1, wp_b2, wp_isi, wp_slcF, wp_slcT, wp_callP, wp_call, wp_callK, fnAt0, fnAtS, wp_nil, wp_cons, wp_seq, wp_rng, wp_rng2, wp_SLnil, wp_SL, Rest, wp_asg, wp_asgD, wp_new, wp_free, wp_app, wp_iteS, wp_retS, wp_expr, wp_par, wp_asgT, wp_parN, wp_popT, env0, rdE, visE, allE, get2, getv, visO, allO, setAll, setAll2, bindT, bindT2, wipeE, noL, noLs, listAt, permA_nil, permA10, permA210, sz2, bop.eq_1, bop.eq_2, bop.eq_3, bop.eq_4, bop.eq_5, bop.eq_6, bop.eq_7, bop.eq_8, bop.eq_9, cop_eq_int, cop_ne_int, cop_eq_bool, cop_ne_bool, repr_two, repr_bool, cop.eq_3, cop.eq_4, cop.eq_5, cop.eq_6, cop.eq_7, cop.eq_8, cop.eq_9, cop.eq_10, cop.eq_11, cop.eq_12, cop.eq_13, cop.eq_14, cop.eq_15, bi1.eq_1, bi1.eq_2, bi1.eq_3, bi1.eq_4, bi1.eq_5, bi1.eq_6, bi1.eq_7, bi1.eq_8, bi1.eq_9, bi1.eq_10, bi1.eq_11, bi1.eq_12, bi1.eq_13, bi1.eq_14, bi1.eq_19, bi2.eq_1, bi2.eq_2, bi2.eq_3, bi2.eq_4, asInt.eq_1, asBool.eq_1, items.eq_1, items.eq_2, items.eq_3, slc.eq_1, slc.eq_2, slc.eq_3, isInst.eq_1, isInst.eq_2, isInst.eq_3, isInst.eq_4, isInst.eq_5, isInst.eq_6, isInst.eq_7, isO.eq_1, isO.eq_2, isO.eq_3, isO.eq_4, isO.eq_5, isO.eq_6, isO.eq_7, inD.eq_1, inD.eq_2, inD.eq_3, idx, L2.ixN, L2.atI, ixD, pa, ea, e]
    cases eb : tupD b
    · have e := isG_b (a := a) eb
      simp [C_law_is_ground, -Prod.forall, -Prod.exists, -List.map_map, -List.getD_eq_getElem?_getD, wp_loc, wp_cst, wp_glb, wp_ed, wp_bin, wp_neg, wp_not, wp_and, wp_or, wp_cmp, wp_iteE, wp_tup, wp_lst, wp_idx, wp_b1, wp_b2, wp_isi, wp_slcF, wp_slcT, wp_callP, wp_call, wp_callK, fnAt0, fnAtS, wp_nil, wp_cons, wp_seq, wp_rng, wp_rng2, wp_SLnil, wp_SL, Rest, wp_asg, wp_asgD, wp_new, wp_free, wp_app, wp_iteS, wp_retS, wp_expr, wp_par, wp_asgT, wp_parN, wp_popT, env0, rdE, visE, allE, get2, getv, visO, allO, setAll, setAll2, bindT, bindT2, wipeE, noL, noLs, listAt, permA_nil, permA10, permA210, sz2, bop.eq_1, bop.eq_2, bop.eq_3, bop.eq_4, bop.eq_5, bop.eq_6, bop.eq_7, bop.eq_8, bop.eq_9, cop_eq_int, cop_ne_int, cop_eq_bool, cop_ne_bool, repr_two, repr_bool, cop.eq_3, cop.eq_4, cop.eq_5, cop.eq_6, cop.eq_7, cop.eq_8, cop.eq_9, cop.eq_10, cop.eq_11, cop.eq_12, cop.eq_13, cop.eq_14, cop.eq_15, bi1.eq_1, bi1.eq_2, bi1.eq_3, bi1.eq_4, bi1.eq_5, bi1.eq_6, bi1.eq_7, bi1.eq_8, bi1.eq_9, bi1.eq_10, bi1.eq_11, bi1.eq_12, bi1.eq_13, bi1.eq_14, bi1.eq_19, bi2.eq_1, bi2.eq_2, bi2.eq_3, bi2.eq_4, asInt.eq_1, asBool.eq_1, items.eq_1, items.eq_2, items.eq_3, slc.eq_1, slc.eq_2, slc.eq_3, isInst.eq_1, isInst.eq_2, isInst.eq_3, isInst.eq_4, isInst.eq_5, isInst.eq_6, isInst.eq_7, isO.eq_1, isO.eq_2, isO.eq_3, isO.eq_4, isO.eq_5, isO.eq_6, isO.eq_7, inD.eq_1, inD.eq_2, inD.eq_3, idx, L2.ixN, L2.atI, ixD, pa, pb, ea, eb, e]
    obtain ⟨os, rfl⟩ : ∃ os, a = .tuple os := by cases a <;> first | exact ⟨_, rfl⟩ | cases ea
    obtain ⟨ps, rfl⟩ : ∃ ps, b = .tuple ps := by cases b <;> first | exact ⟨_, rfl⟩ | cases eb
    have sa := ha os rfl
    have ga : SeqAt.shaped (.tuple os) = true := sa.sh (by decide)
    have hl := hl os ps rfl rfl
    rw [wp_SL]
    simp [C_law_is_ground, -Prod.forall, -Prod.exists, -List.map_map, -List.getD_eq_getElem?_getD, wp_loc, wp_cst, wp_glb, wp_ed, wp_bin, wp_neg, wp_not, wp_and, wp_or, wp_cmp, wp_iteE, wp_tup, wp_lst, wp_idx, wp_b1, wp_b2, wp_isi, wp_slcF, wp_slcT, wp_callP, wp_call, wp_callK, fnAt0, fnAtS, wp_nil, wp_cons, wp_seq, wp_rng, wp_rng2, wp_SLnil, Rest, wp_asg, wp_asgD, wp_new, wp_free, wp_app, wp_iteS, wp_retS, wp_expr, wp_par, wp_asgT, wp_parN, wp_popT, env0, rdE, visE, allE, get2, getv, visO, allO, setAll, setAll2, bindT, bindT2, wipeE, noL, noLs, listAt, permA_nil, permA10, permA210, sz2', bop.eq_1, bop.eq_2, bop.eq_3, bop.eq_4, bop.eq_5, bop.eq_6, bop.eq_7, bop.eq_8, bop.eq_9, cop_eq_int, cop_ne_int, cop_eq_bool, cop_ne_bool, repr_two, repr_bool, cop.eq_3, cop.eq_4, cop.eq_5, cop.eq_6, cop.eq_7, cop.eq_8, cop.eq_9, cop.eq_10, cop.eq_11, cop.eq_12, cop.eq_13, cop.eq_14, cop.eq_15, bi1.eq_1, bi1.eq_2, bi1.eq_3, bi1.eq_4, bi1.eq_5, bi1.eq_6, bi1.eq_7, bi1.eq_8, bi1.eq_9, bi1.eq_10, bi1.eq_11, bi1.eq_12, bi1.eq_13, bi1.eq_14, bi1.eq_19, bi2.eq_1, bi2.eq_2, bi2.eq_3, bi2.eq_4, asInt.eq_1, asBool.eq_1, items.eq_1, items.eq_2, items.eq_3, slc.eq_1, slc.eq_2, slc.eq_3, isInst.eq_1, isInst.eq_2, isInst.eq_3, isInst.eq_4, isInst.eq_5, isInst.eq_6, isInst.eq_7, isO.eq_1, isO.eq_2, isO.eq_3, isO.eq_4, isO.eq_5, isO.eq_6, isO.eq_7, inD.eq_1, inD.eq_2, inD.eq_3, wp_chain, idx, L2.ixN, L2.atI, ixD, tupD, isInst]
    rw [wp_SL]
    simp [-Prod.forall, -Prod.exists, -List.map_map, -List.getD_eq_getElem?_getD, wp_loc, wp_cst, wp_glb, wp_ed, wp_bin, wp_neg, wp_not, wp_and, wp_or, wp_cmp, wp_iteE, wp_tup, wp_lst, wp_idx, wp_b1, wp_b2, wp_isi, wp_slcF, wp_slcT, wp_callP, wp_call, wp_callK, fnAt0, fnAtS, wp_nil, wp_cons, wp_seq, wp_rng, wp_rng2, wp_SLnil, Rest, wp_asg, wp_asgD, wp_new, wp_free, wp_app, wp_iteS, wp_retS, wp_expr, wp_par, wp_asgT, wp_parN, wp_popT, env0, rdE, visE, allE, get2, getv, visO, allO, setAll, setAll2, bindT, bindT2, wipeE, noL, noLs, listAt, permA_nil, permA10, permA210, sz2', bop.eq_1, bop.eq_2, bop.eq_3, bop.eq_4, bop.eq_5, bop.eq_6, bop.eq_7, bop.eq_8, bop.eq_9, cop_eq_int, cop_ne_int, cop_eq_bool, cop_ne_bool, repr_two, repr_bool, cop.eq_3, cop.eq_4, cop.eq_5, cop.eq_6, cop.eq_7, cop.eq_8, cop.eq_9, cop.eq_10, cop.eq_11, cop.eq_12, cop.eq_13, cop.eq_14, cop.eq_15, bi1.eq_1, bi1.eq_2, bi1.eq_3, bi1.eq_4, bi1.eq_5, bi1.eq_6, bi1.eq_7, bi1.eq_8, bi1.eq_9, bi1.eq_10, bi1.eq_11, bi1.eq_12, bi1.eq_13, bi1.eq_14, bi1.eq_19, bi2.eq_1, bi2.eq_2, bi2.eq_3, bi2.eq_4, asInt.eq_1, asBool.eq_1, items.eq_1, items.eq_2, items.eq_3, slc.eq_1, slc.eq_2, slc.eq_3, isInst.eq_1, isInst.eq_2, isInst.eq_3, isInst.eq_4, isInst.eq_5, isInst.eq_6, isInst.eq_7, isO.eq_1, isO.eq_2, isO.eq_3, isO.eq_4, isO.eq_5, isO.eq_6, isO.eq_7, inD.eq_1, inD.eq_2, inD.eq_3]
    rw [wp_SL]
    simp [C_law_is_ground, -Prod.forall, -Prod.exists, -List.map_map, -List.getD_eq_getElem?_getD, wp_loc, wp_cst, wp_glb, wp_ed, wp_bin, wp_neg, wp_not, wp_and, wp_or, wp_cmp, wp_iteE, wp_tup, wp_lst, wp_idx, wp_b1, wp_b2, wp_isi, wp_slcF, wp_slcT, wp_callP, wp_call, wp_callK, fnAt0, fnAtS, wp_nil, wp_cons, wp_seq, wp_rng, wp_rng2, wp_SLnil, Rest, wp_asg, wp_asgD, wp_new, wp_free, wp_app, wp_iteS, wp_retS, wp_expr, wp_par, wp_asgT, wp_parN, wp_popT, env0, rdE, visE, allE, get2, getv, visO, allO, setAll, setAll2, bindT, bindT2, wipeE, noL, noLs, listAt, permA_nil, permA10, permA210, sz2', bop.eq_1, bop.eq_2, bop.eq_3, bop.eq_4, bop.eq_5, bop.eq_6, bop.eq_7, bop.eq_8, bop.eq_9, cop_eq_int, cop_ne_int, cop_eq_bool, cop_ne_bool, repr_two, repr_bool, cop.eq_3, cop.eq_4, cop.eq_5, cop.eq_6, cop.eq_7, cop.eq_8, cop.eq_9, cop.eq_10, cop.eq_11, cop.eq_12, cop.eq_13, cop.eq_14, cop.eq_15, bi1.eq_1, bi1.eq_2, bi1.eq_3, bi1.eq_4, bi1.eq_5, bi1.eq_6, bi1.eq_7, bi1.eq_8, bi1.eq_9, bi1.eq_10, bi1.eq_11, bi1.eq_12, bi1.eq_13, bi1.eq_14, bi1.eq_19, bi2.eq_1, bi2.eq_2, bi2.eq_3, bi2.eq_4, asInt.eq_1, asBool.eq_1, items.eq_1, items.eq_2, items.eq_3, slc.eq_1, slc.eq_2, slc.eq_3, isInst.eq_1, isInst.eq_2, isInst.eq_3, isInst.eq_4, isInst.eq_5, isInst.eq_6, isInst.eq_7, isO.eq_1, isO.eq_2, isO.eq_3, isO.eq_4, isO.eq_5, isO.eq_6, isO.eq_7, inD.eq_1, inD.eq_2, inD.eq_3, wp_chain]
    by_cases h1 : 1 ≤ os.length
    case neg => exact .inl ⟨List.length_eq_zero_iff.mp (by omega), by simp [-Prod.forall, -Prod.exists, -List.map_map, -List.getD_eq_getElem?_getD, wp_loc, wp_cst, wp_glb, wp_ed, wp_bin, wp_neg, wp_not, wp_and, wp_or, wp_cmp, wp_iteE, wp_tup, wp_lst, wp_idx, wp_b1, wp_b2, wp_isi, wp_slcF, wp_slcT, wp_callP, wp_call, wp_callK, fnAt0, fnAtS, wp_nil, wp_cons, wp_seq, wp_rng, wp_rng2, wp_SLnil, wp_SL, Rest, wp_asg, wp_asgD, wp_new, wp_free, wp_app, wp_iteS, wp_retS, wp_expr, wp_par, wp_asgT, wp_parN, wp_popT, env0, rdE, visE, allE, get2, getv, visO, allO, setAll, setAll2, bindT, bindT2, wipeE, noL, noLs, listAt, permA_nil, permA10, permA210, sz2, bop.eq_1, bop.eq_2, bop.eq_3, bop.eq_4, bop.eq_5, bop.eq_6, bop.eq_7, bop.eq_8, bop.eq_9, cop_eq_int, cop_ne_int, cop_eq_bool, cop_ne_bool, repr_two, repr_bool, cop.eq_3, cop.eq_4, cop.eq_5, cop.eq_6, cop.eq_7, cop.eq_8, cop.eq_9, cop.eq_10, cop.eq_11, cop.eq_12, cop.eq_13, cop.eq_14, cop.eq_15, bi1.eq_1, bi1.eq_2, bi1.eq_3, bi1.eq_4, bi1.eq_5, bi1.eq_6, bi1.eq_7, bi1.eq_8, bi1.eq_9, bi1.eq_10, bi1.eq_11, bi1.eq_12, bi1.eq_13, bi1.eq_14, bi1.eq_19, bi2.eq_1, bi2.eq_2, bi2.eq_3, bi2.eq_4, asInt.eq_1, asBool.eq_1, items.eq_1, items.eq_2, items.eq_3, slc.eq_1, slc.eq_2, slc.eq_3, isInst.eq_1, isInst.eq_2, isInst.eq_3, isInst.eq_4, isInst.eq_5, isInst.eq_6, isInst.eq_7, isO.eq_1, isO.eq_2, isO.eq_3, isO.eq_4, isO.eq_5, isO.eq_6, isO.eq_7, inD.eq_1, inD.eq_2, inD.eq_3, isG, outsB, h1]⟩
    have h0 : 0 < os.length := h1
    by_cases h2 : os.length ≤ 10
    case neg => exact .inr ⟨h0, .inl ⟨by omega, by simp [-Prod.forall, -Prod.exists, -List.map_map, -List.getD_eq_getElem?_getD, wp_loc, wp_cst, wp_glb, wp_ed, wp_bin, wp_neg, wp_not, wp_and, wp_or, wp_cmp, wp_iteE, wp_tup, wp_lst, wp_idx, wp_b1, wp_b2, wp_isi, wp_slcF, wp_slcT, wp_callP, wp_call, wp_callK, fnAt0, fnAtS, wp_nil, wp_cons, wp_seq, wp_rng, wp_rng2, wp_SLnil, wp_SL, Rest, wp_asg, wp_asgD, wp_new, wp_free, wp_app, wp_iteS, wp_retS, wp_expr, wp_par, wp_asgT, wp_parN, wp_popT, env0, rdE, visE, allE, get2, getv, visO, allO, setAll, setAll2, bindT, bindT2, wipeE, noL, noLs, listAt, permA_nil, permA10, permA210, sz2, bop.eq_1, bop.eq_2, bop.eq_3, bop.eq_4, bop.eq_5, bop.eq_6, bop.eq_7, bop.eq_8, bop.eq_9, cop_eq_int, cop_ne_int, cop_eq_bool, cop_ne_bool, repr_two, repr_bool, cop.eq_3, cop.eq_4, cop.eq_5, cop.eq_6, cop.eq_7, cop.eq_8, cop.eq_9, cop.eq_10, cop.eq_11, cop.eq_12, cop.eq_13, cop.eq_14, cop.eq_15, bi1.eq_1, bi1.eq_2, bi1.eq_3, bi1.eq_4, bi1.eq_5, bi1.eq_6, bi1.eq_7, bi1.eq_8, bi1.eq_9, bi1.eq_10, bi1.eq_11, bi1.eq_12, bi1.eq_13, bi1.eq_14, bi1.eq_19, bi2.eq_1, bi2.eq_2, bi2.eq_3, bi2.eq_4, asInt.eq_1, asBool.eq_1, items.eq_1, items.eq_2, items.eq_3, slc.eq_1, slc.eq_2, slc.eq_3, isInst.eq_1, isInst.eq_2, isInst.eq_3, isInst.eq_4, isInst.eq_5, isInst.eq_6, isInst.eq_7, isO.eq_1, isO.eq_2, isO.eq_3, isO.eq_4, isO.eq_5, isO.eq_6, isO.eq_7, inD.eq_1, inD.eq_2, inD.eq_3, isG, outsB, h2]⟩⟩
    refine .inr ⟨h0, .inr ⟨by omega, ?_⟩⟩
    refine wp_compIf (fun d : D => d) (fun d => !nmD d) (fun d => d) os ?_ ?_ ?_
    · simp [-Prod.forall, -Prod.exists, -List.map_map, -List.getD_eq_getElem?_getD, wp_loc, wp_cst, wp_glb, wp_ed, wp_bin, wp_neg, wp_not, wp_and, wp_or, wp_cmp, wp_iteE, wp_tup, wp_lst, wp_idx, wp_b1, wp_b2, wp_isi, wp_slcF, wp_slcT, wp_callP, wp_call, wp_callK, fnAt0, fnAtS, wp_nil, wp_cons, wp_seq, wp_rng, wp_rng2, wp_SLnil, wp_SL, Rest, wp_asg, wp_asgD, wp_new, wp_free, wp_app, wp_iteS, wp_retS, wp_expr, wp_par, wp_asgT, wp_parN, wp_popT, env0, rdE, visE, allE, get2, getv, visO, allO, setAll, setAll2, bindT, bindT2, wipeE, noL, noLs, listAt, permA_nil, permA10, permA210, sz2, bop.eq_1, bop.eq_2, bop.eq_3, bop.eq_4, bop.eq_5, bop.eq_6, bop.eq_7, bop.eq_8, bop.eq_9, cop_eq_int, cop_ne_int, cop_eq_bool, cop_ne_bool, repr_two, repr_bool, cop.eq_3, cop.eq_4, cop.eq_5, cop.eq_6, cop.eq_7, cop.eq_8, cop.eq_9, cop.eq_10, cop.eq_11, cop.eq_12, cop.eq_13, cop.eq_14, cop.eq_15, bi1.eq_1, bi1.eq_2, bi1.eq_3, bi1.eq_4, bi1.eq_5, bi1.eq_6, bi1.eq_7, bi1.eq_8, bi1.eq_9, bi1.eq_10, bi1.eq_11, bi1.eq_12, bi1.eq_13, bi1.eq_14, bi1.eq_19, bi2.eq_1, bi2.eq_2, bi2.eq_3, bi2.eq_4, asInt.eq_1, asBool.eq_1, items.eq_1, items.eq_2, items.eq_3, slc.eq_1, slc.eq_2, slc.eq_3, isInst.eq_1, isInst.eq_2, isInst.eq_3, isInst.eq_4, isInst.eq_5, isInst.eq_6, isInst.eq_7, isO.eq_1, isO.eq_2, isO.eq_3, isO.eq_4, isO.eq_5, isO.eq_6, isO.eq_7, inD.eq_1, inD.eq_2, inD.eq_3]
    · refine fun d hd => ⟨_, rfl, fun w => ?_, fun _ w => by simp [-Prod.forall, -Prod.exists, -List.map_map, -List.getD_eq_getElem?_getD, wp_loc, wp_cst, wp_glb, wp_ed, wp_bin, wp_neg, wp_not, wp_and, wp_or, wp_cmp, wp_iteE, wp_tup, wp_lst, wp_idx, wp_b1, wp_b2, wp_isi, wp_slcF, wp_slcT, wp_callP, wp_call, wp_callK, fnAt0, fnAtS, wp_nil, wp_cons, wp_seq, wp_rng, wp_rng2, wp_SLnil, wp_SL, Rest, wp_asg, wp_asgD, wp_new, wp_free, wp_app, wp_iteS, wp_retS, wp_expr, wp_par, wp_asgT, wp_parN, wp_popT, env0, rdE, visE, allE, get2, getv, visO, allO, setAll, setAll2, bindT, bindT2, wipeE, noL, noLs, listAt, permA_nil, permA10, permA210, sz2, bop.eq_1, bop.eq_2, bop.eq_3, bop.eq_4, bop.eq_5, bop.eq_6, bop.eq_7, bop.eq_8, bop.eq_9, cop_eq_int, cop_ne_int, cop_eq_bool, cop_ne_bool, repr_two, repr_bool, cop.eq_3, cop.eq_4, cop.eq_5, cop.eq_6, cop.eq_7, cop.eq_8, cop.eq_9, cop.eq_10, cop.eq_11, cop.eq_12, cop.eq_13, cop.eq_14, cop.eq_15, bi1.eq_1, bi1.eq_2, bi1.eq_3, bi1.eq_4, bi1.eq_5, bi1.eq_6, bi1.eq_7, bi1.eq_8, bi1.eq_9, bi1.eq_10, bi1.eq_11, bi1.eq_12, bi1.eq_13, bi1.eq_14, bi1.eq_19, bi2.eq_1, bi2.eq_2, bi2.eq_3, bi2.eq_4, asInt.eq_1, asBool.eq_1, items.eq_1, items.eq_2, items.eq_3, slc.eq_1, slc.eq_2, slc.eq_3, isInst.eq_1, isInst.eq_2, isInst.eq_3, isInst.eq_4, isInst.eq_5, isInst.eq_6, isInst.eq_7, isO.eq_1, isO.eq_2, isO.eq_3, isO.eq_4, isO.eq_5, isO.eq_6, isO.eq_7, inD.eq_1, inD.eq_2, inD.eq_3]⟩
      simp [-Prod.forall, -Prod.exists, -List.map_map, -List.getD_eq_getElem?_getD, wp_loc, wp_cst, wp_glb, wp_ed, wp_bin, wp_neg, wp_not, wp_and, wp_or, wp_cmp, wp_iteE, wp_tup, wp_lst, wp_idx, wp_b1, wp_b2, wp_isi, wp_slcF, wp_slcT, wp_callP, wp_call, wp_callK, fnAt0, fnAtS, wp_nil, wp_cons, wp_seq, wp_rng, wp_rng2, wp_SLnil, wp_SL, Rest, wp_asg, wp_asgD, wp_new, wp_free, wp_app, wp_iteS, wp_retS, wp_expr, wp_par, wp_asgT, wp_parN, wp_popT, env0, rdE, visE, allE, get2, getv, visO, allO, setAll, setAll2, bindT, bindT2, wipeE, noL, noLs, listAt, permA_nil, permA10, permA210, sz2, bop.eq_1, bop.eq_2, bop.eq_3, bop.eq_4, bop.eq_5, bop.eq_6, bop.eq_7, bop.eq_8, bop.eq_9, cop_eq_int, cop_ne_int, cop_eq_bool, cop_ne_bool, repr_two, repr_bool, cop.eq_3, cop.eq_4, cop.eq_5, cop.eq_6, cop.eq_7, cop.eq_8, cop.eq_9, cop.eq_10, cop.eq_11, cop.eq_12, cop.eq_13, cop.eq_14, cop.eq_15, bi1.eq_1, bi1.eq_2, bi1.eq_3, bi1.eq_4, bi1.eq_5, bi1.eq_6, bi1.eq_7, bi1.eq_8, bi1.eq_9, bi1.eq_10, bi1.eq_11, bi1.eq_12, bi1.eq_13, bi1.eq_14, bi1.eq_19, bi2.eq_1, bi2.eq_2, bi2.eq_3, bi2.eq_4, asInt.eq_1, asBool.eq_1, items.eq_1, items.eq_2, items.eq_3, slc.eq_1, slc.eq_2, slc.eq_3, isInst.eq_1, isInst.eq_2, isInst.eq_3, isInst.eq_4, isInst.eq_5, isInst.eq_6, isInst.eq_7, isO.eq_1, isO.eq_2, isO.eq_3, isO.eq_4, isO.eq_5, isO.eq_6, isO.eq_7, inD.eq_1, inD.eq_2, inD.eq_3]
      exact wp_ev (ev_law_is_name d ((sd_tup.mp sa d hd).sh (by decide))) (by simp [-Prod.forall, -Prod.exists, -List.map_map, -List.getD_eq_getElem?_getD, wp_loc, wp_cst, wp_glb, wp_ed, wp_bin, wp_neg, wp_not, wp_and, wp_or, wp_cmp, wp_iteE, wp_tup, wp_lst, wp_idx, wp_b1, wp_b2, wp_isi, wp_slcF, wp_slcT, wp_callP, wp_call, wp_callK, fnAt0, fnAtS, wp_nil, wp_cons, wp_seq, wp_rng, wp_rng2, wp_SLnil, wp_SL, Rest, wp_asg, wp_asgD, wp_new, wp_free, wp_app, wp_iteS, wp_retS, wp_expr, wp_par, wp_asgT, wp_parN, wp_popT, env0, rdE, visE, allE, get2, getv, visO, allO, setAll, setAll2, bindT, bindT2, wipeE, noL, noLs, listAt, permA_nil, permA10, permA210, sz2, bop.eq_1, bop.eq_2, bop.eq_3, bop.eq_4, bop.eq_5, bop.eq_6, bop.eq_7, bop.eq_8, bop.eq_9, cop_eq_int, cop_ne_int, cop_eq_bool, cop_ne_bool, repr_two, repr_bool, cop.eq_3, cop.eq_4, cop.eq_5, cop.eq_6, cop.eq_7, cop.eq_8, cop.eq_9, cop.eq_10, cop.eq_11, cop.eq_12, cop.eq_13, cop.eq_14, cop.eq_15, bi1.eq_1, bi1.eq_2, bi1.eq_3, bi1.eq_4, bi1.eq_5, bi1.eq_6, bi1.eq_7, bi1.eq_8, bi1.eq_9, bi1.eq_10, bi1.eq_11, bi1.eq_12, bi1.eq_13, bi1.eq_14, bi1.eq_19, bi2.eq_1, bi2.eq_2, bi2.eq_3, bi2.eq_4, asInt.eq_1, asBool.eq_1, items.eq_1, items.eq_2, items.eq_3, slc.eq_1, slc.eq_2, slc.eq_3, isInst.eq_1, isInst.eq_2, isInst.eq_3, isInst.eq_4, isInst.eq_5, isInst.eq_6, isInst.eq_7, isO.eq_1, isO.eq_2, isO.eq_3, isO.eq_4, isO.eq_5, isO.eq_6, isO.eq_7, inD.eq_1, inD.eq_2, inD.eq_3])
    have sh : SeqAt.shaped (.list ((os.filter fun d => !nmD d).map fun d => d)) = true := (sd_list (n := 38).mpr fun d hd => by
      rw [List.map_id'] at hd
      exact sd_tup.mp sa d (List.mem_filter.mp hd).1).sh (by decide)
    have en := ne_nil sh
    have fn := filter_nil nmD os
    rw [List.map_id'] at en ⊢
    rw [en]
    cases ho : os.all nmD
    · have : ¬ (os.filter fun d => !nmD d) = [] := fun z => by rw [fn.mp z] at ho; cases ho
      simp only [this, decide_false, Bool.not_false]
      simp [-Prod.forall, -Prod.exists, -List.map_map, -List.getD_eq_getElem?_getD, wp_loc, wp_cst, wp_glb, wp_ed, wp_bin, wp_neg, wp_not, wp_and, wp_or, wp_cmp, wp_iteE, wp_tup, wp_lst, wp_idx, wp_b1, wp_b2, wp_isi, wp_slcF, wp_slcT, wp_callP, wp_call, wp_callK, fnAt0, fnAtS, wp_nil, wp_cons, wp_seq, wp_rng, wp_rng2, wp_SLnil, wp_SL, Rest, wp_asg, wp_asgD, wp_new, wp_free, wp_app, wp_iteS, wp_retS, wp_expr, wp_par, wp_asgT, wp_parN, wp_popT, env0, rdE, visE, allE, get2, getv, visO, allO, setAll, setAll2, bindT, bindT2, wipeE, noL, noLs, listAt, permA_nil, permA10, permA210, sz2, bop.eq_1, bop.eq_2, bop.eq_3, bop.eq_4, bop.eq_5, bop.eq_6, bop.eq_7, bop.eq_8, bop.eq_9, cop_eq_int, cop_ne_int, cop_eq_bool, cop_ne_bool, repr_two, repr_bool, cop.eq_3, cop.eq_4, cop.eq_5, cop.eq_6, cop.eq_7, cop.eq_8, cop.eq_9, cop.eq_10, cop.eq_11, cop.eq_12, cop.eq_13, cop.eq_14, cop.eq_15, bi1.eq_1, bi1.eq_2, bi1.eq_3, bi1.eq_4, bi1.eq_5, bi1.eq_6, bi1.eq_7, bi1.eq_8, bi1.eq_9, bi1.eq_10, bi1.eq_11, bi1.eq_12, bi1.eq_13, bi1.eq_14, bi1.eq_19, bi2.eq_1, bi2.eq_2, bi2.eq_3, bi2.eq_4, asInt.eq_1, asBool.eq_1, items.eq_1, items.eq_2, items.eq_3, slc.eq_1, slc.eq_2, slc.eq_3, isInst.eq_1, isInst.eq_2, isInst.eq_3, isInst.eq_4, isInst.eq_5, isInst.eq_6, isInst.eq_7, isO.eq_1, isO.eq_2, isO.eq_3, isO.eq_4, isO.eq_5, isO.eq_6, isO.eq_7, inD.eq_1, inD.eq_2, inD.eq_3, isG, outsB, ho]
    have hn := List.all_eq_true.mp ho
    have : (os.filter fun d => !nmD d) = [] := fn.mpr ho
    simp only [this, decide_true, Bool.not_true]
    simp [-Prod.forall, -Prod.exists, -List.map_map, -List.getD_eq_getElem?_getD, wp_loc, wp_cst, wp_glb, wp_ed, wp_bin, wp_neg, wp_not, wp_and, wp_or, wp_cmp, wp_iteE, wp_tup, wp_lst, wp_idx, wp_b1, wp_b2, wp_isi, wp_slcF, wp_slcT, wp_callP, wp_call, wp_callK, fnAt0, fnAtS, wp_nil, wp_cons, wp_seq, wp_rng, wp_rng2, wp_SLnil, Rest, wp_asg, wp_asgD, wp_new, wp_free, wp_app, wp_iteS, wp_retS, wp_expr, wp_par, wp_asgT, wp_parN, wp_popT, env0, rdE, visE, allE, get2, getv, visO, allO, setAll, setAll2, bindT, bindT2, wipeE, noL, noLs, listAt, permA_nil, permA10, permA210, sz2', bop.eq_1, bop.eq_2, bop.eq_3, bop.eq_4, bop.eq_5, bop.eq_6, bop.eq_7, bop.eq_8, bop.eq_9, cop_eq_int, cop_ne_int, cop_eq_bool, cop_ne_bool, repr_two, repr_bool, cop.eq_3, cop.eq_4, cop.eq_5, cop.eq_6, cop.eq_7, cop.eq_8, cop.eq_9, cop.eq_10, cop.eq_11, cop.eq_12, cop.eq_13, cop.eq_14, cop.eq_15, bi1.eq_1, bi1.eq_2, bi1.eq_3, bi1.eq_4, bi1.eq_5, bi1.eq_6, bi1.eq_7, bi1.eq_8, bi1.eq_9, bi1.eq_10, bi1.eq_11, bi1.eq_12, bi1.eq_13, bi1.eq_14, bi1.eq_19, bi2.eq_1, bi2.eq_2, bi2.eq_3, bi2.eq_4, asInt.eq_1, asBool.eq_1, items.eq_1, items.eq_2, items.eq_3, slc.eq_1, slc.eq_2, slc.eq_3, isInst.eq_1, isInst.eq_2, isInst.eq_3, isInst.eq_4, isInst.eq_5, isInst.eq_6, isInst.eq_7, isO.eq_1, isO.eq_2, isO.eq_3, isO.eq_4, isO.eq_5, isO.eq_6, isO.eq_7, inD.eq_1, inD.eq_2, inD.eq_3]
    rw [wp_SL]
    simp only [wp_iteS, wp_cmp]
    have cos : Cmp os := cmp_str fun d hd => let ⟨x, e, _⟩ := nm_str (hn d hd); ⟨x, e⟩
    refine wp_falls (i := 2) (sk := 4) (l := os) rfl (by decide) (by show 4 < 6; decide) cos (by omega) ?_
    have er := ne_nil (l := ((List.range (os.length - 1)).filter fun k => !PySem.W.dataLt (atD os k) (atD os (k + 1))).map fun k : Nat => PyData.int (k : Int)) (shp_ints _)
    have fr := falls_nil os
    simp only [wp_lst, wp_nil]
    refine ⟨by decide, _, er, _, rfl, ?_⟩
    cases hr : riseD os
    · have : ¬ (((List.range (os.length - 1)).filter fun k => !PySem.W.dataLt (atD os k) (atD os (k + 1))).map fun k : Nat => PyData.int (k : Int)) = [] := fun z => by rw [fr.mp z] at hr; cases hr
      rw [if_pos (by simp only [this, decide_false, Bool.not_false])]
      simp [-Prod.forall, -Prod.exists, -List.map_map, -List.getD_eq_getElem?_getD, wp_loc, wp_cst, wp_glb, wp_ed, wp_bin, wp_neg, wp_not, wp_and, wp_or, wp_cmp, wp_iteE, wp_tup, wp_lst, wp_idx, wp_b1, wp_b2, wp_isi, wp_slcF, wp_slcT, wp_callP, wp_call, wp_callK, fnAt0, fnAtS, wp_nil, wp_cons, wp_seq, wp_rng, wp_rng2, wp_SLnil, wp_SL, Rest, wp_asg, wp_asgD, wp_new, wp_free, wp_app, wp_iteS, wp_retS, wp_expr, wp_par, wp_asgT, wp_parN, wp_popT, env0, rdE, visE, allE, get2, getv, visO, allO, setAll, setAll2, bindT, bindT2, wipeE, noL, noLs, listAt, permA_nil, permA10, permA210, sz2, bop.eq_1, bop.eq_2, bop.eq_3, bop.eq_4, bop.eq_5, bop.eq_6, bop.eq_7, bop.eq_8, bop.eq_9, cop_eq_int, cop_ne_int, cop_eq_bool, cop_ne_bool, repr_two, repr_bool, cop.eq_3, cop.eq_4, cop.eq_5, cop.eq_6, cop.eq_7, cop.eq_8, cop.eq_9, cop.eq_10, cop.eq_11, cop.eq_12, cop.eq_13, cop.eq_14, cop.eq_15, bi1.eq_1, bi1.eq_2, bi1.eq_3, bi1.eq_4, bi1.eq_5, bi1.eq_6, bi1.eq_7, bi1.eq_8, bi1.eq_9, bi1.eq_10, bi1.eq_11, bi1.eq_12, bi1.eq_13, bi1.eq_14, bi1.eq_19, bi2.eq_1, bi2.eq_2, bi2.eq_3, bi2.eq_4, asInt.eq_1, asBool.eq_1, items.eq_1, items.eq_2, items.eq_3, slc.eq_1, slc.eq_2, slc.eq_3, isInst.eq_1, isInst.eq_2, isInst.eq_3, isInst.eq_4, isInst.eq_5, isInst.eq_6, isInst.eq_7, isO.eq_1, isO.eq_2, isO.eq_3, isO.eq_4, isO.eq_5, isO.eq_6, isO.eq_7, inD.eq_1, inD.eq_2, inD.eq_3, isG, outsB, ho, hr]
    have e0 := fr.mpr hr
    rw [if_neg (by simp only [e0, decide_true, Bool.not_true]; decide)]
    rw [wp_SLnil]
    show Wp _ _ _
    have outs : outsB (.tuple os) = true := by simp only [outsB, h1, h2, ho, hr, decide_true, Bool.true_and]
    rw [wp_SL]
    refine wp_forL (fun d : D => d) ps (fun i ρ w' => (ps.take i).all (pairB os) = true ∧ w' = w ∧ ∃ x1, ρ = [some (false, .tuple [.tuple os, .tuple ps]), x1, some (false, .tuple os), some (false, .tuple ps), none, none]) ?_ ?_ ?_
    · simp [-Prod.forall, -Prod.exists, -List.map_map, -List.getD_eq_getElem?_getD, wp_loc, wp_cst, wp_glb, wp_ed, wp_bin, wp_neg, wp_not, wp_and, wp_or, wp_cmp, wp_iteE, wp_tup, wp_lst, wp_idx, wp_b1, wp_b2, wp_isi, wp_slcF, wp_slcT, wp_callP, wp_call, wp_callK, fnAt0, fnAtS, wp_nil, wp_cons, wp_seq, wp_rng, wp_rng2, wp_SLnil, wp_SL, Rest, wp_asg, wp_asgD, wp_new, wp_free, wp_app, wp_iteS, wp_retS, wp_expr, wp_par, wp_asgT, wp_parN, wp_popT, env0, rdE, visE, allE, get2, getv, visO, allO, setAll, setAll2, bindT, bindT2, wipeE, noL, noLs, listAt, permA_nil, permA10, permA210, sz2, bop.eq_1, bop.eq_2, bop.eq_3, bop.eq_4, bop.eq_5, bop.eq_6, bop.eq_7, bop.eq_8, bop.eq_9, cop_eq_int, cop_ne_int, cop_eq_bool, cop_ne_bool, repr_two, repr_bool, cop.eq_3, cop.eq_4, cop.eq_5, cop.eq_6, cop.eq_7, cop.eq_8, cop.eq_9, cop.eq_10, cop.eq_11, cop.eq_12, cop.eq_13, cop.eq_14, cop.eq_15, bi1.eq_1, bi1.eq_2, bi1.eq_3, bi1.eq_4, bi1.eq_5, bi1.eq_6, bi1.eq_7, bi1.eq_8, bi1.eq_9, bi1.eq_10, bi1.eq_11, bi1.eq_12, bi1.eq_13, bi1.eq_14, bi1.eq_19, bi2.eq_1, bi2.eq_2, bi2.eq_3, bi2.eq_4, asInt.eq_1, asBool.eq_1, items.eq_1, items.eq_2, items.eq_3, slc.eq_1, slc.eq_2, slc.eq_3, isInst.eq_1, isInst.eq_2, isInst.eq_3, isInst.eq_4, isInst.eq_5, isInst.eq_6, isInst.eq_7, isO.eq_1, isO.eq_2, isO.eq_3, isO.eq_4, isO.eq_5, isO.eq_6, isO.eq_7, inD.eq_1, inD.eq_2, inD.eq_3]
    · rintro i q ρ w' hq ⟨hi, rfl, x1, rfl⟩
      have hm := List.mem_of_getElem? hq
      refine ⟨_, rfl, ?_⟩
      refine pair_turn (r := []) hn ga (sd_tup.mp hb q hm) _ _ _ _ (fun hp => ?_) fun hp => ?_
      · exact ⟨all_take _ _ _ hq hi hp, rfl, _, rfl⟩
      · show PyData.bool false = PyData.bool (isG _) ∧ _
        have : ps.all (pairB os) = false := by
          rw [List.all_eq_false]
          exact ⟨q, hm, by simp [hp]⟩
        exact ⟨by simp [isG, pairsB, this], rfl⟩
    · rintro ρ w' ⟨hi, rfl, x1, rfl⟩
      rw [List.take_length] at hi
      show Wp _ _ _
      rw [wp_SL]
      simp only [wp_retS, wp_cmp]
      have ha := List.all_eq_true.mp hi
      have cps : Cmp ps := cmp_pair (fun d hd => pairB_inv (ha d hd)) fun d hd => (sd_tup.mp hb d hd).sh (by decide)
      refine wp_falls (i := 3) (sk := 4) (l := ps) rfl (by decide) (by show 4 < 6; decide) cps hl ?_
      have er := eq_nil (l := ((List.range (ps.length - 1)).filter fun k => !PySem.W.dataLt (atD ps k) (atD ps (k + 1))).map fun k : Nat => PyData.int (k : Int)) (shp_ints _)
      have fr := falls_nil ps
      simp only [wp_lst, wp_nil]
      refine ⟨by decide, _, er, ?_⟩
      show PyData.bool _ = PyData.bool (isG _) ∧ _
      refine ⟨?_, rfl⟩
      have : isG (.tuple [.tuple os, .tuple ps]) = riseD ps := by simp only [isG, outs, pairsB, hi, Bool.true_and]
      rw [this]
      congr 1
      cases hr2 : riseD ps
      · exact decide_eq_false fun z => by rw [fr.mp z] at hr2; cases hr2
      · exact decide_eq_true (fr.mpr hr2)
  | .tuple [], h, _ => simp [C_law_is_ground, -Prod.forall, -Prod.exists, -List.map_map, -List.getD_eq_getElem?_getD, wp_loc, wp_cst, wp_glb, wp_ed, wp_bin, wp_neg, wp_not, wp_and, wp_or, wp_cmp, wp_iteE, wp_tup, wp_lst, wp_idx, wp_b1, wp_b2, wp_isi, wp_slcF, wp_slcT, wp_callP, wp_call, wp_callK, fnAt0, fnAtS, wp_nil, wp_cons, wp_seq, wp_rng, wp_rng2, wp_SLnil, wp_SL, Rest, wp_asg, wp_asgD, wp_new, wp_free, wp_app, wp_iteS, wp_retS, wp_expr, wp_par, wp_asgT, wp_parN, wp_popT, env0, rdE, visE, allE, get2, getv, visO, allO, setAll, setAll2, bindT, bindT2, wipeE, noL, noLs, listAt, permA_nil, permA10, permA210, sz2, bop.eq_1, bop.eq_2, bop.eq_3, bop.eq_4, bop.eq_5, bop.eq_6, bop.eq_7, bop.eq_8, bop.eq_9, cop_eq_int, cop_ne_int, cop_eq_bool, cop_ne_bool, repr_two, repr_bool, cop.eq_3, cop.eq_4, cop.eq_5, cop.eq_6, cop.eq_7, cop.eq_8, cop.eq_9, cop.eq_10, cop.eq_11, cop.eq_12, cop.eq_13, cop.eq_14, cop.eq_15, bi1.eq_1, bi1.eq_2, bi1.eq_3, bi1.eq_4, bi1.eq_5, bi1.eq_6, bi1.eq_7, bi1.eq_8, bi1.eq_9, bi1.eq_10, bi1.eq_11, bi1.eq_12, bi1.eq_13, bi1.eq_14, bi1.eq_19, bi2.eq_1, bi2.eq_2, bi2.eq_3, bi2.eq_4, asInt.eq_1, asBool.eq_1, items.eq_1, items.eq_2, items.eq_3, slc.eq_1, slc.eq_2, slc.eq_3, isInst.eq_1, isInst.eq_2, isInst.eq_3, isInst.eq_4, isInst.eq_5, isInst.eq_6, isInst.eq_7, isO.eq_1, isO.eq_2, isO.eq_3, isO.eq_4, isO.eq_5, isO.eq_6, isO.eq_7, inD.eq_1, inD.eq_2, inD.eq_3, isG]
  | .tuple [a], h, _ => simp [C_law_is_ground, -Prod.forall, -Prod.exists, -List.map_map, -List.getD_eq_getElem?_getD, wp_loc, wp_cst, wp_glb, wp_ed, wp_bin, wp_neg, wp_not, wp_and, wp_or, wp_cmp, wp_iteE, wp_tup, wp_lst, wp_idx, wp_b1, wp_b2, wp_isi, wp_slcF, wp_slcT, wp_callP, wp_call, wp_callK, fnAt0, fnAtS, wp_nil, wp_cons, wp_seq, wp_rng, wp_rng2, wp_SLnil, wp_SL, Rest, wp_asg, wp_asgD, wp_new, wp_free, wp_app, wp_iteS, wp_retS, wp_expr, wp_par, wp_asgT, wp_parN, wp_popT, env0, rdE, visE, allE, get2, getv, visO, allO, setAll, setAll2, bindT, bindT2, wipeE, noL, noLs, listAt, permA_nil, permA10, permA210, sz2, bop.eq_1, bop.eq_2, bop.eq_3, bop.eq_4, bop.eq_5, bop.eq_6, bop.eq_7, bop.eq_8, bop.eq_9, cop_eq_int, cop_ne_int, cop_eq_bool, cop_ne_bool, repr_two, repr_bool, cop.eq_3, cop.eq_4, cop.eq_5, cop.eq_6, cop.eq_7, cop.eq_8, cop.eq_9, cop.eq_10, cop.eq_11, cop.eq_12, cop.eq_13, cop.eq_14, cop.eq_15, bi1.eq_1, bi1.eq_2, bi1.eq_3, bi1.eq_4, bi1.eq_5, bi1.eq_6, bi1.eq_7, bi1.eq_8, bi1.eq_9, bi1.eq_10, bi1.eq_11, bi1.eq_12, bi1.eq_13, bi1.eq_14, bi1.eq_19, bi2.eq_1, bi2.eq_2, bi2.eq_3, bi2.eq_4, asInt.eq_1, asBool.eq_1, items.eq_1, items.eq_2, items.eq_3, slc.eq_1, slc.eq_2, slc.eq_3, isInst.eq_1, isInst.eq_2, isInst.eq_3, isInst.eq_4, isInst.eq_5, isInst.eq_6, isInst.eq_7, isO.eq_1, isO.eq_2, isO.eq_3, isO.eq_4, isO.eq_5, isO.eq_6, isO.eq_7, inD.eq_1, inD.eq_2, inD.eq_3, isG]
  | .tuple (a :: b :: c :: t), h, _ =>
    have : ¬ ((t.length : Int) + 1 + 1 + 1 = 2) := by omega
    simp [C_law_is_ground, -Prod.forall, -Prod.exists, -List.map_map, -List.getD_eq_getElem?_getD, wp_loc, wp_cst, wp_glb, wp_ed, wp_bin, wp_neg, wp_not, wp_and, wp_or, wp_cmp, wp_iteE, wp_tup, wp_lst, wp_idx, wp_b1, wp_b2, wp_isi, wp_slcF, wp_slcT, wp_callP, wp_call, wp_callK, fnAt0, fnAtS, wp_nil, wp_cons, wp_seq, wp_rng, wp_rng2, wp_SLnil, wp_SL, Rest, wp_asg, wp_asgD, wp_new, wp_free, wp_app, wp_iteS, wp_retS, wp_expr, wp_par, wp_asgT, wp_parN, wp_popT, env0, rdE, visE, allE, get2, getv, visO, allO, setAll, setAll2, bindT, bindT2, wipeE, noL, noLs, listAt, permA_nil, permA10, permA210, sz2, bop.eq_1, bop.eq_2, bop.eq_3, bop.eq_4, bop.eq_5, bop.eq_6, bop.eq_7, bop.eq_8, bop.eq_9, cop_eq_int, cop_ne_int, cop_eq_bool, cop_ne_bool, repr_two, repr_bool, cop.eq_3, cop.eq_4, cop.eq_5, cop.eq_6, cop.eq_7, cop.eq_8, cop.eq_9, cop.eq_10, cop.eq_11, cop.eq_12, cop.eq_13, cop.eq_14, cop.eq_15, bi1.eq_1, bi1.eq_2, bi1.eq_3, bi1.eq_4, bi1.eq_5, bi1.eq_6, bi1.eq_7, bi1.eq_8, bi1.eq_9, bi1.eq_10, bi1.eq_11, bi1.eq_12, bi1.eq_13, bi1.eq_14, bi1.eq_19, bi2.eq_1, bi2.eq_2, bi2.eq_3, bi2.eq_4, asInt.eq_1, asBool.eq_1, items.eq_1, items.eq_2, items.eq_3, slc.eq_1, slc.eq_2, slc.eq_3, isInst.eq_1, isInst.eq_2, isInst.eq_3, isInst.eq_4, isInst.eq_5, isInst.eq_6, isInst.eq_7, isO.eq_1, isO.eq_2, isO.eq_3, isO.eq_4, isO.eq_5, isO.eq_6, isO.eq_7, inD.eq_1, inD.eq_2, inD.eq_3, isG, this]
  | .none, h, p => simp [C_law_is_ground, -Prod.forall, -Prod.exists, -List.map_map, -List.getD_eq_getElem?_getD, wp_loc, wp_cst, wp_glb, wp_ed, wp_bin, wp_neg, wp_not, wp_and, wp_or, wp_cmp, wp_iteE, wp_tup, wp_lst, wp_idx, wp_b1, wp_b2, wp_isi, wp_slcF, wp_slcT, wp_callP, wp_call, wp_callK, fnAt0, fnAtS, wp_nil, wp_cons, wp_seq, wp_rng, wp_rng2, wp_SLnil, wp_SL, Rest, wp_asg, wp_asgD, wp_new, wp_free, wp_app, wp_iteS, wp_retS, wp_expr, wp_par, wp_asgT, wp_parN, wp_popT, env0, rdE, visE, allE, get2, getv, visO, allO, setAll, setAll2, bindT, bindT2, wipeE, noL, noLs, listAt, permA_nil, permA10, permA210, sz2, bop.eq_1, bop.eq_2, bop.eq_3, bop.eq_4, bop.eq_5, bop.eq_6, bop.eq_7, bop.eq_8, bop.eq_9, cop_eq_int, cop_ne_int, cop_eq_bool, cop_ne_bool, repr_two, repr_bool, cop.eq_3, cop.eq_4, cop.eq_5, cop.eq_6, cop.eq_7, cop.eq_8, cop.eq_9, cop.eq_10, cop.eq_11, cop.eq_12, cop.eq_13, cop.eq_14, cop.eq_15, bi1.eq_1, bi1.eq_2, bi1.eq_3, bi1.eq_4, bi1.eq_5, bi1.eq_6, bi1.eq_7, bi1.eq_8, bi1.eq_9, bi1.eq_10, bi1.eq_11, bi1.eq_12, bi1.eq_13, bi1.eq_14, bi1.eq_19, bi2.eq_1, bi2.eq_2, bi2.eq_3, bi2.eq_4, asInt.eq_1, asBool.eq_1, items.eq_1, items.eq_2, items.eq_3, slc.eq_1, slc.eq_2, slc.eq_3, isInst.eq_1, isInst.eq_2, isInst.eq_3, isInst.eq_4, isInst.eq_5, isInst.eq_6, isInst.eq_7, isO.eq_1, isO.eq_2, isO.eq_3, isO.eq_4, isO.eq_5, isO.eq_6, isO.eq_7, inD.eq_1, inD.eq_2, inD.eq_3, isG]
  | .int _, h, p => simp [C_law_is_ground, -Prod.forall, -Prod.exists, -List.map_map, -List.getD_eq_getElem?_getD, wp_loc, wp_cst, wp_glb, wp_ed, wp_bin, wp_neg, wp_not, wp_and, wp_or, wp_cmp, wp_iteE, wp_tup, wp_lst, wp_idx, wp_b1, wp_b2, wp_isi, wp_slcF, wp_slcT, wp_callP, wp_call, wp_callK, fnAt0, fnAtS, wp_nil, wp_cons, wp_seq, wp_rng, wp_rng2, wp_SLnil, wp_SL, Rest, wp_asg, wp_asgD, wp_new, wp_free, wp_app, wp_iteS, wp_retS, wp_expr, wp_par, wp_asgT, wp_parN, wp_popT, env0, rdE, visE, allE, get2, getv, visO, allO, setAll, setAll2, bindT, bindT2, wipeE, noL, noLs, listAt, permA_nil, permA10, permA210, sz2, bop.eq_1, bop.eq_2, bop.eq_3, bop.eq_4, bop.eq_5, bop.eq_6, bop.eq_7, bop.eq_8, bop.eq_9, cop_eq_int, cop_ne_int, cop_eq_bool, cop_ne_bool, repr_two, repr_bool, cop.eq_3, cop.eq_4, cop.eq_5, cop.eq_6, cop.eq_7, cop.eq_8, cop.eq_9, cop.eq_10, cop.eq_11, cop.eq_12, cop.eq_13, cop.eq_14, cop.eq_15, bi1.eq_1, bi1.eq_2, bi1.eq_3, bi1.eq_4, bi1.eq_5, bi1.eq_6, bi1.eq_7, bi1.eq_8, bi1.eq_9, bi1.eq_10, bi1.eq_11, bi1.eq_12, bi1.eq_13, bi1.eq_14, bi1.eq_19, bi2.eq_1, bi2.eq_2, bi2.eq_3, bi2.eq_4, asInt.eq_1, asBool.eq_1, items.eq_1, items.eq_2, items.eq_3, slc.eq_1, slc.eq_2, slc.eq_3, isInst.eq_1, isInst.eq_2, isInst.eq_3, isInst.eq_4, isInst.eq_5, isInst.eq_6, isInst.eq_7, isO.eq_1, isO.eq_2, isO.eq_3, isO.eq_4, isO.eq_5, isO.eq_6, isO.eq_7, inD.eq_1, inD.eq_2, inD.eq_3, isG]
  | .bool _, h, p => simp [C_law_is_ground, -Prod.forall, -Prod.exists, -List.map_map, -List.getD_eq_getElem?_getD, wp_loc, wp_cst, wp_glb, wp_ed, wp_bin, wp_neg, wp_not, wp_and, wp_or, wp_cmp, wp_iteE, wp_tup, wp_lst, wp_idx, wp_b1, wp_b2, wp_isi, wp_slcF, wp_slcT, wp_callP, wp_call, wp_callK, fnAt0, fnAtS, wp_nil, wp_cons, wp_seq, wp_rng, wp_rng2, wp_SLnil, wp_SL, Rest, wp_asg, wp_asgD, wp_new, wp_free, wp_app, wp_iteS, wp_retS, wp_expr, wp_par, wp_asgT, wp_parN, wp_popT, env0, rdE, visE, allE, get2, getv, visO, allO, setAll, setAll2, bindT, bindT2, wipeE, noL, noLs, listAt, permA_nil, permA10, permA210, sz2, bop.eq_1, bop.eq_2, bop.eq_3, bop.eq_4, bop.eq_5, bop.eq_6, bop.eq_7, bop.eq_8, bop.eq_9, cop_eq_int, cop_ne_int, cop_eq_bool, cop_ne_bool, repr_two, repr_bool, cop.eq_3, cop.eq_4, cop.eq_5, cop.eq_6, cop.eq_7, cop.eq_8, cop.eq_9, cop.eq_10, cop.eq_11, cop.eq_12, cop.eq_13, cop.eq_14, cop.eq_15, bi1.eq_1, bi1.eq_2, bi1.eq_3, bi1.eq_4, bi1.eq_5, bi1.eq_6, bi1.eq_7, bi1.eq_8, bi1.eq_9, bi1.eq_10, bi1.eq_11, bi1.eq_12, bi1.eq_13, bi1.eq_14, bi1.eq_19, bi2.eq_1, bi2.eq_2, bi2.eq_3, bi2.eq_4, asInt.eq_1, asBool.eq_1, items.eq_1, items.eq_2, items.eq_3, slc.eq_1, slc.eq_2, slc.eq_3, isInst.eq_1, isInst.eq_2, isInst.eq_3, isInst.eq_4, isInst.eq_5, isInst.eq_6, isInst.eq_7, isO.eq_1, isO.eq_2, isO.eq_3, isO.eq_4, isO.eq_5, isO.eq_6, isO.eq_7, inD.eq_1, inD.eq_2, inD.eq_3, isG]
  | .str _, h, p => simp [C_law_is_ground, -Prod.forall, -Prod.exists, -List.map_map, -List.getD_eq_getElem?_getD, wp_loc, wp_cst, wp_glb, wp_ed, wp_bin, wp_neg, wp_not, wp_and, wp_or, wp_cmp, wp_iteE, wp_tup, wp_lst, wp_idx, wp_b1, wp_b2, wp_isi, wp_slcF, wp_slcT, wp_callP, wp_call, wp_callK, fnAt0, fnAtS, wp_nil, wp_cons, wp_seq, wp_rng, wp_rng2, wp_SLnil, wp_SL, Rest, wp_asg, wp_asgD, wp_new, wp_free, wp_app, wp_iteS, wp_retS, wp_expr, wp_par, wp_asgT, wp_parN, wp_popT, env0, rdE, visE, allE, get2, getv, visO, allO, setAll, setAll2, bindT, bindT2, wipeE, noL, noLs, listAt, permA_nil, permA10, permA210, sz2, bop.eq_1, bop.eq_2, bop.eq_3, bop.eq_4, bop.eq_5, bop.eq_6, bop.eq_7, bop.eq_8, bop.eq_9, cop_eq_int, cop_ne_int, cop_eq_bool, cop_ne_bool, repr_two, repr_bool, cop.eq_3, cop.eq_4, cop.eq_5, cop.eq_6, cop.eq_7, cop.eq_8, cop.eq_9, cop.eq_10, cop.eq_11, cop.eq_12, cop.eq_13, cop.eq_14, cop.eq_15, bi1.eq_1, bi1.eq_2, bi1.eq_3, bi1.eq_4, bi1.eq_5, bi1.eq_6, bi1.eq_7, bi1.eq_8, bi1.eq_9, bi1.eq_10, bi1.eq_11, bi1.eq_12, bi1.eq_13, bi1.eq_14, bi1.eq_19, bi2.eq_1, bi2.eq_2, bi2.eq_3, bi2.eq_4, asInt.eq_1, asBool.eq_1, items.eq_1, items.eq_2, items.eq_3, slc.eq_1, slc.eq_2, slc.eq_3, isInst.eq_1, isInst.eq_2, isInst.eq_3, isInst.eq_4, isInst.eq_5, isInst.eq_6, isInst.eq_7, isO.eq_1, isO.eq_2, isO.eq_3, isO.eq_4, isO.eq_5, isO.eq_6, isO.eq_7, inD.eq_1, inD.eq_2, inD.eq_3, isG]
  | .list _, h, p => simp [C_law_is_ground, -Prod.forall, -Prod.exists, -List.map_map, -List.getD_eq_getElem?_getD, wp_loc, wp_cst, wp_glb, wp_ed, wp_bin, wp_neg, wp_not, wp_and, wp_or, wp_cmp, wp_iteE, wp_tup, wp_lst, wp_idx, wp_b1, wp_b2, wp_isi, wp_slcF, wp_slcT, wp_callP, wp_call, wp_callK, fnAt0, fnAtS, wp_nil, wp_cons, wp_seq, wp_rng, wp_rng2, wp_SLnil, wp_SL, Rest, wp_asg, wp_asgD, wp_new, wp_free, wp_app, wp_iteS, wp_retS, wp_expr, wp_par, wp_asgT, wp_parN, wp_popT, env0, rdE, visE, allE, get2, getv, visO, allO, setAll, setAll2, bindT, bindT2, wipeE, noL, noLs, listAt, permA_nil, permA10, permA210, sz2, bop.eq_1, bop.eq_2, bop.eq_3, bop.eq_4, bop.eq_5, bop.eq_6, bop.eq_7, bop.eq_8, bop.eq_9, cop_eq_int, cop_ne_int, cop_eq_bool, cop_ne_bool, repr_two, repr_bool, cop.eq_3, cop.eq_4, cop.eq_5, cop.eq_6, cop.eq_7, cop.eq_8, cop.eq_9, cop.eq_10, cop.eq_11, cop.eq_12, cop.eq_13, cop.eq_14, cop.eq_15, bi1.eq_1, bi1.eq_2, bi1.eq_3, bi1.eq_4, bi1.eq_5, bi1.eq_6, bi1.eq_7, bi1.eq_8, bi1.eq_9, bi1.eq_10, bi1.eq_11, bi1.eq_12, bi1.eq_13, bi1.eq_14, bi1.eq_19, bi2.eq_1, bi2.eq_2, bi2.eq_3, bi2.eq_4, asInt.eq_1, asBool.eq_1, items.eq_1, items.eq_2, items.eq_3, slc.eq_1, slc.eq_2, slc.eq_3, isInst.eq_1, isInst.eq_2, isInst.eq_3, isInst.eq_4, isInst.eq_5, isInst.eq_6, isInst.eq_7, isO.eq_1, isO.eq_2, isO.eq_3, isO.eq_4, isO.eq_5, isO.eq_6, isO.eq_7, inD.eq_1, inD.eq_2, inD.eq_3, isG]
  | .dict _, h, p => simp [C_law_is_ground, -Prod.forall, -Prod.exists, -List.map_map, -List.getD_eq_getElem?_getD, wp_loc, wp_cst, wp_glb, wp_ed, wp_bin, wp_neg, wp_not, wp_and, wp_or, wp_cmp, wp_iteE, wp_tup, wp_lst, wp_idx, wp_b1, wp_b2, wp_isi, wp_slcF, wp_slcT, wp_callP, wp_call, wp_callK, fnAt0, fnAtS, wp_nil, wp_cons, wp_seq, wp_rng, wp_rng2, wp_SLnil, wp_SL, Rest, wp_asg, wp_asgD, wp_new, wp_free, wp_app, wp_iteS, wp_retS, wp_expr, wp_par, wp_asgT, wp_parN, wp_popT, env0, rdE, visE, allE, get2, getv, visO, allO, setAll, setAll2, bindT, bindT2, wipeE, noL, noLs, listAt, permA_nil, permA10, permA210, sz2, bop.eq_1, bop.eq_2, bop.eq_3, bop.eq_4, bop.eq_5, bop.eq_6, bop.eq_7, bop.eq_8, bop.eq_9, cop_eq_int, cop_ne_int, cop_eq_bool, cop_ne_bool, repr_two, repr_bool, cop.eq_3, cop.eq_4, cop.eq_5, cop.eq_6, cop.eq_7, cop.eq_8, cop.eq_9, cop.eq_10, cop.eq_11, cop.eq_12, cop.eq_13, cop.eq_14, cop.eq_15, bi1.eq_1, bi1.eq_2, bi1.eq_3, bi1.eq_4, bi1.eq_5, bi1.eq_6, bi1.eq_7, bi1.eq_8, bi1.eq_9, bi1.eq_10, bi1.eq_11, bi1.eq_12, bi1.eq_13, bi1.eq_14, bi1.eq_19, bi2.eq_1, bi2.eq_2, bi2.eq_3, bi2.eq_4, asInt.eq_1, asBool.eq_1, items.eq_1, items.eq_2, items.eq_3, slc.eq_1, slc.eq_2, slc.eq_3, isInst.eq_1, isInst.eq_2, isInst.eq_3, isInst.eq_4, isInst.eq_5, isInst.eq_6, isInst.eq_7, isO.eq_1, isO.eq_2, isO.eq_3, isO.eq_4, isO.eq_5, isO.eq_6, isO.eq_7, inD.eq_1, inD.eq_2, inD.eq_3, isG, p, tupD]
end LW

-- U_n6
set_option Elab.async false
set_option linter.all false
set_option maxRecDepth 100000
set_option maxHeartbeats 1000000
set_option exponentiation.threshold 20000
namespace LW
open PySem RX
/-! ### names that are drawn -/
def Nm (x : Str) : Prop := 1 ≤ x.length ∧ x.length ≤ 8 ∧ x.cps.toList.all (fun c => decide (97 ≤ c) && decide (c ≤ 122)) = true
instance (x : Str) : Decidable (Nm x) := by unfold Nm; infer_instance
def Lows (x : Str) : Prop := x.cps.toList.all (fun c => decide (97 ≤ c) && decide (c ≤ 122)) = true
theorem Nm.b {x : Str} (h : Nm x) : nmB x = true := by
  obtain ⟨h1, h2, h3⟩ := h
  unfold nmB
  rw [decide_eq_true h1, decide_eq_true h2, Bool.true_and, Bool.true_and, List.all_eq_true]
  intro c hc
  have := List.all_eq_true.mp h3 c hc
  simp only [Bool.and_eq_true, decide_eq_true_eq] at this
  exact inL_low this.1 this.2
theorem Lows.ok {x : Str} (h : Lows x) : PyData.strOk x = true := by
  unfold PyData.strOk
  rw [← Array.all_toList, List.all_eq_true]
  intro c hc
  have := List.all_eq_true.mp h c hc
  simp only [Bool.and_eq_true, decide_eq_true_eq] at this
  exact decide_eq_true (by omega)
theorem Nm.ok {x : Str} (h : Nm x) : PyData.strOk x = true := Lows.ok h.2.2
theorem cps_app (a b : Str) : (a ++ b).cps.toList = a.cps.toList ++ b.cps.toList := by
  show (a.cps ++ b.cps).toList = _
  simp
theorem len_app (a b : Str) : (a ++ b).length = a.length + b.length := PySem.Str.length_append a b
theorem Lows.app {a b : Str} (h : Lows a) (g : Lows b) : Lows (a ++ b) := by
  unfold Lows
  rw [cps_app, List.all_append, h, g]
  rfl
theorem lows_one {c : Nat} (h : 97 ≤ c) (h2 : c ≤ 122) : Lows ⟨#[c]⟩ := by
  unfold Lows
  simp [h, h2]
theorem draw_ok {many : Int} (hm : 0 < many) (hl : many < 2 ^ 40) {w : W} (hw : w.length = 3) {Q : D → W → Prop} (q : ∀ r w', 0 ≤ r → r < many → w'.length = 3 → Q (.int r) w') : Wp (F_law_draw [.int many]) w Q := by
  have h : many.natAbs < 2 ^ 40 := by omega
  have := log2_lt_pow h (by decide)
  exact wp_draw hm (by omega) hw q
theorem pick_ok {xs : List D} (h0 : xs ≠ []) (hl : xs.length < 2 ^ 40) {w : W} (hw : w.length = 3) {Q : D → W → Prop} (q : ∀ x w', x ∈ xs → w'.length = 3 → Q x w') : Wp (F_law_pick [.list xs]) w Q := by
  refine wp_D ?_
  simp [B_law_pick, C_law_pick, -Prod.forall, -Prod.exists, -List.map_map, -List.getD_eq_getElem?_getD, wp_loc, wp_cst, wp_glb, wp_ed, wp_bin, wp_neg, wp_not, wp_and, wp_or, wp_cmp, wp_iteE, wp_tup, wp_lst, wp_idx, wp_b1, wp_b2, wp_isi, wp_slcF, wp_slcT, wp_callP, wp_call, wp_callK, fnAt0, fnAtS, wp_nil, wp_cons, wp_seq, wp_rng, wp_rng2, wp_SLnil, wp_SL, Rest, wp_asg, wp_asgD, wp_new, wp_free, wp_app, wp_iteS, wp_retS, wp_expr, wp_par, wp_asgT, wp_parN, wp_popT, env0, rdE, visE, allE, get2, getv, visO, allO, setAll, setAll2, bindT, bindT2, wipeE, noL, noLs, listAt, permA_nil, permA10, permA210, sz2, bop.eq_1, bop.eq_2, bop.eq_3, bop.eq_4, bop.eq_5, bop.eq_6, bop.eq_7, bop.eq_8, bop.eq_9, cop_eq_int, cop_ne_int, cop_eq_bool, cop_ne_bool, repr_two, repr_bool, cop.eq_3, cop.eq_4, cop.eq_5, cop.eq_6, cop.eq_7, cop.eq_8, cop.eq_9, cop.eq_10, cop.eq_11, cop.eq_12, cop.eq_13, cop.eq_14, cop.eq_15, bi1.eq_1, bi1.eq_2, bi1.eq_3, bi1.eq_4, bi1.eq_5, bi1.eq_6, bi1.eq_7, bi1.eq_8, bi1.eq_9, bi1.eq_10, bi1.eq_11, bi1.eq_12, bi1.eq_13, bi1.eq_14, bi1.eq_19, bi2.eq_1, bi2.eq_2, bi2.eq_3, bi2.eq_4, asInt.eq_1, asBool.eq_1, items.eq_1, items.eq_2, items.eq_3, slc.eq_1, slc.eq_2, slc.eq_3, isInst.eq_1, isInst.eq_2, isInst.eq_3, isInst.eq_4, isInst.eq_5, isInst.eq_6, isInst.eq_7, isO.eq_1, isO.eq_2, isO.eq_3, isO.eq_4, isO.eq_5, isO.eq_6, isO.eq_7, inD.eq_1, inD.eq_2, inD.eq_3]
  have hp : 0 < xs.length := List.length_pos_iff.mpr h0
  refine draw_ok (by omega) (by omega) hw fun r w' h1 h2 h3 => ?_
  obtain ⟨n, rfl⟩ := Int.eq_ofNat_of_zero_le h1
  have hn : n < xs.length := by omega
  have e : idx (.list xs) (.int (n : Int)) = some (atD xs n) := idx_at0 (atD_get hn)
  rw [e]
  simp
  exact q _ _ (atD_mem hn) h3
theorem eqv_str (x y : Str) : PyData.eqv (.str x) (.str y) = (x == y) := by unfold PyData.eqv; rfl
theorem cop_eq_str {x y : Str} (h : PyData.strOk x = true) (g : PyData.strOk y = true) : cop .eq (.str x) (.str y) = some (x == y) := by
  show (if _ then _ else _) = _
  rw [if_pos, eqv_str]
  rw [Bool.and_eq_true]
  exact ⟨(sd_str.mpr h : Sd 0 _).sh (by decide), (sd_str.mpr g : Sd 0 _).sh (by decide)⟩
def memS (ns : List Str) (x : Str) : Bool := ns.any fun z => z == x
theorem memS_iff {ns : List Str} {x : Str} : memS ns x = true ↔ x ∈ ns := by
  unfold memS
  rw [List.any_eq_true]
  exact ⟨fun ⟨z, h, e⟩ => by rw [← eq_of_beq e]; exact h, fun h => ⟨x, h, beq_self_eq_true x⟩⟩
theorem any_strs (ns : List Str) (x : Str) : (ns.map PyData.str).any (fun z => PyData.eqv z (.str x)) = memS ns x := by
  unfold memS
  rw [List.any_map]
  congr 1
theorem sd_strs {ns : List Str} (h : ∀ x ∈ ns, PyData.strOk x = true) {n : Nat} : ∀ d ∈ ns.map PyData.str, Sd n d := fun d hd => by
  obtain ⟨x, hx, rfl⟩ := List.mem_map.mp hd
  exact sd_str.mpr (h x hx)
theorem inD_strs {ns : List Str} (h : ∀ x ∈ ns, PyData.strOk x = true) {x : Str} (g : PyData.strOk x = true) : inD (.str x) (.list (ns.map PyData.str)) = some (memS ns x) := by
  show (if _ then _ else _) = _
  rw [if_pos, any_strs]
  rw [Bool.and_eq_true]
  exact ⟨(sd_str.mpr g : Sd 0 _).sh (by decide), (sd_list.mpr (sd_strs h) : Sd 1 _).sh (by decide)⟩
theorem inD_strsT {ns : List Str} (h : ∀ x ∈ ns, PyData.strOk x = true) {x : Str} (g : PyData.strOk x = true) : inD (.str x) (.tuple (ns.map PyData.str)) = some (memS ns x) := by
  show (if _ then _ else _) = _
  rw [if_pos, any_strs]
  rw [Bool.and_eq_true]
  exact ⟨(sd_str.mpr g : Sd 0 _).sh (by decide), (sd_tup.mpr (sd_strs h) : Sd 1 _).sh (by decide)⟩
/-- of more unlike things than a list has, one is not in it -/
theorem free_one {α : Type} [DecidableEq α] : ∀ (l ns : List α), l.Nodup → ns.length < l.length → ∃ x ∈ l, x ∉ ns
  | [], ns, _, h => absurd h (Nat.not_lt_zero _)
  | a :: r, ns, hn, h => by
    obtain ⟨h1, h2⟩ := List.nodup_cons.mp hn
    by_cases ha : a ∈ ns
    · obtain ⟨x, hx, hx2⟩ := free_one r (ns.erase a) h2 (by rw [List.length_erase_of_mem ha]; simp at h; have := List.length_pos_of_mem ha; omega)
      refine ⟨x, List.mem_cons_of_mem _ hx, fun z => hx2 ?_⟩
      exact (List.mem_erase_of_ne (fun e : x = a => h1 (by rw [← e]; exact hx))).mpr z
    · exact ⟨a, List.mem_cons_self .., ha⟩
def words : List Str := ["outcomes", "to", "put", "drop", "mix", "undo", "done", "lot", "gap", "apart", "below", "yes", "no", "names", "none", "mean"]
theorem words_nm : ∀ x ∈ words, Nm x := by decide +kernel
def sgn (c : Nat) : Str := ⟨#[c]⟩
theorem abc_signs : abc.cps.toList = (List.range 26).map (97 + ·) := by decide +kernel
theorem abc_low : ∀ c ∈ abc.cps.toList, 97 ≤ c ∧ c ≤ 122 := by decide +kernel
def xd (c : Nat) : Str := sgn c ++ "x"
theorem xd_nm : ∀ c ∈ abc.cps.toList, Nm (xd c) := by decide +kernel
theorem xd_nodup : (abc.cps.toList.map xd).Nodup := by decide +kernel
theorem str0 : PyData.strOk ("" : Str) = true := by decide +kernel
theorem name_tail {x : Str} {ns : List Str} {lap each some' : Option (Bool × D)} (hx : Nm x) (hs : ∀ y ∈ ns, PyData.strOk y = true) (hl : ns.length < 26) {w : W} {Q : Out → W → Prop} (hp : ∀ y, Nm y → y ∉ ns → Q (.ret (.str y)) w) :
    Wp (evSL C_law_name (.cons (.ret (.ite (.cmp .notin (.loc 3) (.loc 1)) (.loc 3) (.idx (.comp [5] (.seq (.cst (.str "abcdefghijklmnopqrstuvwxyz"))) true (.cmp .notin (.bin .add (.loc 5) (.cst (.str "x"))) (.loc 1)) (.bin .add (.loc 5) (.cst (.str "x")))) (.cst (.int 0))))) .nil) [none, some (false, .list (ns.map .str)), some', some (false, .str x), lap, each]) w Q := by
  have i1 := inD_strs hs hx.ok
  simp [-Prod.forall, -Prod.exists, -List.map_map, -List.getD_eq_getElem?_getD, wp_loc, wp_cst, wp_glb, wp_ed, wp_bin, wp_neg, wp_not, wp_and, wp_or, wp_cmp, wp_iteE, wp_tup, wp_lst, wp_idx, wp_b1, wp_b2, wp_isi, wp_slcF, wp_slcT, wp_callP, wp_call, wp_callK, fnAt0, fnAtS, wp_nil, wp_cons, wp_seq, wp_rng, wp_rng2, wp_SLnil, wp_SL, Rest, wp_asg, wp_asgD, wp_new, wp_free, wp_app, wp_iteS, wp_retS, wp_expr, wp_par, wp_asgT, wp_parN, wp_popT, env0, rdE, visE, allE, get2, getv, visO, allO, setAll, setAll2, bindT, bindT2, wipeE, noL, noLs, listAt, permA_nil, permA10, permA210, sz2, bop.eq_1, bop.eq_2, bop.eq_3, bop.eq_4, bop.eq_5, bop.eq_6, bop.eq_7, bop.eq_8, bop.eq_9, cop_eq_int, cop_ne_int, cop_eq_bool, cop_ne_bool, repr_two, repr_bool, cop.eq_3, cop.eq_4, cop.eq_5, cop.eq_6, cop.eq_7, cop.eq_8, cop.eq_9, cop.eq_10, cop.eq_11, cop.eq_12, cop.eq_13, cop.eq_14, cop.eq_15, bi1.eq_1, bi1.eq_2, bi1.eq_3, bi1.eq_4, bi1.eq_5, bi1.eq_6, bi1.eq_7, bi1.eq_8, bi1.eq_9, bi1.eq_10, bi1.eq_11, bi1.eq_12, bi1.eq_13, bi1.eq_14, bi1.eq_19, bi2.eq_1, bi2.eq_2, bi2.eq_3, bi2.eq_4, asInt.eq_1, asBool.eq_1, items.eq_1, items.eq_2, items.eq_3, slc.eq_1, slc.eq_2, slc.eq_3, isInst.eq_1, isInst.eq_2, isInst.eq_3, isInst.eq_4, isInst.eq_5, isInst.eq_6, isInst.eq_7, isO.eq_1, isO.eq_2, isO.eq_3, isO.eq_4, isO.eq_5, isO.eq_6, isO.eq_7, inD.eq_1, inD.eq_2, inD.eq_3, -wp_iteE, -inD.eq_1]
  rw [wp_iteE]
  simp [-Prod.forall, -Prod.exists, -List.map_map, -List.getD_eq_getElem?_getD, wp_loc, wp_cst, wp_glb, wp_ed, wp_bin, wp_neg, wp_not, wp_and, wp_or, wp_cmp, wp_iteE, wp_tup, wp_lst, wp_idx, wp_b1, wp_b2, wp_isi, wp_slcF, wp_slcT, wp_callP, wp_call, wp_callK, fnAt0, fnAtS, wp_nil, wp_cons, wp_seq, wp_rng, wp_rng2, wp_SLnil, wp_SL, Rest, wp_asg, wp_asgD, wp_new, wp_free, wp_app, wp_iteS, wp_retS, wp_expr, wp_par, wp_asgT, wp_parN, wp_popT, env0, rdE, visE, allE, get2, getv, visO, allO, setAll, setAll2, bindT, bindT2, wipeE, noL, noLs, listAt, permA_nil, permA10, permA210, sz2, bop.eq_1, bop.eq_2, bop.eq_3, bop.eq_4, bop.eq_5, bop.eq_6, bop.eq_7, bop.eq_8, bop.eq_9, cop_eq_int, cop_ne_int, cop_eq_bool, cop_ne_bool, repr_two, repr_bool, cop.eq_3, cop.eq_4, cop.eq_5, cop.eq_6, cop.eq_7, cop.eq_8, cop.eq_9, cop.eq_10, cop.eq_11, cop.eq_12, cop.eq_13, cop.eq_14, cop.eq_15, bi1.eq_1, bi1.eq_2, bi1.eq_3, bi1.eq_4, bi1.eq_5, bi1.eq_6, bi1.eq_7, bi1.eq_8, bi1.eq_9, bi1.eq_10, bi1.eq_11, bi1.eq_12, bi1.eq_13, bi1.eq_14, bi1.eq_19, bi2.eq_1, bi2.eq_2, bi2.eq_3, bi2.eq_4, asInt.eq_1, asBool.eq_1, items.eq_1, items.eq_2, items.eq_3, slc.eq_1, slc.eq_2, slc.eq_3, isInst.eq_1, isInst.eq_2, isInst.eq_3, isInst.eq_4, isInst.eq_5, isInst.eq_6, isInst.eq_7, isO.eq_1, isO.eq_2, isO.eq_3, isO.eq_4, isO.eq_5, isO.eq_6, isO.eq_7, inD.eq_1, inD.eq_2, inD.eq_3, -inD.eq_1, i1]
  cases hm : memS ns x
  · refine .inr ⟨rfl, hp x hx fun z => ?_⟩
    rw [memS_iff.mpr z] at hm
    cases hm
  · refine .inl ⟨rfl, ?_⟩
    refine wp_compIf (fun c : Nat => (.str ⟨#[c]⟩ : D)) (fun c => !memS ns (xd c)) (fun c => .str (xd c)) abc.cps.toList ?_ ?_ ?_
    · simp [-Prod.forall, -Prod.exists, -List.map_map, -List.getD_eq_getElem?_getD, wp_loc, wp_cst, wp_glb, wp_ed, wp_bin, wp_neg, wp_not, wp_and, wp_or, wp_cmp, wp_iteE, wp_tup, wp_lst, wp_idx, wp_b1, wp_b2, wp_isi, wp_slcF, wp_slcT, wp_callP, wp_call, wp_callK, fnAt0, fnAtS, wp_nil, wp_cons, wp_seq, wp_rng, wp_rng2, wp_SLnil, wp_SL, Rest, wp_asg, wp_asgD, wp_new, wp_free, wp_app, wp_iteS, wp_retS, wp_expr, wp_par, wp_asgT, wp_parN, wp_popT, env0, rdE, visE, allE, get2, getv, visO, allO, setAll, setAll2, bindT, bindT2, wipeE, noL, noLs, listAt, permA_nil, permA10, permA210, sz2, bop.eq_1, bop.eq_2, bop.eq_3, bop.eq_4, bop.eq_5, bop.eq_6, bop.eq_7, bop.eq_8, bop.eq_9, cop_eq_int, cop_ne_int, cop_eq_bool, cop_ne_bool, repr_two, repr_bool, cop.eq_3, cop.eq_4, cop.eq_5, cop.eq_6, cop.eq_7, cop.eq_8, cop.eq_9, cop.eq_10, cop.eq_11, cop.eq_12, cop.eq_13, cop.eq_14, cop.eq_15, bi1.eq_1, bi1.eq_2, bi1.eq_3, bi1.eq_4, bi1.eq_5, bi1.eq_6, bi1.eq_7, bi1.eq_8, bi1.eq_9, bi1.eq_10, bi1.eq_11, bi1.eq_12, bi1.eq_13, bi1.eq_14, bi1.eq_19, bi2.eq_1, bi2.eq_2, bi2.eq_3, bi2.eq_4, asInt.eq_1, asBool.eq_1, items.eq_1, items.eq_2, items.eq_3, slc.eq_1, slc.eq_2, slc.eq_3, isInst.eq_1, isInst.eq_2, isInst.eq_3, isInst.eq_4, isInst.eq_5, isInst.eq_6, isInst.eq_7, isO.eq_1, isO.eq_2, isO.eq_3, isO.eq_4, isO.eq_5, isO.eq_6, isO.eq_7, inD.eq_1, inD.eq_2, inD.eq_3]
      rfl
    · intro c hc
      have i2 := inD_strs hs (xd_nm c hc).ok
      have h2 : (⟨#[c]⟩ : Str).length + ("x" : Str).length ≤ sizeLine := by
        have : ("x" : Str).length = 1 := by decide +kernel
        rw [this]
        show 1 + 1 ≤ sizeLine
        decide
      have e : bop .add (.str ⟨#[c]⟩) (.str "x") = some (.str (xd c)) := by
        show (if (⟨#[c]⟩ : Str).length + ("x" : Str).length ≤ sizeLine then some (PyData.str (⟨#[c]⟩ ++ ("x" : Str))) else none) = _
        rw [if_pos h2]
        rfl
      refine ⟨_, rfl, fun w => ?_, fun _ w => ?_⟩
      · simp [-Prod.forall, -Prod.exists, -List.map_map, -List.getD_eq_getElem?_getD, wp_loc, wp_cst, wp_glb, wp_ed, wp_bin, wp_neg, wp_not, wp_and, wp_or, wp_cmp, wp_iteE, wp_tup, wp_lst, wp_idx, wp_b1, wp_b2, wp_isi, wp_slcF, wp_slcT, wp_callP, wp_call, wp_callK, fnAt0, fnAtS, wp_nil, wp_cons, wp_seq, wp_rng, wp_rng2, wp_SLnil, wp_SL, Rest, wp_asg, wp_asgD, wp_new, wp_free, wp_app, wp_iteS, wp_retS, wp_expr, wp_par, wp_asgT, wp_parN, wp_popT, env0, rdE, visE, allE, get2, getv, visO, allO, setAll, setAll2, bindT, bindT2, wipeE, noL, noLs, listAt, permA_nil, permA10, permA210, sz2, bop.eq_1, bop.eq_2, bop.eq_3, bop.eq_4, bop.eq_5, bop.eq_6, bop.eq_7, bop.eq_8, bop.eq_9, cop_eq_int, cop_ne_int, cop_eq_bool, cop_ne_bool, repr_two, repr_bool, cop.eq_3, cop.eq_4, cop.eq_5, cop.eq_6, cop.eq_7, cop.eq_8, cop.eq_9, cop.eq_10, cop.eq_11, cop.eq_12, cop.eq_13, cop.eq_14, cop.eq_15, bi1.eq_1, bi1.eq_2, bi1.eq_3, bi1.eq_4, bi1.eq_5, bi1.eq_6, bi1.eq_7, bi1.eq_8, bi1.eq_9, bi1.eq_10, bi1.eq_11, bi1.eq_12, bi1.eq_13, bi1.eq_14, bi1.eq_19, bi2.eq_1, bi2.eq_2, bi2.eq_3, bi2.eq_4, asInt.eq_1, asBool.eq_1, items.eq_1, items.eq_2, items.eq_3, slc.eq_1, slc.eq_2, slc.eq_3, isInst.eq_1, isInst.eq_2, isInst.eq_3, isInst.eq_4, isInst.eq_5, isInst.eq_6, isInst.eq_7, isO.eq_1, isO.eq_2, isO.eq_3, isO.eq_4, isO.eq_5, isO.eq_6, isO.eq_7, inD.eq_1, inD.eq_2, inD.eq_3, -inD.eq_1, -bop.eq_2, e, i2]
      · simp [-Prod.forall, -Prod.exists, -List.map_map, -List.getD_eq_getElem?_getD, wp_loc, wp_cst, wp_glb, wp_ed, wp_bin, wp_neg, wp_not, wp_and, wp_or, wp_cmp, wp_iteE, wp_tup, wp_lst, wp_idx, wp_b1, wp_b2, wp_isi, wp_slcF, wp_slcT, wp_callP, wp_call, wp_callK, fnAt0, fnAtS, wp_nil, wp_cons, wp_seq, wp_rng, wp_rng2, wp_SLnil, wp_SL, Rest, wp_asg, wp_asgD, wp_new, wp_free, wp_app, wp_iteS, wp_retS, wp_expr, wp_par, wp_asgT, wp_parN, wp_popT, env0, rdE, visE, allE, get2, getv, visO, allO, setAll, setAll2, bindT, bindT2, wipeE, noL, noLs, listAt, permA_nil, permA10, permA210, sz2, bop.eq_1, bop.eq_2, bop.eq_3, bop.eq_4, bop.eq_5, bop.eq_6, bop.eq_7, bop.eq_8, bop.eq_9, cop_eq_int, cop_ne_int, cop_eq_bool, cop_ne_bool, repr_two, repr_bool, cop.eq_3, cop.eq_4, cop.eq_5, cop.eq_6, cop.eq_7, cop.eq_8, cop.eq_9, cop.eq_10, cop.eq_11, cop.eq_12, cop.eq_13, cop.eq_14, cop.eq_15, bi1.eq_1, bi1.eq_2, bi1.eq_3, bi1.eq_4, bi1.eq_5, bi1.eq_6, bi1.eq_7, bi1.eq_8, bi1.eq_9, bi1.eq_10, bi1.eq_11, bi1.eq_12, bi1.eq_13, bi1.eq_14, bi1.eq_19, bi2.eq_1, bi2.eq_2, bi2.eq_3, bi2.eq_4, asInt.eq_1, asBool.eq_1, items.eq_1, items.eq_2, items.eq_3, slc.eq_1, slc.eq_2, slc.eq_3, isInst.eq_1, isInst.eq_2, isInst.eq_3, isInst.eq_4, isInst.eq_5, isInst.eq_6, isInst.eq_7, isO.eq_1, isO.eq_2, isO.eq_3, isO.eq_4, isO.eq_5, isO.eq_6, isO.eq_7, inD.eq_1, inD.eq_2, inD.eq_3, -bop.eq_2, e]
    · obtain ⟨y, hy, hy2⟩ := free_one (abc.cps.toList.map xd) ns xd_nodup (by rw [List.length_map]; exact hl)
      obtain ⟨c, hc, rfl⟩ := List.mem_map.mp hy
      have hf : c ∈ abc.cps.toList.filter fun c => !memS ns (xd c) := by
        rw [List.mem_filter]
        refine ⟨hc, ?_⟩
        cases hmm : memS ns (xd c)
        · rfl
        · exact absurd (memS_iff.mp hmm) hy2
      generalize hg : (abc.cps.toList.filter fun c => !memS ns (xd c)) = fl at hf
      cases fl with
      | nil => cases hf
      | cons a r =>
        have ha : a ∈ abc.cps.toList.filter fun c => !memS ns (xd c) := by rw [hg]; exact List.mem_cons_self ..
        obtain ⟨ha, hb⟩ := List.mem_filter.mp ha
        have ix : idx (.list (.str (xd a) :: r.map fun c => PyData.str (xd c))) (.int 0) = some (.str (xd a)) := idx_at0 (i := 0) rfl
        refine ⟨_, ix, hp _ (xd_nm a ha) fun z => ?_⟩
        rw [memS_iff.mpr z] at hb
        cases hb
end LW

-- U_n7
set_option Elab.async false
set_option linter.all false
set_option maxRecDepth 100000
set_option maxHeartbeats 1000000
set_option exponentiation.threshold 20000
namespace LW
open PySem RX
/-! ### a name; outcomes -/
theorem lows_nil : Lows ("" : Str) := by unfold Lows; decide +kernel
theorem abc_len : abc.cps.toList.length = 26 := by decide +kernel
theorem sign_at {r : Int} (h1 : 0 ≤ r) (h2 : r < 26) : ∃ c, 97 ≤ c ∧ c ≤ 122 ∧ idx (.str "abcdefghijklmnopqrstuvwxyz") (.int r) = some (.str (sgn c)) := by
  obtain ⟨n, rfl⟩ := Int.eq_ofNat_of_zero_le h1
  have hn : n < abc.cps.toList.length := by rw [abc_len]; omega
  have hm := List.getElem_mem hn
  obtain ⟨c1, c2⟩ := abc_low _ hm
  refine ⟨_, c1, c2, ?_⟩
  show (L2.atI abc.cps.toList (n : Int)).map (fun c => PyData.str ⟨#[c]⟩) = _
  have : L2.atI abc.cps.toList (n : Int) = some (abc.cps.toList[n]) := by
    unfold L2.atI L2.ixN
    simp only [Int.toNat_natCast]
    rw [if_pos (by omega), if_pos (by omega)]
    simp [List.getElem?_eq_getElem hn]
  rw [this]
  rfl
def nameLoop : SL := .cons (.asg false 3 (.bin .add (.loc 3) (.idx (.cst (.str "abcdefghijklmnopqrstuvwxyz")) (.call true 0 (.cons (.cst (.int 26)) .nil) [])))) .nil
def NLI (ns : List Str) (s5 : Option (Bool × D)) (x : Str) (i : Nat) (ρ : Env2) (w : W) : Prop := w.length = 3 ∧ ∃ y lap, Lows y ∧ y.length = x.length + i ∧ ρ = [none, some (false, .list (ns.map .str)), some (false, .list (words.map .str)), some (false, .str y), lap, s5]
def NLG (ns : List Str) (s5 : Option (Bool × D)) (x : Str) (Q : Out → W → Prop) (xs : List D) (w : W) : Prop := NLI ns s5 x 0 [none, some (false, .list (ns.map .str)), some (false, .list (words.map .str)), some (false, .str x), none, s5] w ∧   (∀ i z ρ w, xs[i]? = some z → NLI ns s5 x i ρ w → ∃ ρ', bindT2 [4] z ρ = some ρ' ∧ Wp (evSL C_law_name nameLoop ρ') w fun o w' => match o with     
    | .next ρ'' => NLI ns s5 x (i + 1) ρ'' w'     
    | .cont ρ'' => NLI ns s5 x (i + 1) ρ'' w'     
    | .ret d => Q (.ret d) w'     
    | .brk _ => False) ∧ ∀ ρ w, NLI ns s5 x xs.length ρ w → Q (.next ρ) w
theorem name_loop {x : Str} {ns : List Str} {s5 : Option (Bool × D)} (hx : (x = "" ∨ Nm x)) {w : W} (hw : w.length = 3) {Q : Out → W → Prop}
    (q : ∀ y w' lap, Nm y → w'.length = 3 → Q (.next [none, some (false, .list (ns.map .str)), some (false, .list (words.map .str)), some (false, .str y), lap, s5]) w') :
    Wp (evS C_law_name (.for [4] (.rng (.ite (.cmp .eq (.loc 3) (.cst (.str ""))) (.call true 1 (.cons (.lst (.cons (.cst (.int 1)) (.cons (.cst (.int 1)) (.cons (.cst (.int 2)) (.cons (.cst (.int 3)) (.cons (.cst (.int 8)) .nil)))))) .nil) []) (.cst (.int 0)))) nameLoop) [none, some (false, .list (ns.map .str)), some (false, .list (words.map .str)), some (false, .str x), none, s5]) w Q := by
  have lx : Lows x := hx.elim (fun e => by rw [e]; exact lows_nil) fun h => h.2.2
  have fin : ∀ (n : Nat) (w1 : W), w1.length = 3 → n ≤ 8 → (∀ y, Lows y → y.length = x.length + n → Nm y) → ∀ xs : List D, xs = (List.range n).map (fun k : Nat => PyData.int (k : Int)) →
      NLG ns s5 x Q xs w1 := by
    rintro n w1 hw1 hn hy xs rfl
    refine ⟨⟨hw1, x, none, lx, rfl, rfl⟩, ?_, ?_⟩
    · rintro i z ρ w hz ⟨hw, y, lap, ly, hly, rfl⟩
      refine ⟨_, rfl, ?_⟩
      have hi : i < n := by
        have := (List.getElem?_eq_some_iff.mp hz).1
        simpa using this
      have hx8 : x.length ≤ 8 := hx.elim (fun e => by rw [e]; decide +kernel) fun h => h.2.1
      simp [nameLoop, C_law_name, -Prod.forall, -Prod.exists, -List.map_map, -List.getD_eq_getElem?_getD, wp_loc, wp_cst, wp_glb, wp_ed, wp_bin, wp_neg, wp_not, wp_and, wp_or, wp_cmp, wp_iteE, wp_tup, wp_lst, wp_idx, wp_b1, wp_b2, wp_isi, wp_slcF, wp_slcT, wp_callP, wp_call, wp_callK, fnAt0, fnAtS, wp_nil, wp_cons, wp_seq, wp_rng, wp_rng2, wp_SLnil, wp_SL, Rest, wp_asg, wp_asgD, wp_new, wp_free, wp_app, wp_iteS, wp_retS, wp_expr, wp_par, wp_asgT, wp_parN, wp_popT, env0, rdE, visE, allE, get2, getv, visO, allO, setAll, setAll2, bindT, bindT2, wipeE, noL, noLs, listAt, permA_nil, permA10, permA210, sz2, bop.eq_1, bop.eq_2, bop.eq_3, bop.eq_4, bop.eq_5, bop.eq_6, bop.eq_7, bop.eq_8, bop.eq_9, cop_eq_int, cop_ne_int, cop_eq_bool, cop_ne_bool, repr_two, repr_bool, cop.eq_3, cop.eq_4, cop.eq_5, cop.eq_6, cop.eq_7, cop.eq_8, cop.eq_9, cop.eq_10, cop.eq_11, cop.eq_12, cop.eq_13, cop.eq_14, cop.eq_15, bi1.eq_1, bi1.eq_2, bi1.eq_3, bi1.eq_4, bi1.eq_5, bi1.eq_6, bi1.eq_7, bi1.eq_8, bi1.eq_9, bi1.eq_10, bi1.eq_11, bi1.eq_12, bi1.eq_13, bi1.eq_14, bi1.eq_19, bi2.eq_1, bi2.eq_2, bi2.eq_3, bi2.eq_4, asInt.eq_1, asBool.eq_1, items.eq_1, items.eq_2, items.eq_3, slc.eq_1, slc.eq_2, slc.eq_3, isInst.eq_1, isInst.eq_2, isInst.eq_3, isInst.eq_4, isInst.eq_5, isInst.eq_6, isInst.eq_7, isO.eq_1, isO.eq_2, isO.eq_3, isO.eq_4, isO.eq_5, isO.eq_6, isO.eq_7, inD.eq_1, inD.eq_2, inD.eq_3]
      refine draw_ok (by decide) (by decide) hw fun r w' h1 h2 h3 => ?_
      obtain ⟨c, c1, c2, e⟩ := sign_at h1 h2
      have e2 : bop .add (.str y) (.str (sgn c)) = some (.str (y ++ sgn c)) := by
        show (if y.length + (sgn c).length ≤ sizeLine then some (PyData.str (y ++ sgn c)) else none) = _
        rw [if_pos]
        have : (sgn c).length = 1 := rfl
        rw [this, sizeLine_eq]
        omega
      rw [e]
      simp [e2]
      refine ⟨h3, _, _, Lows.app ly (lows_one c1 c2), ?_, rfl⟩
      rw [len_app, hly]
      rfl
    · rintro ρ w ⟨hw, y, lap, ly, hly, rfl⟩
      rw [List.length_map, List.length_range] at hly
      exact q y w lap (hy y ly hly) hw
  refine wp_for (NLI ns s5 x) ?_
  rw [wp_rng, wp_iteE]
  have ce := cop_eq_str (x := x) (y := "") lx.ok str0
  simp only [wp_cmp, wp_loc, wp_cst]
  refine ⟨_, rfl, _, ce, _, rfl, ?_⟩
  by_cases hx0 : x = ""
  · subst hx0
    rw [if_pos (by decide +kernel)]
    rw [wp_callP]
    simp only [wp_cons, wp_nil, wp_lst, wp_cst]
    refine ⟨by decide, ?_⟩
    refine pick_ok (by simp) (by decide) hw fun z w' hz hw' => ?_
    have l0 : ("" : Str).length = 0 := by decide +kernel
    have go : ∀ n : Nat, 1 ≤ n → n ≤ 8 → z = .int (n : Int) → ∃ i, asInt z = some i ∧ ∃ xs, rangeD 0 i = some xs ∧ NLG ns s5 "" Q xs w' := fun n h1 h8 e => ⟨(n : Int), by rw [e]; rfl, _, range0 (i := (n : Int)) (n := n) (by omega) (by omega) (by omega), fin n w' hw' h8 (fun y ly hly => ⟨by omega, by omega, ly⟩) _ rfl⟩
    simp only [List.mem_cons, List.not_mem_nil, or_false] at hz
    rcases hz with rfl | rfl | rfl | rfl | rfl
    · exact go 1 (by decide) (by decide) rfl
    · exact go 1 (by decide) (by decide) rfl
    · exact go 2 (by decide) (by decide) rfl
    · exact go 3 (by decide) (by decide) rfl
    · exact go 8 (by decide) (by decide) rfl
  · have hn := hx.resolve_left hx0
    have hb : (x == ("" : Str)) = false := by simpa using hx0
    rw [hb, if_neg Bool.false_ne_true]
    exact ⟨0, rfl, _, range0 (i := 0) (n := 0) rfl (by omega) (by omega), fin 0 w hw (by omega) (fun y ly hly => ⟨by rw [hly]; exact hn.1, by rw [hly]; exact hn.2.1, ly⟩) _ rfl⟩
theorem name_ok {ns : List Str} (hs : ∀ y ∈ ns, PyData.strOk y = true) (hl : ns.length < 26) {w : W} (hw : w.length = 3) {Q : D → W → Prop} (q : ∀ y w', Nm y → y ∉ ns → w'.length = 3 → Q (.str y) w') : Wp (F_law_name [.list (ns.map .str)]) w Q := by
  refine wp_D ?_
  rw [show B_law_name = .cons (.asg false 2 (.lst (.cons (.cst (.str "outcomes")) (.cons (.cst (.str "to")) (.cons (.cst (.str "put")) (.cons (.cst (.str "drop")) (.cons (.cst (.str "mix")) (.cons (.cst (.str "undo")) (.cons (.cst (.str "done")) (.cons (.cst (.str "lot")) (.cons (.cst (.str "gap")) (.cons (.cst (.str "apart")) (.cons (.cst (.str "below")) (.cons (.cst (.str "yes")) (.cons (.cst (.str "no")) (.cons (.cst (.str "names")) (.cons (.cst (.str "none")) (.cons (.cst (.str "mean")) .nil)))))))))))))))))) (.cons (.asg false 3 (.ite (.cmp .eq (.call true 0 (.cons (.cst (.int 5)) .nil) []) (.cst (.int 0))) (.call true 1 (.cons (.loc 2) .nil) []) (.cst (.str "")))) (.cons (.for [4] (.rng (.ite (.cmp .eq (.loc 3) (.cst (.str ""))) (.call true 1 (.cons (.lst (.cons (.cst (.int 1)) (.cons (.cst (.int 1)) (.cons (.cst (.int 2)) (.cons (.cst (.int 3)) (.cons (.cst (.int 8)) .nil)))))) .nil) []) (.cst (.int 0)))) nameLoop) (.cons (.ret (.ite (.cmp .notin (.loc 3) (.loc 1)) (.loc 3) (.idx (.comp [5] (.seq (.cst (.str "abcdefghijklmnopqrstuvwxyz"))) true (.cmp .notin (.bin .add (.loc 5) (.cst (.str "x"))) (.loc 1)) (.bin .add (.loc 5) (.cst (.str "x")))) (.cst (.int 0))))) .nil))) from rfl]
  rw [wp_SL, wp_asg, wp_lst]
  simp only [wp_cons, wp_nil, wp_cst]
  refine ⟨by decide, ?_⟩
  show Wp _ _ _
  rw [wp_SL, wp_asg, wp_iteE]
  simp only [wp_cmp, wp_callP, wp_cons, wp_nil, wp_cst, wp_loc]
  refine draw_ok (by decide) (by decide) hw fun r w' h1 h2 h3 => ?_
  refine ⟨_, cop_eq_int, _, rfl, ?_⟩
  have rest : ∀ (x : Str) (w2 : W), (x = "" ∨ Nm x) → w2.length = 3 → Wp (evSL C_law_name (.cons (.for [4] (.rng (.ite (.cmp .eq (.loc 3) (.cst (.str ""))) (.call true 1 (.cons (.lst (.cons (.cst (.int 1)) (.cons (.cst (.int 1)) (.cons (.cst (.int 2)) (.cons (.cst (.int 3)) (.cons (.cst (.int 8)) .nil)))))) .nil) []) (.cst (.int 0)))) nameLoop) (.cons (.ret (.ite (.cmp .notin (.loc 3) (.loc 1)) (.loc 3) (.idx (.comp [5] (.seq (.cst (.str "abcdefghijklmnopqrstuvwxyz"))) true (.cmp .notin (.bin .add (.loc 5) (.cst (.str "x"))) (.loc 1)) (.bin .add (.loc 5) (.cst (.str "x")))) (.cst (.int 0))))) .nil)) [none, some (false, .list (ns.map .str)), some (false, .list (words.map .str)), some (false, .str x), none, none]) w2 fun o w' => match o with
    | .next _ => Q .none w'
    | .ret d => Q d w'
    | _ => False := fun x w2 hx hw2 => by
    rw [wp_SL]
    refine name_loop hx hw2 fun y w3 lap hy hw3 => ?_
    exact name_tail hy hs hl fun z hz hz2 => q z w3 hz hz2 hw3
  cases decide (r = 0)
  · rw [if_neg Bool.false_ne_true]
    exact rest "" w' (.inl rfl) h3
  · rw [if_pos rfl]
    refine ⟨_, rfl, pick_ok (by simp) (by decide) h3 fun z w2 hz hw2 => ?_⟩
    have hz' : z ∈ words.map PyData.str := hz
    obtain ⟨x, hx, rfl⟩ := List.mem_map.mp hz'
    exact rest x w2 (.inr (words_nm x hx)) hw2
end LW

-- U_n8
set_option Elab.async false
set_option linter.all false
set_option maxRecDepth 100000
set_option maxHeartbeats 1000000
set_option exponentiation.threshold 20000
namespace LW
open PySem RX
/-! ### outcomes; a ground -/
def ltS (a b : Str) : Prop := a.cps.toList < b.cps.toList
instance (a b : Str) : Decidable (ltS a b) := by unfold ltS; infer_instance
theorem dl_str (a b : Str) : PySem.W.dataLt (.str a) (.str b) = decide (ltS a b) := PySem.W.dataLt_str a b
theorem ltS_irr (a : Str) : ¬ ltS a a := List.lt_irrefl _
theorem ltS_trans {a b c : Str} (h : ltS a b) (g : ltS b c) : ltS a c := List.lt_trans h g
theorem cps_inj {a b : Str} (h : a.cps.toList = b.cps.toList) : a = b := PySem.W.str_of_cps h
theorem leS (a b : Str) : PySem.W.dataLe false id (.str a) (.str b) = decide (a.cps.toList ≤ b.cps.toList) := by
  have := congrFun (congrFun (PySem.W.dataLe_str (β := Str) id) a) b
  exact this
def srt (ns : List Str) : List Str := ns.mergeSort fun a b => decide (a.cps.toList ≤ b.cps.toList)
theorem sortD_str (ns : List Str) : sortD (ns.map PyData.str) = (srt ns).map PyData.str := by
  unfold sortD srt
  rw [List.map_mergeSort]
  intro a _ b _
  exact (leS a b).symm
theorem srt_perm (ns : List Str) : (srt ns).Perm ns := List.mergeSort_perm _ _
theorem srt_inc {ns : List Str} (h : ns.Nodup) : (srt ns).Pairwise ltS := by
  have p : (srt ns).Pairwise (fun a b => decide (a.cps.toList ≤ b.cps.toList) = true) := List.pairwise_mergeSort (fun a b c h1 h2 => by
    simp only [decide_eq_true_eq] at *
    exact List.le_trans h1 h2) (fun a b => by
    simp only [Bool.or_eq_true, decide_eq_true_eq]
    exact List.le_total _ _) ns
  have n : (srt ns).Nodup := (srt_perm ns).nodup_iff.mpr h
  refine (List.Pairwise.and p n).imp fun {a b} ⟨h1, h2⟩ => ?_
  have h1 := of_decide_eq_true h1
  unfold ltS
  by_cases c : a.cps.toList < b.cps.toList
  · exact c
  · exact absurd (cps_inj (List.le_antisymm h1 (List.not_lt.mp c))) h2
theorem alike_strs (a b : Str) : PySem.W.alike (.str a) (.str b) = true := by simp [PySem.W.alike]
theorem sortB_str {ns : List Str} (h : ∀ x ∈ ns, PyData.strOk x = true) : sortB (ns.map PyData.str) = true := by
  unfold sortB
  rw [Bool.and_eq_true, Bool.or_eq_true]
  refine ⟨?_, .inr ?_⟩
  · rw [List.all_eq_true]
    intro d hd
    rw [Bool.and_eq_true, List.all_eq_true]
    refine ⟨(sd_strs h d hd : Sd 0 d).sh (by decide), fun e he => ?_⟩
    obtain ⟨x, _, rfl⟩ := List.mem_map.mp hd
    obtain ⟨y, _, rfl⟩ := List.mem_map.mp he
    exact alike_strs x y
  · rw [List.all_eq_true]
    intro d hd
    obtain ⟨x, _, rfl⟩ := List.mem_map.mp hd
    rfl
structure Os (os : List Str) : Prop where
  ne : 1 ≤ os.length
  le : os.length ≤ 10
  nm : ∀ x ∈ os, Nm x
  inc : os.Pairwise ltS
theorem outcomes_ok {many : Nat} (h1 : 1 ≤ many) (h2 : many ≤ 10) {w : W} (hw : w.length = 3) {Q : D → W → Prop} (q : ∀ os w', Os os → os.length = many → w'.length = 3 → Q (.tuple (os.map .str)) w') : Wp (F_law_outcomes [.int (many : Int)]) w Q := by
  refine wp_D ?_
  unfold B_law_outcomes
  rw [wp_SL, wp_new, wp_lst, wp_nil]
  refine ⟨by decide, [], rfl, ?_⟩
  show Wp _ _ _
  rw [wp_SL]
  refine wp_for (fun i ρ w => w.length = 3 ∧ ∃ (ns : List Str) (lap : Option (Bool × D)), ρ = [none, some (false, .int (many : Int)), some (true, .list (ns.map PyData.str)), lap] ∧ ns.length = i ∧ (∀ x ∈ ns, Nm x) ∧ ns.Nodup) ?_
  rw [wp_rng]
  simp only [wp_loc]
  refine ⟨_, rfl, (many : Int), rfl, _, range0 (i := (many : Int)) (n := many) (by omega) (by omega) (by omega), ⟨hw, [], none, rfl, rfl, fun x hx => (nomatch hx), List.nodup_nil⟩, ?_, ?_⟩
  · rintro i z ρ w hz ⟨hw, ns, lap, rfl, hl, hn, hd⟩
    have hi : i < many := by simpa using (List.getElem?_eq_some_iff.mp hz).1
    refine ⟨_, rfl, ?_⟩
    rw [wp_SL, wp_appD]
    simp only [wp_callP, wp_cons, wp_nil, wp_loc]
    refine ⟨_, rfl, ?_⟩
    refine name_ok (fun y hy => (hn y hy).ok) (by omega) hw fun y w' hy hy2 hw' => ?_
    refine ⟨ns.map .str, rfl, rfl, ?_, ?_⟩
    · rw [List.length_map, sizeLine_eq]; omega
    · show Wp _ _ _
      rw [wp_SLnil]
      refine ⟨hw', ns ++ [y], some (false, z), ?_, by simp [hl], ?_, ?_⟩
      · simp
      · intro x hx
        rcases List.mem_append.mp hx with hx | hx
        · exact hn x hx
        · rw [List.mem_singleton.mp hx]; exact hy
      · rw [List.nodup_append]
        exact ⟨hd, by simp, fun a ha b hb e => hy2 (by rw [List.mem_singleton.mp hb] at e; rw [← e]; exact ha)⟩
  · rintro ρ w ⟨hw, ns, lap, rfl, hl, hn, hd⟩
    rw [List.length_map, List.length_range] at hl
    show Wp _ _ _
    rw [wp_SL, wp_retS, wp_b1, wp_b1, wp_loc]
    refine ⟨_, rfl, PyData.list ((srt ns).map .str), ?_, _, rfl, ?_⟩
    · show (if sortB (ns.map PyData.str) then some (PyData.list (sortD (ns.map PyData.str))) else none) = _
      rw [if_pos (sortB_str fun x hx => (hn x hx).ok), sortD_str]
    · have lp := (srt_perm ns).length_eq
      exact q (srt ns) w ⟨by omega, by omega, fun x hx => hn x ((srt_perm ns).mem_iff.mp hx), srt_inc hd⟩ (by omega) hw
abbrev Pr := Str × Str
def prD (p : Pr) : D := .tuple [.str p.1, .str p.2]
def ltP (p q : Pr) : Prop := ltS p.1 q.1 ∨ (p.1 = q.1 ∧ ltS p.2 q.2)
instance (p q : Pr) : Decidable (ltP p q) := by unfold ltP; infer_instance
theorem dl_pair (p q : Pr) : PySem.W.dataLt (prD p) (prD q) = decide (ltP p q) := by
  unfold prD
  rw [PySem.W.dataLt_pair (alike_strs _ _) (alike_strs _ _), eqv_str, eqv_str, dl_str, dl_str, Bool.eq_iff_iff, decide_eq_true_iff]
  unfold ltP
  by_cases h1 : p.1 = q.1
  · by_cases h2 : p.2 = q.2
    · simp [h1, h2, ltS_irr]
    · simp [h1, h2, ltS_irr]
  · simp [h1]
structure Gr (os : List Str) (ps : List Pr) : Prop where
  o : Os os
  pin : ∀ p ∈ ps, p.1 ∈ os ∧ p.2 ∈ os
  inc : ps.Pairwise ltP
  len : ps.length ≤ 100
def grD (os : List Str) (ps : List Pr) : D := .tuple [.tuple (os.map .str), .tuple (ps.map prD)]
theorem prs_app (ps : List Pr) (a : Str) (bs : List Str) : ps.map prD ++ bs.map (fun b => PyData.tuple [.str a, .str b]) = (ps ++ bs.map fun b => (a, b)).map prD := by
  rw [List.map_append, List.map_map]
  rfl
theorem ground_ok {many : Nat} (h1 : 1 ≤ many) (h2 : many ≤ 10) (share : Int) {w : W} (hw : w.length = 3) {Q : D → W → Prop} (q : ∀ os ps w', Gr os ps → w'.length = 3 → Q (grD os ps) w') : Wp (F_law_ground [.int (many : Int), .int share]) w Q := by
  refine wp_D ?_
  unfold B_law_ground
  rw [wp_SL, wp_par]
  simp only [wp_cons, wp_callP, wp_nil, wp_loc, wp_lst]
  refine ⟨_, rfl, ?_⟩
  refine outcomes_ok h1 h2 hw fun os w1 ho hl hw1 => ?_
  refine ⟨by decide, _, rfl, ?_⟩
  show Wp _ _ _
  rw [wp_SL]
  refine wp_forL PyData.str os (fun i ρ w => w.length = 3 ∧ ∃ (ps : List Pr) (one : Option (Bool × D)), ρ = [none, some (false, .int (many : Int)), some (false, .int share), one, some (false, .tuple (os.map .str)), some (false, .list (ps.map prD)), none] ∧ (∀ p ∈ ps, p.1 ∈ os.take i ∧ p.2 ∈ os) ∧ ps.Pairwise ltP ∧ ps.length ≤ i * os.length) ?_ ?_ ?_
  · rw [wp_seq, wp_loc]
    exact ⟨_, rfl, _, rfl, rfl, hw1, [], none, rfl, fun p hp => (nomatch hp), List.Pairwise.nil, Nat.zero_le _⟩
  · rintro i a ρ w ha ⟨hw, ps, one, rfl, hin, hinc, hlen⟩
    have hi := (List.getElem?_eq_some_iff.mp ha).1
    refine ⟨_, rfl, ?_⟩
    rw [wp_SL, wp_asg, wp_bin, wp_loc]
    refine ⟨_, rfl, ?_⟩
    refine wp_compS PyData.str (fun b => PyData.tuple [.str a, .str b]) (fun w => w.length = 3) os ?_ ?_ ?_
    · rw [wp_seq, wp_loc]
      exact ⟨_, rfl, _, rfl, rfl, hw⟩
    · refine fun b hb => ⟨_, rfl, fun w hw => ?_, fun w => ?_⟩
      · simp only [wp_cmp, wp_callP, wp_cons, wp_nil, wp_cst, wp_loc]
        refine draw_ok (by decide) (by decide) hw fun r w' r1 r2 r3 => ?_
        exact ⟨_, rfl, _, rfl, r3, _, rfl⟩
      · simp only [wp_tup, wp_cons, wp_nil, wp_loc]
        exact ⟨_, rfl, _, rfl, sz2, by simp⟩
    · intro bs w hw hsub
      have hbl := hsub.length_le
      have h10 := ho.le
      have hb : i * os.length ≤ 9 * 10 := Nat.mul_le_mul (by omega) h10
      refine ⟨.list ((ps ++ bs.map fun b => (a, b)).map prD), ?_, ?_⟩
      · show (if (ps.map prD).length + (bs.map fun b => PyData.tuple [.str a, .str b]).length ≤ sizeLine then some (PyData.list (ps.map prD ++ bs.map fun b => PyData.tuple [.str a, .str b])) else none) = _
        rw [if_pos, prs_app]
        rw [List.length_map, List.length_map, sizeLine_eq]
        omega
      · show Wp _ _ _
        rw [wp_SLnil]
        refine ⟨hw, _, _, rfl, ?_, ?_, ?_⟩
        · intro p hp
          rcases List.mem_append.mp hp with hp | hp
          · obtain ⟨z1, z2⟩ := hin p hp
            refine ⟨?_, z2⟩
            rw [List.take_add_one, List.mem_append]
            exact .inl z1
          · obtain ⟨b, hb, rfl⟩ := List.mem_map.mp hp
            refine ⟨?_, hsub.mem hb⟩
            rw [List.take_add_one, ha, List.mem_append]
            exact .inr (by simp)
        · rw [List.pairwise_append]
          refine ⟨hinc, ?_, ?_⟩
          · rw [List.pairwise_map]
            exact (ho.inc.sublist hsub).imp fun h => .inr ⟨rfl, h⟩
          · intro p hp r hr
            obtain ⟨b, _, rfl⟩ := List.mem_map.mp hr
            left
            obtain ⟨z1, _⟩ := hin p hp
            obtain ⟨j, hj, e⟩ := List.mem_take_iff_getElem.mp z1
            have := List.pairwise_iff_getElem.mp ho.inc j i (by omega) hi (by omega)
            rw [(List.getElem?_eq_some_iff.mp ha).2] at this
            rw [← e]
            exact this
        · rw [List.length_append, List.length_map, Nat.add_mul, Nat.one_mul]
          omega
  · rintro ρ w ⟨hw, ps, one, rfl, hin, hinc, hlen⟩
    show Wp _ _ _
    rw [wp_SL, wp_retS, wp_tup]
    simp only [wp_cons, wp_nil, wp_loc, wp_b1]
    refine ⟨_, rfl, _, rfl, _, rfl, sz2, q os ps w ⟨ho, fun p hp => ?_, hinc, ?_⟩ hw⟩
    · obtain ⟨z1, z2⟩ := hin p hp
      exact ⟨List.mem_of_mem_take z1, z2⟩
    · have : os.length * os.length ≤ 10 * 10 := Nat.mul_le_mul ho.le ho.le
      omega
end LW

-- U_n9
set_option Elab.async false
set_option linter.all false
set_option maxRecDepth 100000
set_option maxHeartbeats 1000000
set_option exponentiation.threshold 20000
namespace LW
open PySem RX
/-! ### a drawn ground is one; what is near it -/
theorem atD_map {α : Type} (f : α → D) {l : List α} {k : Nat} {a : α} (h : l[k]? = some a) : atD (l.map f) k = f a := by
  unfold atD
  rw [List.getD, List.getElem?_map, h]
  rfl
theorem rise_of {α : Type} (f : α → D) (R : α → α → Prop) {l : List α} (h : l.Pairwise R) (hr : ∀ a b, R a b → PySem.W.dataLt (f a) (f b) = true) : riseD (l.map f) = true := by
  unfold riseD
  rw [List.all_eq_true]
  intro k hk
  have hk := List.mem_range.mp hk
  rw [List.length_map] at hk
  have h1 : k < l.length := by omega
  have h2 : k + 1 < l.length := by omega
  rw [atD_map f (List.getElem?_eq_getElem h1), atD_map f (List.getElem?_eq_getElem h2)]
  exact hr _ _ (List.pairwise_iff_getElem.mp h k (k + 1) h1 h2 (by omega))
theorem memD_strs {os : List Str} {x : Str} : memD (os.map .str) (.str x) = memS os x := any_strs os x
theorem Os.outs {os : List Str} (h : Os os) : outsB (.tuple (os.map .str)) = true := by
  have h1 := h.ne
  have h2 := h.le
  have h3 : (os.map PyData.str).all nmD = true := by
    rw [List.all_eq_true]
    intro d hd
    obtain ⟨x, hx, rfl⟩ := List.mem_map.mp hd
    exact (h.nm x hx).b
  have h4 : riseD (os.map .str) = true := rise_of .str ltS h.inc fun a b r => by rw [dl_str]; exact decide_eq_true r
  simp only [outsB, List.length_map, h1, h2, h3, h4, decide_true, Bool.true_and]
theorem Gr.isG {os : List Str} {ps : List Pr} (h : Gr os ps) : isG (grD os ps) = true := by
  have h1 := h.o.outs
  have h2 : (ps.map prD).all (pairB (os.map .str)) = true := by
    rw [List.all_eq_true]
    intro d hd
    obtain ⟨p, hp, rfl⟩ := List.mem_map.mp hd
    obtain ⟨z1, z2⟩ := h.pin p hp
    show (outB _ _ && outB _ _) = true
    unfold outB
    rw [memD_strs, memD_strs, memS_iff.mpr z1, memS_iff.mpr z2]
    rfl
  have h3 : riseD (ps.map prD) = true := rise_of prD ltP h.inc fun a b r => by rw [dl_pair]; exact decide_eq_true r
  show (outsB _ && pairsB _ _) = true
  rw [h1]
  show ((ps.map prD).all _ && riseD _) = true
  rw [h2, h3]
  rfl
theorem Os.sd {os : List Str} (h : ∀ x ∈ os, Nm x) {n : Nat} : ∀ d ∈ os.map PyData.str, Sd n d := sd_strs fun x hx => (h x hx).ok
theorem sd_pr {p : Pr} (h1 : PyData.strOk p.1 = true) (h2 : PyData.strOk p.2 = true) {n : Nat} : Sd (n + 1) (prD p) := sd_tup.mpr fun d hd => by
  rcases List.mem_cons.mp hd with rfl | hd
  · exact sd_str.mpr h1
  · rw [List.mem_singleton.mp hd]
    exact sd_str.mpr h2
theorem Gr.sdp {os : List Str} {ps : List Pr} (h : Gr os ps) {n : Nat} : ∀ d ∈ ps.map prD, Sd (n + 1) d := fun d hd => by
  obtain ⟨p, hp, rfl⟩ := List.mem_map.mp hd
  obtain ⟨z1, z2⟩ := h.pin p hp
  exact sd_pr (h.o.nm _ z1).ok (h.o.nm _ z2).ok
theorem dom2 {a b : D} (h1 : Sd 39 a) (h2 : Sd 39 b) (hl : ∀ ps, b = .tuple ps → ps.length ≤ 16777216) : Dom (.tuple [a, b]) := .sh (sd_tup.mpr fun d hd => by
  rcases List.mem_cons.mp hd with rfl | hd
  · exact h1
  · rw [List.mem_singleton.mp hd]
    exact h2) fun os ps e => by
  cases e
  exact hl ps rfl
/-- a tuple of few shaped things -/
theorem dom2t {a : D} {xs : List D} (h1 : Sd 39 a) (h2 : ∀ d ∈ xs, Sd 38 d) (hl : xs.length ≤ 1000) : Dom (.tuple [a, .tuple xs]) := dom2 h1 (sd_tup.mpr h2) fun ps e => by cases e; omega
theorem Gr.dom {os : List Str} {ps : List Pr} (h : Gr os ps) : Dom (grD os ps) := dom2t (sd_tup.mpr (Os.sd h.o.nm)) h.sdp (by rw [List.length_map]; have := h.len; omega)
theorem cut_mem {l : List D} {lo hi : Option Int} {d : D} (h : d ∈ cutD l lo hi) : d ∈ l := List.mem_of_mem_drop (List.mem_of_mem_take h)
theorem cut_len (l : List D) (lo hi : Option Int) : (cutD l lo hi).length ≤ l.length := by
  unfold cutD
  rw [List.length_take, List.length_drop]
  omega
theorem add_tup {a b : List D} (h : a.length + b.length ≤ 10000) : bop .add (.tuple a) (.tuple b) = some (.tuple (a ++ b)) := by
  show (if _ then _ else _) = _
  rw [if_pos]
  rw [sizeLine_eq]; omega
theorem add_lst {a b : List D} (h : a.length + b.length ≤ 10000) : bop .add (.list a) (.list b) = some (.list (a ++ b)) := by
  show (if _ then _ else _) = _
  rw [if_pos]
  rw [sizeLine_eq]; omega
theorem sort_mem {l : List D} {d : D} : d ∈ sortD l ↔ d ∈ l := (List.mergeSort_perm _ _).mem_iff
theorem sort_len (l : List D) : (sortD l).length = l.length := (List.mergeSort_perm _ _).length_eq
theorem sortB_pairs {ps : List Pr} (h : ∀ p ∈ ps, PyData.strOk p.1 = true ∧ PyData.strOk p.2 = true) : sortB (ps.map prD) = true := by
  unfold sortB
  rw [Bool.and_eq_true, Bool.or_eq_true]
  refine ⟨?_, .inl ?_⟩
  · rw [List.all_eq_true]
    intro d hd
    rw [Bool.and_eq_true, List.all_eq_true]
    obtain ⟨p, hp, rfl⟩ := List.mem_map.mp hd
    refine ⟨(sd_pr (h p hp).1 (h p hp).2 : Sd 1 _).sh (by decide), fun e he => ?_⟩
    obtain ⟨q, _, rfl⟩ := List.mem_map.mp he
    exact alike_pair _ _ _ _
  · rw [List.all_eq_true]
    intro d hd
    obtain ⟨p, hp, rfl⟩ := List.mem_map.mp hd
    rfl
theorem zz : Nm "zzzzzzzz" := by decide +kernel
theorem near_ok {os : List Str} {ps : List Pr} (g : Gr os ps) {w : W} (hw : w.length = 3) {Q : D → W → Prop} (q : ∀ v w', Dom v → w'.length = 3 → Q v w') : Wp (F_law_near [grD os ps]) w Q := by
  have ho : ∀ n, ∀ d ∈ os.map PyData.str, Sd n d := fun n => Os.sd g.o.nm
  have hp : ∀ n, ∀ d ∈ ps.map prD, Sd (n + 1) d := fun n => g.sdp
  have lo : (os.map PyData.str).length ≤ 10 := by rw [List.length_map]; exact g.o.le
  have l1 : 1 ≤ (os.map PyData.str).length := by rw [List.length_map]; exact g.o.ne
  have lp : (ps.map prD).length ≤ 100 := by rw [List.length_map]; exact g.len
  have so : Sd 39 (.tuple (os.map .str)) := sd_tup.mpr (ho 38)
  have dom2p : ∀ {a : List D}, (∀ d ∈ a, Sd 38 d) → ∀ {b : List D}, (∀ d ∈ b, Sd 38 d) → b.length ≤ 1000 → Dom (.tuple [.tuple a, .tuple b]) := fun {a} h1 {b} h2 hl => dom2t (sd_tup.mpr h1) h2 hl
  refine wp_D ?_
  unfold B_law_near
  rw [wp_SL, wp_asgT]
  simp only [wp_loc]
  refine ⟨_, rfl, _, rfl, _, rfl, ?_⟩
  show Wp _ _ _
  rw [wp_SL, wp_asgT, wp_tup]
  simp only [wp_cons, wp_nil, wp_callP, wp_cst, wp_b1, wp_loc]
  refine draw_ok (by decide) (by decide) hw fun way w1 _ _ hw1 => ?_
  refine ⟨_, rfl, _, rfl, draw_ok (by omega) (by omega) hw1 fun at' w2 a1 a2 hw2 => ?_⟩
  refine ⟨sz2, _, rfl, _, rfl, ?_⟩
  show Wp _ _ _
  obtain ⟨k, rfl⟩ := Int.eq_ofNat_of_zero_le a1
  have hk : k < (os.map PyData.str).length := by omega
  have ik := ixT hk
  -- way 0
  rw [wp_SL, wp_iteS]
  simp only [wp_cmp, wp_loc, wp_cst]
  refine ⟨_, rfl, _, cop_eq_int, _, rfl, ?_⟩
  cases decide (way = 0)
  case true =>
    rw [if_pos rfl, wp_SL, wp_retS, wp_tup]
    simp only [wp_cons, wp_nil, wp_bin, wp_slcF, wp_slcT, wp_loc, wp_cst]
    refine ⟨_, rfl, _, rfl, _, rfl, _, rfl, _, rfl, _, rfl, _, rfl, _, rfl, _, rfl, _, add_tup ?_, _, rfl, sz2, q _ _ (dom2p ?_ (hp 37) (by omega)) hw2⟩
    · have := cut_len (os.map .str) none (some (k : Int))
      have := cut_len (os.map .str) (some ((k : Int) + 1)) none
      omega
    · intro d hd
      rcases List.mem_append.mp hd with hd | hd
      · exact ho 38 d (cut_mem hd)
      · exact ho 38 d (cut_mem hd)
  case false =>
  rw [if_neg Bool.false_ne_true, wp_SLnil]
  show Wp _ _ _
  -- way 1
  rw [wp_SL, wp_iteS]
  simp only [wp_cmp, wp_loc, wp_cst]
  refine ⟨_, rfl, _, cop_eq_int, _, rfl, ?_⟩
  cases decide (way = 1)
  case true =>
    rw [if_pos rfl, wp_SL, wp_retS, wp_tup]
    simp only [wp_cons, wp_nil, wp_b1, wp_loc]
    refine ⟨_, rfl, ?_⟩
    obtain ⟨x, hx⟩ : ∃ x, atD (os.map PyData.str) k = .str x ∧ PyData.strOk x = true := by
      obtain ⟨x, hx, e⟩ := List.mem_map.mp (atD_mem hk)
      exact ⟨x, e.symm, (g.o.nm x hx).ok⟩
    refine wp_compIf (fun d : D => d) (fun d => !memD (match d with | .tuple l => l | _ => []) (.str x)) (fun d => d) (ps.map prD) ?_ ?_ ?_
    · rw [wp_seq, wp_loc]
      exact ⟨_, rfl, _, rfl, by simp, rfl⟩
    · intro d hd
      obtain ⟨p, hp', rfl⟩ := List.mem_map.mp hd
      refine ⟨_, rfl, fun w => ?_, fun _ w => ?_⟩
      · simp only [wp_cmp, wp_idx, wp_loc]
        refine ⟨_, rfl, _, rfl, _, ik, _, rfl, _, ?_, rfl, trivial⟩
        rw [hx.1]
        exact cop_nmem ((sd_str.mpr hx.2 : Sd 0 _).sh (by decide)) ((hp 0 _ hd).sh (by decide))
      · rw [wp_loc]
        exact ⟨_, rfl, by simp⟩
    · rw [List.map_id']
      refine ⟨_, rfl, sz2, q _ _ (dom2p (ho 38) (fun d hd => hp 37 d (List.mem_filter.mp hd).1) ?_) hw2⟩
      have := List.length_filter_le (fun d => !memD (match d with | .tuple l => l | _ => []) (.str x)) (ps.map prD)
      omega
  case false =>
  rw [if_neg Bool.false_ne_true, wp_SLnil]
  show Wp _ _ _
  -- way 2
  rw [wp_SL, wp_iteS]
  simp only [wp_cmp, wp_loc, wp_cst]
  refine ⟨_, rfl, _, cop_eq_int, _, rfl, ?_⟩
  cases decide (way = 2)
  case true =>
    rw [if_pos rfl, wp_SL, wp_retS, wp_tup]
    simp only [wp_cons, wp_nil, wp_b1, wp_loc]
    refine ⟨_, rfl, ?_⟩
    refine wp_compF prD (fun p : Pr => prD (p.2, p.1)) ps ?_ ?_ ?_
    · rw [wp_seq, wp_loc]
      exact ⟨_, rfl, _, rfl, rfl, rfl⟩
    · intro p hp'
      refine ⟨_, rfl, fun w => ?_⟩
      simp only [wp_tup, wp_cons, wp_nil, wp_loc]
      exact ⟨_, rfl, _, rfl, sz2, by simp [prD]⟩
    · refine ⟨_, rfl, sz2, q _ _ (dom2p (ho 38) (fun d hd => ?_) (by rw [List.length_map]; have := g.len; omega)) hw2⟩
      obtain ⟨p, hp', rfl⟩ := List.mem_map.mp hd
      obtain ⟨z1, z2⟩ := g.pin p hp'
      exact sd_pr (g.o.nm _ z2).ok (g.o.nm _ z1).ok
  case false =>
  rw [if_neg Bool.false_ne_true, wp_SLnil]
  show Wp _ _ _
  -- way 3
  rw [wp_SL, wp_iteS]
  simp only [wp_cmp, wp_loc, wp_cst]
  refine ⟨_, rfl, _, cop_eq_int, _, rfl, ?_⟩
  cases decide (way = 3)
  case true =>
    rw [if_pos rfl, wp_SL, wp_retS, wp_tup]
    simp only [wp_cons, wp_nil, wp_b1, wp_bin, wp_lst, wp_loc, wp_cst]
    have e : os.map PyData.str ++ [.str "zzzzzzzz"] = (os ++ [("zzzzzzzz" : Str)]).map PyData.str := by simp
    have hz : ∀ y ∈ os ++ [("zzzzzzzz" : Str)], PyData.strOk y = true := fun y hy => by
      rcases List.mem_append.mp hy with hy | hy
      · exact (g.o.nm y hy).ok
      · rw [List.mem_singleton.mp hy]; exact zz.ok
    refine ⟨_, rfl, _, rfl, by decide, _, add_lst (by simp; have := g.o.le; omega), PyData.list (sortD ((os ++ [("zzzzzzzz" : Str)]).map .str)), ?_, _, rfl, _, rfl, sz2, q _ _ (dom2p (fun d hd => sd_strs hz d (sort_mem.mp hd)) (hp 37) (by omega)) hw2⟩
    rw [e]
    show (if sortB ((os ++ [("zzzzzzzz" : Str)]).map .str) then some (PyData.list (sortD ((os ++ [("zzzzzzzz" : Str)]).map .str))) else none) = _
    rw [if_pos (sortB_str hz)]
  case false =>
  rw [if_neg Bool.false_ne_true, wp_SLnil]
  show Wp _ _ _
  -- the last way
  have last : Wp (evSL C_law_near (.cons (.ret (.tup (.cons (.loc 2) (.cons (.b1 .tuple (.b1 .sortedD (.bin .add (.b1 .list (.loc 3)) (.lst (.cons (.tup (.cons (.idx (.loc 2) (.loc 5)) (.cons (.idx (.loc 2) (.cst (.int 0))) .nil))) .nil))))) .nil)))) .nil) [none, some (false, grD os ps), some (false, .tuple (os.map .str)), some (false, .tuple (ps.map prD)), some (false, .int way), some (false, .int (k : Int)), none, none, none, none]) w2 fun o w' => match o with
      | .next _ => Q .none w'
      | .ret d => Q d w'
      | _ => False := by
    rw [wp_SL, wp_retS, wp_tup]
    simp only [wp_cons, wp_nil, wp_b1, wp_bin, wp_lst, wp_tup, wp_idx, wp_loc, wp_cst]
    obtain ⟨x, hx⟩ : ∃ x, atD (os.map PyData.str) k = .str x ∧ Nm x := by
      obtain ⟨x, hx, e⟩ := List.mem_map.mp (atD_mem hk)
      exact ⟨x, e.symm, g.o.nm x hx⟩
    have k0 : 0 < (os.map PyData.str).length := by omega
    obtain ⟨y, hy⟩ : ∃ y, atD (os.map PyData.str) 0 = .str y ∧ Nm y := by
      obtain ⟨y, hy, e⟩ := List.mem_map.mp (atD_mem k0)
      exact ⟨y, e.symm, g.o.nm y hy⟩
    have i0 : idx (.tuple (os.map PyData.str)) (.int 0) = some (atD (os.map .str) 0) := ixT k0
    rw [hx.1] at ik
    rw [hy.1] at i0
    have hz : ∀ p ∈ ps ++ [(x, y)], PyData.strOk p.1 = true ∧ PyData.strOk p.2 = true := fun p hp' => by
      rcases List.mem_append.mp hp' with hp' | hp'
      · obtain ⟨z1, z2⟩ := g.pin p hp'
        exact ⟨(g.o.nm _ z1).ok, (g.o.nm _ z2).ok⟩
      · rw [List.mem_singleton.mp hp']; exact ⟨hx.2.ok, hy.2.ok⟩
    have e : ps.map prD ++ [.tuple [.str x, .str y]] = (ps ++ [(x, y)]).map prD := by simp [prD]
    refine ⟨_, rfl, _, rfl, _, rfl, _, rfl, _, rfl, _, ik, _, rfl, _, i0, sz2, by show 1 ≤ sizeLine; decide, _, add_lst (by simp; have := g.len; omega), PyData.list (sortD ((ps ++ [(x, y)]).map prD)), ?_, _, rfl, sz2, q _ _ (dom2p (ho 38) (fun d hd => ?_) (by rw [sort_len]; simp; have := g.len; omega)) hw2⟩
    · rw [e]
      show (if sortB ((ps ++ [(x, y)]).map prD) then some (PyData.list (sortD ((ps ++ [(x, y)]).map prD))) else none) = _
      rw [if_pos (sortB_pairs hz)]
    · obtain ⟨p, hp', rfl⟩ := List.mem_map.mp (sort_mem.mp hd)
      exact sd_pr (hz p hp').1 (hz p hp').2
  -- way 4
  rw [wp_SL, wp_iteS, wp_and]
  simp only [wp_cmp, wp_loc, wp_cst, wp_tup, wp_nil]
  refine ⟨_, rfl, _, cop_eq_int, _, rfl, ?_⟩
  cases decide (way = 4)
  case false =>
    rw [if_neg Bool.false_ne_true]
    refine ⟨_, rfl, ?_⟩
    rw [if_neg Bool.false_ne_true, wp_SLnil]
    exact last
  case true =>
  rw [if_pos rfl]
  have cn : cop .ne (.tuple (ps.map prD)) (.tuple []) = some (!decide (ps = [])) := by
    have e : (if RX.shaped (.tuple (ps.map prD)) && RX.shaped (.tuple []) then some (!PyData.eqv (.tuple (ps.map prD)) (.tuple [])) else none) = some (!PyData.eqv (.tuple (ps.map prD)) (.tuple [])) := by
      rw [if_pos]
      rw [Bool.and_eq_true]
      exact ⟨(sd_tup.mpr (hp 0) : Sd 2 _).sh (by decide), by decide +kernel⟩
    refine (show cop .ne (.tuple (ps.map prD)) (.tuple []) = _ from e).trans ?_
    cases ps <;> simp [PyData.eqv, PyData.eqvAll]
  refine ⟨_, rfl, by decide, _, cn, _, rfl, ?_⟩
  by_cases hn : ps = []
  · rw [if_neg (by simp [hn]), wp_SLnil]
    exact last
  · rw [if_pos (by simp [hn]), wp_SL, wp_asg, wp_callP]
    simp only [wp_cons, wp_nil, wp_b1, wp_loc]
    have hp0 : 0 < (ps.map prD).length := by rw [List.length_map]; exact List.length_pos_iff.mpr hn
    refine ⟨_, rfl, _, rfl, draw_ok (by omega) (by omega) hw2 fun j w3 j1 j2 hw3 => ?_⟩
    show Wp _ _ _
    rw [wp_SL, wp_retS, wp_tup]
    simp only [wp_cons, wp_nil, wp_bin, wp_slcF, wp_slcT, wp_loc, wp_cst]
    refine ⟨_, rfl, _, rfl, _, rfl, _, rfl, _, rfl, _, rfl, _, rfl, _, rfl, _, rfl, _, rfl, _, add_tup ?_, sz2, q _ _ (dom2p (ho 38) ?_ ?_) hw3⟩
    · have := cut_len (ps.map prD) none (some j)
      have := cut_len (ps.map prD) (some (j + 1)) none
      omega
    · intro d hd
      rcases List.mem_append.mp hd with hd | hd
      · exact hp 37 d (cut_mem hd)
      · exact hp 37 d (cut_mem hd)
    · have := cut_len (ps.map prD) none (some j)
      have := cut_len (ps.map prD) (some (j + 1)) none
      rw [List.length_append]
      omega
end LW

-- U_n10
set_option Elab.async false
set_option linter.all false
set_option maxRecDepth 100000
set_option maxHeartbeats 1000000
set_option exponentiation.threshold 20000
namespace LW
open PySem RX
/-! ### what is no ground -/
theorem strOk_app' {a b : Str} (h : PyData.strOk a = true) (g : PyData.strOk b = true) : PyData.strOk (a ++ b) = true := by
  unfold PyData.strOk at *
  rw [← Array.all_toList] at *
  rw [cps_app, List.all_append, h, g]
  rfl
theorem upper_ok : ∀ l : List Nat, (∀ c ∈ l, c < 128) → PyData.strOk (Txt.upper ⟨l.toArray⟩) = true
  | [], _ => by decide +kernel
  | c :: r, h => by
    have e : (⟨(c :: r).toArray⟩ : Str) = ⟨#[c]⟩ ++ ⟨r.toArray⟩ := by
      show (⟨(c :: r).toArray⟩ : Str) = ⟨#[c] ++ r.toArray⟩
      simp
    rw [e, PySem.W.KOpn.upper_app, PySem.W.KOpn.upper_one (h c (List.mem_cons_self ..))]
    refine strOk_app' ?_ (upper_ok r fun d hd => h d (List.mem_cons_of_mem _ hd))
    have := h c (List.mem_cons_self ..)
    unfold PyData.strOk
    simp
    split <;> omega
theorem Nm.up {x : Str} (h : Nm x) : m0D "upper" (.str x) = some (.str (Txt.upper x)) ∧ PyData.strOk (Txt.upper x) = true := by
  constructor
  · show (if ("upper" : String) = "upper" then (if x.length ≤ 5592405 then some (PyData.str (Txt.upper x)) else none) else none) = _
    rw [if_pos rfl, if_pos]
    have := h.2.1
    omega
  · have e : x = ⟨x.cps.toList.toArray⟩ := by simp
    rw [e]
    refine upper_ok _ fun c hc => ?_
    have := List.all_eq_true.mp h.2.2 c hc
    simp only [Bool.and_eq_true, decide_eq_true_eq] at this
    omega
theorem put_ok {xs : List D} {k : Nat} {e : D} (hk : k < xs.length) (hl : xs.length ≤ 1000) {w : W} {Q : D → W → Prop} (q : ∀ ys, (∀ d ∈ ys, d = e ∨ d ∈ xs) → ys.length ≤ 2 * xs.length + 1 → Q (.tuple ys) w) : Wp (F_law_put [.tuple xs, .int (k : Int), e]) w Q := by
  refine wp_D ?_
  unfold B_law_put
  rw [wp_SL, wp_retS, wp_bin, wp_bin]
  simp only [wp_slcF, wp_slcT, wp_bin, wp_tup, wp_cons, wp_nil, wp_loc, wp_cst]
  have c1 := cut_len xs none (some (k : Int))
  have c2 := cut_len xs (some ((k : Int) + 1)) none
  refine ⟨_, rfl, _, rfl, _, rfl, _, rfl, _, rfl, by show 1 ≤ sizeLine; decide, _, add_tup (by simp; omega), _, rfl, _, rfl, _, rfl, _, rfl, _, rfl, _, add_tup (by simp; omega), q _ ?_ (by simp; omega)⟩
  intro d hd
  rcases List.mem_append.mp hd with hd | hd
  · rcases List.mem_append.mp hd with hd | hd
    · exact .inr (cut_mem hd)
    · exact .inl (List.mem_singleton.mp hd)
  · exact .inr (cut_mem hd)
theorem not_name_ok {w : W} (hw : w.length = 3) {Q : D → W → Prop} (q : ∀ v w', Sd 2 v → w'.length = 3 → Q v w') : Wp (F_law_not_name []) w Q := by
  refine wp_D ?_
  unfold B_law_not_name
  rw [wp_SL, wp_retS, wp_callP]
  simp only [wp_cons, wp_nil, wp_lst, wp_tup, wp_cst]
  refine ⟨by show 1 ≤ sizeLine; decide, by show 1 ≤ sizeLine; decide, by show 0 ≤ sizeLine; decide, by show 17 ≤ sizeLine; decide, pick_ok (by simp) (by simp) hw fun x w' hx hw' => q x w' ?_ hw'⟩
  have key : ∀ l : List D, (l.all fun d => PyData.canLay0 d && decide (PyData.depth d ≤ 2)) = true → x ∈ l → Sd 2 x := fun l h hx => by
    have := List.all_eq_true.mp h x hx
    rw [Bool.and_eq_true, decide_eq_true_eq] at this
    exact this
  exact key _ (by decide +kernel) hx
theorem not_outcome_ok {os : List Str} (o : Os os) {w : W} (hw : w.length = 3) {Q : D → W → Prop} (q : ∀ v w', Sd 2 v → w'.length = 3 → Q v w') : Wp (F_law_not_outcome [.tuple (os.map .str)]) w Q := by
  refine wp_D ?_
  unfold B_law_not_outcome
  rw [wp_SL, wp_asg, wp_callP]
  simp only [wp_cons, wp_nil, wp_b1, wp_loc]
  have l10 := o.le
  refine ⟨_, rfl, _, rfl, name_ok (fun y hy => (o.nm y hy).ok) (by omega) hw fun y w1 hy _ hw1 => ?_⟩
  show Wp _ _ _
  rw [wp_SL, wp_retS, wp_callP]
  have k0 : 0 < (os.map PyData.str).length := by rw [List.length_map]; have := o.ne; omega
  obtain ⟨x, hx⟩ : ∃ x, atD (os.map PyData.str) 0 = .str x ∧ Nm x := by
    obtain ⟨x, hx, e⟩ := List.mem_map.mp (atD_mem k0)
    exact ⟨x, e.symm, o.nm x hx⟩
  have i0 : idx (.tuple (os.map PyData.str)) (.int 0) = some (.str x) := by rw [← hx.1]; exact ixT k0
  obtain ⟨u1, u2⟩ := hx.2.up
  have ex : ("xxxxxxxx" : Str).length = 8 := by decide +kernel
  have ax : bop .add (.str x) (.str "xxxxxxxx") = some (.str (x ++ ("xxxxxxxx" : Str))) := by
    show (if x.length + ("xxxxxxxx" : Str).length ≤ sizeLine then some (PyData.str (x ++ ("xxxxxxxx" : Str))) else none) = _
    rw [if_pos]
    rw [ex, sizeLine_eq]
    have := hx.2.2.1
    omega
  have ox : PyData.strOk (x ++ ("xxxxxxxx" : Str)) = true := strOk_app' hx.2.ok (by decide +kernel)
  simp only [wp_cons, wp_nil, wp_lst, wp_tup, wp_cst, wp_loc, wp_idx, wp_bin, wp_m0]
  refine ⟨_, rfl, _, rfl, _, rfl, _, i0, _, ax, _, rfl, _, i0, _, u1, _, rfl, _, i0, by show 1 ≤ sizeLine; decide, _, rfl, _, i0, by show 1 ≤ sizeLine; decide, _, rfl, by show 11 ≤ sizeLine; decide, pick_ok (by simp) (by simp) hw1 fun v w' hv hw' => q v w' ?_ hw'⟩
  have st : Sd 2 (.tuple (os.map PyData.str)) := sd_tup.mpr (Os.sd o.nm)
  simp only [List.mem_cons, List.not_mem_nil, or_false] at hv
  rcases hv with rfl | rfl | rfl | rfl | rfl | rfl | rfl | rfl | rfl | rfl | rfl
  · exact sd_str.mpr hy.ok
  · exact sd_str.mpr hy.ok
  · exact sd_str.mpr ox
  · exact sd_str.mpr u2
  · exact sd_tup.mpr fun d hd => by rw [List.mem_singleton.mp hd]; exact sd_str.mpr hx.2.ok
  · exact sd_none
  · exact sd_int
  · exact sd_bool
  · exact sd_str.mpr str0
  · exact sd_list.mpr fun d hd => by rw [List.mem_singleton.mp hd]; exact sd_str.mpr hx.2.ok
  · exact st
def OkO (v : D) : Prop := v = .dict [] ∨ Sd 4 v
theorem not_outcomes_ok {os : List Str} (o : Os os) {w : W} (hw : w.length = 3) {Q : D → W → Prop} (q : ∀ v w', OkO v → w'.length = 3 → Q v w') : Wp (F_law_not_outcomes [.tuple (os.map .str)]) w Q := by
  have ho : ∀ n, ∀ d ∈ os.map PyData.str, Sd n d := fun n => Os.sd o.nm
  have lo : (os.map PyData.str).length ≤ 10 := by rw [List.length_map]; exact o.le
  have l1 : 1 ≤ (os.map PyData.str).length := by rw [List.length_map]; exact o.ne
  refine wp_D ?_
  unfold B_law_not_outcomes
  rw [wp_SL, wp_par]
  simp only [wp_cons, wp_nil, wp_callP, wp_cst, wp_b1, wp_loc]
  refine draw_ok (by decide) (by decide) hw fun way w1 _ _ hw1 => ?_
  refine ⟨_, rfl, _, rfl, draw_ok (by omega) (by omega) hw1 fun at' w2 a1 a2 hw2 => ?_⟩
  refine ⟨_, rfl, ?_⟩
  show Wp _ _ _
  obtain ⟨k, rfl⟩ := Int.eq_ofNat_of_zero_le a1
  have hk : k < (os.map PyData.str).length := by omega
  have ik := ixT hk
  rw [wp_SL, wp_iteS]
  simp only [wp_cmp, wp_loc, wp_cst]
  refine ⟨_, rfl, _, cop_eq_int, _, rfl, ?_⟩
  cases decide (way = 0)
  case true =>
    rw [if_pos rfl, wp_SL, wp_retS, wp_b1]
    have l11 : ("abcdefghijk" : Str).cps.toList.all (fun c => decide (97 ≤ c) && decide (c ≤ 122)) = true := by decide +kernel
    refine wp_compF (fun c : Nat => (.str ⟨#[c]⟩ : D)) (fun c => .str (("ab" : Str) ++ sgn c)) ("abcdefghijk" : Str).cps.toList ?_ ?_ ?_
    · rw [wp_seq, wp_cst]
      exact ⟨_, rfl, rfl, rfl⟩
    · intro c hc
      have h2 : ("ab" : Str).length + (sgn c).length ≤ sizeLine := by
        have : ("ab" : Str).length = 2 := by decide +kernel
        rw [this]
        show 2 + 1 ≤ sizeLine
        decide
      refine ⟨_, rfl, fun w => ?_⟩
      simp only [wp_bin, wp_cst, wp_loc]
      refine ⟨_, rfl, _, ?_, rfl, trivial⟩
      show (if ("ab" : Str).length + (sgn c).length ≤ sizeLine then some (PyData.str (("ab" : Str) ++ sgn c)) else none) = _
      rw [if_pos h2]
    · refine ⟨_, rfl, q _ _ (.inr (sd_tup.mpr fun d hd => ?_)) hw2⟩
      obtain ⟨c, hc, rfl⟩ := List.mem_map.mp hd
      have := List.all_eq_true.mp l11 c hc
      simp only [Bool.and_eq_true, decide_eq_true_eq] at this
      exact sd_str.mpr (strOk_app' (by decide +kernel) (lows_one this.1 this.2).ok)
  case false =>
  rw [if_neg Bool.false_ne_true, wp_SLnil]
  show Wp _ _ _
  rw [wp_SL, wp_iteS]
  simp only [wp_cmp, wp_loc, wp_cst]
  refine ⟨_, rfl, _, cop_eq_int, _, rfl, ?_⟩
  cases decide (way = 1)
  case true =>
    rw [if_pos rfl, wp_SL, wp_retS, wp_bin, wp_bin]
    simp only [wp_slcF, wp_slcT, wp_tup, wp_cons, wp_nil, wp_loc, wp_idx]
    have c1 := cut_len (os.map PyData.str) none (some (k : Int))
    have c2 := cut_len (os.map PyData.str) (some (k : Int)) none
    refine ⟨_, rfl, _, rfl, _, rfl, _, rfl, _, rfl, _, rfl, _, ik, by show 1 ≤ sizeLine; decide, _, add_tup (by simp only [List.length_singleton]; omega), _, rfl, _, rfl, _, rfl, _, rfl, _, add_tup (by simp only [List.length_append, List.length_singleton]; omega), q _ _ (.inr (sd_tup.mpr fun d hd => ?_)) hw2⟩
    rcases List.mem_append.mp hd with hd | hd
    · rcases List.mem_append.mp hd with hd | hd
      · exact ho 3 d (cut_mem hd)
      · rw [List.mem_singleton.mp hd]; exact ho 3 _ (atD_mem hk)
    · exact ho 3 d (cut_mem hd)
  case false =>
  rw [if_neg Bool.false_ne_true, wp_SLnil]
  show Wp _ _ _
  have rest : Wp (evSL C_law_not_outcomes (.cons (.ite (.cmp .eq (.loc 2) (.cst (.int 3))) (.cons (.ret (.call false 1 (.cons (.loc 1) (.cons (.loc 3) (.cons (.call true 2 .nil []) .nil))) [])) .nil) .nil) (.cons (.ret (.call true 3 (.cons (.lst (.cons (.tup .nil) (.cons (.cst .none) (.cons (.b1 .list (.loc 1)) (.cons (.idx (.loc 1) (.cst (.int 0))) (.cons (.cst (.bool true)) (.cons .ed (.cons (.tup (.cons (.loc 1) .nil)) .nil)))))))) .nil) [])) .nil)) [none, some (false, .tuple (os.map .str)), some (false, .int way), some (false, .int (k : Int)), none]) w2 fun o w' => match o with
      | .next _ => Q .none w'
      | .ret d => Q d w'
      | _ => False := by
    rw [wp_SL, wp_iteS]
    simp only [wp_cmp, wp_loc, wp_cst]
    refine ⟨_, rfl, _, cop_eq_int, _, rfl, ?_⟩
    cases decide (way = 3)
    case true =>
      rw [if_pos rfl, wp_SL, wp_retS, wp_call]
      simp only [wp_cons, wp_nil, wp_loc, wp_callP]
      refine ⟨_, rfl, _, rfl, not_name_ok hw2 fun v w3 hv hw3 => ?_⟩
      refine put_ok hk (by omega) fun ys hy _ => ?_
      refine q _ _ (.inr (sd_tup.mpr fun d hd => ?_)) hw3
      rcases hy d hd with rfl | hd
      · exact hv.mono (by decide)
      · exact ho 3 d hd
    case false =>
      rw [if_neg Bool.false_ne_true, wp_SLnil]
      show Wp _ _ _
      have k0 : 0 < (os.map PyData.str).length := by omega
      have i0 : idx (.tuple (os.map PyData.str)) (.int 0) = some (atD (os.map .str) 0) := ixT k0
      rw [wp_SL, wp_retS, wp_callP]
      simp only [wp_cons, wp_nil, wp_lst, wp_tup, wp_cst, wp_loc, wp_idx, wp_b1, wp_ed]
      refine ⟨by decide, _, rfl, _, rfl, _, rfl, _, i0, _, rfl, by show 1 ≤ sizeLine; decide, by show 7 ≤ sizeLine; decide, pick_ok (by simp) (by simp) hw2 fun v w' hv hw' => q v w' ?_ hw'⟩
      simp only [List.mem_cons, List.not_mem_nil, or_false] at hv
      rcases hv with rfl | rfl | rfl | rfl | rfl | rfl | rfl
      · exact .inr (sd_tup.mpr fun d hd => nomatch hd)
      · exact .inr sd_none
      · exact .inr (sd_list.mpr (ho 3))
      · exact .inr (ho 4 _ (atD_mem k0))
      · exact .inr sd_bool
      · exact .inl rfl
      · exact .inr (sd_tup.mpr fun d hd => by rw [List.mem_singleton.mp hd]; exact sd_tup.mpr (ho 2))
  rw [wp_SL, wp_iteS, wp_and]
  simp only [wp_cmp, wp_loc, wp_cst, wp_b1]
  refine ⟨_, rfl, _, cop_eq_int, _, rfl, ?_⟩
  cases decide (way = 2)
  case false =>
    rw [if_neg Bool.false_ne_true]
    refine ⟨_, rfl, ?_⟩
    rw [if_neg Bool.false_ne_true, wp_SLnil]
    exact rest
  case true =>
  rw [if_pos rfl]
  refine ⟨_, rfl, _, rfl, _, rfl, _, rfl, ?_⟩
  split
  · rw [wp_SL, wp_retS, wp_rev, wp_loc]
    refine ⟨_, rfl, _, rfl, q _ _ (.inr (sd_tup.mpr fun d hd => ho 3 d (List.mem_reverse.mp hd))) hw2⟩
  · rw [wp_SLnil]
    exact rest
end LW

-- U_n11
set_option Elab.async false
set_option linter.all false
set_option maxRecDepth 100000
set_option maxHeartbeats 1000000
set_option exponentiation.threshold 20000
namespace LW
open PySem RX
/-! ### what is no ground, of a ground with a pair -/
theorem dom_small {v : D} (h : Sd 20 v) (hl : ∀ a ps, v = .tuple [a, .tuple ps] → ps.length ≤ 16777216) : Dom v := .sh (h.mono (by decide)) hl
theorem dom_two' {a : D} {xs : List D} (h1 : Sd 10 a) (h2 : ∀ d ∈ xs, Sd 10 d) (hl : xs.length ≤ 1000) : Dom (.tuple [a, .tuple xs]) := dom2t (h1.mono (by decide)) (fun d hd => (h2 d hd).mono (by decide)) hl
theorem not_ground_ok {os : List Str} {ps : List Pr} (g : Gr os ps) (hne : ps ≠ []) {w : W} (hw : w.length = 3) {Q : D → W → Prop} (q : ∀ v w', Dom v → w'.length = 3 → Q v w') : Wp (F_law_not_ground [grD os ps]) w Q := by
  have ho : ∀ n, ∀ d ∈ os.map PyData.str, Sd n d := fun n => Os.sd g.o.nm
  have hp : ∀ n, ∀ d ∈ ps.map prD, Sd (n + 1) d := fun n => g.sdp
  have lo : (os.map PyData.str).length ≤ 10 := by rw [List.length_map]; exact g.o.le
  have l1 : 1 ≤ (os.map PyData.str).length := by rw [List.length_map]; exact g.o.ne
  have lp : (ps.map prD).length ≤ 100 := by rw [List.length_map]; exact g.len
  have lp0 : 0 < (ps.map prD).length := by rw [List.length_map]; exact List.length_pos_iff.mpr hne
  have so : ∀ n, Sd (n + 1) (.tuple (os.map .str)) := fun n => sd_tup.mpr (ho n)
  have sp : ∀ n, Sd (n + 2) (.tuple (ps.map prD)) := fun n => sd_tup.mpr (hp n)
  refine wp_D ?_
  unfold B_law_not_ground
  rw [wp_SL, wp_asgT]
  simp only [wp_loc]
  refine ⟨_, rfl, _, rfl, _, rfl, ?_⟩
  show Wp _ _ _
  rw [wp_SL, wp_par]
  simp only [wp_cons, wp_nil, wp_callP, wp_cst, wp_b1, wp_loc]
  refine draw_ok (by decide) (by decide) hw fun way w1 _ _ hw1 => ?_
  refine ⟨_, rfl, _, rfl, draw_ok (by omega) (by omega) hw1 fun at' w2 a1 a2 hw2 => ?_⟩
  refine ⟨_, rfl, ?_⟩
  show Wp _ _ _
  obtain ⟨k, rfl⟩ := Int.eq_ofNat_of_zero_le a1
  have hk : k < (ps.map prD).length := by omega
  obtain ⟨p, hpm, hpe⟩ : ∃ p ∈ ps, atD (ps.map prD) k = prD p := by
    obtain ⟨p, hp', e⟩ := List.mem_map.mp (atD_mem hk)
    exact ⟨p, hp', e.symm⟩
  have ik : idx (.tuple (ps.map prD)) (.int (k : Int)) = some (prD p) := by rw [← hpe]; exact ixT hk
  obtain ⟨n1, n2⟩ := g.pin p hpm
  have o1 := (g.o.nm _ n1).ok
  have o2 := (g.o.nm _ n2).ok
  rw [wp_SL, wp_asgT, wp_idx]
  simp only [wp_loc]
  refine ⟨_, rfl, _, rfl, _, ik, _, rfl, _, rfl, ?_⟩
  show Wp _ _ _
  rw [wp_SL, wp_iteS]
  simp only [wp_cmp, wp_loc, wp_cst]
  refine ⟨_, rfl, decide (way < 2), rfl, _, rfl, ?_⟩
  cases decide (way < 2)
  case true =>
    rw [if_pos rfl, wp_SL, wp_asg, wp_callP]
    simp only [wp_cons, wp_nil, wp_loc]
    refine ⟨_, rfl, not_outcome_ok g.o hw2 fun v w3 hv hw3 => ?_⟩
    show Wp _ _ _
    rw [wp_SL, wp_retS, wp_tup]
    simp only [wp_cons, wp_nil, wp_call, wp_loc]
    refine ⟨_, rfl, _, rfl, _, rfl, ?_⟩
    rw [wp_iteE]
    simp only [wp_cmp, wp_tup, wp_cons, wp_nil, wp_loc, wp_cst]
    refine ⟨_, rfl, _, cop_eq_int, _, rfl, ?_⟩
    have fin : ∀ e : D, Sd 3 e → Wp (fnAt C_law_not_ground 2 (permA [] [.tuple (ps.map prD), .int (k : Int), e])) [] fun d _ => [PyData.tuple (os.map .str), d].length ≤ sizeLine ∧ Q (.tuple [.tuple (os.map .str), d]) w3 := fun e he => by
      refine put_ok hk (by omega) fun ys hy hyl => ⟨sz2, q _ _ (dom_two' (so 9) (fun d hd => ?_) (by omega)) hw3⟩
      rcases hy d hd with rfl | hd
      · exact he.mono (by decide)
      · exact hp 9 d hd
    split
    · refine ⟨_, rfl, _, rfl, sz2, ?_⟩
      exact fin _ (sd_tup.mpr fun d hd => by
        rcases List.mem_cons.mp hd with rfl | hd
        · exact sd_str.mpr o1
        · rw [List.mem_singleton.mp hd]; exact hv)
    · refine ⟨_, rfl, _, rfl, sz2, ?_⟩
      exact fin _ (sd_tup.mpr fun d hd => by
        rcases List.mem_cons.mp hd with rfl | hd
        · exact hv
        · rw [List.mem_singleton.mp hd]; exact sd_str.mpr o2)
  case false =>
  rw [if_neg Bool.false_ne_true, wp_SLnil]
  show Wp _ _ _
  rw [wp_SL, wp_iteS]
  simp only [wp_cmp, wp_loc, wp_cst]
  refine ⟨_, rfl, _, cop_eq_int, _, rfl, ?_⟩
  cases decide (way = 2)
  case true =>
    rw [if_pos rfl, wp_SL, wp_retS, wp_tup]
    simp only [wp_cons, wp_nil, wp_call, wp_callP, wp_lst, wp_tup, wp_bin, wp_loc, wp_cst]
    have l8 : ∀ {x : Str}, Nm x → x.length ≤ 8 := fun h => h.2.1
    have a8 := l8 (g.o.nm _ n1)
    have b8 := l8 (g.o.nm _ n2)
    have ab : bop .add (.str p.1) (.str p.2) = some (.str (p.1 ++ p.2)) := by
      show (if p.1.length + p.2.length ≤ sizeLine then some (PyData.str (p.1 ++ p.2)) else none) = _
      rw [if_pos]
      rw [sizeLine_eq]; omega
    refine ⟨_, rfl, _, rfl, _, rfl, _, rfl, by show 1 ≤ sizeLine; decide, _, rfl, _, rfl, _, rfl, by show 3 ≤ sizeLine; decide, _, rfl, _, rfl, sz2, _, rfl, _, rfl, _, ab, by show 0 ≤ sizeLine; decide, by show 7 ≤ sizeLine; decide, pick_ok (by simp) (by simp) hw2 fun v w3 hv hw3 => ?_⟩
    have sv : Sd 3 v := by
      simp only [List.mem_cons, List.not_mem_nil, or_false] at hv
      rcases hv with rfl | rfl | rfl | rfl | rfl | rfl | rfl
      · exact sd_none
      · exact sd_tup.mpr fun d hd => by rw [List.mem_singleton.mp hd]; exact sd_str.mpr o1
      · exact sd_tup.mpr fun d hd => by
          simp only [List.mem_cons, List.not_mem_nil, or_false] at hd
          rcases hd with rfl | rfl | rfl
          · exact sd_str.mpr o1
          · exact sd_str.mpr o2
          · exact sd_str.mpr o1
      · exact sd_list.mpr fun d hd => by
          simp only [List.mem_cons, List.not_mem_nil, or_false] at hd
          rcases hd with rfl | rfl
          · exact sd_str.mpr o1
          · exact sd_str.mpr o2
      · exact sd_str.mpr (strOk_app' o1 o2)
      · exact sd_tup.mpr fun d hd => nomatch hd
      · exact sd_bool
    refine put_ok hk (by omega) fun ys hy hyl => ⟨sz2, q _ _ (dom_two' (so 9) (fun d hd => ?_) (by omega)) hw3⟩
    rcases hy d hd with rfl | hd
    · exact sv.mono (by decide)
    · exact hp 9 d hd
  case false =>
  rw [if_neg Bool.false_ne_true, wp_SLnil]
  show Wp _ _ _
  rw [wp_SL, wp_iteS]
  simp only [wp_cmp, wp_loc, wp_cst]
  refine ⟨_, rfl, _, cop_eq_int, _, rfl, ?_⟩
  cases decide (way = 3)
  case true =>
    rw [if_pos rfl, wp_SL, wp_retS, wp_tup]
    simp only [wp_cons, wp_nil, wp_callP, wp_loc]
    refine ⟨_, rfl, not_outcomes_ok g.o hw2 fun v w3 hv hw3 => ⟨_, rfl, sz2, q _ _ ?_ hw3⟩⟩
    rcases hv with rfl | hv
    · exact .ed1 (sp 37)
    · exact dom_two' (hv.mono (by decide)) (hp 9) (by omega)
  case false =>
  rw [if_neg Bool.false_ne_true, wp_SLnil]
  show Wp _ _ _
  rw [wp_SL, wp_iteS]
  simp only [wp_cmp, wp_loc, wp_cst]
  refine ⟨_, rfl, _, cop_eq_int, _, rfl, ?_⟩
  cases decide (way = 4)
  case true =>
    rw [if_pos rfl, wp_SL, wp_retS, wp_tup]
    simp only [wp_cons, wp_nil, wp_bin, wp_slcF, wp_slcT, wp_tup, wp_idx, wp_loc]
    have c1 := cut_len (ps.map prD) none (some (k : Int))
    have c2 := cut_len (ps.map prD) (some (k : Int)) none
    refine ⟨_, rfl, _, rfl, _, rfl, _, rfl, _, rfl, _, rfl, _, rfl, _, ik, by show 1 ≤ sizeLine; decide, _, add_tup (by simp only [List.length_singleton]; omega), _, rfl, _, rfl, _, rfl, _, rfl, _, add_tup (by simp only [List.length_append, List.length_singleton]; omega), sz2, q _ _ (dom_two' (so 9) (fun d hd => ?_) (by simp only [List.length_append, List.length_singleton]; omega)) hw2⟩
    rcases List.mem_append.mp hd with hd | hd
    · rcases List.mem_append.mp hd with hd | hd
      · exact hp 9 d (cut_mem hd)
      · rw [List.mem_singleton.mp hd]; exact sd_pr o1 o2
    · exact hp 9 d (cut_mem hd)
  case false =>
  rw [if_neg Bool.false_ne_true, wp_SLnil]
  show Wp _ _ _
  have rest : Wp (evSL C_law_not_ground (.cons (.ret (.call true 3 (.cons (.lst (.cons (.cst .none) (.cons (.tup .nil) (.cons (.b1 .list (.loc 1)) (.cons (.tup (.cons (.loc 2) .nil)) (.cons (.bin .add (.loc 1) (.tup (.cons (.tup .nil) .nil))) (.cons (.tup (.cons (.loc 2) (.cons (.b1 .list (.loc 3)) .nil))) (.cons (.tup (.cons (.loc 3) (.cons (.loc 2) .nil))) (.cons (.loc 2) (.cons (.tup (.cons (.loc 2) (.cons (.cst .none) .nil))) (.cons (.cst (.str "ground")) (.cons (.cst (.int 0)) (.cons (.cst (.bool true)) (.cons (.tup (.cons (.loc 2) (.cons (.idx (.loc 3) (.cst (.int 0))) .nil))) .nil)))))))))))))) .nil) [])) .nil) [none, some (false, grD os ps), some (false, .tuple (os.map .str)), some (false, .tuple (ps.map prD)), some (false, .int way), some (false, .int (k : Int)), some (false, .str p.1), some (false, .str p.2), none]) w2 fun o w' => match o with
      | .next _ => Q .none w'
      | .ret d => Q d w'
      | _ => False := by
    have i0 : idx (.tuple (ps.map prD)) (.int 0) = some (atD (ps.map prD) 0) := ixT lp0
    have s0 : Sd 3 (atD (ps.map prD) 0) := hp 2 _ (atD_mem lp0)
    obtain ⟨p0, _, hp0⟩ : ∃ p ∈ ps, atD (ps.map prD) 0 = prD p := by
      obtain ⟨p, hp', e⟩ := List.mem_map.mp (atD_mem lp0)
      exact ⟨p, hp', e.symm⟩
    rw [wp_SL, wp_retS, wp_callP]
    simp only [wp_cons, wp_nil, wp_lst, wp_tup, wp_cst, wp_loc, wp_idx, wp_b1, wp_bin]
    refine ⟨by show 0 ≤ sizeLine; decide, _, rfl, _, rfl, _, rfl, by show 1 ≤ sizeLine; decide, _, rfl, by show 0 ≤ sizeLine; decide, by show 1 ≤ sizeLine; decide, _, add_tup (by simp), _, rfl, _, rfl, _, rfl, sz2, _, rfl, _, rfl, sz2, _, rfl, _, rfl, sz2, _, rfl, _, rfl, _, i0, sz2, by show 13 ≤ sizeLine; decide, pick_ok (by simp) (by simp) hw2 fun v w' hv hw' => q v w' ?_ hw'⟩
    have two : ∀ {n : Nat} {a b : D}, Sd n a → Sd n b → Sd (n + 1) (.tuple [a, b]) := fun h1 h2 => sd_tup.mpr fun d hd => by
      rcases List.mem_cons.mp hd with rfl | hd
      · exact h1
      · rw [List.mem_singleton.mp hd]; exact h2
    have gs : Sd 19 (grD os ps) := two (so 17) (sp 16)
    simp only [List.mem_cons, List.not_mem_nil, or_false] at hv
    rcases hv with rfl | rfl | rfl | rfl | rfl | rfl | rfl | rfl | rfl | rfl | rfl | rfl | rfl
    · exact dom_small sd_none fun _ _ e => nomatch e
    · exact dom_small (sd_tup.mpr fun d hd => nomatch hd) fun _ _ e => nomatch e
    · exact dom_small (sd_list.mpr fun d hd => by
        rcases List.mem_cons.mp hd with rfl | hd
        · exact so 18
        · rw [List.mem_singleton.mp hd]; exact sp 17) fun _ _ e => nomatch e
    · exact dom_small (sd_tup.mpr fun d hd => by rw [List.mem_singleton.mp hd]; exact so 18) fun _ _ e => nomatch e
    · exact dom_small (sd_tup.mpr fun d hd => by
        simp only [List.mem_append, List.mem_cons, List.not_mem_nil, or_false] at hd
        rcases hd with (rfl | rfl) | rfl
        · exact so 18
        · exact sp 17
        · exact sd_tup.mpr fun d hd => nomatch hd) fun _ _ e => nomatch e
    · exact dom_small (two (so 18) (sd_list.mpr (hp 17))) fun _ _ e => nomatch e
    · exact dom2t (sp 37) (ho 38) (by omega)
    · refine dom_small (so 19) fun a ps' e => ?_
      have e' := PyData.tuple.inj e
      exfalso
      match os, e' with
      | [x, y], e' => cases e'
    · exact dom_small (two (so 18) sd_none) fun _ _ e => nomatch e
    · exact dom_small (sd_str.mpr (by decide +kernel)) fun _ _ e => nomatch e
    · exact dom_small sd_int fun _ _ e => nomatch e
    · exact dom_small sd_bool fun _ _ e => nomatch e
    · refine dom_small (two (so 18) (s0.mono (by decide))) fun a ps' e => ?_
      rw [hp0] at e
      cases e
      simp
  rw [wp_SL, wp_iteS, wp_and]
  simp only [wp_cmp, wp_loc, wp_cst, wp_b1]
  refine ⟨_, rfl, _, cop_eq_int, _, rfl, ?_⟩
  cases decide (way = 5)
  case false =>
    rw [if_neg Bool.false_ne_true]
    refine ⟨_, rfl, ?_⟩
    rw [if_neg Bool.false_ne_true, wp_SLnil]
    exact rest
  case true =>
  rw [if_pos rfl]
  refine ⟨_, rfl, _, rfl, _, rfl, _, rfl, ?_⟩
  split
  · rw [wp_SL, wp_retS, wp_tup]
    simp only [wp_cons, wp_nil, wp_rev, wp_loc]
    refine ⟨_, rfl, _, rfl, _, rfl, sz2, q _ _ (dom_two' (so 9) (fun d hd => hp 9 d (List.mem_reverse.mp hd)) (by rw [List.length_reverse]; omega)) hw2⟩
  · rw [wp_SLnil]
    exact rest
end LW

-- U_n12
set_option Elab.async false
set_option linter.all false
set_option maxRecDepth 100000
set_option maxHeartbeats 1000000
set_option exponentiation.threshold 20000
namespace LW
open PySem RX
/-! ### what can be come to -/
inductive Reach (ps : List Pr) (a : Str) : Str → Prop
  | refl : Reach ps a a
  | step {m t : Str} : Reach ps a m → (m, t) ∈ ps → Reach ps a t
noncomputable def rch (ps : List Pr) (a o : Str) : Bool := @decide (Reach ps a o) (Classical.propDecidable _)
theorem rch_iff {ps : List Pr} {a o : Str} : rch ps a o = true ↔ Reach ps a o := by
  unfold rch
  exact @decide_eq_true_iff _ (Classical.propDecidable _)
noncomputable def rowC (os : List Str) (ps : List Pr) (a : Str) : List Pr := (os.filter (rch ps a)).map fun o => (a, o)
noncomputable def cl (os : List Str) (ps : List Pr) : List Pr := os.flatMap (rowC os ps)
theorem mem_cl {os : List Str} {ps : List Pr} {p : Pr} : p ∈ cl os ps ↔ p.1 ∈ os ∧ p.2 ∈ os ∧ Reach ps p.1 p.2 := by
  unfold cl rowC
  rw [List.mem_flatMap]
  constructor
  · rintro ⟨a, ha, hp⟩
    obtain ⟨o, ho, rfl⟩ := List.mem_map.mp hp
    obtain ⟨h1, h2⟩ := List.mem_filter.mp ho
    exact ⟨ha, h1, rch_iff.mp h2⟩
  · rintro ⟨h1, h2, h3⟩
    exact ⟨p.1, h1, List.mem_map.mpr ⟨p.2, List.mem_filter.mpr ⟨h2, rch_iff.mpr h3⟩, rfl⟩⟩
theorem ltP_irr (p : Pr) : ¬ ltP p p := by
  unfold ltP
  rintro (h | ⟨_, h⟩)
  · exact ltS_irr _ h
  · exact ltS_irr _ h
theorem ltP_trans {p q r : Pr} (h : ltP p q) (g : ltP q r) : ltP p r := by
  unfold ltP at *
  rcases h with h | ⟨h1, h2⟩ <;> rcases g with g | ⟨g1, g2⟩
  · exact .inl (ltS_trans h g)
  · exact .inl (g1 ▸ h)
  · exact .inl (h1.symm ▸ g)
  · exact .inr ⟨h1.trans g1, ltS_trans h2 g2⟩
theorem rows_inc {os : List Str} (h : os.Pairwise ltS) (f : Str → List Str) (hf : ∀ a, (f a).Pairwise ltS) : (os.flatMap fun a => (f a).map fun o => (a, o)).Pairwise ltP := by
  induction os with
  | nil => exact List.Pairwise.nil
  | cons a r ih =>
    obtain ⟨h1, h2⟩ := List.pairwise_cons.mp h
    rw [List.flatMap_cons, List.pairwise_append]
    refine ⟨?_, ih h2, ?_⟩
    · rw [List.pairwise_map]
      exact (hf a).imp fun h => .inr ⟨rfl, h⟩
    · intro p hp q hq
      obtain ⟨x, _, rfl⟩ := List.mem_map.mp hp
      obtain ⟨b, hb, hq⟩ := List.mem_flatMap.mp hq
      obtain ⟨y, _, rfl⟩ := List.mem_map.mp hq
      exact .inl (h1 b hb)
theorem cl_inc {os : List Str} (ps : List Pr) (h : os.Pairwise ltS) : (cl os ps).Pairwise ltP := rows_inc h (fun a => os.filter (rch ps a)) fun a => h.sublist List.filter_sublist
theorem sorted_uniq {α : Type} {R : α → α → Prop} (irr : ∀ a, ¬ R a a) (tr : ∀ {a b c}, R a b → R b c → R a c) : ∀ {l m : List α}, l.Pairwise R → m.Pairwise R → (∀ x, x ∈ l ↔ x ∈ m) → l = m
  | [], [], _, _, _ => rfl
  | [], b :: m, _, _, h => nomatch (h b).mpr (List.mem_cons_self ..)
  | a :: l, [], _, _, h => nomatch (h a).mp (List.mem_cons_self ..)
  | a :: l, b :: m, hl, hm, h => by
    obtain ⟨a1, a2⟩ := List.pairwise_cons.mp hl
    obtain ⟨b1, b2⟩ := List.pairwise_cons.mp hm
    have e : a = b := by
      rcases List.mem_cons.mp ((h a).mp (List.mem_cons_self ..)) with e | ha
      · exact e
      · rcases List.mem_cons.mp ((h b).mpr (List.mem_cons_self ..)) with e | hb
        · exact e.symm
        · exact absurd (tr (a1 b hb) (b1 a ha)) (irr a)
    subst e
    have : l = m := sorted_uniq irr tr a2 b2 fun x => by
      constructor
      · intro hx
        rcases List.mem_cons.mp ((h x).mp (List.mem_cons_of_mem _ hx)) with e | hx'
        · subst e; exact absurd (a1 x hx) (irr x)
        · exact hx'
      · intro hx
        rcases List.mem_cons.mp ((h x).mpr (List.mem_cons_of_mem _ hx)) with e | hx'
        · subst e; exact absurd (b1 x hx) (irr x)
        · exact hx'
    rw [this]
def ordO (os : List Str) (ps : List Pr) : Bool := os.all (fun o => decide ((o, o) ∈ ps)) && ps.all fun p => (ps.filter fun r => r.1 == p.2).all fun r => decide ((p.1, r.2) ∈ ps)
theorem ord_iff {os : List Str} {ps : List Pr} : ordO os ps = true ↔ (∀ o ∈ os, (o, o) ∈ ps) ∧ ∀ p ∈ ps, ∀ t, (p.2, t) ∈ ps → (p.1, t) ∈ ps := by
  unfold ordO
  rw [Bool.and_eq_true, List.all_eq_true, List.all_eq_true]
  constructor
  · rintro ⟨h1, h2⟩
    refine ⟨fun o ho => of_decide_eq_true (h1 o ho), fun p hp t ht => ?_⟩
    have := List.all_eq_true.mp (h2 p hp) (p.2, t) (List.mem_filter.mpr ⟨ht, beq_self_eq_true _⟩)
    exact of_decide_eq_true this
  · rintro ⟨h1, h2⟩
    refine ⟨fun o ho => decide_eq_true (h1 o ho), fun p hp => ?_⟩
    rw [List.all_eq_true]
    rintro ⟨s, t⟩ hr
    obtain ⟨hr, e⟩ := List.mem_filter.mp hr
    have e : s = p.2 := eq_of_beq e
    subst e
    exact decide_eq_true (h2 p hp t hr)
theorem ord_cl {os : List Str} {ps : List Pr} (g : Gr os ps) : ordO os ps = true ↔ cl os ps = ps := by
  rw [ord_iff]
  constructor
  · rintro ⟨h1, h2⟩
    refine sorted_uniq ltP_irr ltP_trans (cl_inc ps g.o.inc) g.inc fun p => ?_
    rw [mem_cl]
    constructor
    · rintro ⟨m1, m2, r⟩
      have key : ∀ {t : Str}, Reach ps p.1 t → (p.1, t) ∈ ps := fun r => by
        induction r with
        | refl => exact h1 _ m1
        | step _ hm ih => exact h2 _ ih _ hm
      exact key r
    · intro hp
      obtain ⟨z1, z2⟩ := g.pin p hp
      exact ⟨z1, z2, .step .refl hp⟩
  · intro e
    constructor
    · intro o ho
      rw [← e]
      exact mem_cl.mpr ⟨ho, ho, .refl⟩
    · intro p hp t ht
      rw [← e]
      exact mem_cl.mpr ⟨(g.pin p hp).1, (g.pin _ ht).2, .step (.step .refl hp) ht⟩
theorem nodup_len {α : Type} [DecidableEq α] {l m : List α} (h : l.Nodup) (hs : ∀ x ∈ l, x ∈ m) : l.length ≤ m.length := by
  refine Nat.le_of_not_lt fun c => ?_
  obtain ⟨x, h1, h2⟩ := free_one l m h c
  exact h2 (hs x h1)
theorem inc_nodup {l : List Str} (h : l.Pairwise ltS) : l.Nodup := h.imp (S := fun a b => a ≠ b) fun {a b} h e => ltS_irr a (by subst e; exact h)
theorem incP_nodup {l : List Pr} (h : l.Pairwise ltP) : l.Nodup := h.imp (S := fun a b => a ≠ b) fun {a b} h e => ltP_irr a (by subst e; exact h)
/-- what is met from a, at places looked at -/
structure Met (os : List Str) (ps : List Pr) (a : Str) (n : Nat) (met : List Str) : Prop where
  h0 : a ∈ met
  nd : met.Nodup
  ho : ∀ m ∈ met, m ∈ os
  hr : ∀ m ∈ met, Reach ps a m
  hc : ∀ i m, i < n → met[i]? = some m → ∀ t, (m, t) ∈ ps → t ∈ met
  hn : n ≤ met.length
def newM (ps : List Pr) (m : Str) (met : List Str) : List Str := (ps.filter fun p => (p.1 == m) && !memS met p.2).map (·.2)
theorem Met.go {os : List Str} {ps : List Pr} (g : Gr os ps) {a m : Str} {n : Nat} {met : List Str} (h : Met os ps a n met) (hm : met[n]? = some m) : Met os ps a (n + 1) (met ++ newM ps m met) := by
  have hn := (List.getElem?_eq_some_iff.mp hm).1
  have hmm := List.mem_of_getElem? hm
  have key : ∀ x ∈ newM ps m met, (m, x) ∈ ps ∧ x ∉ met := fun x hx => by
    obtain ⟨p, hp, rfl⟩ := List.mem_map.mp hx
    obtain ⟨h1, h2⟩ := List.mem_filter.mp hp
    rw [Bool.and_eq_true] at h2
    have e : p.1 = m := eq_of_beq h2.1
    refine ⟨by rw [← e]; exact h1, fun z => ?_⟩
    rw [memS_iff.mpr z] at h2
    cases h2.2
  have inc : (newM ps m met).Pairwise ltS := by
    unfold newM
    rw [List.pairwise_map]
    refine (List.Pairwise.and (g.inc.sublist List.filter_sublist) (List.Pairwise.and_mem.mp (g.inc.sublist List.filter_sublist))).imp fun {p q} ⟨h1, hp, hq, _⟩ => ?_
    have e1 : p.1 = m := by
      have := (List.mem_filter.mp hp).2
      rw [Bool.and_eq_true] at this
      exact eq_of_beq this.1
    have e2 : q.1 = m := by
      have := (List.mem_filter.mp hq).2
      rw [Bool.and_eq_true] at this
      exact eq_of_beq this.1
    rcases h1 with h1 | ⟨_, h1⟩
    · rw [e1, e2] at h1
      exact absurd h1 (ltS_irr _)
    · exact h1
  refine ⟨List.mem_append_left _ h.h0, ?_, ?_, ?_, ?_, ?_⟩
  · rw [List.nodup_append]
    exact ⟨h.nd, inc_nodup inc, fun x hx y hy e => (key y hy).2 (e ▸ hx)⟩
  · intro x hx
    rcases List.mem_append.mp hx with hx | hx
    · exact h.ho x hx
    · exact (g.pin _ (key x hx).1).2
  · intro x hx
    rcases List.mem_append.mp hx with hx | hx
    · exact h.hr x hx
    · exact .step (h.hr m hmm) (key x hx).1
  · intro i x hi hx t ht
    have hil : i < met.length := by omega
    rw [List.getElem?_append_left hil] at hx
    by_cases hin : i < n
    · exact List.mem_append_left _ (h.hc i x hin hx t ht)
    · have : i = n := by omega
      subst this
      rw [hm] at hx
      cases hx
      by_cases ht2 : t ∈ met
      · exact List.mem_append_left _ ht2
      · refine List.mem_append_right _ (List.mem_map.mpr ⟨(m, t), List.mem_filter.mpr ⟨ht, ?_⟩, rfl⟩)
        have : memS met t = false := by
          cases e : memS met t
          · rfl
          · exact absurd (memS_iff.mp e) ht2
        simp [this]
  · rw [List.length_append]
    omega
theorem Met.fin {os : List Str} {ps : List Pr} {a : Str} {met : List Str} (h : Met os ps a met.length met) (o : Str) : memS met o = rch ps a o := by
  rw [Bool.eq_iff_iff, memS_iff, rch_iff]
  refine ⟨h.hr o, fun r => ?_⟩
  induction r with
  | refl => exact h.h0
  | step _ hm ih =>
    obtain ⟨i, hi, e⟩ := List.mem_iff_getElem.mp ih
    exact h.hc i _ hi (by rw [List.getElem?_eq_getElem hi, e]) _ hm
theorem Met.len {os : List Str} {ps : List Pr} {a : Str} {n : Nat} {met : List Str} (h : Met os ps a n met) : met.length ≤ os.length := nodup_len h.nd h.ho
end LW

-- U_n13
set_option Elab.async false
set_option linter.all false
set_option maxRecDepth 100000
set_option maxHeartbeats 1000000
set_option exponentiation.threshold 20000
namespace LW
open PySem RX
/-! ### is_ordered -/
def kp (p : Pr) : List L2.Key := [.inr p.1, .inr p.2]
theorem kp_inj {p q : Pr} (h : kp p = kp q) : p = q := by
  unfold kp at h
  simp only [List.cons.injEq, Sum.inr.injEq, and_true] at h
  exact Prod.ext h.1 h.2
theorem keysD_kp (p : Pr) : keysD (kp p) = prD p := rfl
theorem toTK_pr (p : Pr) : toTK (prD p) = some (kp p) := rfl
def dcP (ps : List Pr) : Dc := ps.map fun p => (kp p, .bool true)
theorem at_dcP : ∀ (ps : List Pr) (p : Pr), (atDc (dcP ps) (kp p)).isSome = decide (p ∈ ps)
  | [], p => rfl
  | q :: r, p => by
    have ih := at_dcP r p
    unfold atDc dcP at *
    by_cases h : q = p
    · subst h
      simp
    · have h' : ¬ kp q = kp p := fun e => h (kp_inj e)
      have h2 : ¬ p = q := fun e => h e.symm
      simp only [List.map_cons, List.find?_cons, h', decide_false, List.mem_cons, h2, false_or]
      exact ih
theorem put_dcP {ps : List Pr} {p : Pr} (h : p ∉ ps) : putDc (dcP ps) (kp p) (.bool true) = dcP (ps ++ [p]) := by
  unfold putDc
  have : (dcP ps).any (fun q => decide (q.1 = kp p)) = false := by
    rw [List.any_eq_false]
    intro q hq
    obtain ⟨r, hr, rfl⟩ := List.mem_map.mp hq
    have : ¬ kp r = kp p := fun e => h (kp_inj e ▸ hr)
    simp [this]
  rw [this]
  simp [dcP]
theorem fold_dcP : ∀ (ps qs : List Pr), (qs ++ ps).Nodup → ps.foldl (fun acc p => putDc acc (kp p) (.bool true)) (dcP qs) = dcP (qs ++ ps)
  | [], qs, _ => by simp
  | p :: r, qs, h => by
    have hp : p ∉ qs := fun z => by
      rw [List.nodup_append] at h
      exact h.2.2 p z p (List.mem_cons_self ..) rfl
    rw [List.foldl_cons, put_dcP hp]
    have e : qs ++ p :: r = (qs ++ [p]) ++ r := by simp
    rw [e] at h ⊢
    exact fold_dcP r (qs ++ [p]) h
theorem in_dcP (ps : List Pr) (p : Pr) : cop .isin (.tuple [.str p.1, .str p.2]) (dcD (dcP ps)) = some (decide (p ∈ ps)) := by
  show (asDcL (entD (dcP ps))).bind (fun xs => (toTK (prD p)).map fun k => (atDc xs k).isSome) = _
  rw [asDc_ent, Option.bind_some, toTK_pr, Option.map_some, at_dcP]
theorem items_dcP (ps : List Pr) : items (dcD (dcP ps)) = some (ps.map prD) := by
  show (asDcL (entD (dcP ps))).map (fun xs => xs.map fun p => keysD p.1) = _
  rw [asDc_ent, Option.map_some]
  congr 1
  unfold dcP
  rw [List.map_map]
  rfl
theorem cop_eq_strs {x y : Str} (h : PyData.strOk x = true) (g : PyData.strOk y = true) : cop .eq (.str x) (.str y) = some (x == y) := cop_eq_str h g
theorem ev_are_onward {os : List Str} {ps : List Pr} (g : Gr os ps) {a b : Str} (hb : b ∈ os) : Ev (F_are_onward [dcD (dcP ps), .str a, .str b]) (.bool ((ps.filter fun r => r.1 == b).all fun r => decide ((a, r.2) ∈ ps))) := ev_of fun w => by
  refine wp_D ?_
  unfold B_are_onward
  rw [wp_SL, wp_retS, wp_b1]
  refine wp_compIf prD (fun r : Pr => r.1 == b) (fun r => .bool (decide ((a, r.2) ∈ ps))) ps ?_ ?_ ?_
  · rw [wp_seq, wp_loc]
    exact ⟨_, rfl, _, items_dcP ps, rfl, rfl⟩
  · intro r hr
    obtain ⟨z1, z2⟩ := g.pin r hr
    refine ⟨_, rfl, fun w => ?_, fun _ w => ?_⟩
    · simp only [wp_cmp, wp_loc]
      exact ⟨_, rfl, _, rfl, _, cop_eq_str (g.o.nm _ z1).ok (g.o.nm _ hb).ok, rfl, trivial⟩
    · simp only [wp_cmp, wp_tup, wp_cons, wp_nil, wp_loc]
      exact ⟨_, rfl, _, rfl, sz2, _, rfl, _, in_dcP ps (a, r.2), rfl, trivial⟩
  · exact ⟨_, all_map _ _, rfl, rfl⟩
theorem ev_is_ordered_by {os : List Str} {ps : List Pr} (g : Gr os ps) : Ev (F_is_ordered_by [grD os ps]) (.bool (ordO os ps)) := ev_of fun w => by
  refine wp_D ?_
  unfold B_is_ordered_by
  rw [wp_SL, wp_asg]
  have i1 : idx (grD os ps) (.int 1) = some (.tuple (ps.map prD)) := rfl
  have i0 : idx (grD os ps) (.int 0) = some (.tuple (os.map .str)) := rfl
  refine wp_dcompF prD kp (fun _ => .bool true) ps ?_ ?_ ?_ ?_
  · simp only [wp_seq, wp_idx, wp_loc, wp_glb]
    exact ⟨_, rfl, _, rfl, _, i1, _, rfl, rfl, trivial⟩
  · intro p hp
    refine ⟨_, rfl, fun w => ?_, fun w => ?_⟩
    · rw [wp_loc]
      exact ⟨_, rfl, rfl, rfl⟩
    · rw [wp_cst]
      exact ⟨rfl, rfl⟩
  · exact fun p _ => toTK_pr p
  · have ef : ps.foldl (fun acc p => putDc acc (kp p) (.bool true)) [] = dcP ps := fold_dcP ps [] (incP_nodup g.inc)
    rw [ef]
    show Wp _ _ _
    rw [wp_SL, wp_iteS, wp_not, wp_b1]
    refine wp_compF PyData.str (fun o => .bool (decide ((o, o) ∈ ps))) os ?_ ?_ ?_
    · simp only [wp_seq, wp_idx, wp_loc, wp_glb]
      exact ⟨_, rfl, _, rfl, _, i0, _, rfl, rfl, trivial⟩
    · intro o ho
      refine ⟨_, rfl, fun w => ?_⟩
      simp only [wp_cmp, wp_tup, wp_cons, wp_nil, wp_loc]
      exact ⟨_, rfl, _, rfl, sz2, _, rfl, _, in_dcP ps (o, o), rfl, trivial⟩
    · refine ⟨_, all_map _ _, _, rfl, _, rfl, ?_⟩
      cases e : os.all fun o => decide ((o, o) ∈ ps)
      · rw [if_pos (show (!false) = true from rfl), wp_SL, wp_retS, wp_cst]
        refine ⟨?_, rfl⟩
        unfold ordO
        rw [e]
        rfl
      · rw [if_neg (by decide), wp_SLnil]
        show Wp _ _ _
        rw [wp_SL, wp_retS, wp_b1]
        refine wp_compF prD (fun p : Pr => .bool ((ps.filter fun r => r.1 == p.2).all fun r => decide ((p.1, r.2) ∈ ps))) ps ?_ ?_ ?_
        · rw [wp_seq, wp_loc]
          exact ⟨_, rfl, _, items_dcP ps, rfl, rfl⟩
        · intro p hp
          refine ⟨_, rfl, fun w => ?_⟩
          rw [wp_call]
          simp only [wp_cons, wp_nil, wp_loc]
          exact ⟨_, rfl, _, rfl, _, rfl, wp_ev (ev_are_onward g (g.pin p hp).2) ⟨rfl, trivial⟩⟩
        · refine ⟨_, all_map _ _, ?_, rfl⟩
          unfold ordO
          rw [e, Bool.true_and]
theorem ev_is_ordered {os : List Str} {ps : List Pr} (g : Gr os ps) : Ev (F_is_ordered [grD os ps]) (.bool (ordO os ps)) := ev_of fun w => by
  refine wp_D ?_
  unfold B_is_ordered
  rw [wp_SL, wp_expr, wp_call]
  simp only [wp_cons, wp_nil, wp_loc]
  refine ⟨_, rfl, ?_⟩
  have ck : Ev (F_check_ground [grD os ps]) .none := ev_of fun w => by
    refine wp_D ?_
    unfold B_check_ground
    rw [wp_SL, wp_iteS, wp_not, wp_call]
    simp only [wp_cons, wp_nil, wp_loc]
    refine ⟨_, rfl, wp_ev (ev_is_ground_by _ g.dom) ?_⟩
    rw [g.isG]
    refine ⟨_, rfl, _, rfl, ?_⟩
    rw [if_neg (by decide), wp_SLnil]
    show Wp _ _ _
    rw [wp_SLnil]
    exact ⟨trivial, rfl⟩
  refine wp_ev ck ?_
  show Wp _ _ _
  rw [wp_SL, wp_retS, wp_call]
  simp only [wp_cons, wp_nil, wp_loc]
  exact ⟨_, rfl, wp_ev (ev_is_ordered_by g) ⟨rfl, rfl⟩⟩
/-! ### the law's closed ground -/
def clBody : SL := .cons (.asg false 4 (.bin .add (.loc 4) (.comp [7, 6] (.seq (.idx (.loc 0) (.cst (.int 1)))) true (.and (.cmp .eq (.loc 7) (.idx (.loc 4) (.loc 5))) (.cmp .notin (.loc 6) (.loc 4))) (.loc 6)))) (.cons (.asg false 5 (.bin .add (.loc 5) (.cst (.int 1)))) .nil)
theorem strs_app (a b : List Str) : a.map PyData.str ++ b.map PyData.str = (a ++ b).map PyData.str := by simp
theorem cl_while {os : List Str} {ps : List Pr} (g : Gr os ps) {a : Str} (ha : a ∈ os) {found : List Pr} {w : W} {Q : Out → W → Prop}
    (q : ∀ met, (∀ o, memS met o = rch ps a o) → (∀ m ∈ met, m ∈ os) → Q (.next [some (false, grD os ps), some (false, .str a), some (false, .tuple (os.map .str)), some (false, .list (found.map prD)), some (false, .list (met.map .str)), some (false, .int (met.length : Nat)), none, none]) w) :
    Wp (evS C_law_closed (.whl 18446744073709551616 (.cmp .lt (.loc 5) (.b1 .len (.loc 4))) clBody) [some (false, grD os ps), some (false, .str a), some (false, .tuple (os.map .str)), some (false, .list (found.map prD)), some (false, .list [.str a]), some (false, .int 0), none, none]) w Q := by
  refine wp_whl (fun k ρ w' => w' = w ∧ ∃ (n : Nat) (met : List Str), Met os ps a n met ∧ k = 11 - n ∧ ρ = [some (false, grD os ps), some (false, .str a), some (false, .tuple (os.map .str)), some (false, .list (found.map prD)), some (false, .list (met.map .str)), some (false, .int (n : Int)), none, none]) ?_ _ 11 _ _ (by decide) ⟨rfl, 0, [a], ?_, rfl, rfl⟩
  · rintro k ρ w' ⟨rfl, n, met, hm, rfl, rfl⟩
    have h10 := g.o.le
    have hl := hm.len
    simp only [wp_cmp, wp_b1, wp_loc]
    refine ⟨_, rfl, _, rfl, _, rfl, _, rfl, _, rfl, ?_⟩
    rw [List.length_map]
    by_cases hn : n < met.length
    · rw [if_pos (by simp; omega)]
      unfold clBody
      obtain ⟨m, hmn⟩ : ∃ m, met[n]? = some m := ⟨_, List.getElem?_eq_getElem hn⟩
      have mm := List.mem_of_getElem? hmn
      have mo := (g.o.nm _ (hm.ho m mm)).ok
      have im : idx (.list (met.map .str)) (.int (n : Int)) = some (.str m) := idx_at0 (by rw [List.getElem?_map, hmn]; rfl)
      rw [wp_SL, wp_asg, wp_bin]
      simp only [wp_loc]
      refine ⟨_, rfl, ?_⟩
      refine wp_compIf prD (fun p : Pr => (p.1 == m) && !memS met p.2) (fun p => .str p.2) ps ?_ ?_ ?_
      · simp only [wp_seq, wp_idx, wp_loc, wp_cst]
        exact ⟨_, rfl, _, rfl, _, rfl, rfl, trivial⟩
      · intro p hp
        obtain ⟨z1, z2⟩ := g.pin p hp
        have i2 := inD_strs (ns := met) (fun y hy => (g.o.nm y (hm.ho y hy)).ok) (g.o.nm _ z2).ok
        have i3 : cop .notin (.str p.2) (.list (met.map .str)) = some (!memS met p.2) := by
          show Option.map _ (inD _ _) = _
          rw [i2]
          rfl
        refine ⟨_, rfl, fun w => ?_, fun _ w => ?_⟩
        · rw [wp_and]
          simp only [wp_cmp, wp_idx, wp_loc]
          refine ⟨_, rfl, _, rfl, _, rfl, _, im, _, cop_eq_str (g.o.nm _ z1).ok mo, _, rfl, ?_⟩
          cases p.1 == m
          · rw [if_neg Bool.false_ne_true]
            exact ⟨rfl, trivial⟩
          · rw [if_pos rfl]
            exact ⟨_, rfl, _, rfl, _, i3, rfl, trivial⟩
        · rw [wp_loc]
          exact ⟨_, rfl, rfl, rfl⟩
      · have e : (ps.filter fun p : Pr => (p.1 == m) && !memS met p.2).map (fun p => PyData.str p.2) = (newM ps m met).map .str := by
          unfold newM
          rw [List.map_map]
          rfl
        rw [e]
        have next := hm.go g hmn
        have nl := next.len
        rw [List.length_append] at nl
        refine ⟨_, add_lst (by rw [List.length_map, List.length_map]; omega), ?_⟩
        rw [strs_app]
        show Wp _ _ _
        rw [wp_SL, wp_asg]
        simp only [wp_bin, wp_loc, wp_cst]
        refine ⟨_, rfl, _, rfl, ?_⟩
        show Wp _ _ _
        rw [wp_SLnil]
        exact ⟨11 - (n + 1), by omega, rfl, n + 1, _, next, rfl, by simp⟩
    · rw [if_neg (by simp; omega)]
      have e : n = met.length := by have := hm.hn; omega
      subst e
      exact q met hm.fin hm.ho
  · exact ⟨List.mem_singleton.mpr rfl, by simp, fun m hm => by rw [List.mem_singleton.mp hm]; exact ha, fun m hm => by rw [List.mem_singleton.mp hm]; exact .refl, fun i m hi => absurd hi (Nat.not_lt_zero _), Nat.zero_le _⟩
theorem row_len (os : List Str) (ps : List Pr) (a : Str) : (rowC os ps a).length ≤ os.length := by
  unfold rowC
  rw [List.length_map]
  exact List.length_filter_le _ _
theorem flat_len {os : List Str} {ps : List Pr} : ∀ l : List Str, (l.flatMap (rowC os ps)).length ≤ l.length * os.length
  | [] => by simp
  | a :: r => by
    rw [List.flatMap_cons, List.length_append, List.length_cons, Nat.add_mul, Nat.one_mul]
    have := row_len os ps a
    have := flat_len (os := os) (ps := ps) r
    omega
theorem ev_closed {os : List Str} {ps : List Pr} (g : Gr os ps) : Ev (F_law_closed [grD os ps]) (grD os (cl os ps)) := ev_of fun w => by
  refine wp_D ?_
  rw [show B_law_closed = .cons (.par false [2, 3] (.cons (.idx (.loc 0) (.cst (.int 0))) (.cons (.lst .nil) .nil))) (.cons (.for [1] (.seq (.loc 2)) (.cons (.asgT false [4, 5] (.tup (.cons (.lst (.cons (.loc 1) .nil)) (.cons (.cst (.int 0)) .nil)))) (.cons (.whl 18446744073709551616 (.cmp .lt (.loc 5) (.b1 .len (.loc 4))) clBody) (.cons (.asg false 3 (.bin .add (.loc 3) (.comp [6] (.seq (.loc 2)) true (.cmp .isin (.loc 6) (.loc 4)) (.tup (.cons (.loc 1) (.cons (.loc 6) .nil)))))) .nil)))) (.cons (.ret (.tup (.cons (.loc 2) (.cons (.b1 .tuple (.loc 3)) .nil)))) .nil)) from rfl]
  have h10 := g.o.le
  rw [wp_SL, wp_par]
  simp only [wp_cons, wp_nil, wp_idx, wp_loc, wp_cst, wp_lst]
  refine ⟨_, rfl, _, rfl, by decide, _, rfl, ?_⟩
  show Wp _ _ _
  rw [wp_SL]
  refine wp_forL PyData.str os (fun i ρ w' => w' = w ∧ ∃ x1 x4 x5 : Option (Bool × D), ρ = [some (false, grD os ps), x1, some (false, .tuple (os.map .str)), some (false, .list (((os.take i).flatMap (rowC os ps)).map prD)), x4, x5, none, none]) ?_ ?_ ?_
  · rw [wp_seq, wp_loc]
    exact ⟨_, rfl, _, rfl, rfl, rfl, none, none, none, rfl⟩
  · rintro i a ρ w' ha ⟨rfl, x1, x4, x5, rfl⟩
    have hi := (List.getElem?_eq_some_iff.mp ha).1
    refine ⟨_, rfl, ?_⟩
    rw [wp_SL, wp_asgT, wp_tup]
    simp only [wp_cons, wp_nil, wp_lst, wp_loc, wp_cst]
    refine ⟨_, rfl, by show 1 ≤ sizeLine; decide, sz2, _, rfl, _, rfl, ?_⟩
    show Wp _ _ _
    rw [wp_SL]
    refine cl_while g (List.mem_of_getElem? ha) fun met hm hmo => ?_
    show Wp _ _ _
    rw [wp_SL, wp_asg, wp_bin]
    simp only [wp_loc]
    refine ⟨_, rfl, ?_⟩
    refine wp_compIf PyData.str (rch ps a) (fun o => .tuple [.str a, .str o]) os ?_ ?_ ?_
    · rw [wp_seq, wp_loc]
      exact ⟨_, rfl, _, rfl, rfl, rfl⟩
    · intro o ho
      have i2 := inD_strs (ns := met) (fun y hy => (g.o.nm y (hmo y hy)).ok) (g.o.nm _ ho).ok
      rw [hm o] at i2
      refine ⟨_, rfl, fun w => ?_, fun _ w => ?_⟩
      · simp only [wp_cmp, wp_loc]
        exact ⟨_, rfl, _, rfl, _, i2, rfl, trivial⟩
      · simp only [wp_tup, wp_cons, wp_nil, wp_loc]
        exact ⟨_, rfl, _, rfl, sz2, rfl, trivial⟩
    · have e : (os.filter (rch ps a)).map (fun o => PyData.tuple [.str a, .str o]) = (rowC os ps a).map prD := by
        unfold rowC
        rw [List.map_map]
        rfl
      rw [e]
      have l1 := flat_len (os := os) (ps := ps) (os.take i)
      have l2 := row_len os ps a
      have l3 : (os.take i).length * os.length ≤ 10 * 10 := Nat.mul_le_mul (by rw [List.length_take]; omega) h10
      refine ⟨_, add_lst (by rw [List.length_map, List.length_map]; omega), ?_⟩
      show Wp _ _ _
      rw [wp_SLnil]
      have e2 : (os.take (i + 1)).flatMap (rowC os ps) = (os.take i).flatMap (rowC os ps) ++ rowC os ps a := by
        rw [List.take_add_one, ha, List.flatMap_append]
        simp
      refine ⟨rfl, some (false, .str a), some (false, .list (met.map .str)), some (false, .int (met.length : Nat)), ?_⟩
      rw [e2, List.map_append]
      rfl
  · rintro ρ w' ⟨rfl, x1, x4, x5, rfl⟩
    rw [List.take_length]
    show Wp _ _ _
    rw [wp_SL, wp_retS, wp_tup]
    simp only [wp_cons, wp_nil, wp_b1, wp_loc]
    exact ⟨_, rfl, _, rfl, _, rfl, sz2, rfl, rfl⟩
end LW

-- U_n14
set_option Elab.async false
set_option linter.all false
set_option maxRecDepth 100000
set_option maxHeartbeats 1000000
set_option exponentiation.threshold 20000
namespace LW
open PySem RX
/-! ### sameness; the law -/
theorem same_str {n : Nat} {x : Str} (h : PyData.strOk x = true) : Ev (Fr_law_same (n + 1) [.str x, .str x]) (.bool true) := ev_of fun w => by
  rw [Fr_law_same_succ]
  refine wp_D ?_
  unfold B_law_same
  have e : cop .eq (.str x) (.str x) = some true := by rw [cop_eq_str h h, beq_self_eq_true]
  rw [wp_SL, wp_iteS, wp_isi, wp_loc]
  refine ⟨_, rfl, _, rfl, _, rfl, ?_⟩
  rw [if_neg (by show ¬ (false = true); decide), wp_SLnil]
  show Wp _ _ _
  rw [wp_SL, wp_iteS, wp_or]
  simp only [wp_isi, wp_loc]
  refine ⟨_, rfl, _, rfl, _, rfl, ?_⟩
  rw [if_neg (by show ¬ (false = true); decide)]
  refine ⟨_, rfl, _, rfl, _, rfl, ?_⟩
  rw [if_neg (by show ¬ (false = true); decide), wp_SLnil]
  show Wp _ _ _
  rw [wp_SL, wp_retS, wp_and]
  simp only [wp_and, wp_cmp, wp_isi, wp_loc]
  refine ⟨_, rfl, _, rfl, _, rfl, _, rfl, _, cop_eq_bool, _, rfl, ?_⟩
  rw [if_pos (by show true = true; rfl)]
  refine ⟨_, rfl, _, rfl, _, rfl, _, rfl, _, cop_eq_bool, _, rfl, ?_⟩
  rw [if_pos (by show true = true; rfl)]
  exact ⟨_, rfl, _, rfl, _, e, rfl, rfl⟩
theorem same_tup {n : Nat} {xs : List D} (hl : xs.length ≤ 1000) (h : ∀ d ∈ xs, Ev (Fr_law_same n [d, d]) (.bool true)) : Ev (Fr_law_same (n + 1) [.tuple xs, .tuple xs]) (.bool true) := ev_of fun w => by
  rw [Fr_law_same_succ]
  refine wp_D ?_
  unfold B_law_same
  rw [wp_SL, wp_iteS, wp_isi, wp_loc]
  refine ⟨_, rfl, _, rfl, _, rfl, ?_⟩
  rw [if_pos (by show true = true; rfl), wp_SL, wp_retS, wp_and]
  simp only [wp_and, wp_cmp, wp_isi, wp_b1, wp_loc]
  refine ⟨_, rfl, _, rfl, _, rfl, ?_⟩
  rw [if_pos (by show true = true; rfl)]
  refine ⟨_, rfl, _, rfl, _, rfl, _, rfl, _, cop_eq_int, _, rfl, ?_⟩
  rw [if_pos (by simp)]
  refine wp_compIf (fun k : Nat => (.int (k : Int) : D)) (fun _ => false) (fun k => .int (k : Int)) (List.range xs.length) ?_ ?_ ?_
  · simp only [wp_rng, wp_b1, wp_loc]
    exact ⟨_, rfl, _, rfl, _, rfl, _, range0 (i := (xs.length : Int)) (n := xs.length) (by omega) (by omega) (by omega), rfl, trivial⟩
  · intro k hk
    have hk := List.mem_range.mp hk
    have ik := ixT hk
    refine ⟨_, rfl, fun w => ?_, fun z => nomatch z⟩
    simp only [wp_not, wp_call, wp_cons, wp_nil, wp_idx, wp_loc]
    refine ⟨_, rfl, _, rfl, _, ik, _, rfl, _, rfl, _, ik, ?_⟩
    exact wp_ev (h _ (atD_mem hk)) ⟨_, rfl, rfl, trivial⟩
  · simp only [wp_lst, wp_nil]
    rw [show (List.range xs.length).filter (fun _ => false) = [] from by simp]
    exact ⟨by decide, _, (by decide +kernel : cop .eq (.list []) (.list []) = some true), rfl, rfl⟩
theorem Gr.same {os : List Str} {ps : List Pr} (g : Gr os ps) : Ev (F_law_same [grD os ps, grD os ps]) (.bool true) := by
  have h10 := g.o.le
  have h100 := g.len
  refine same_tup (n := 4) (by show 2 ≤ 1000; decide) fun d hd => ?_
  rcases List.mem_cons.mp hd with rfl | hd
  · refine same_tup (n := 3) (by rw [List.length_map]; omega) fun d hd => ?_
    obtain ⟨x, hx, rfl⟩ := List.mem_map.mp hd
    exact same_str (g.o.nm x hx).ok
  · rw [List.mem_singleton.mp hd]
    refine same_tup (n := 3) (by rw [List.length_map]; omega) fun d hd => ?_
    obtain ⟨p, hp, rfl⟩ := List.mem_map.mp hd
    obtain ⟨z1, z2⟩ := g.pin p hp
    refine same_tup (n := 2) (by show 2 ≤ 1000; decide) fun d hd => ?_
    rcases List.mem_cons.mp hd with rfl | hd
    · exact same_str (g.o.nm _ z1).ok
    · rw [List.mem_singleton.mp hd]
      exact same_str (g.o.nm _ z2).ok
theorem ev_tells (a b : Bool) : Ev (F_law_tells [.bool a, .bool b]) (.bool (a == b)) := ev_of fun w => by
  refine wp_D ?_
  unfold B_law_tells
  rw [wp_SL, wp_retS, wp_iteE]
  simp only [wp_cmp, wp_loc, wp_cst]
  refine ⟨_, rfl, _, rfl, ?_⟩
  cases b
  · rw [if_neg (by decide)]
    refine ⟨_, rfl, _, rfl, ?_, rfl⟩
    cases a <;> rfl
  · rw [if_pos rfl]
    refine ⟨_, rfl, _, rfl, ?_, rfl⟩
    cases a <;> rfl
theorem eqv_pr (p q : Pr) : PyData.eqv (prD p) (prD q) = decide (p = q) := by
  unfold prD
  simp only [PyData.eqv, PyData.eqvAll, Bool.and_true]
  rw [Bool.eq_iff_iff, decide_eq_true_iff, Bool.and_eq_true, beq_iff_eq, beq_iff_eq, Prod.ext_iff]
theorem eqvAll_prs : ∀ l m : List Pr, PyData.eqvAll (l.map prD) (m.map prD) = decide (l = m)
  | [], [] => by simp [PyData.eqvAll]
  | [], _ :: _ => by simp [PyData.eqvAll]
  | _ :: _, [] => by simp [PyData.eqvAll]
  | p :: l, q :: m => by
    rw [List.map_cons, List.map_cons]
    unfold PyData.eqvAll
    rw [eqv_pr, eqvAll_prs l m, Bool.eq_iff_iff, decide_eq_true_iff, Bool.and_eq_true, decide_eq_true_iff, decide_eq_true_iff, List.cons.injEq]
theorem eqvAll_strs : ∀ l : List Str, PyData.eqvAll (l.map .str) (l.map .str) = true
  | [] => by simp [PyData.eqvAll]
  | p :: l => by
    rw [List.map_cons]
    unfold PyData.eqvAll
    rw [eqv_str, eqvAll_strs l, beq_self_eq_true]
    rfl
theorem two_sd {n : Nat} {a b : D} (h1 : Sd n a) (h2 : Sd n b) : Sd (n + 1) (.tuple [a, b]) := sd_tup.mpr fun d hd => by
  rcases List.mem_cons.mp hd with rfl | hd
  · exact h1
  · rw [List.mem_singleton.mp hd]; exact h2
theorem cl_eq {os : List Str} {ps : List Pr} (g : Gr os ps) : cop .eq (grD os (cl os ps)) (grD os ps) = some (ordO os ps) := by
  have s1 : SeqAt.shaped (grD os ps) = true := (two_sd (sd_tup.mpr (Os.sd g.o.nm)) (sd_tup.mpr g.sdp) : Sd 3 _).sh (by decide)
  have s2 : SeqAt.shaped (grD os (cl os ps)) = true := (two_sd (sd_tup.mpr (Os.sd g.o.nm)) (sd_tup.mpr fun d hd => by
    obtain ⟨p, hp, rfl⟩ := List.mem_map.mp hd
    obtain ⟨z1, z2, _⟩ := mem_cl.mp hp
    exact sd_pr (g.o.nm _ z1).ok (g.o.nm _ z2).ok) : Sd 3 _).sh (by decide)
  have e : (if RX.shaped (grD os (cl os ps)) && RX.shaped (grD os ps) then some (PyData.eqv (grD os (cl os ps)) (grD os ps)) else eqNil (grD os (cl os ps)) (grD os ps)) = some (PyData.eqv (grD os (cl os ps)) (grD os ps)) := by
    rw [if_pos]
    rw [Bool.and_eq_true]
    exact ⟨s2, s1⟩
  refine (show cop .eq (grD os (cl os ps)) (grD os ps) = _ from e).trans ?_
  unfold grD
  simp only [PyData.eqv, PyData.eqvAll, Bool.and_true, eqvAll_strs, eqvAll_prs, Bool.true_and]
  congr 1
  rw [Bool.eq_iff_iff, decide_eq_true_iff, ord_cl g]
def lts : List Str := ("abcdefghijk" : Str).cps.toList.map fun c => ("ab" : Str) ++ sgn c
def l10 : List Str := lts.take 10
theorem os10 : Os l10 := ⟨by decide +kernel, by decide +kernel, by decide +kernel, by decide +kernel⟩
def ev10 : List Pr := l10.flatMap fun a => l10.map fun o => (a, o)
theorem gr10 : Gr l10 ev10 := by
  refine ⟨os10, fun p hp => ?_, rows_inc os10.inc (fun _ => l10) fun _ => os10.inc, by decide +kernel⟩
  obtain ⟨a, ha, hp⟩ := List.mem_flatMap.mp hp
  obtain ⟨o, ho, rfl⟩ := List.mem_map.mp hp
  exact ⟨ha, ho⟩
theorem lts_ok : ∀ x ∈ lts, PyData.strOk x = true := by decide +kernel
theorem cut_take {l : List D} {k : Nat} (h : k ≤ l.length) : cutD l none (some (k : Int)) = l.take k := by
  unfold cutD
  have e1 : HT.sIx l.length 0 none = 0 := rfl
  have e2 : HT.sIx l.length l.length (some (k : Int)) = k := by
    unfold HT.sIx
    simp only []
    split <;> omega
  rw [e1, e2]
  simp
theorem isG_11 : isG (.tuple [.tuple (lts.map .str), .tuple []]) = false := by decide +kernel
theorem isG_rev : isG (.tuple [.tuple (l10.map .str), .tuple (ev10.map prD).reverse]) = false := by decide +kernel
theorem isG_a1 : isG (.tuple [.tuple [.str "a"], .tuple [.tuple [.str "a", .str "a"]]]) = true := by decide +kernel
theorem isG_a2 : isG (.tuple [.tuple [.str "b", .str "a"], .tuple []]) = false := by decide +kernel
theorem isG_a3 : isG (.tuple [.tuple [.str "a", .str "a"], .tuple []]) = false := by decide +kernel
theorem isG_nil {os : List Str} (o : Os os) : isG (.tuple [.tuple (os.map .str), .tuple []]) = true := by
  show (outsB _ && pairsB _ _) = true
  rw [o.outs]
  rfl
end LW

-- U_n15
set_option Elab.async false
set_option linter.all false
set_option maxRecDepth 100000
set_option maxHeartbeats 1000000
set_option exponentiation.threshold 20000
namespace LW
open PySem RX
/-! ### the law's tail -/
theorem ne_nilT {l : List D} (h : SeqAt.shaped (.tuple l) = true) : cop .ne (.tuple l) (.tuple []) = some (!decide (l = [])) := by
  have e : (if RX.shaped (.tuple l) && RX.shaped (.tuple []) then some (!PyData.eqv (.tuple l) (.tuple [])) else none) = some (!PyData.eqv (.tuple l) (.tuple [])) := by
    rw [if_pos]
    rw [Bool.and_eq_true]
    exact ⟨h, by decide +kernel⟩
  refine (show cop .ne (.tuple l) (.tuple []) = _ from e).trans ?_
  cases l <;> simp [PyData.eqv, PyData.eqvAll]
def tailA : SL := (.cons (.asg false 2 (.b1 .tuple (.comp [10] (.seq (.cst (.str "abcdefghijk"))) false (.cst .none) (.bin .add (.cst (.str "ab")) (.loc 10))))) (.cons (.asg false 3 (.tup .nil)) (.cons (.for [4] (.seq (.slc false true (.loc 2) (.cst .none) (.cst (.int 10)))) (.cons (.asg false 3 (.bin .add (.loc 3) (.b1 .tuple (.comp [11] (.seq (.slc false true (.loc 2) (.cst .none) (.cst (.int 10)))) false (.cst .none) (.tup (.cons (.loc 4) (.cons (.loc 11) .nil))))))) .nil)) (.cons (.ite (.or (.cmp .isnot (.call false 2 (.cons (.tup (.cons (.slc false true (.loc 2) (.cst .none) (.cst (.int 10))) (.cons (.loc 3) .nil))) .nil) []) (.cst (.bool true))) (.or (.cmp .isnot (.call false 2 (.cons (.tup (.cons (.loc 2) (.cons (.tup .nil) .nil))) .nil) []) (.cst (.bool false))) (.cmp .isnot (.call false 2 (.cons (.tup (.cons (.slc false true (.loc 2) (.cst .none) (.cst (.int 10))) (.cons (.rev (.loc 3)) .nil))) .nil) []) (.cst (.bool false))))) (.cons (.ret (.cst (.bool false))) .nil) .nil) (.cons (.ret (.and (.cmp .is (.call false 2 (.cons (.tup (.cons (.tup (.cons (.cst (.str "a")) .nil)) (.cons (.tup (.cons (.tup (.cons (.cst (.str "a")) (.cons (.cst (.str "a")) .nil))) .nil)) .nil))) .nil) []) (.cst (.bool true))) (.and (.cmp .is (.call false 2 (.cons (.tup (.cons (.tup (.cons (.cst (.str "b")) (.cons (.cst (.str "a")) .nil))) (.cons (.tup .nil) .nil))) .nil) []) (.cst (.bool false))) (.cmp .is (.call false 2 (.cons (.tup (.cons (.tup (.cons (.cst (.str "a")) (.cons (.cst (.str "a")) .nil))) (.cons (.tup .nil) .nil))) .nil) []) (.cst (.bool false)))))) .nil)))))
def evr (i : Nat) : List Pr := (l10.take i).flatMap fun a => l10.map fun o => (a, o)
theorem evr_len (i : Nat) : (evr i).length ≤ 100 := by
  unfold evr
  have : ∀ l : List Str, (l.flatMap fun a => l10.map fun o => (a, o)).length = l.length * 10 := fun l => by
    induction l with
    | nil => rfl
    | cons x r ih =>
      rw [List.flatMap_cons, List.length_append, ih, List.length_map, List.length_cons]
      have : l10.length = 10 := rfl
      omega
  rw [this, List.length_take]
  have : l10.length = 10 := rfl
  omega
theorem lts_map : ("abcdefghijk" : Str).cps.toList.map (fun c => PyData.str (("ab" : Str) ++ sgn c)) = lts.map PyData.str := by
  unfold lts
  rw [List.map_map]
  rfl
theorem gi {d : D} {b : Bool} (h : Dom d) (e : isG d = b) {Q : D → Prop} (q : Q (.bool b)) : Wp (fnAt C_law_right 2 [d]) [] fun d _ => Q d := wp_ev (e ▸ ev_is_ground d h) q
theorem strs3 {l : List Str} (h : ∀ x ∈ l, PyData.strOk x = true) : Sd 39 (.tuple (l.map .str)) := sd_tup.mpr (sd_strs h)
theorem tail_ok {a1 a5 a6 a7 a8 : Option (Bool × D)} {w : W} : Wp (evSL C_law_right tailA [none, a1, none, none, none, a5, a6, a7, a8, none, none, none]) w fun o _ => o = .ret (.bool true) := by
  have c10 : ∀ {l : List D}, l = lts.map PyData.str → slc (.tuple l) none (some 10) = some (.tuple (l10.map .str)) := fun {l} h => by
    subst h
    show some (PyData.tuple (cutD (lts.map PyData.str) none (some (10 : Nat)))) = _
    rw [cut_take (by decide), ← List.map_take]
    rfl
  unfold tailA
  rw [wp_SL, wp_asg, wp_b1]
  refine wp_compF (fun c : Nat => .str (sgn c)) (fun c => .str (("ab" : Str) ++ sgn c)) ("abcdefghijk" : Str).cps.toList ?_ ?_ ?_
  · simp only [wp_seq, wp_cst]
    exact ⟨_, rfl, rfl, trivial⟩
  · intro c _
    refine ⟨_, rfl, fun w => ?_⟩
    simp only [wp_bin, wp_cst, wp_loc]
    exact ⟨_, rfl, _, rfl, rfl, trivial⟩
  refine ⟨_, rfl, ?_⟩
  rw [lts_map]
  show Wp _ _ _
  rw [wp_SL, wp_asg, wp_tup, wp_nil]
  refine ⟨by decide, ?_⟩
  show Wp _ _ _
  rw [wp_SL]
  refine wp_forL PyData.str l10 (fun i ρ _ => ∃ a4, ρ = [none, a1, some (false, .tuple (lts.map .str)), some (false, .tuple ((evr i).map prD)), a4, a5, a6, a7, a8, none, none, none]) ?_ ?_ ?_
  · simp only [wp_seq, wp_slcT, wp_loc, wp_cst]
    exact ⟨_, rfl, _, rfl, _, c10 rfl, _, rfl, rfl, _, rfl⟩
  · rintro i a ρ w hi ⟨a4, rfl⟩
    refine ⟨_, rfl, ?_⟩
    show Wp _ _ _
    rw [wp_SL, wp_asg, wp_bin, wp_loc]
    refine ⟨_, rfl, ?_⟩
    rw [wp_b1]
    refine wp_compF PyData.str (fun o => .tuple [.str a, .str o]) l10 ?_ ?_ ?_
    · simp only [wp_seq, wp_slcT, wp_loc, wp_cst]
      exact ⟨_, rfl, _, rfl, _, c10 rfl, _, rfl, rfl, trivial⟩
    · intro o _
      refine ⟨_, rfl, fun w => ?_⟩
      simp only [wp_tup, wp_cons, wp_nil, wp_loc]
      exact ⟨_, rfl, _, rfl, sz2, rfl, trivial⟩
    have hl := evr_len i
    refine ⟨_, rfl, _, add_tup (by rw [List.length_map, List.length_map]; have : l10.length = 10 := rfl; omega), ?_⟩
    rw [prs_app]
    have es : evr i ++ l10.map (fun b => (a, b)) = evr (i + 1) := by
      unfold evr
      rw [List.take_add_one, hi, List.flatMap_append]
      simp
    rw [es]
    show Wp _ _ _
    rw [wp_SLnil]
    exact ⟨_, rfl⟩
  · rintro ρ w ⟨a4, rfl⟩
    show Wp _ _ _
    have e10 : evr l10.length = ev10 := by
      unfold evr ev10
      rw [List.take_length]
    rw [e10]
    have d1 : Dom (.tuple [.tuple (lts.map .str), .tuple []]) := dom2t (strs3 lts_ok) (fun d hd => nomatch hd) (by decide)
    have d2 : Dom (.tuple [.tuple (l10.map .str), .tuple (ev10.map prD).reverse]) := dom2t (sd_tup.mpr (Os.sd gr10.o.nm)) (fun d hd => gr10.sdp d (List.mem_reverse.mp hd)) (by rw [List.length_reverse, List.length_map]; have := gr10.len; omega)
    have s1 : ∀ {x : Str}, x = "a" ∨ x = "b" → PyData.strOk x = true := by rintro x (rfl | rfl) <;> decide +kernel
    have d3 : Dom (.tuple [.tuple [.str "a"], .tuple [.tuple [.str "a", .str "a"]]]) := dom2t (sd_tup.mpr fun d hd => by rw [List.mem_singleton.mp hd]; exact sd_str.mpr (s1 (.inl rfl))) (fun d hd => by
      rw [List.mem_singleton.mp hd]
      exact two_sd (sd_str.mpr (s1 (.inl rfl))) (sd_str.mpr (s1 (.inl rfl)))) (by decide)
    have d4 : ∀ x : Str, x = "a" ∨ x = "b" → Dom (.tuple [.tuple [.str x, .str "a"], .tuple []]) := fun x h => dom2t (two_sd (sd_str.mpr (s1 h)) (sd_str.mpr (s1 (.inl rfl)))) (fun d hd => nomatch hd) (by decide)
    rw [wp_SL, wp_iteS, wp_or]
    simp only [wp_or, wp_cmp, wp_call, wp_cons, wp_nil, wp_tup, wp_slcT, wp_rev, wp_loc, wp_cst]
    refine ⟨_, rfl, _, rfl, _, c10 rfl, _, rfl, sz2, gi (gr10.dom) gr10.isG ⟨_, rfl, _, rfl, ?_⟩⟩
    rw [if_neg (by decide)]
    refine ⟨_, rfl, by decide, sz2, gi d1 isG_11 ⟨_, rfl, _, rfl, ?_⟩⟩
    rw [if_neg (by decide)]
    refine ⟨_, rfl, _, rfl, _, c10 rfl, _, rfl, _, rfl, sz2, gi d2 isG_rev ⟨_, rfl, _, rfl, ?_⟩⟩
    rw [if_neg (by decide), wp_SLnil]
    show Wp _ _ _
    rw [wp_SL, wp_retS, wp_and]
    simp only [wp_and, wp_cmp, wp_call, wp_cons, wp_nil, wp_tup, wp_cst]
    refine ⟨by decide, sz2, by decide, sz2, gi d3 isG_a1 ⟨_, rfl, _, rfl, ?_⟩⟩
    rw [if_pos (by decide)]
    refine ⟨sz2, by decide, sz2, gi (d4 "b" (.inr rfl)) isG_a2 ⟨_, rfl, _, rfl, ?_⟩⟩
    rw [if_pos (by decide)]
    exact ⟨sz2, by decide, sz2, gi (d4 "a" (.inl rfl)) isG_a3 ⟨_, rfl, rfl⟩⟩
end LW

-- U_n16
set_option Elab.async false
set_option linter.all false
set_option maxRecDepth 100000
set_option maxHeartbeats 1000000
set_option exponentiation.threshold 20000
namespace LW
open PySem RX
/-! ### the law -/
theorem manys : ∀ k : Nat, k < 6 → ∃ m : Nat, 1 ≤ m ∧ m ≤ 10 ∧ idx (.list [.int 10, .int 1, .int 2, .int 3, .int 4, .int 6]) (.int (k : Int)) = some (.int (m : Int))
  | 0, _ => ⟨10, by decide, by decide, rfl⟩
  | 1, _ => ⟨1, by decide, by decide, rfl⟩
  | 2, _ => ⟨2, by decide, by decide, rfl⟩
  | 3, _ => ⟨3, by decide, by decide, rfl⟩
  | 4, _ => ⟨4, by decide, by decide, rfl⟩
  | 5, _ => ⟨6, by decide, by decide, rfl⟩
theorem tl {a b : Bool} (h : a = b) {Q : D → Prop} (q : Q (.bool true)) : Wp (fnAt C_law_right 3 [.bool a, .bool b]) [] fun d _ => Q d := by
  subst h
  have := ev_tells a a
  rw [beq_self_eq_true] at this
  exact wp_ev this q
theorem gl {d : D} (h : Dom d) {Q : D → Prop} (q : Q (.bool (isG d))) : Wp (fnAt C_law_right 8 [d]) [] fun d _ => Q d := wp_ev (ev_law_is_ground d h) q
def valB : SL := (.cons (.ite (.or (.not (.call false 3 (.cons (.call false 2 (.cons (.loc 8) .nil) []) (.cons (.call false 8 (.cons (.loc 8) .nil) []) .nil)) [])) (.not (.call false 3 (.cons (.call false 2 (.cons (.loc 8) .nil) [0]) (.cons (.call false 8 (.cons (.loc 8) .nil) []) .nil)) []))) (.cons (.ret (.cst (.bool false))) .nil) .nil) .nil)
theorem val_ok {ρ : Env2} {w : W} {Q : Out → W → Prop} {d : D} (h : Dom d) (e : getv (allE ρ) 8 = some d) (q : Q (.next ρ) w) : Wp (evSL C_law_right valB ρ) w Q := by
  unfold valB
  rw [wp_SL, wp_iteS, wp_or]
  simp only [wp_not, wp_call, wp_callK, wp_cons, wp_nil, wp_loc]
  refine ⟨_, e, gi h rfl ⟨_, e, gl h (tl rfl ⟨_, rfl, _, rfl, ?_⟩)⟩⟩
  rw [if_neg (by decide)]
  refine ⟨_, e, gi h rfl ⟨_, e, gl h (tl rfl ⟨_, rfl, _, rfl, ?_⟩)⟩⟩
  rw [if_neg (by decide), wp_SLnil]
  show Wp _ _ _
  rw [wp_SLnil]
  exact q
theorem wp_law_right {w : W} (hw : w.length = 3) : Wp (F_law_right []) w fun d _ => d = .bool true := by
  refine wp_D ?_
  unfold B_law_right
  rw [wp_SL]
  refine wp_forL (fun k : Nat => PyData.int (k : Nat)) (List.range 6) (fun i ρ w => w.length = 3 ∧ ∃ a1 a5 a6 a7 a8, ρ = [none, a1, none, none, none, a5, a6, a7, a8, none, none, none]) ?_ ?_ ?_
  · simp only [wp_rng, wp_cst]
    exact ⟨_, rfl, _, range0 (i := 6) (n := 6) (by decide) (by decide) (by decide), rfl, hw, _, _, _, _, _, rfl⟩
  · rintro i k ρ w hk ⟨hw, a1, a5, a6, a7, a8, rfl⟩
    have hk6 : k < 6 := List.mem_range.mp (List.mem_of_getElem? hk)
    obtain ⟨m, m1, m2, me⟩ := manys k hk6
    refine ⟨_, rfl, ?_⟩
    show Wp _ _ _
    rw [wp_SL, wp_asg, wp_callP]
    simp only [wp_cons, wp_nil, wp_callP, wp_bin, wp_idx, wp_lst, wp_loc, wp_cst]
    refine ⟨by show 6 ≤ sizeLine; decide, _, rfl, _, me, draw_ok (by decide) (by decide) hw fun r w1 r0 r1 hw1 => ⟨_, rfl, ground_ok m1 m2 _ hw1 fun os ps w2 g hw2 => ?_⟩⟩
    have l10 : (os.map PyData.str).length ≤ 10 := by rw [List.length_map]; exact g.o.le
    have l100 : (ps.map prD).length ≤ 100 := by rw [List.length_map]; exact g.len
    have so : ∀ n, Sd (n + 1) (.tuple (os.map .str)) := fun n => sd_tup.mpr (Os.sd g.o.nm)
    have sp : ∀ n, Sd (n + 2) (.tuple (ps.map prD)) := fun n => sd_tup.mpr g.sdp
    have i0 : idx (grD os ps) (.int 0) = some (.tuple (os.map .str)) := rfl
    have i1 : idx (grD os ps) (.int 1) = some (.tuple (ps.map prD)) := rfl
    show Wp _ _ _
    rw [wp_SL, wp_asg, wp_tup]
    simp only [wp_cons, wp_nil, wp_b1, wp_idx, wp_loc, wp_cst]
    refine ⟨_, rfl, _, i0, _, rfl, _, rfl, _, rfl, _, i1, _, rfl, _, rfl, sz2, ?_⟩
    show Wp _ _ _
    rw [wp_SL, wp_iteS, wp_or]
    simp only [wp_or, wp_not, wp_cmp, wp_call, wp_callK, wp_cons, wp_nil, wp_tup, wp_idx, wp_loc, wp_cst]
    refine ⟨_, rfl, gi g.dom g.isG ⟨_, rfl, _, rfl, ?_⟩⟩
    rw [if_neg (by decide)]
    have dn : Dom (.tuple [.tuple (os.map .str), .tuple []]) := dom2t (so 38) (fun d hd => nomatch hd) (by decide)
    refine ⟨_, rfl, _, i0, by decide, sz2, gi dn (isG_nil g.o) ⟨_, rfl, _, rfl, ?_⟩⟩
    rw [if_neg (by decide)]
    refine ⟨_, rfl, wp_ev (ev_is_ordered g) ⟨_, rfl, wp_ev (ev_closed g) ⟨_, rfl, _, cl_eq g, tl rfl ⟨_, rfl, _, rfl, ?_⟩⟩⟩⟩
    rw [if_neg (by decide), wp_SLnil]
    show Wp _ _ _
    rw [wp_SL, wp_asg]
    refine wp_compL (fun k : Nat => PyData.int (k : Nat)) id (fun _ d => Dom d) (fun w => w.length = 3) (List.range 10) ?_ ?_ ?_
    · simp only [wp_rng, wp_cst]
      exact ⟨_, rfl, _, range0 (i := 10) (n := 10) (by decide) (by decide) (by decide), rfl, hw2⟩
    · intro k _ w hw
      refine ⟨_, rfl, ?_⟩
      rw [wp_callP]
      simp only [wp_cons, wp_nil, wp_loc]
      exact ⟨_, rfl, near_ok g hw fun v w' hv hw' => ⟨hw', v, rfl, hv⟩⟩
    intro bs w3 hw3 hb
    have hb1 : bs.length = 10 := hb.len.symm
    have hbD : ∀ d ∈ bs, Dom d := fun d hd => by
      obtain ⟨_, _, h⟩ := hb.right d hd
      exact h
    clear hb
    rw [List.map_id]
    show Wp _ _ _
    have rest : ∀ (cs : List D) (w : W), cs.length ≤ 22 → (∀ d ∈ cs, Dom d) → w.length = 3 → Wp (evSL C_law_right (.cons (.for [8] (.seq (.bin .add (.loc 7) (.lst (.cons (.idx (.loc 5) (.cst (.int 0))) (.cons (.idx (.loc 5) (.cst (.int 1))) (.cons (.cst .none) (.cons (.cst (.int 0)) (.cons (.lst .nil) (.cons .ed (.cons (.cst (.str "")) (.cons (.cst (.bool true)) (.cons (.tup .nil) (.cons (.tup (.cons (.tup .nil) (.cons (.tup .nil) .nil))) (.cons (.tup (.cons (.slc false true (.idx (.loc 5) (.cst (.int 0))) (.cst .none) (.cst (.int 1))) (.cons (.idx (.loc 5) (.cst (.int 1))) .nil))) (.cons (.bin .add (.loc 5) (.tup (.cons (.tup .nil) .nil))) .nil))))))))))))))) valB) (.cons (.ite (.not (.call false 9 (.cons (.loc 5) (.cons (.loc 6) .nil)) [])) (.cons (.ret (.cst (.bool false))) .nil) .nil) .nil)) [none, some (false, .int (k : Nat)), none, none, none, some (false, grD os ps), some (false, grD os ps), some (false, .list cs), a8, none, none, none]) w fun o w' => match o with
      | .next ρ => w'.length = 3 ∧ ∃ a1 a5 a6 a7 a8, ρ = [none, a1, none, none, none, a5, a6, a7, a8, none, none, none]
      | _ => False := fun cs w cl cD hw => by
      rw [wp_SL]
      refine wp_forP Dom (fun ρ w => w.length = 3 ∧ ∃ a8, ρ = [none, some (false, .int (k : Nat)), none, none, none, some (false, grD os ps), some (false, grD os ps), some (false, .list cs), a8, none, none, none]) ?_ ?_ ?_
      · simp only [wp_seq, wp_bin, wp_lst, wp_tup, wp_cons, wp_nil, wp_idx, wp_slcT, wp_ed, wp_loc, wp_cst]
        refine ⟨_, rfl, _, rfl, _, i0, _, rfl, _, i1, by decide, by decide, by decide, by decide, sz2, _, rfl, _, i0, _, rfl, _, rfl, _, rfl, _, i1, sz2, _, rfl, by decide, by show 1 ≤ sizeLine; decide, _, add_tup (by simp), by show 12 ≤ sizeLine; decide, _, add_lst (by simp; omega), _, rfl, ?_, hw, _, rfl⟩
        intro d hd
        rcases List.mem_append.mp hd with hd | hd
        · exact cD d hd
        simp only [List.mem_cons, List.not_mem_nil, or_false] at hd
        have small : ∀ {n : Nat} {d : D}, Sd n d → n ≤ 40 → (∀ a ps, d = .tuple [a, .tuple ps] → ps.length ≤ 16777216) → Dom d := fun h hn hl => .sh (h.mono hn) hl
        have e0 : ∀ n, Sd (n + 1) (.tuple []) := fun n => sd_tup.mpr fun d hd => nomatch hd
        rcases hd with rfl | rfl | rfl | rfl | rfl | rfl | rfl | rfl | rfl | rfl | rfl | rfl
        · refine small (so 10) (by decide) fun a ps' e => ?_
          have e' := PyData.tuple.inj e
          exfalso
          match os, e' with
          | [x, y], e' => cases e'
        · refine small (sp 10) (by decide) fun a ps' e => ?_
          have e' := PyData.tuple.inj e
          match ps, e' with
          | [x, y], e' =>
            have := (List.cons.inj (List.cons.inj e').2).1
            unfold prD at this
            have := PyData.tuple.inj this
            rw [← this]
            simp
        · exact small (n := 3) sd_none (by decide) fun _ _ e => nomatch e
        · exact small (n := 3) sd_int (by decide) fun _ _ e => nomatch e
        · exact small (n := 3) (sd_list.mpr fun d hd => nomatch hd) (by decide) fun _ _ e => nomatch e
        · exact .ed
        · exact small (n := 3) (sd_str.mpr (by decide +kernel)) (by decide) fun _ _ e => nomatch e
        · exact small (n := 3) sd_bool (by decide) fun _ _ e => nomatch e
        · exact small (e0 3) (by decide) fun _ _ e => nomatch e
        · exact dom2t (e0 38) (fun d hd => nomatch hd) (by decide)
        · exact dom2t (sd_tup.mpr fun d hd => Os.sd g.o.nm d (cut_mem hd)) g.sdp (by omega)
        · refine small (n := 30) (sd_tup.mpr fun d hd => ?_) (by decide) fun _ _ e => nomatch e
          simp only [List.mem_append, List.mem_cons, List.not_mem_nil, or_false] at hd
          rcases hd with (rfl | rfl) | rfl
          · exact so 28
          · exact sp 27
          · exact e0 28
      · rintro d ρ w hd ⟨hw, a8, rfl⟩
        refine ⟨_, rfl, ?_⟩
        exact val_ok hd rfl ⟨hw, _, rfl⟩
      · rintro ρ w ⟨hw, a8, rfl⟩
        show Wp _ _ _
        rw [wp_SL, wp_iteS]
        simp only [wp_not, wp_call, wp_cons, wp_nil, wp_loc]
        refine ⟨_, rfl, _, rfl, wp_ev g.same ⟨_, rfl, _, rfl, ?_⟩⟩
        rw [if_neg (by decide), wp_SLnil]
        show Wp _ _ _
        rw [wp_SLnil]
        exact ⟨hw, _, _, _, _, _, rfl⟩
    rw [wp_SL, wp_iteS]
    simp only [wp_cmp, wp_idx, wp_tup, wp_nil, wp_loc, wp_cst]
    have sh : SeqAt.shaped (.tuple (ps.map prD)) = true := (sp 3).sh (by decide)
    refine ⟨_, rfl, _, i1, by decide, _, ne_nilT sh, _, rfl, ?_⟩
    by_cases hne : ps = []
    · rw [if_neg (by simp [hne]), wp_SLnil]
      refine (rest bs w3 (by omega) hbD hw3).mono fun o w' h => ?_
      match o, h with
      | .next ρ, h => exact h
    · rw [if_pos (by simp [hne]), wp_SL, wp_asg, wp_bin, wp_loc]
      refine ⟨_, rfl, ?_⟩
      refine wp_compL (fun k : Nat => PyData.int (k : Nat)) id (fun _ d => Dom d) (fun w => w.length = 3) (List.range 12) ?_ ?_ ?_
      · simp only [wp_rng, wp_cst]
        exact ⟨_, rfl, _, range0 (i := 12) (n := 12) (by decide) (by decide) (by decide), rfl, hw3⟩
      · intro k _ w hw
        refine ⟨_, rfl, ?_⟩
        rw [wp_callP]
        simp only [wp_cons, wp_nil, wp_loc]
        exact ⟨_, rfl, not_ground_ok g hne hw fun v w' hv hw' => ⟨hw', v, rfl, hv⟩⟩
      intro cs w4 hw4 hc
      have hc1 : cs.length = 12 := hc.len.symm
      have hcD : ∀ d ∈ cs, Dom d := fun d hd => by
        obtain ⟨_, _, h⟩ := hc.right d hd
        exact h
      rw [List.map_id]
      refine ⟨_, add_lst (by omega), ?_⟩
      show Wp _ _ _
      rw [wp_SLnil]
      refine (rest (bs ++ cs) w4 (by rw [List.length_append]; omega) (fun d hd => (List.mem_append.mp hd).elim (hbD d) (hcD d)) hw4).mono fun o w' h => ?_
      match o, h with
      | .next ρ, h => exact h
  · rintro ρ w ⟨hw, a1, a5, a6, a7, a8, rfl⟩
    refine (tail_ok (w := w)).mono fun o w' h => ?_
    subst h
    rfl
theorem plainK01 : Plain C_law It_law F_law_pool F_law_right :=
  plain_of (a := 2) (b := 3) (c1 := 4123) (c2 := 918327) (c3 := 727) (m := 2147483587) (by decide) (by decide) (by decide) (by decide) (by decide) (by decide) fun w hw => wp_law_right hw
end LW

-- G01l
set_option Elab.async false
set_option linter.all false
set_option maxRecDepth 100000
set_option maxHeartbeats 4000000
namespace LW
open PySem PySem.Spec PyProof.Rows L2 RX
section
variable [PWd] {K : PySem.W.Frag} {mg : Str → Option Value} {base : Heap}
theorem plain : Plain C_law It_law F_law_pool F_law_right := plainK01
theorem f_law (hf : HF md K mg) : ∃ fd, (∀ (s : Shared) (u : Value), BindsTo s fd ⟨[u], []⟩ [("script", u)]) ∧ ∀ base, FnOkG PWd.P PWd.w K mg base 8 (He.ga K "law") fd ["script"] (spLaw K) := by
  obtain ⟨fd, h1, h2⟩ := law_fact (P := PWd.P) (w := PWd.w) hf 31 (k := 7) (x := "law") (tn := "lap") (rn := "_law_right") (pn := "_law_pool") (arp := ["script", "lap"]) (arr := ["pool"]) (C := C_law) (T := T_law) (it := It_law) rfl (by decide +kernel) (by decide +kernel) (by decide +kernel) rfl rfl plain
  exact ⟨fd, h1 (fun _ _ _ _ _ _ us hl => match us, hl with | [_], _ => rfl), fun base => h2 base (hf.glob .nil .nil (by decide +kernel) (by decide +kernel)) (let z := f_law_pool (base := base) hf; ⟨let ⟨f, fd, F, r⟩ := z.ex; ⟨f, fd, F.mono (by decide), r⟩⟩) ((f_law_right hf).mono (by decide))⟩
end
end LW

-- G01h
set_option Elab.async false
set_option linter.all false
set_option maxRecDepth 100000
set_option maxHeartbeats 0
open PySem PySem.W PySem.Calls PyProof.Rows
set_option maxRecDepth 100000 in
set_option maxHeartbeats 8000000 in
theorem PySem.Challenge.cw_chanceplans_k01_whole_grounds_of_anythin_holds : PySem.Challenge.rw_chanceplans_k01_whole_grounds_of_anythin.Holds := by
  w_on; o_law
  refine HandSHeadRun.head_any (r := OpenLaw.row PySem.Challenge.rw_chanceplans_k01_whole_grounds_of_anythin) (q := view (OpenLaw.row PySem.Challenge.rw_chanceplans_k01_whole_grounds_of_anythin).prog [44]) (H := LW.hk) (ob := LW.ob) (M := 6000) (loose := LW.loose) (d := HandSHeadRun.topDef (OpenLaw.row PySem.Challenge.rw_chanceplans_k01_whole_grounds_of_anythin).prog 44) (kwd := []) LW.ob_eq
    (by kernel_rfl) (fun s => by kernel_rfl) LW.run (by kernel_rfl) (by kernel_rfl) (by kernel_rfl) (by rfl) (by first | assumption | decide +kernel) (by decide +kernel) ⟨rfl, rfl, rfl, rfl, rfl, by decide +kernel⟩ ?hw ?hc
  case hw => w_witness2
  case hc =>
    refine RX.walk_ofEB (l := PySem.Challenge.rw_chanceplans_k01_whole_grounds_of_anythin) (n := 63) (k := 8) (x := "script") rfl (by decide) (by kernel_rfl) ⟨rfl, by decide, by decide⟩ ?F
    intro w mg fa h Y G hmg0
    obtain ⟨K, KX, c, ex⟩ := Y
    have hf : RX.HF LW.md K mg := ⟨c, ex, h, KX, G⟩
    have hmg : mg ("law" : PySem.Str) = some (.ref fa) := by
      have e : (HandSHeadRun.topDef (OpenLaw.row PySem.Challenge.rw_chanceplans_k01_whole_grounds_of_anythin).prog 44).name = ("law" : PySem.Str) := by kernel_rfl
      rw [← e]
      exact hmg0
    have e := hmg.symm.trans (hf.glo (i := 31) (d := LW.d_law) rfl)
    cases e
    obtain ⟨fd, hb, hF⟩ := @LW.f_law ⟨(PySem.Challenge.rw_chanceplans_k01_whole_grounds_of_anythin).prog, w⟩ K mg hf
    exact ⟨K, fd, RX.spLaw K, KX, hb, fun H a ns hlen hbits hO hS => ⟨a, ns, rfl, hS, hlen, hbits, fun _ => rfl⟩, fun base _ _ => hF base⟩
