import PyProof.Rows.All
import Wide.All
import OpenK.AllK
import Wide.FinOn
import HandS.ForMost
import HandS.Exc
import HandS.ExcOwn
import HandS.Zip
import HandS.Wide
import HandS.IsInst
import HandS.ExcIs
import HandS.Style
import HandS.NoneIn
import HandS.CallSlots
import KE.DataMinMax
import HandS.New0
import HandS.Words
import HandS.Ends
import PySem.Challenge.RW_shortpurse_k24_flat_rules
set_option Elab.async false
set_option linter.all false
set_option maxRecDepth 100000
/-! A small language with values for data, and its evaluator. -/
namespace Pu
open PySem

inductive D where
  | non | bl (b : Bool) | int (i : Int) | str (x : List Nat) | tup (xs : List D) | lst (xs : List D)
  | obj (c : String) (fs : List D) | exc (c : String) (v : D)
  deriving Inhabited

inductive R (α : Type) where
  | ok (a : α) | exc (c : String) (v : D) | stuck

namespace R
variable {α β : Type}
@[inline] def bind (x : R α) (f : α → R β) : R β := match x with
  | .ok a => f a
  | .exc c v => .exc c v
  | .stuck => .stuck
instance : Monad R where
  pure := .ok
  bind := R.bind
@[simp] theorem ok_bind (a : α) (f : α → R β) : (R.ok a >>= f) = f a := rfl
@[simp] theorem exc_bind (c : String) (v : D) (f : α → R β) : ((R.exc c v : R α) >>= f) = .exc c v := rfl
@[simp] theorem stuck_bind (f : α → R β) : ((R.stuck : R α) >>= f) = .stuck := rfl
@[simp] theorem pure_ok (a : α) : (pure a : R α) = .ok a := rfl
theorem bind_ok {x : R α} {f : α → R β} {b : β} (h : (x >>= f) = .ok b) : ∃ a, x = .ok a ∧ f a = .ok b := by
  cases x with
  | ok a => exact ⟨a, rfl, h⟩
  | exc c v => cases h
  | stuck => cases h
def noX : R α → R α
  | .ok a => .ok a
  | _ => .stuck
@[simp] theorem noX_ok (a : α) : noX (.ok a) = .ok a := rfl
end R

/-! ### data -/
def lim : Nat := 16777216
mutual
def D.eqv : D → D → Bool
  | .non, .non => true
  | .bl a, .bl b => a == b
  | .bl a, .int j => (if a then 1 else 0) == j
  | .int i, .bl b => i == (if b then 1 else 0)
  | .int i, .int j => i == j
  | .str x, .str y => x == y
  | .lst xs, .lst ys => D.eqvA xs ys
  | .tup xs, .tup ys => D.eqvA xs ys
  | _, _ => false
def D.eqvA : List D → List D → Bool
  | [], [] => true
  | x :: xs, y :: ys => D.eqv x y && D.eqvA xs ys
  | _, _ => false
end
mutual
/-- what == may be asked of: no objects, at most n levels -/
def D.fit : Nat → D → Bool
  | _, .non => true
  | _, .bl _ => true
  | _, .int _ => true
  | _, .str x => x.all fun c => decide (c < 1114112)
  | 0, .tup _ => false
  | n + 1, .tup xs => D.fitA n xs
  | 0, .lst _ => false
  | n + 1, .lst xs => D.fitA n xs
  | _, .obj _ _ => false
  | _, .exc _ _ => false
def D.fitA : Nat → List D → Bool
  | _, [] => true
  | n, x :: xs => D.fit n x && D.fitA n xs
end
mutual
/-- no list stands in it -/
def D.noL : D → Bool
  | .tup xs => D.noLA xs
  | .lst _ => false
  | .obj _ xs => D.noLA xs
  | _ => true
def D.noLA : List D → Bool
  | [] => true
  | x :: xs => D.noL x && D.noLA xs
end
/-- no list but itself stands in it -/
def D.noL1 : D → Bool
  | .lst xs => D.noLA xs
  | d => D.noL d
def D.isL : D → Bool
  | .lst _ => true
  | _ => false
def D.isNon : D → Bool
  | .non => true
  | _ => false
def D.flat : D → Bool
  | .non | .bl _ | .int _ | .str _ => true
  | _ => false
def codes (s : String) : List Nat := s.toList.map Char.toNat

def ixN (n : Nat) (i : Int) : Option Nat := if 0 ≤ i then (if i < n then some i.toNat else none) else if -(n : Int) ≤ i then some (i + n).toNat else none
def atI {α : Type} (xs : List α) (i : Int) : Option α := (ixN xs.length i).bind fun j => xs[j]?
def sIx (n d : Nat) : Option Int → Nat
  | none => d
  | some i => if 0 ≤ i then min i.toNat n else (i + n).toNat
def cut {α : Type} (xs : List α) (lo hi : Option Int) : List α := (xs.drop (sIx xs.length 0 lo)).take (sIx xs.length xs.length hi - sIx xs.length 0 lo)

inductive Bop where
  | add | sub | mul | fdiv | mod | pow
  deriving DecidableEq
inductive Cop where
  | eq | ne | lt | le | gt | ge | in_ | nin
  deriving DecidableEq

def mulOk (a b : Int) : Bool := decide (a.natAbs.log2 + b.natAbs.log2 < 100000000) || decide (a.natAbs < 2 ^ 64) || decide (b.natAbs < 2 ^ 64)
def divOk (a b : Int) : Bool := decide (b ≠ 0) && (decide (b.natAbs.log2 < 9000) || decide (a.natAbs.log2 < b.natAbs.log2 + 4500))
def powOk (a b : Int) : Bool := decide (0 ≤ b) && decide (b ≤ 1000000) && decide (a.natAbs < 2 ^ 64)

def rep {α : Type} : Nat → List α → List α
  | 0, _ => []
  | n + 1, xs => xs ++ rep n xs

def bop : Bop → D → D → R D
  | .add, .int a, .int b => .ok (.int (a + b))
  | .add, .str a, .str b => if a.length + b.length ≤ lim then .ok (.str (a ++ b)) else .stuck
  | .add, .lst a, .lst b => if a.length + b.length ≤ lim then .ok (.lst (a ++ b)) else .stuck
  | .sub, .int a, .int b => .ok (.int (a - b))
  | .mul, .int a, .int b => if mulOk a b = true then .ok (.int (a * b)) else .stuck
  | .fdiv, .int a, .int b => if divOk a b = true then .ok (.int (a.fdiv b)) else .stuck
  | .mod, .int a, .int b => if b ≠ 0 then .ok (.int (a.fmod b)) else .stuck
  | .pow, .int a, .int b => if powOk a b = true then .ok (.int (a ^ b.toNat)) else .stuck
  | _, _, _ => .stuck

def isIn (x : D) (xs : List D) : R Bool := if x.flat = true ∧ xs.all D.flat = true then .ok (xs.any fun y => D.eqv y x) else .stuck
def cop : Cop → D → D → R Bool
  | .eq, a, b => if a.fit 64 = true ∧ b.fit 64 = true then .ok (D.eqv a b) else .stuck
  | .ne, a, b => if a.fit 64 = true ∧ b.fit 64 = true then .ok (!D.eqv a b) else .stuck
  | .lt, .int a, .int b => .ok (decide (a < b))
  | .le, .int a, .int b => .ok (decide (a ≤ b))
  | .gt, .int a, .int b => .ok (decide (b < a))
  | .ge, .int a, .int b => .ok (decide (b ≤ a))
  | .le, .str a, .str b => .ok (decide (a ≤ b))
  | .in_, .str [c], .str z => .ok (decide (c ∈ z))
  | .nin, .str [c], .str z => .ok (!decide (c ∈ z))
  | .in_, a, .lst xs => isIn a xs
  | .in_, a, .tup xs => isIn a xs
  | .nin, a, .lst xs => do let b ← isIn a xs; pure (!b)
  | .nin, a, .tup xs => do let b ← isIn a xs; pure (!b)
  | _, _, _ => .stuck

/-! ### built-ins -/
def intsOf : List D → Option (List Int)
  | [] => some []
  | .int i :: r => (intsOf r).map (i :: ·)
  | _ => none
def boolsOf : List D → Option (List Bool)
  | [] => some []
  | .bl i :: r => (boolsOf r).map (i :: ·)
  | _ => none
def textsOf : List D → Option (List (List Nat))
  | [] => some []
  | .str i :: r => (textsOf r).map (i :: ·)
  | _ => none
def ins (x : Int) : List Int → List Int
  | [] => [x]
  | y :: r => if x ≤ y then x :: y :: r else y :: ins x r
def isort : List Int → List Int
  | [] => []
  | x :: r => ins x (isort r)
def maxL : List Int → Option Int
  | [] => none
  | x :: r => some (r.foldl max x)
def minL : List Int → Option Int
  | [] => none
  | x :: r => some (r.foldl min x)
def digN (n : Nat) : List Nat := (toString n).toList.map Char.toNat
def numStr (i : Int) : List Nat := codes (toString i)
def seq? : D → Option (List D)
  | .lst xs => some xs
  | .tup xs => some xs
  | _ => none
def lenOf : D → R D
  | .str x => if x.length ≤ lim then .ok (.int x.length) else .stuck
  | .lst xs => .ok (.int xs.length)
  | .tup xs => .ok (.int xs.length)
  | _ => .stuck
def ofO {α : Type} : Option α → R α
  | some a => .ok a
  | none => .stuck
/-- a text of figures -/
def numOf (x : List Nat) : Option Nat := if x ≠ [] ∧ x.all (fun c => 48 ≤ c ∧ c ≤ 57) = true ∧ x.length ≤ 640 then some (x.foldl (fun a c => a * 10 + (c - 48)) 0) else none
def joinS (sep : List Nat) : List (List Nat) → List Nat
  | [] => []
  | [x] => x
  | x :: r => x ++ sep ++ joinS sep r
def bLen : List D → R D
  | [d] => lenOf d
  | _ => .stuck
def bAbs : List D → R D
  | [.int i] => .ok (.int (if i < 0 then -i else i))
  | _ => .stuck
def bMax : List D → R D
  | [.int i, .int j] => .ok (.int (if j > i then j else i))
  | [.lst xs] => do let ns ← ofO (intsOf xs); let m ← ofO (maxL ns); pure (.int m)
  | _ => .stuck
def bMin : List D → R D
  | [.int i, .int j] => .ok (.int (if j < i then j else i))
  | [.lst xs] => do let ns ← ofO (intsOf xs); let m ← ofO (minL ns); pure (.int m)
  | [.tup xs] => do let ns ← ofO (intsOf xs); let m ← ofO (minL ns); pure (.int m)
  | _ => .stuck
def bSum : List D → R D
  | [.lst xs] => do let ns ← ofO (intsOf xs); pure (.int ns.sum)
  | _ => .stuck
def bInt : List D → R D
  | [.int i] => .ok (.int i)
  | [.bl b] => .ok (.int (if b then 1 else 0))
  | _ => .stuck
def bStr : List D → R D
  | [.int i] => if i.natAbs.log2 < 1920 then .ok (.str (numStr i)) else .stuck
  | _ => .stuck
def bList : List D → R D
  | [.lst xs] => .ok (.lst xs)
  | [.tup xs] => .ok (.lst xs)
  | _ => .stuck
def bTuple : List D → R D
  | [.lst xs] => .ok (.tup xs)
  | [.tup xs] => .ok (.tup xs)
  | _ => .stuck
def bSorted : List D → R D
  | [.lst xs] => do let ns ← ofO (intsOf xs); if ns.length < 64 then pure (.lst ((isort ns).map .int)) else .stuck
  | _ => .stuck
def bSset : D → R D
  | .lst xs => do let ns ← ofO (intsOf xs); if ns.length < 64 then pure (.lst ((isort ns.eraseDups).map .int)) else .stuck
  | _ => .stuck
def bAll' : List D → R D
  | [.lst xs] => do let bs ← ofO (boolsOf xs); pure (.bl (bs.all id))
  | _ => .stuck
def builtin (s : String) (ds : List D) : R D :=
  if s = "len" then bLen ds else if s = "abs" then bAbs ds else if s = "max" then bMax ds else if s = "min" then bMin ds else if s = "sum" then bSum ds
  else if s = "int" then bInt ds else if s = "str" then bStr ds else if s = "list" then bList ds else if s = "tuple" then bTuple ds
  else if s = "sorted" then bSorted ds else if s = "all" then bAll' ds else .stuck
def strMeth : String → D → List D → R D
  | "join", .str sep, [.lst xs] => do let ts ← ofO (textsOf xs); if (joinS sep ts).length ≤ lim then pure (.str (joinS sep ts)) else .stuck
  | _, _, _ => .stuck

/-! ### the language -/
inductive E where
  | var (i : Nat) | non | bl (b : Bool) | int (i : Int) | str (s : String) | glob (x : String)
  | nil | cons (e es : E)
  | tup (es : E) | lst (es : E)
  | bin (o : Bop) (a b : E) | neg (a : E)
  | cmp (o : Cop) (a b : E) | cmp2 (o o' : Cop) (a b c : E) | isN (a : E) | notN (a : E)
  | and (a b : E) | or (a b : E) | not (a : E)
  | ix (a i : E) | sl (a lo hi : E)
  | call (f : String) (es : E) | meth (a : E) (m : String) (es : E) | new (c : String) (es : E)
  | blt (b : String) (es : E) | sset (a : E) | smeth (m : String) (a es : E)
  | fld (a : E) (f : String) | isi (a : E) (c : String)
  | lc (elt : E) (tup : Bool) (is : List Nat) (it cnd : E)
  | rev (a : E) | lzip (a b : E)
  | iseq (a : E) | irng (a : E) | irng2 (a b : E) | izip (a b : E) | irev (a : E)
  deriving DecidableEq, Inhabited

inductive S where
  | skip | seq (a b : S)
  | set (i : Nat) (e : E) | unp (is : List Nat) (e : E) | par (i j : Nat) (a b : E) | aug (i : Nat) (e : E)
  | put (i : Nat) (k e : E) | app (i : Nat) (e : E) | ext (i : Nat) (e : E) | pop (i : Nat) | clr (i : Nat)
  | popV (j i : Nat) | appP (i : Nat) (f : String) (es1 es2 : E) | clrE (e : E) | tryF (x : Option Nat) (f : String) (es : E) (j i : Nat) (c : String)
  | expr (e : E)
  | ite (c : E) (a b : S) | whl (c : E) (b : S) (dead : List Nat) | for_ (tup : Bool) (is : List Nat) (it : E) (b : S) (dead : List Nat)
  | ret (e : E) | retN | raise (c : String) | raiseAt (c : String) (e : E) | brk | cont
  | no
  deriving DecidableEq, Inhabited

def E.isNil : E → Bool
  | .nil => true
  | _ => false

inductive Fl where
  | own | lock | frz
  deriving DecidableEq
abbrev Env := List (Option (Fl × D))

def getV (r : Env) (i : Nat) : R D := match r[i]? with
  | some (some (_, d)) => .ok d
  | _ => .stuck
def setV (r : Env) (i : Nat) (d : D) : Env := r.set i (some (.frz, d))
def setAll (r : Env) : List Nat → List D → Env
  | i :: is, d :: ds => setAll (setV r i d) is ds
  | _, _ => r
def bindT (r : Env) (tup : Bool) (is : List Nat) (d : D) : R Env :=
  match tup, is, d with
  | true, is, .tup ds => if ds.length = is.length then .ok (setAll r is ds) else .stuck
  | false, [i], d => .ok (setV r i d)
  | _, _, _ => .stuck
/-- a tuple or a list put into names -/
def bindU (r : Env) (is : List Nat) (d : D) : R Env :=
  match d with
  | .tup ds => if ds.length = is.length then .ok (setAll r is ds) else .stuck
  | .lst ds => if ds.length = is.length then .ok (setAll r is ds) else .stuck
  | _ => .stuck
def kill (r : Env) : List Nat → Env
  | [] => r
  | i :: is => kill (r.set i none) is
def frzAt (r : Env) (i : Nat) : Env := match r[i]? with
  | some (some (_, d)) => r.set i (some (.frz, d))
  | _ => r
def frzL (r : Env) : List Nat → Env
  | [] => r
  | i :: is => frzL (frzAt r i) is
def isOwn (r : Env) (i : Nat) : Bool := match r[i]? with
  | some (some (.own, _)) => true
  | _ => false
def lockAt (r : Env) (i : Nat) : Env := match r[i]? with
  | some (some (.own, d)) => r.set i (some (.lock, d))
  | _ => r
def lockL (r : Env) : List Nat → Env
  | [] => r
  | i :: is => lockL (lockAt r i) is
def openAt (r : Env) (i : Nat) : Env := match r[i]? with
  | some (some (.lock, d)) => r.set i (some (.own, d))
  | _ => r
def openL (r : Env) : List Nat → Env
  | [] => r
  | i :: is => openL (openAt r i) is

/-- what the defs are worth, as a body sees it -/
structure Orc where
  call : String → List D → R D
  meth : String → String → List D → R D
  new : String → List D → R D
  glob : String → Option D
  isi : String → String → Option Bool
  isx : String → String → Option Bool
  field : String → String → Option Nat
  fresh : String → Bool
  bor : String → Bool
  freshM : String → Bool
  borM : String → Bool

def isiB (o : Orc) (c : String) : D → R Bool
  | .non => if c ∈ ["int", "bool", "str", "tuple", "list"] then .ok false else .stuck
  | .bl _ => if c ∈ ["int", "bool"] then .ok true else if c ∈ ["str", "tuple", "list"] then .ok false else .stuck
  | .int _ => if c = "int" then .ok true else if c ∈ ["bool", "str", "tuple", "list"] then .ok false else .stuck
  | .str _ => if c = "str" then .ok true else if c ∈ ["int", "bool", "tuple", "list"] then .ok false else .stuck
  | .tup _ => if c = "tuple" then .ok true else if c ∈ ["int", "bool", "str", "list"] then .ok false else .stuck
  | .lst _ => if c = "list" then .ok true else if c ∈ ["int", "bool", "str", "tuple"] then .ok false else .stuck
  | .obj k _ => if c ∈ ["int", "bool", "str", "tuple", "list"] then .stuck else ofO (o.isi k c)
  | .exc k _ => if c ∈ ["int", "bool", "str", "tuple", "list"] then .stuck else ofO (o.isx k c)

def asInt : D → R Int
  | .int i => .ok i
  | _ => .stuck
def asBl : D → R Bool
  | .bl b => .ok b
  | _ => .stuck
def fieldOf (o : Orc) (f : String) : D → R D
  | .obj c fs => do let k ← ofO (o.field c f); ofO fs[k]?
  | _ => .stuck
def methOf (o : Orc) (m : String) (d : D) (ds : List D) : R D := match d with
  | .obj c fs => o.meth c m (.obj c fs :: ds)
  | _ => .stuck
def itemOf : D → D → R D
  | .lst xs, .int i => ofO (atI xs i)
  | .tup xs, .int i => ofO (atI xs i)
  | .str x, .int i => if x.length ≤ lim then (do let c ← ofO (atI x i); pure (.str [c])) else .stuck
  | _, _ => .stuck
def sliceOf (lo hi : Option Int) : D → R D
  | .lst xs => .ok (.lst (cut xs lo hi))
  | .tup xs => if (cut xs lo hi).length < xs.length then .ok (.tup (cut xs lo hi)) else .stuck
  | .str x => if x.length ≤ lim then .ok (.str (cut x lo hi)) else .stuck
  | _ => .stuck
def rangeL (lo : Int) (n : Nat) : List D := (List.range n).map fun (i : Nat) => D.int (lo + (i : Int))
def rngOk (i : Int) : Bool := decide (-(2 ^ 62) ≤ i) && decide (i < 2 ^ 62)
def mapR (f : D → R (Option D)) : List D → R (List D)
  | [] => .ok []
  | x :: xs => do
    match ← f x with
    | some y => do let ys ← mapR f xs; pure (y :: ys)
    | none => mapR f xs
def items : D → R (List D)
  | .lst xs => .ok xs
  | .tup xs => .ok xs
  | _ => .stuck
def zipP (xs ys : List D) : List D := (xs.zip ys).map fun p => .tup [p.1, p.2]
def zipOf : D → D → R (List D)
  | .lst xs, .lst ys => .ok (zipP xs ys)
  | .tup xs, .tup ys => .ok (zipP xs ys)
  | _, _ => .stuck
def revOf : D → R (List D)
  | .lst xs => .ok xs.reverse
  | _ => .stuck

mutual
def ev (o : Orc) (r : Env) : E → R D
  | .var i => getV r i
  | .non => .ok .non
  | .bl b => .ok (.bl b)
  | .int i => .ok (.int i)
  | .str s => .ok (.str (codes s))
  | .glob x => ofO (o.glob x)
  | .tup es => do let ds ← evs o r es; if ds.length ≤ lim then pure (.tup ds) else .stuck
  | .lst es => do let ds ← evs o r es; if ds.length ≤ lim then pure (.lst ds) else .stuck
  | .bin op a b => do let x ← ev o r a; let y ← ev o r b; bop op x y
  | .neg a => do let x ← ev o r a; let i ← asInt x; pure (.int (-i))
  | .cmp op a b => do let x ← ev o r a; let y ← ev o r b; let k ← cop op x y; pure (.bl k)
  | .cmp2 op op' a b c => do
    let x ← ev o r a
    let y ← ev o r b
    let k ← cop op x y
    if k = true then do let z ← ev o r c; let k' ← cop op' y z; pure (.bl k') else pure (.bl false)
  | .isN a => do let x ← ev o r a; pure (.bl x.isNon)
  | .notN a => do let x ← ev o r a; pure (.bl (!x.isNon))
  | .and a b => do let x ← ev o r a; let k ← asBl x; if k = true then ev o r b else pure (.bl false)
  | .or a b => do let x ← ev o r a; let k ← asBl x; if k = true then pure (.bl true) else ev o r b
  | .not a => do let x ← ev o r a; let k ← asBl x; pure (.bl (!k))
  | .ix a i => do let x ← ev o r a; let k ← ev o r i; itemOf x k
  | .sl a lo hi => do
    let x ← ev o r a
    let l ← (if lo.isNil = true then pure none else do let v ← ev o r lo; let k ← asInt v; pure (some k))
    let h ← (if hi.isNil = true then pure none else do let v ← ev o r hi; let k ← asInt v; pure (some k))
    sliceOf l h x
  | .call f es => do let ds ← evs o r es; o.call f ds
  | .meth a m es => do let x ← ev o r a; let ds ← R.noX (evs o r es); methOf o m x ds
  | .new c es => do let ds ← evs o r es; o.new c ds
  | .blt b es => do let ds ← evs o r es; builtin b ds
  | .sset a => do let x ← ev o r a; bSset x
  | .smeth m a es => do let x ← ev o r a; let ds ← evs o r es; strMeth m x ds
  | .fld a f => do let x ← ev o r a; fieldOf o f x
  | .isi a c => do let x ← ev o r a; let k ← isiB o c x; pure (.bl k)
  | .lc elt tup is it cnd => do
    let xs ← evI o r it
    let ys ← R.noX (mapR (fun x => do
      let r' ← bindT r tup is x
      let k ← (if cnd.isNil = true then pure true else do let c ← ev o r' cnd; asBl c)
      if k = true then do let y ← ev o r' elt; pure (some y) else pure none) xs)
    if ys.length ≤ lim then pure (.lst ys) else .stuck
  | .rev a => do let x ← ev o r a; let xs ← revOf x; pure (.lst xs)
  | .lzip a b => do let x ← ev o r a; let y ← ev o r b; let zs ← zipOf x y; if zs.length ≤ lim then pure (.lst zs) else .stuck
  | _ => .stuck
def evs (o : Orc) (r : Env) : E → R (List D)
  | .nil => .ok []
  | .cons e es => do let x ← ev o r e; let xs ← evs o r es; pure (x :: xs)
  | _ => .stuck
def evI (o : Orc) (r : Env) : E → R (List D)
  | .iseq a => do let x ← ev o r a; items x
  | .irng a => do let x ← ev o r a; let n ← asInt x; if rngOk n = true then pure (rangeL 0 n.toNat) else .stuck
  | .irng2 a b => do
    let x ← ev o r a
    let y ← ev o r b
    let i ← asInt x
    let j ← asInt y
    if rngOk i = true ∧ rngOk j = true then pure (rangeL i (j - i).toNat) else .stuck
  | .izip a b => do
    let x ← ev o r a
    let y ← ev o r b
    zipOf x y
  | .irev a => do let x ← ev o r a; revOf x
  | _ => .stuck
end

/-! ### what escapes, what is fresh -/
def notVar (e : E) (l : List Nat) : List Nat := match e with
  | .var _ => []
  | _ => l
/-- the variables whose lists may stay reachable from what e is worth -/
def esc (o : Orc) : E → List Nat
  | .var i => [i]
  | .cons e es => esc o e ++ esc o es
  | .tup es => esc o es
  | .lst es => esc o es
  | .bin _ a b => notVar a (esc o a) ++ notVar b (esc o b)
  | .neg a => notVar a (esc o a)
  | .cmp _ a b => notVar a (esc o a) ++ notVar b (esc o b)
  | .cmp2 _ _ a b c => notVar a (esc o a) ++ (notVar b (esc o b) ++ notVar c (esc o c))
  | .isN a => notVar a (esc o a)
  | .notN a => notVar a (esc o a)
  | .and a b => esc o a ++ esc o b
  | .or a b => esc o a ++ esc o b
  | .not a => esc o a
  | .ix a i => notVar a (esc o a) ++ notVar i (esc o i)
  | .sl a lo hi => notVar a (esc o a) ++ (notVar lo (esc o lo) ++ notVar hi (esc o hi))
  | .call f es => if o.bor f = true then escBs o es else esc o es
  | .meth a m es => esc o a ++ (if o.borM m = true then escBs o es else esc o es)
  | .new _ es => esc o es
  | .blt _ es => escBs o es
  | .sset a => notVar a (esc o a)
  | .smeth _ a es => esc o a ++ escBs o es
  | .fld a _ => esc o a
  | .isi a _ => notVar a (esc o a)
  | .lc elt _ _ it cnd => esc o it ++ (esc o elt ++ esc o cnd)
  | .rev a => notVar a (esc o a)
  | .lzip a b => notVar a (esc o a) ++ notVar b (esc o b)
  | .iseq a => notVar a (esc o a)
  | .irng a => esc o a
  | .irng2 a b => esc o a ++ esc o b
  | .izip a b => notVar a (esc o a) ++ notVar b (esc o b)
  | .irev a => notVar a (esc o a)
  | _ => []
where
  /-- of a list of arguments that are only looked at -/
  escBs (o : Orc) : E → List Nat
    | .cons e es => notVar e (esc o e) ++ escBs o es
    | _ => []
/-- where the value is only looked at -/
def escB (o : Orc) (e : E) : List Nat := notVar e (esc o e)

/-- where it is a list, it is a new one -/
def isFresh (o : Orc) : E → Bool
  | .lst _ => true
  | .lc .. => true
  | .bin .. => true
  | .sl .. => true
  | .call f _ => o.fresh f
  | .meth _ m _ => o.freshM m
  | .blt .. => true
  | .sset _ => true
  | .rev _ => true
  | .lzip .. => true
  | _ => false
/-- the variables that a loop walks itself -/
def locks : E → List Nat
  | .iseq (.var i) => [i]
  | .irev (.var i) => [i]
  | .izip (.var i) (.var j) => [i, j]
  | .izip (.var i) _ => [i]
  | .izip _ (.var j) => [j]
  | _ => []

/-! ### statements -/
inductive Fw where
  | nx | ret (fr : Bool) (d : D) | brk | cont

def whileN (c : Env → R Bool) (b : Env → R (Env × Fw)) : Nat → Env → Option (R (Env × Fw))
  | 0, _ => none
  | n + 1, r => match c r with
    | .ok false => some (.ok (r, .nx))
    | .ok true => match b r with
      | .ok (r', .nx) => whileN c b n r'
      | .ok (r', .cont) => whileN c b n r'
      | .ok (r', .brk) => some (.ok (r', .nx))
      | .ok (r', .ret f d) => some (.ok (r', .ret f d))
      | .exc k v => some (.exc k v)
      | .stuck => some .stuck
    | .exc k v => some (.exc k v)
    | .stuck => some .stuck
open Classical in
noncomputable def whileC (c : Env → R Bool) (b : Env → R (Env × Fw)) (r : Env) : R (Env × Fw) :=
  if h : ∃ n x, whileN c b n r = some x then (Classical.choose_spec h).choose else .stuck

theorem whileN_mono {c : Env → R Bool} {b : Env → R (Env × Fw)} : ∀ {n m : Nat} {r : Env} {x : R (Env × Fw)}, whileN c b n r = some x → n ≤ m → whileN c b m r = some x
  | 0, _, _, _, h, _ => by cases h
  | n + 1, 0, _, _, _, h => absurd h (Nat.not_succ_le_zero _)
  | n + 1, m + 1, r, x, h, hm => by
    unfold whileN at h ⊢
    have ih := fun {r x} (q : whileN c b n r = some x) => whileN_mono q (Nat.le_of_succ_le_succ hm)
    cases hc : c r with
    | ok k =>
      rw [hc] at h
      cases k with
      | false => exact h
      | true =>
        simp only at h ⊢
        cases hb : b r with
        | ok p =>
          rw [hb] at h
          obtain ⟨r', f⟩ := p
          cases f with
          | nx => exact ih h
          | cont => exact ih h
          | brk => exact h
          | ret f d => exact h
        | exc k v => rw [hb] at h; exact h
        | stuck => rw [hb] at h; exact h
    | exc k v => rw [hc] at h; exact h
    | stuck => rw [hc] at h; exact h
theorem whileC_of {c : Env → R Bool} {b : Env → R (Env × Fw)} {r : Env} {n : Nat} {x : R (Env × Fw)} (h : whileN c b n r = some x) : whileC c b r = x := by
  unfold whileC
  have hex : ∃ n x, whileN c b n r = some x := ⟨n, x, h⟩
  rw [dif_pos hex]
  have q := (Classical.choose_spec hex).choose_spec
  rcases Nat.le_total n (Classical.choose hex) with l | l
  · exact Option.some.inj (q.symm.trans (whileN_mono h l))
  · exact Option.some.inj ((whileN_mono q l).symm.trans h)
theorem whileC_spec {c : Env → R Bool} {b : Env → R (Env × Fw)} {r : Env} (h : whileC c b r ≠ .stuck) : ∃ n, whileN c b n r = some (whileC c b r) := by
  unfold whileC at h ⊢
  by_cases hex : ∃ n x, whileN c b n r = some x
  · rw [dif_pos hex]
    exact ⟨_, (Classical.choose_spec hex).choose_spec⟩
  · rw [dif_neg hex] at h
    exact absurd rfl h
/-- one turn -/
theorem whileC_eq (c : Env → R Bool) (b : Env → R (Env × Fw)) (r : Env) : whileC c b r = (match c r with
    | .ok false => .ok (r, .nx)
    | .ok true => match b r with
      | .ok (r', .nx) => whileC c b r'
      | .ok (r', .cont) => whileC c b r'
      | .ok (r', .brk) => .ok (r', .nx)
      | .ok (r', .ret f d) => .ok (r', .ret f d)
      | .exc k v => .exc k v
      | .stuck => .stuck
    | .exc k v => .exc k v
    | .stuck => .stuck) := by
  have go : ∀ r', (∀ n, whileN c b (n + 1) r = whileN c b n r') → whileC c b r = whileC c b r' := fun r' hn => by
    by_cases hex : ∃ n x, whileN c b n r' = some x
    · obtain ⟨n, x, e⟩ := hex
      rw [whileC_of e, whileC_of (n := n + 1) (by rw [hn]; exact e)]
    · have h2 : whileC c b r' = .stuck := by unfold whileC; rw [dif_neg hex]
      have h1 : whileC c b r = .stuck := by
        unfold whileC
        rw [dif_neg]
        rintro ⟨n, x, e⟩
        cases n with
        | zero => cases e
        | succ n => rw [hn] at e; exact hex ⟨n, x, e⟩
      rw [h1, h2]
  cases hc : c r with
  | ok k =>
    cases k with
    | false => exact whileC_of (n := 1) (by unfold whileN; rw [hc])
    | true =>
      simp only
      cases hb : b r with
      | ok p =>
        obtain ⟨r', f⟩ := p
        cases f with
        | nx => exact go r' fun n => by rw [whileN, hc]; simp only [hb]
        | cont => exact go r' fun n => by rw [whileN, hc]; simp only [hb]
        | brk => exact whileC_of (n := 1) (by unfold whileN; rw [hc]; simp only [hb])
        | ret f d => exact whileC_of (n := 1) (by unfold whileN; rw [hc]; simp only [hb])
      | exc k v => exact whileC_of (n := 1) (by unfold whileN; rw [hc]; simp only [hb])
      | stuck => exact whileC_of (n := 1) (by unfold whileN; rw [hc]; simp only [hb])
  | exc k v => exact whileC_of (n := 1) (by unfold whileN; rw [hc])
  | stuck => exact whileC_of (n := 1) (by unfold whileN; rw [hc])

def forL (f : Env → D → R (Env × Fw)) : List D → Env → R (Env × Fw)
  | [], r => .ok (r, .nx)
  | x :: xs, r => match f r x with
    | .ok (r', .nx) => forL f xs r'
    | .ok (r', .cont) => forL f xs r'
    | .ok (r', .brk) => .ok (r', .nx)
    | .ok (r', .ret k d) => .ok (r', .ret k d)
    | .exc k v => .exc k v
    | .stuck => .stuck

def setFl (o : Orc) (r : Env) (i : Nat) (e : E) (d : D) : Env := (frzL r (esc o e)).set i (some (if isFresh o e = true ∧ d.isL = true then .own else .frz, d))
/-- the list of an own variable -/
def ownL (r : Env) (i : Nat) : R (List D) := match r[i]? with
  | some (some (.own, .lst xs)) => .ok xs
  | _ => .stuck
def putL (r : Env) (i : Nat) (xs : List D) : Env := r.set i (some (.own, .lst xs))
def anyOwn (r : Env) (l : List Nat) : Bool := l.any (isOwn r)
def owns (r : Env) (l : List Nat) : List Nat := l.filter (isOwn r)

noncomputable def exec (o : Orc) : S → Env → R (Env × Fw)
  | .skip, r => .ok (r, .nx)
  | .seq a b, r => match exec o a r with
    | .ok (r', .nx) => exec o b r'
    | x => x
  | .set i e, r => do let d ← ev o r e; pure (setFl o r i e d, .nx)
  | .unp is e, r => do
    let d ← ev o r e
    let r' ← bindU (frzL r (esc o e)) is d
    pure (r', .nx)
  | .par i j a b, r => do
    let x ← ev o r a
    let y ← ev o r b
    pure (setV (setV (frzL r (esc o a ++ esc o b)) i x) j y, .nx)
  | .aug i e, r => do
    let x ← getV r i
    let y ← ev o r e
    let a ← asInt x
    let b ← asInt y
    pure (setV (frzL r (esc o e)) i (.int (a + b)), .nx)
  | .put i k e, r => do
    let d ← ev o r e
    let xs ← ownL (frzL r (esc o e ++ esc o k)) i
    let kd ← ev o r k
    let n ← asInt kd
    let j ← ofO (ixN xs.length n)
    pure (putL (frzL r (esc o e ++ esc o k)) i (xs.set j d), .nx)
  | .app i e, r => do
    let xs ← ownL (frzL r (esc o e)) i
    let d ← ev o r e
    if xs.length < lim then pure (putL (frzL r (esc o e)) i (xs ++ [d]), .nx) else .stuck
  | .ext i e, r => do
    let xs ← ownL (frzL r (esc o e)) i
    let d ← ev o r e
    let ys ← items d
    if xs.length + ys.length ≤ lim then pure (putL (frzL r (esc o e)) i (xs ++ ys), .nx) else .stuck
  | .pop i, r => do
    let xs ← ownL r i
    if xs = [] then .stuck else pure (putL r i xs.dropLast, .nx)
  | .clr i, r => do
    let xs ← ownL r i
    pure (putL r i [], .nx)
  | .popV j i, r => do
    let xs ← ownL r i
    let y ← ofO xs.getLast?
    pure (setV (putL r i xs.dropLast) j y, .nx)
  | .appP i f es1 es2, r => do
    let r1 := frzL r (esc o es1 ++ esc o es2)
    let xs ← ownL r1 i
    let a ← R.noX (evs o r1 es1)
    let y ← ofO xs.getLast?
    let b ← R.noX (evs o (putL r1 i xs.dropLast) es2)
    let d ← o.call f (a ++ y :: b)
    if xs.length ≤ lim then pure (putL r1 i (xs.dropLast ++ [d]), .nx) else .stuck
  | .clrE e, r => do
    let d ← ev o r e
    if isFresh o e = true ∧ d.isL = true then pure (frzL r (esc o e), .nx) else .stuck
  | .tryF x f es j i c, r => do
    let ds ← R.noX (evs o r es)
    match o.call f ds with
    | .ok d => match x with
      | some m => pure (setFl o r m (.call f es) d, .nx)
      | none => pure (frzL r (esc o (.call f es)), .nx)
    | .exc k v => if v.isNon = true ∧ j < r.length then (match o.isx k c with
      | some true => pure (((frzL r (esc o (.call f es))).set j none).set i (some (.frz, .exc k .non)), .nx)
      | some false => .exc k v
      | none => .stuck) else .stuck
    | .stuck => .stuck
  | .expr e, r => do let d ← ev o r e; pure (frzL r (escB o e), .nx)
  | .ite c a b, r => do
    let d ← ev o r c
    let k ← asBl d
    if k = true then exec o a (frzL r (escB o c)) else exec o b (frzL r (escB o c))
  | .whl c b dead, r => whileC (fun r => do let d ← ev o r c; asBl d)
      (fun r => match exec o b r with
        | .ok (r', f) => .ok (frzL (kill r' dead) (escB o c), f)
        | x => x) (frzL r (escB o c))
  | .for_ tup is it b dead, r => do
    let xs ← evI o r it
    let r1 := frzL r (esc o it)
    let lk := owns r1 (locks it)
    match forL (fun r x => do
      let r' ← bindT r tup is x
      match exec o b r' with
      | .ok (r', f) => .ok (kill r' dead, f)
      | x => x) xs (lockL r1 lk) with
    | .ok (r', f) => .ok (openL r' lk, f)
    | x => x
  | .ret e, r => do
    let d ← ev o r e
    let fr := isFresh o e || (match e with | .var i => isOwn r i | _ => false)
    pure (r, .ret fr d)
  | .retN, r => .ok (r, .ret true .non)
  | .raise c, _ => .exc c .non
  | .raiseAt c e, r => do let d ← ev o r e; .exc c d
  | .brk, r => .ok (r, .brk)
  | .cont, r => .ok (r, .cont)
  | .no, _ => .stuck

/-! ### defs -/
structure Fn where
  np : Nat
  ns : Nat
  body : S
  fresh : Bool
  bor : Bool
structure Tab where
  fn : String → Option Fn
  mro : String → String → Option String
  fields : String → Option (List String)
  glob : String → Option D
  isi : String → String → Option Bool
  isx : String → String → Option Bool
  freshM : String → Bool
  borM : String → Bool

def Tab.fresh (T : Tab) (f : String) : Bool := match T.fn f with
  | some F => F.fresh
  | none => false
def Tab.bor (T : Tab) (f : String) : Bool := match T.fn f with
  | some F => F.bor
  | none => false
def start0 (F : Fn) (ds : List D) : Env := ds.map (fun d => some (.frz, d)) ++ List.replicate (F.ns - F.np) none
def outOk (F : Fn) (fr : Bool) (d : D) : Bool := (!F.fresh || fr || !d.isL) && (!F.bor || (if F.fresh then d.noL1 else d.noL))
def orcOf (T : Tab) (call : String → List D → R D) : Orc where
  call := call
  meth := fun c m ds => match T.mro c m with
    | some k => if (T.freshM m = true → T.fresh k = true) ∧ (T.borM m = true → T.bor k = true) then call k ds else .stuck
    | none => .stuck
  new := fun c ds => match T.fields c with
    | some fs => if fs.length = ds.length then .ok (.obj c ds) else .stuck
    | none => .stuck
  glob := T.glob
  isi := T.isi
  isx := T.isx
  field := fun c f => (T.fields c).bind fun fs => fs.findIdx? (· == f)
  fresh := T.fresh
  bor := T.bor
  freshM := T.freshM
  borM := T.borM
noncomputable def evFn (T : Tab) : Nat → String → List D → R D
  | 0, _, _ => .stuck
  | n + 1, f, ds => match T.fn f with
    | none => .stuck
    | some F =>
      if ds.length = F.np then
        match exec (orcOf T (evFn T n)) F.body (start0 F ds) with
        | .ok (_, .ret fr d) => if outOk F fr d = true then .ok d else .stuck
        | .ok (_, .nx) => .ok .non
        | .ok _ => .stuck
        | .exc c v => .exc c v
        | .stuck => .stuck
      else .stuck
end Pu

/-! Data as the abstract heap holds it. -/
namespace Pu
open PySem L2

abbrev Cl := String → Option (Addr × List Str)
/-- the text of some codes -/
def txt (x : List Nat) : Str := ⟨x.toArray⟩
theorem txt_len (x : List Nat) : (txt x).length = x.length := by simp [txt, Str.length]

/-- a caught exception at a, without a dict -/
def ExV (C a : Addr) : HO := .ext fun h => ∃ (oe : Obj) (vs : Array Value), h.get? a = some oe ∧ Zc (.ref C) none oe ∧ oe.data = .fields vs
mutual
inductive Rep (K : PySem.W.Frag) (cl : Cl) (G : Hp) : V → D → Prop
  | non : Rep K cl G .non .non
  | bl (b : Bool) : Rep K cl G (.bl b) (.bl b)
  | int (i : Int) : Rep K cl G (.int i) (.int i)
  | str (x : List Nat) : Rep K cl G (.str (txt x)) (.str x)
  | tup {a : Addr} {xs : List V} {ds : List D} : SqT K G a xs → RepA K cl G xs ds → Rep K cl G (.ref a) (.tup ds)
  | lst {a : Addr} {xs : List V} {ds : List D} : SqL K G a xs → RepA K cl G xs ds → Rep K cl G (.ref a) (.lst ds)
  | exc {c : String} {a C : Addr} {ns : List Str} : cl c = some (C, ns) → G a = some (ExV C a) → Rep K cl G (.ref a) (.exc c .non)
  | obj {c : String} {a C dx : Addr} {ns : List Str} {xs : List V} {ds : List D} : cl c = some (C, ns) → G a = some (.ins C dx (ns.zip xs)) → ns.length = xs.length → RepA K cl G xs ds → Rep K cl G (.ref a) (.obj c ds)
inductive RepA (K : PySem.W.Frag) (cl : Cl) (G : Hp) : List V → List D → Prop
  | nil : RepA K cl G [] []
  | cons {v : V} {vs : List V} {d : D} {ds : List D} : Rep K cl G v d → RepA K cl G vs ds → RepA K cl G (v :: vs) (d :: ds)
end

theorem sameT {K : PySem.W.Frag} {G G' : Hp} {a : Addr} {xs : List V} (e : Same G G') (h : SqT K G a xs) : SqT K G' a xs := by
  rcases h with (h | ⟨o, h⟩) | h
  · exact .inl (.inl (e _ _ h))
  · exact .inl (.inr ⟨o, e _ _ h⟩)
  · exact .inr h

section
variable {K : PySem.W.Frag} {cl : Cl} {G G' H H' : Hp} {v : V} {d : D} {vs ws : List V} {ds es : List D} {a : Addr}

mutual
theorem Rep.mono (e : Same G G') : ∀ (d : D) (v : V), Rep K cl G v d → Rep K cl G' v d
  | .non, _, h => by cases h; exact .non
  | .bl b, _, h => by cases h; exact .bl b
  | .int i, _, h => by cases h; exact .int i
  | .str x, _, h => by cases h; exact .str x
  | .tup ds, _, h => by cases h with | tup s r => exact .tup (sameT e s) (RepA.mono e ds _ r)
  | .lst ds, _, h => by cases h with | lst s r => exact .lst (e.seq s) (RepA.mono e ds _ r)
  | .obj c ds, _, h => by cases h with | obj k g l r => exact .obj k (e _ _ g) l (RepA.mono e ds _ r)
  | .exc _ _, _, h => by cases h with | exc k g => exact .exc k (e _ _ g)
theorem RepA.mono (e : Same G G') : ∀ (ds : List D) (vs : List V), RepA K cl G vs ds → RepA K cl G' vs ds
  | [], _, h => by cases h; exact .nil
  | d :: ds, _, h => by cases h with | cons r t => exact .cons (Rep.mono e d _ r) (RepA.mono e ds _ t)
end

/-- some lists taken out -/
def less (G : Hp) (l : List Addr) : Hp := fun a => if a ∈ l then none else G a
mutual
theorem Rep.less {l : List Addr} (hl : ∀ a ∈ l, ∃ xs, G a = some (.lst xs)) : ∀ (d : D) (v : V), d.noL = true → Rep K cl G v d → Rep K cl (less G l) v d
  | .non, _, _, h => by cases h; exact .non
  | .bl b, _, _, h => by cases h; exact .bl b
  | .int i, _, _, h => by cases h; exact .int i
  | .str x, _, _, h => by cases h; exact .str x
  | .tup ds, _, n, h => by
    cases h with
    | @tup a xs _ s r =>
      refine .tup (xs := xs) ?_ (RepA.less hl ds _ (by simpa [D.noL] using n) r)
      have keep : ∀ {o : HO}, G a = some o → (∀ ys, o ≠ .lst ys) → Pu.less G l a = some o := fun {o} q no => by
        unfold Pu.less
        rw [if_neg]
        · exact q
        · intro hm
          obtain ⟨ys, e⟩ := hl a hm
          rw [q] at e
          exact no ys (Option.some.inj e)
      rcases s with (s | ⟨o, s⟩) | s
      · exact .inl (.inl (keep s fun ys z => by cases z))
      · exact .inl (.inr ⟨o, keep s fun ys z => by cases z⟩)
      · exact .inr s
  | .lst ds, _, n, h => by simp [D.noL] at n
  | .obj c ds, _, n, h => by
    cases h with
    | @obj _ a C dx ns xs _ k g q r =>
      refine .obj (dx := dx) k ?_ q (RepA.less hl ds _ (by simpa [D.noL] using n) r)
      unfold Pu.less
      rw [if_neg]
      · exact g
      · intro hm
        obtain ⟨ys, e⟩ := hl a hm
        rw [g] at e
        cases e
  | .exc _ _, _, _, h => by
    cases h with
    | @exc _ a C ns k g =>
      refine .exc k ?_
      unfold Pu.less
      rw [if_neg]
      · exact g
      · intro hm
        obtain ⟨ys, e⟩ := hl a hm
        rw [g] at e
        cases e
theorem RepA.less {l : List Addr} (hl : ∀ a ∈ l, ∃ xs, G a = some (.lst xs)) : ∀ (ds : List D) (vs : List V), D.noLA ds = true → RepA K cl G vs ds → RepA K cl (less G l) vs ds
  | [], _, _, h => by cases h; exact .nil
  | d :: ds, _, n, h => by
    have n' : d.noL = true ∧ D.noLA ds = true := by simpa [D.noLA] using n
    cases h with | cons r t => exact .cons (Rep.less hl d _ n'.1 r) (RepA.less hl ds _ n'.2 t)
end

theorem RepA.length (h : RepA K cl G vs ds) : vs.length = ds.length := by
  induction ds generalizing vs with
  | nil => cases h; rfl
  | cons d ds ih => cases h with | cons r t => simp [ih t]
theorem RepA.get {i : Nat} (h : RepA K cl G vs ds) (e : ds[i]? = some d) : ∃ v, vs[i]? = some v ∧ Rep K cl G v d := by
  induction ds generalizing vs i with
  | nil => simp at e
  | cons d0 ds ih =>
    cases h with
    | cons r t =>
      cases i with
      | zero => simp at e; subst e; exact ⟨_, rfl, r⟩
      | succ i => obtain ⟨v, h1, h2⟩ := ih t (by simpa using e); exact ⟨v, by simpa using h1, h2⟩
theorem RepA.getV {i : Nat} (h : RepA K cl G vs ds) (e : vs[i]? = some v) : ∃ d, ds[i]? = some d ∧ Rep K cl G v d := by
  induction ds generalizing vs i with
  | nil => cases h; simp at e
  | cons d0 ds ih =>
    cases h with
    | cons r t =>
      cases i with
      | zero => simp at e; subst e; exact ⟨_, rfl, r⟩
      | succ i => obtain ⟨v, h1, h2⟩ := ih t (by simpa using e); exact ⟨v, by simpa using h1, h2⟩
theorem RepA.append (h : RepA K cl G vs ds) (h' : RepA K cl G ws es) : RepA K cl G (vs ++ ws) (ds ++ es) := by
  induction ds generalizing vs with
  | nil => cases h; exact h'
  | cons d ds ih => cases h with | cons r t => exact .cons r (ih t)
theorem RepA.take (n : Nat) (h : RepA K cl G vs ds) : RepA K cl G (vs.take n) (ds.take n) := by
  induction ds generalizing vs n with
  | nil => cases h; simp; exact .nil
  | cons d ds ih =>
    cases h with
    | cons r t =>
      cases n with
      | zero => exact .nil
      | succ n => exact .cons r (ih n t)
theorem RepA.drop (n : Nat) (h : RepA K cl G vs ds) : RepA K cl G (vs.drop n) (ds.drop n) := by
  induction ds generalizing vs n with
  | nil => cases h; simp; exact .nil
  | cons d ds ih =>
    cases h with
    | cons r t =>
      cases n with
      | zero => exact .cons r t
      | succ n => exact ih n t
theorem RepA.set {j : Nat} (h : RepA K cl G vs ds) (r : Rep K cl G v d) : RepA K cl G (vs.set j v) (ds.set j d) := by
  induction ds generalizing vs j with
  | nil => cases h; exact .nil
  | cons d0 ds ih =>
    cases h with
    | cons r0 t =>
      cases j with
      | zero => exact .cons r t
      | succ j => exact .cons r0 (ih t)
theorem RepA.dropLast (h : RepA K cl G vs ds) : RepA K cl G vs.dropLast ds.dropLast := by
  rw [List.dropLast_eq_take, List.dropLast_eq_take, h.length]
  exact h.take _
theorem RepA.reverse (h : RepA K cl G vs ds) : RepA K cl G vs.reverse ds.reverse := by
  induction ds generalizing vs with
  | nil => cases h; exact .nil
  | cons d ds ih =>
    cases h with
    | cons r t =>
      rw [List.reverse_cons, List.reverse_cons]
      exact (ih t).append (.cons r .nil)
theorem RepA.ints (ns : List Int) : RepA K cl G (ns.map V.int) (ns.map D.int) := by
  induction ns with
  | nil => exact .nil
  | cons n ns ih => exact .cons (.int n) ih
theorem RepA.ofInts {ns : List Int} (h : RepA K cl G vs ds) (e : intsOf ds = some ns) : vs = ns.map V.int := by
  induction ds generalizing vs ns with
  | nil => cases h; cases e; rfl
  | cons d ds ih =>
    cases h with
    | cons r t =>
      cases r with
      | int i =>
        have e' : (intsOf ds).map (i :: ·) = some ns := e
        obtain ⟨ms, h1, h2⟩ := Option.map_eq_some_iff.mp e'
        rw [← h2, List.map_cons, ih t h1]
      | _ => cases e
theorem RepA.ofBools {ns : List Bool} (h : RepA K cl G vs ds) (e : boolsOf ds = some ns) : vs = ns.map V.bl := by
  induction ds generalizing vs ns with
  | nil => cases h; cases e; rfl
  | cons d ds ih =>
    cases h with
    | cons r t =>
      cases r with
      | bl i =>
        have e' : (boolsOf ds).map (i :: ·) = some ns := e
        obtain ⟨ms, h1, h2⟩ := Option.map_eq_some_iff.mp e'
        rw [← h2, List.map_cons, ih t h1]
      | _ => cases e

/-! ### places -/
theorem ixN_eq (n : Nat) (i : Int) : Pu.ixN n i = L2.ixN n i := rfl
theorem RepA.at {i : Int} (h : RepA K cl G vs ds) (e : Pu.atI ds i = some d) : ∃ v, L2.atI vs i = some v ∧ Rep K cl G v d := by
  unfold Pu.atI at e
  unfold L2.atI
  rw [← ixN_eq, h.length]
  cases q : Pu.ixN ds.length i with
  | none => rw [q] at e; cases e
  | some j => rw [q] at e; exact h.get e
theorem sIx_eq (n k : Nat) (o : Option Int) : Pu.sIx n k o = HT.sIx n k o := by
  cases o with
  | none => rfl
  | some i =>
    show (if 0 ≤ i then min i.toNat n else (i + n).toNat) = (if i < 0 then (i + (n : Int)).toNat else min i.toNat n)
    by_cases h : 0 ≤ i
    · rw [if_pos h, if_neg (by omega)]
    · rw [if_neg h, if_pos (by omega)]
theorem RepA.cut (lo hi : Option Int) (h : RepA K cl G vs ds) : RepA K cl G (cutV vs lo hi) (Pu.cut ds lo hi) := by
  unfold cutV Pu.cut
  rw [sIx_eq, sIx_eq, h.length]
  exact (h.drop _).take _

/-! ### == -/
mutual
def D.py : D → PyData
  | .non => .none
  | .bl b => .bool b
  | .int i => .int i
  | .str x => .str (txt x)
  | .tup xs => .tuple (D.pyA xs)
  | .lst xs => .list (D.pyA xs)
  | .obj _ _ => .none
  | .exc _ _ => .none
def D.pyA : List D → List PyData
  | [] => []
  | x :: xs => D.py x :: D.pyA xs
end
mutual
theorem Rep.dp : ∀ (d : D) (v : V) (n : Nat), d.fit n = true → Rep K cl G v d → Dp K G v d.py
  | .non, _, _, _, h => by cases h; exact .non
  | .bl b, _, _, _, h => by cases h; exact .bl b
  | .int i, _, _, _, h => by cases h; exact .int i
  | .str x, _, _, _, h => by cases h; exact .str _
  | .tup ds, _, n, f, h => by
    cases n with
    | zero => simp [D.fit] at f
    | succ n => cases h with | tup s r => exact .tup s (RepA.dp ds _ n (by simpa [D.fit] using f) r)
  | .lst ds, _, n, f, h => by
    cases n with
    | zero => simp [D.fit] at f
    | succ n => cases h with | lst s r => exact .lst s (RepA.dp ds _ n (by simpa [D.fit] using f) r)
  | .obj _ _, _, _, f, _ => by simp [D.fit] at f
  | .exc _ _, _, _, f, _ => by simp [D.fit] at f
theorem RepA.dp : ∀ (ds : List D) (vs : List V) (n : Nat), D.fitA n ds = true → RepA K cl G vs ds → DpAll K G vs (D.pyA ds)
  | [], _, _, _, h => by cases h; exact .nil
  | d :: ds, _, n, f, h => by
    have f' : d.fit n = true ∧ D.fitA n ds = true := by simpa [D.fitA] using f
    cases h with | cons r t => exact .cons (Rep.dp d _ n f'.1 r) (RepA.dp ds _ n f'.2 t)
end
mutual
theorem fit_py : ∀ (d : D) (n : Nat), d.fit n = true → d.py.canLay0 = true ∧ d.py.depth ≤ n
  | .non, _, _ => ⟨rfl, Nat.zero_le _⟩
  | .bl _, _, _ => ⟨rfl, Nat.zero_le _⟩
  | .int _, _, _ => ⟨rfl, Nat.zero_le _⟩
  | .str x, n, f => by
    refine ⟨?_, Nat.zero_le _⟩
    have f' : (x.all fun c => decide (c < 1114112)) = true := by simpa [D.fit] using f
    show PyData.strOk (txt x) = true
    unfold PyData.strOk txt
    simpa using f'
  | .tup ds, n, f => by
    cases n with
    | zero => simp [D.fit] at f
    | succ n =>
      obtain ⟨h1, h2⟩ := fitA_py ds n (by simpa [D.fit] using f)
      exact ⟨by simpa [D.py, PyData.canLay0] using h1, by simp only [D.py, PyData.depth]; omega⟩
  | .lst ds, n, f => by
    cases n with
    | zero => simp [D.fit] at f
    | succ n =>
      obtain ⟨h1, h2⟩ := fitA_py ds n (by simpa [D.fit] using f)
      exact ⟨by simpa [D.py, PyData.canLay0] using h1, by simp only [D.py, PyData.depth]; omega⟩
  | .obj _ _, _, f => by simp [D.fit] at f
  | .exc _ _, _, f => by simp [D.fit] at f
theorem fitA_py : ∀ (ds : List D) (n : Nat), D.fitA n ds = true → PyData.canLayAll0 (D.pyA ds) = true ∧ PyData.depthAll (D.pyA ds) ≤ n
  | [], _, _ => ⟨rfl, Nat.zero_le _⟩
  | d :: ds, n, f => by
    have f' : d.fit n = true ∧ D.fitA n ds = true := by simpa [D.fitA] using f
    obtain ⟨h1, h2⟩ := fit_py d n f'.1
    obtain ⟨h3, h4⟩ := fitA_py ds n f'.2
    refine ⟨by simp [D.pyA, PyData.canLayAll0, h1, h3], ?_⟩
    simp only [D.pyA, PyData.depthAll]
    exact Nat.max_le.mpr ⟨h2, h4⟩
end
theorem fit_shaped {d : D} (f : d.fit 64 = true) : SeqAt.shaped d.py = true := by
  obtain ⟨h1, h2⟩ := fit_py d 64 f
  unfold SeqAt.shaped
  rw [h1, decide_eq_true h2]
  rfl
theorem txt_beq (x y : List Nat) : (txt x == txt y) = (x == y) := by
  by_cases h : x = y
  · subst h; simp
  · have h' : txt x ≠ txt y := fun e => h (by
      have := congrArg (fun s : Str => s.cps.toList) e
      simpa [txt] using this)
    rw [beq_eq_false_iff_ne.mpr h, beq_eq_false_iff_ne.mpr h']
mutual
theorem eqv_py : ∀ (d e : D) (n m : Nat), d.fit n = true → e.fit m = true → PyData.eqv d.py e.py = D.eqv d e
  | .non, e, n, m, _, g => by cases e <;> first | rfl | simp [D.fit] at g
  | .bl b, e, n, m, _, g => by cases e <;> first | rfl | simp [D.fit] at g
  | .int i, e, n, m, _, g => by cases e <;> first | rfl | simp [D.fit] at g
  | .str x, e, n, m, _, g => by cases e <;> first | rfl | exact txt_beq _ _ | simp [D.fit] at g
  | .tup xs, e, n, m, f, g => by
    cases e with
    | tup ys =>
      cases n with
      | zero => simp [D.fit] at f
      | succ n =>
        cases m with
        | zero => simp [D.fit] at g
        | succ m => exact eqvA_py xs ys n m (by simpa [D.fit] using f) (by simpa [D.fit] using g)
    | obj _ _ => simp [D.fit] at g
    | exc _ _ => simp [D.fit] at g
    | _ => rfl
  | .lst xs, e, n, m, f, g => by
    cases e with
    | lst ys =>
      cases n with
      | zero => simp [D.fit] at f
      | succ n =>
        cases m with
        | zero => simp [D.fit] at g
        | succ m => exact eqvA_py xs ys n m (by simpa [D.fit] using f) (by simpa [D.fit] using g)
    | obj _ _ => simp [D.fit] at g
    | exc _ _ => simp [D.fit] at g
    | _ => rfl
  | .obj _ _, _, _, _, f, _ => by simp [D.fit] at f
  | .exc _ _, _, _, _, f, _ => by simp [D.fit] at f
theorem eqvA_py : ∀ (ds es : List D) (n m : Nat), D.fitA n ds = true → D.fitA m es = true → PyData.eqvAll (D.pyA ds) (D.pyA es) = D.eqvA ds es
  | [], [], _, _, _, _ => rfl
  | [], _ :: _, _, _, _, _ => rfl
  | _ :: _, [], _, _, _, _ => rfl
  | d :: ds, e :: es, n, m, f, g => by
    have f' : d.fit n = true ∧ D.fitA n ds = true := by simpa [D.fitA] using f
    have g' : e.fit m = true ∧ D.fitA m es = true := by simpa [D.fitA] using g
    show (PyData.eqv d.py e.py && PyData.eqvAll (D.pyA ds) (D.pyA es)) = (D.eqv d e && D.eqvA ds es)
    rw [eqv_py d e n m f'.1 g'.1, eqvA_py ds es n m f'.2 g'.2]
end
/-- flat things -/
theorem Rep.flat (h : Rep K cl G v d) (f : d.flat = true) : flatV v = true := by
  cases h <;> first | rfl | cases f
theorem RepA.flat (h : RepA K cl G vs ds) (f : ds.all D.flat = true) : vs.all flatV = true := by
  induction ds generalizing vs with
  | nil => cases h; rfl
  | cons d ds ih =>
    cases h with
    | cons r t =>
      rw [List.all_cons, Bool.and_eq_true] at f
      rw [List.all_cons, Bool.and_eq_true]
      exact ⟨r.flat f.1, ih t f.2⟩
theorem txt_beqV (x y : List Nat) : (txt x == txt y) = (x == y) := txt_beq x y
theorem Rep.eqV {y : V} {e : D} (h : Rep K cl G v d) (h' : Rep K cl G y e) (f : d.flat = true) (f' : e.flat = true) : L2.eqV y v = D.eqv e d := by
  cases h <;> cases h' <;> first | rfl | exact txt_beq _ _ | (cases f; done) | (cases f'; done)
theorem RepA.inV (h : Rep K cl G v d) (f : d.flat = true) (hs : RepA K cl G vs ds) (fs : ds.all D.flat = true) : L2.inV v vs = ds.any fun y => D.eqv y d := by
  induction ds generalizing vs with
  | nil => cases hs; rfl
  | cons e ds ih =>
    cases hs with
    | cons r t =>
      rw [List.all_cons, Bool.and_eq_true] at fs
      show (L2.eqV _ v || L2.inV v _) = _
      rw [List.any_cons, h.eqV r f fs.1, ih t fs.2]
end

/-! ### growth -/
structure Grow (G H G' H' : Hp) : Prop where
  sg : Same G G'
  sh : Same H H'
  sub : Same G' H'
  nw : ∀ a, H a ≠ none → G' a = G a
theorem Grow.refl {G H : Hp} (s : Same G H) : Grow G H G H := ⟨.refl _, .refl _, s, fun _ _ => rfl⟩
theorem Grow.trans {G H G1 H1 G2 H2 : Hp} (a : Grow G H G1 H1) (b : Grow G1 H1 G2 H2) : Grow G H G2 H2 :=
  ⟨a.sg.trans b.sg, a.sh.trans b.sh, b.sub, fun x hx => by
    have : H1 x ≠ none := by
      cases q : H x with
      | none => exact absurd q hx
      | some o => rw [a.sh _ _ q]; simp
    rw [b.nw x this, a.nw x hx]⟩
theorem same_none {G H : Hp} (s : Same G H) {p : Addr} (h : H p = none) : G p = none := s.free h
/-- a new object, never changed -/
theorem Grow.laid {G H : Hp} (s : Same G H) {p : Addr} (hp : H p = none) (o : HO) : Grow G H (upd G p o) (upd H p o) := by
  refine ⟨fun a u q => ?_, fun a u q => ?_, fun a u q => ?_, fun a ha => ?_⟩
  · rw [upd_ne (ne_of_none q (s.free hp))]; exact q
  · rw [upd_ne (ne_of_none q hp)]; exact q
  · by_cases e : a = p
    · subst e; rw [upd_same] at q ⊢; exact q
    · rw [upd_ne e] at q ⊢; exact s _ _ q
  · exact upd_ne (fun e => ha (by rw [e]; exact hp))
/-- a new object of one's own -/
theorem Grow.mine {G H : Hp} (s : Same G H) {p : Addr} (hp : H p = none) (o : HO) : Grow G H G (upd H p o) := by
  refine ⟨.refl _, fun a u q => ?_, fun a u q => ?_, fun _ _ => rfl⟩
  · rw [upd_ne (ne_of_none q hp)]; exact q
  · rw [upd_ne (ne_of_none (s _ _ q) hp)]; exact s _ _ q

section
variable {K : PySem.W.Frag} {cl : Cl} {G G' H H' : Hp} {v : V} {d : D}
/-- a list of one's own -/
def OwnRep (K : PySem.W.Frag) (cl : Cl) (G H : Hp) (v : V) (d : D) : Prop := ∃ a xs ds, v = .ref a ∧ d = .lst ds ∧ G a = none ∧ H a = some (.lst xs) ∧ RepA K cl G xs ds
theorem OwnRep.grow (g : Grow G H G' H') (h : OwnRep K cl G H v d) : OwnRep K cl G' H' v d := by
  obtain ⟨a, xs, ds, e1, e2, n, q, r⟩ := h
  exact ⟨a, xs, ds, e1, e2, by rw [g.nw a (by rw [q]; simp)]; exact n, g.sh _ _ q, RepA.mono g.sg _ _ r⟩
/-- what is only looked at -/
def RepB (K : PySem.W.Frag) (cl : Cl) (G H : Hp) (v : V) (d : D) : Prop := Rep K cl G v d ∨ OwnRep K cl G H v d
theorem RepB.grow (g : Grow G H G' H') (h : RepB K cl G H v d) : RepB K cl G' H' v d := h.imp (Rep.mono g.sg _ _) (OwnRep.grow g)
/-- looked at: at the heap as it stands -/
theorem RepB.lst {ds : List D} (s : Same G H) (h : RepB K cl G H v (.lst ds)) : ∃ a xs, v = .ref a ∧ SqL K H a xs ∧ RepA K cl G xs ds := by
  rcases h with h | ⟨a, xs, es, e1, e2, n, q, r⟩
  · cases h with | lst q r => exact ⟨_, _, rfl, s.seq q, r⟩
  · cases e2
    exact ⟨a, xs, e1, .of q, r⟩
theorem RepB.rep (h : RepB K cl G H v d) (n : d.isL = false) : Rep K cl G v d := by
  rcases h with h | ⟨a, xs, es, e1, e2, _⟩
  · exact h
  · rw [e2] at n; cases n
theorem RepB.tup {ds : List D} (s : Same G H) (h : RepB K cl G H v (.tup ds)) : ∃ a xs, v = .ref a ∧ SqT K H a xs ∧ RepA K cl G xs ds := by
  have h := h.rep rfl
  cases h with | tup q r => exact ⟨_, _, rfl, sameT s q, r⟩
theorem RepB.int {i : Int} (h : RepB K cl G H v (.int i)) : v = .int i := by
  have h := h.rep rfl
  cases h; rfl
theorem RepB.bl {i : Bool} (h : RepB K cl G H v (.bl i)) : v = .bl i := by
  have h := h.rep rfl
  cases h; rfl
theorem RepB.str {x : List Nat} (h : RepB K cl G H v (.str x)) : v = .str (txt x) := by
  have h := h.rep rfl
  cases h; rfl
/-- for == : everything as the heap stands -/
theorem RepB.dp {n : Nat} (s : Same G H) (h : RepB K cl G H v d) (f : d.fit n = true) : Dp K H v d.py := by
  rcases h with h | ⟨a, xs, es, e1, e2, nn, q, r⟩
  · exact Rep.dp d v n f (Rep.mono s _ _ h)
  · subst e1 e2
    cases n with
    | zero => simp [D.fit] at f
    | succ n => exact .lst (.of q) (RepA.dp es _ n (by simpa [D.fit] using f) (RepA.mono s _ _ r))

/-- a value that comes out -/
def Out (K : PySem.W.Frag) (cl : Cl) (fr : Bool) (G' H H' : Hp) (v : V) (d : D) : Prop :=
  if fr = true ∧ d.isL = true then OwnRep K cl G' H' v d ∧ (∀ a, v = .ref a → H a = none) else Rep K cl G' v d
theorem Out.rep {fr : Bool} (g : Grow G H G' H') (h : Out K cl fr G' H H' v d) : ∃ G2, Grow G H G2 H' ∧ Same G' G2 ∧ Rep K cl G2 v d := by
  unfold Out at h
  by_cases c : fr = true ∧ d.isL = true
  · rw [if_pos c] at h
    obtain ⟨⟨a, xs, ds, e1, e2, n, q, r⟩, h2⟩ := h
    have hn := h2 a e1
    have sm : Same G' (upd G' a (.lst xs)) := fun b u z => by rw [upd_ne (ne_of_none z n)]; exact z
    refine ⟨upd G' a (.lst xs), ⟨g.sg.trans sm, g.sh, fun b u z => ?_, fun b hb => ?_⟩, sm, ?_⟩
    · by_cases e : b = a
      · subst e; rw [upd_same] at z; cases z; exact q
      · rw [upd_ne e] at z; exact g.sub _ _ z
    · rw [upd_ne (fun e => hb (by rw [e]; exact hn)), g.nw b hb]
    · subst e1 e2
      exact .lst (.of upd_same) (RepA.mono sm _ _ r)
  · rw [if_neg c] at h
    exact ⟨G', g, .refl _, h⟩
theorem Out.repB {fr : Bool} (h : Out K cl fr G' H H' v d) : RepB K cl G' H' v d := by
  unfold Out at h
  by_cases c : fr = true ∧ d.isL = true
  · rw [if_pos c] at h; exact .inr h.1
  · rw [if_neg c] at h; exact .inl h
theorem Out.of {fr : Bool} (h : Rep K cl G' v d) (c : fr = false ∨ d.isL = false) : Out K cl fr G' H H' v d := by
  unfold Out
  rw [if_neg]
  · exact h
  · rintro ⟨h1, h2⟩
    rcases c with c | c
    · rw [c] at h1; cases h1
    · rw [c] at h2; cases h2
theorem Out.new {fr : Bool} {p : Addr} {xs : List V} {ds : List D} (s : Same G H) (hp : H p = none) (r : RepA K cl G xs ds) (h : fr = true) : Out K cl fr G H (upd H p (.lst xs)) (.ref p) (.lst ds) := by
  unfold Out
  rw [if_pos ⟨h, rfl⟩]
  exact ⟨⟨p, xs, ds, rfl, rfl, s.free hp, upd_same, r⟩, fun a e => by cases e; exact hp⟩

/-! ### the names of a def -/
def CellRep (K : PySem.W.Frag) (cl : Cl) (G H : Hp) : Fl → V → D → Prop
  | .frz, v, d => Rep K cl G v d
  | _, v, d => OwnRep K cl G H v d
structure EnvRep (K : PySem.W.Frag) (cl : Cl) (G : Hp) (r : Env) (σ : St) (H : Hp) : Prop where
  sub : Same G H
  len : σ.length = r.length
  cell : ∀ (i : Nat) (fl : Fl) (d : D), r[i]? = some (some (fl, d)) → ∃ v, σ[i]? = some (some v) ∧ CellRep K cl G H fl v d
  apart : ∀ (i j : Nat) (fi fj : Fl) (di dj : D) (v : V), i ≠ j → r[i]? = some (some (fi, di)) → r[j]? = some (some (fj, dj)) → fi ≠ .frz → fj ≠ .frz → σ[i]? = some (some v) → σ[j]? = some (some v) → False
theorem CellRep.grow {fl : Fl} (g : Grow G H G' H') (h : CellRep K cl G H fl v d) : CellRep K cl G' H' fl v d := by
  cases fl with
  | frz => exact Rep.mono g.sg _ _ h
  | own => exact OwnRep.grow g h
  | lock => exact OwnRep.grow g h
theorem CellRep.repB {fl : Fl} (h : CellRep K cl G H fl v d) : RepB K cl G H v d := by
  cases fl with
  | frz => exact .inl h
  | own => exact .inr h
  | lock => exact .inr h
theorem EnvRep.grow {r : Env} {σ : St} (g : Grow G H G' H') (h : EnvRep K cl G r σ H) : EnvRep K cl G' r σ H' :=
  ⟨g.sub, h.len, fun i fl d e => let ⟨v, h1, h2⟩ := h.cell i fl d e; ⟨v, h1, h2.grow g⟩, h.apart⟩

/-- none of these is of one's own -/
def AllFrz (l : List Nat) (r : Env) : Prop := ∀ i ∈ l, ∀ (fl : Fl) (d : D), r[i]? = some (some (fl, d)) → fl = .frz

/-! ### the evaluator's outcomes -/
def Wp {α : Type} (W : String → D → Prop) (x : R α) (k : α → Prop) : Prop := match x with
  | .ok a => k a
  | .exc c v => W c v
  | .stuck => False
theorem Wp.bind {α β : Type} {W : String → D → Prop} {x : R α} {f : α → R β} {k : β → Prop} : Wp W (x >>= f) k ↔ Wp W x fun a => Wp W (f a) k := by
  cases x <;> exact Iff.rfl
theorem Wp.imp {α : Type} {W W' : String → D → Prop} {x : R α} {k k' : α → Prop} (h : Wp W x k) (hW : ∀ c v, W c v → W' c v) (hk : ∀ a, k a → k' a) : Wp W' x k' := by
  cases x with
  | ok a => exact hk a h
  | exc c v => exact hW c v h
  | stuck => exact h
theorem Wp.ok {α : Type} {W : String → D → Prop} {a : α} {k : α → Prop} : Wp W (.ok a) k ↔ k a := Iff.rfl
theorem Wp.pure {α : Type} {W : String → D → Prop} {a : α} {k : α → Prop} : Wp W (Pure.pure a : R α) k ↔ k a := Iff.rfl
theorem Wp.ite {α : Type} {W : String → D → Prop} {c : Prop} [Decidable c] {x : R α} {k : α → Prop} (h : Wp W (if c then x else .stuck) k) : c ∧ Wp W x k := by
  by_cases hc : c
  · rw [if_pos hc] at h; exact ⟨hc, h⟩
  · rw [if_neg hc] at h; exact False.elim h
theorem Wp.ofO {α : Type} {W : String → D → Prop} {o : Option α} {k : α → Prop} (h : Wp W (Pu.ofO o) k) : ∃ a, o = some a ∧ k a := by
  cases o with
  | none => exact False.elim h
  | some a => exact ⟨a, rfl, h⟩
end
end Pu

/-! Does a text of the language stand for a Python text? -/
namespace Pu
open PySem

def visB (sc : Scope) (x : Str) : Bool := match sc.names.lookup x with
  | some .local => true
  | some .cell => true
  | some .free => true
  | _ => false
def locB (sc : Scope) (x : Str) : Bool := match sc.names.lookup x with
  | some .local => true
  | some .cell => true
  | _ => false
def pureLoc (sc : Scope) (x : Str) : Bool := match sc.names.lookup x with
  | some .local => true
  | _ => false
def glB (sc : Scope) (x : Str) : Bool := match sc.names.lookup x with
  | some .globalImplicit => true
  | _ => false
def okN (x : Str) : Bool := !(x == Str.ofString "__debug__") && !(x == Str.ofString "__classdict__") && !(x == Str.ofString "__name__") && !(x == Str.ofString "super")
def slotB (N : List Str) (i : Nat) (x : Str) : Bool := match N[i]? with
  | some y => y == x
  | none => false
/-- the global name s -/
def gN (sc : Scope) (s : String) (x : Str) : Bool := x == Str.ofString s && glB sc x && okN x

def bopOk : Bop → Operator → Bool
  | .add, .Add => true
  | .sub, .Sub => true
  | .mul, .Mult => true
  | .fdiv, .FloorDiv => true
  | .mod, .Mod => true
  | .pow, .Pow => true
  | _, _ => false
def copOk : Cop → CmpOp → Bool
  | .eq, .Eq => true
  | .ne, .NotEq => true
  | .lt, .Lt => true
  | .le, .LtE => true
  | .gt, .Gt => true
  | .ge, .GtE => true
  | .in_, .In => true
  | .nin, .NotIn => true
  | _, _ => false

/-- a target -/
structure Ck where
  N : List Str
  isF : String → Bool
  isX : String → Bool
  isC : String → Bool
  isT : String → Bool
  isN : String → Bool

def chkTs (N : List Str) (sc : Scope) : List Nat → List Expr → Bool
  | [], [] => true
  | i :: is, .Name x _ :: es => slotB N i x && locB sc x && chkTs N sc is es
  | _, _ => false
def chkT (N : List Str) (sc : Scope) (tup : Bool) (is : List Nat) (tg : Expr) : Bool := match tup, is, tg with
  | true, is, .Tuple es _ _ => chkTs N sc is es
  | false, [i], .Name x _ => slotB N i x && locB sc x
  | _, _, _ => false
def ownOf (N : List Str) (is : List Nat) : List (Str × Nat) := is.filterMap fun i => (N[i]?).map fun x => (x, i)

def bFuns : List String := ["len", "abs", "max", "min", "sum", "sorted", "all"]
def bTypes : List String := ["int", "str", "list", "tuple"]
def bClasses : List String := ["int", "str", "list", "tuple", "bool"]
/-- the built-in names that must not be overlaid -/
def bAll : List String := ["len", "abs", "max", "min", "sum", "sorted", "all", "int", "str", "list", "tuple", "bool", "isinstance", "range", "zip", "reversed", "set"]

def isCall0 : Expr → Bool
  | .Call (.Name _ _) [] [] _ => true
  | _ => false
def notSet : Expr → Bool
  | .Set .. => false
  | _ => true

def notSuper : Expr → Bool
  | .Call (.Name _ _) [] [] _ => false
  | _ => true
def notSup (e : Expr) : Bool := notSuper e || match e with
  | .Call (.Name x _) [] [] _ => !(x == Str.ofString "super")
  | _ => false
mutual
def chk (c : Ck) : E → Scope → Expr → Bool
  | .var i => fun sc e => match e with
    | .Name x _ => slotB c.N i x && visB sc x && okN x
    | _ => false
  | .non => fun sc e => match e with
    | .Constant .none _ _ => true
    | _ => false
  | .bl b => fun sc e => match e with
    | .Constant (.bool d) _ _ => b == d
    | _ => false
  | .int i => fun sc e => match e with
    | .Constant (.int j) _ _ => i == j
    | _ => false
  | .str s => fun sc e => match e with
    | .Constant (.str x) _ _ => x == Str.ofString s
    | _ => false
  | .glob s => fun sc e => match e with
    | .Name x _ => gN sc s x
    | _ => false
  | .tup es => fun sc e => match e with
    | .Tuple xs _ _ => chks c es sc xs
    | _ => false
  | .lst es => fun sc e => match e with
    | .List xs _ => chks c es sc xs
    | _ => false
  | .bin o a b => fun sc e => match e with
    | .BinOp l op r _ => bopOk o op && chk c a sc l && chk c b sc r
    | _ => false
  | .neg a => fun sc e => match e with
    | .UnaryOp .USub x _ => chk c a sc x
    | _ => false
  | .not a => fun sc e => match e with
    | .UnaryOp .Not x _ => chk c a sc x
    | _ => false
  | .cmp o a b => fun sc e => match e with
    | .Compare l [op] [r] _ => copOk o op && chk c a sc l && chk c b sc r
    | _ => false
  | .isN a => fun sc e => match e with
    | .Compare l [.Is] [.Constant .none _ _] _ => chk c a sc l
    | _ => false
  | .notN a => fun sc e => match e with
    | .Compare l [.IsNot] [.Constant .none _ _] _ => chk c a sc l
    | _ => false
  | .cmp2 o o' a b d => fun sc e => match e with
    | .Compare l [op, op'] [m, r] _ => copOk o op && copOk o' op' && chk c a sc l && chk c b sc m && chk c d sc r
    | _ => false
  | .and a b => fun sc e => match e with
    | .BoolOp .And (x :: y :: ys) p => chk c a sc x && (match ys with
      | [] => chk c b sc y
      | z :: zs => chk c b sc (.BoolOp .And (y :: z :: zs) p))
    | _ => false
  | .or a b => fun sc e => match e with
    | .BoolOp .Or (x :: y :: ys) p => chk c a sc x && (match ys with
      | [] => chk c b sc y
      | z :: zs => chk c b sc (.BoolOp .Or (y :: z :: zs) p))
    | _ => false
  | .ix a i => fun sc e => match e with
    | .Subscript x k _ => chk c a sc x && chk c i sc k
    | _ => false
  | .sl a lo hi => fun sc e => match e with
    | .Subscript x (.Slice l h none _) _ => chk c a sc x && (match l with
      | none => lo.isNil
      | some l => !lo.isNil && chk c lo sc l) && (match h with
      | none => hi.isNil
      | some h => !hi.isNil && chk c hi sc h)
    | _ => false
  | .rev a => fun sc e => match e with
    | .Subscript x (.Slice none none (some (.UnaryOp .USub (.Constant (.int 1) _ _) _)) _) _ => chk c a sc x
    | _ => false
  | .call f es => fun sc e => match e with
    | .Call (.Name x _) (a :: as) [] _ => gN sc f x && c.isF f && chks c es sc (a :: as)
    | _ => false
  | .blt b es => fun sc e => match e with
    | .Call (.Name x _) (a :: as) [] _ => (decide (b ∈ bFuns) || decide (b ∈ bTypes)) && gN sc b x && chks c es sc (a :: as)
    | _ => false
  | .sset a => fun sc e => match e with
    | .Call (.Name x _) [.Call (.Name y _) [z] [] _] [] _ => false && gN sc "sorted" x && gN sc "set" y && chk c a sc z
    | _ => false
  | .isi a k => fun sc e => match e with
    | .Call (.Name x _) [y, .Name z _] [] _ => gN sc "isinstance" x && chk c a sc y && gN sc k z && (decide (k ∈ bClasses) || c.isC k)
    | _ => false
  | .lc elt tup is it cnd => fun sc e => match e with
    | .ListComp el [⟨tg, iter, ifs, as⟩] scope _ => as == 0 && chkI c it sc tup iter && chkT c.N scope tup is tg && chk c elt (L2.relS scope sc) el &&
      (match ifs with
        | [] => cnd.isNil
        | [t] => !cnd.isNil && chk c cnd (L2.relS scope sc) t
        | _ => false) &&
      L2.blkC c.N sc scope (ownOf c.N is)
    | _ => false
  | .fld a f => fun sc e => match e with
    | .Attribute x n _ => chk c a sc x && n == Str.ofString f && notSuper x
    | _ => false
  | .new k es => fun sc e => match e with
    | .Call (.Name x _) xs [] _ => gN sc k x && c.isN k && chks c es sc xs
    | _ => false
  | .meth a m es => fun sc e => match e with
    | .Call (.Attribute x n ap) xs [] p => chk c a sc x && n == Str.ofString m && ap.endLine == p.line && notSup x && decide (xs.length < 29) && chks c es sc xs
    | _ => false
  | _ => fun _ _ => false
def chks (c : Ck) : E → Scope → List Expr → Bool
  | .nil => fun sc es => match es with
    | [] => true
    | _ => false
  | .cons e r => fun sc es => match es with
    | x :: xs => chk c e sc x && chks c r sc xs
    | _ => false
  | _ => fun _ _ => false
/-- what a for walks; tup: into several names -/
def chkI (c : Ck) : E → Scope → Bool → Expr → Bool
  | .iseq a => fun sc tup e => chk c a sc e
  | .irng a => fun sc tup e => match e with
    | .Call (.Name x _) [y] [] _ => gN sc "range" x && chk c a sc y
    | _ => false
  | .irng2 a b => fun sc tup e => match e with
    | .Call (.Name x _) [y, z] [] _ => gN sc "range" x && chk c a sc y && chk c b sc z
    | _ => false
  | .izip a b => fun sc tup e => match e with
    | .Call (.Name x _) [y, z] [] _ => tup && gN sc "zip" x && chk c a sc y && chk c b sc z
    | _ => false
  | .irev a => fun sc tup e => match e with
    | .Call (.Name x _) [y] [] _ => gN sc "reversed" x && chk c a sc y
    | _ => false
  | _ => fun _ _ _ => false
end

/-- what a statement may store -/
def assigns : S → List Nat
  | .seq a b => assigns a ++ assigns b
  | .set i _ => [i]
  | .unp is _ => is
  | .par i j _ _ => [i, j]
  | .aug i _ => [i]
  | .put i _ _ => [i]
  | .app i _ => [i]
  | .ext i _ => [i]
  | .pop i => [i]
  | .clr i => [i]
  | .popV j i => [j, i]
  | .appP i _ _ _ => [i]
  | .tryF x _ _ j i _ => (match x with | some m => [m] | none => []) ++ [j, i]
  | .ite _ a b => assigns a ++ assigns b
  | .whl _ b dead => assigns b ++ dead
  | .for_ _ is _ b dead => is ++ assigns b ++ dead
  | _ => []

/-- a comprehension given to a name on its line -/
def swapB (sc : Scope) (y : Str) (py : Pos) (e : Expr) : Bool := match e with
  | .ListComp _ _ scope p => pureLoc sc y && py.line == p.line && !(scope.names.any fun (n, k) => n == y && (k == .local || k == .cell))
  | _ => false
def isLC : Expr → Bool
  | .ListComp .. => true
  | _ => false
def isTup : Expr → Bool
  | .Tuple .. => true
  | _ => false
def subsOk (l r : List Nat) : Bool := l.all fun i => !r.contains i

/-- a block -/
def chkB (c : Ck) : S → Scope → List Stmt → Bool
  | .skip => fun sc l => match l with
    | [] => true
    | [.Pass _] => true
    | [.Expr (.Constant (.str _) _ _) _] => true
    | _ => false
  | .seq a b => fun sc l => match l with
    | x :: y :: r => chkB c a sc [x] && chkB c b sc (y :: r)
    | _ => false
  | .set i e => fun sc l => match l with
    | [.Assign [.Name x px] v p] => slotB c.N i x && locB sc x && chk c e sc v
    | _ => false
  | .unp is e => fun sc l => match l with
    | [.Assign [.Tuple es k pt] v p] => chkTs c.N sc is es && chk c e sc v && !isTup v && !isLC v
    | _ => false
  | .par i j a b => fun sc l => match l with
    | [.Assign [.Tuple [.Name x px, .Name y py] k pt] (.Tuple [u, v] k2 pt2) p] => slotB c.N i x && slotB c.N j y && pureLoc sc x && pureLoc sc y && !(i == j) && !(x == y) &&
      px.line == py.line && chk c a sc u && chk c b sc v && !(foldedForSure 8 u && foldedForSure 8 v) && !(constantsAlone 8 u && constantsAlone 8 v)
    | _ => false
  | .aug i e => fun sc l => match l with
    | [.AugAssign (.Name x _) .Add v _] => slotB c.N i x && locB sc x && chk c e sc v
    | _ => false
  | .put i k e => fun sc l => match l with
    | [.Assign [.Subscript (.Name x _) ix _] v p] => slotB c.N i x && visB sc x && okN x && chk c k sc ix && chk c e sc v
    | _ => false
  | .app i e => fun sc l => match l with
    | [.Expr (.Call (.Attribute (.Name x _) m ap) [v] [] cp) _] => slotB c.N i x && visB sc x && okN x && m == Str.ofString "append" && ap.endLine == cp.line && chk c e sc v
    | _ => false
  | .ext i e => fun sc l => match l with
    | [.Expr (.Call (.Attribute (.Name x _) m ap) [v] [] cp) _] => slotB c.N i x && visB sc x && okN x && false && m == Str.ofString "extend" && ap.endLine == cp.line && chk c e sc v
    | _ => false
  | .pop i => fun sc l => match l with
    | [.Expr (.Call (.Attribute (.Name x _) m ap) [] [] cp) _] => slotB c.N i x && visB sc x && okN x && m == Str.ofString "pop" && ap.endLine == cp.line
    | _ => false
  | .clr i => fun sc l => match l with
    | [.Expr (.Call (.Attribute (.Name x _) m ap) [] [] cp) _] => slotB c.N i x && visB sc x && okN x && m == Str.ofString "clear" && ap.endLine == cp.line
    | _ => false
  | .clrE e => fun sc l => match l with
    | [.Expr (.Call (.Attribute v m ap) [] [] cp) _] => chk c e sc v && m == Str.ofString "clear" && ap.endLine == cp.line && notSuper v
    | _ => false
  | .tryF x f es j i k => fun sc l => match l with
    | [.Try [b] [.ExceptHandler (some (.Name cx _)) (some n) [.Assign [.Name m _] (.Name n' _) _] _] [] [] _] =>
      slotB c.N j n && pureLoc sc n && slotB c.N i m && locB sc m && n' == n && visB sc n && okN n && !(i == j) && c.isT k && gN sc k cx && (match x with
        | some y => !(y == j) && (match b with
          | .Assign [.Name z _] v _ => slotB c.N y z && locB sc z && chk c (.call f es) sc v && !isLC v
          | _ => false)
        | none => (match b with
          | .Expr v _ => chk c (.call f es) sc v && !isLC v
          | _ => false))
    | _ => false
  | .expr e => fun sc l => match l with
    | [.Expr v _] => chk c e sc v && !isLC v
    | _ => false
  | .ite d a b => fun sc l => match l with
    | [.If t x y _] => chk c d sc t && chkB c a sc x && chkB c b sc y
    | _ => false
  | .whl d b dead => fun sc l => match l with
    | [.While t x [] _] => chk c d sc t && chkB c b sc x
    | _ => false
  | .for_ tup is it b dead => fun sc l => match l with
    | [.For tg iter x [] _] => chkI c it sc tup iter && chkT c.N sc tup is tg && chkB c b sc x && subsOk (locks it) (is ++ assigns b ++ dead) && notSet iter
    | _ => false
  | .ret e => fun sc l => match l with
    | [.Return (some v) _] => chk c e sc v
    | _ => false
  | .retN => fun sc l => match l with
    | [.Return none _] => true
    | _ => false
  | .brk => fun sc l => match l with
    | [.Break _] => true
    | _ => false
  | .cont => fun sc l => match l with
    | [.Continue _] => true
    | _ => false
  | .raise k => fun sc l => match l with
    | [.Raise (some (.Call (.Name x _) [.Constant (.str _) _ _] [] _)) none _] => c.isX k && gN sc k x
    | _ => false
  | .no => fun _ _ => true
  | _ => fun _ _ => false
end Pu

/-! Operators by values. -/
namespace L2
open PySem PySem.Spec PyProof.Rows
section
variable {X : Cx}
/-- xs + ys of lists that are read -/
theorem op_catS : OpR X (binaryOp .Add) (fun x y H Q => ∃ l b xs zs, x = .ref l ∧ y = .ref b ∧ SqL X.K H l xs ∧ SqL X.K H b zs ∧ xs.length + zs.length ≤ sizeLine ∧ ∀ p, H p = none → Q (.ref p) (upd H p (.lst (xs ++ zs)))) := by
  intro pins s σ H x y v u Q I rx ry h
  obtain ⟨l, b, xs, zs, rfl, rfl, hH, hB, hz, q⟩ := h
  cases rx
  cases ry
  obtain ⟨its, r, pl, h1⟩ := I.list hH
  obtain ⟨its2, r2, pl2, h2⟩ := I.list hB
  obtain ⟨⟨cls, dd, data, sl⟩, ho, hc, n, hd⟩ := pl.isList
  obtain ⟨⟨cls2, dd2, data2, sl2⟩, ho2, hc2, n2, hd2⟩ := pl2.isList
  simp only at hc hd hc2 hd2
  subst hc hd hc2 hd2
  have e1 := r.length
  have e2 := r2.length
  refine concat_meets ⟨_, ho, rfl⟩ ⟨_, ho2, rfl⟩ noFill_list_add seq_list_add PySem.F.slot_list_add PySem.F.entry_list_add (PySem.F.args_list_add_2 _ _) (list_addW l b its.toArray its2.toArray n n2 dd dd2 sl sl2 (by simp only [List.size_toArray]; omega)) ⟨ho, ho2, ?_⟩
  have ea : its.toArray ++ its2.toArray = (its ++ its2).toArray := by simp
  rw [ea]
  exact ⟨.ref _, _, I.laid (t' := s.toks) (o := .lst (xs ++ zs)) (fun b ob q => Heap.get?_push_of_some _ q) (Nat.le_refl _) ⟨by rw [List.length_append]; omega, its ++ its2, 0, r.append r2, Heap.get?_push_size _ rfl⟩, rfl, q _ (I.hok.fresh (Nat.le_refl _))⟩
theorem mulOk_of {i j : Int} (h : Pu.mulOk i j = true) : IntMulOk i j := by
  unfold Pu.mulOk at h
  simp only [Bool.or_eq_true, decide_eq_true_eq] at h
  rcases h with (h | h) | h
  · have b : ∀ x : Int, Builtin.Int.intBits x ≤ x.natAbs.log2 + 1 := fun x => by
      unfold Builtin.Int.intBits
      split <;> omega
    have h1 := b i
    have h2 := b j
    have e : bitsLine = 134217728 := by decide
    unfold IntMulOk
    intro z
    rw [Bool.and_eq_true] at z
    have z2 := z.2
    unfold Builtin.Int.intTooBig at z2
    have z3 := of_decide_eq_true z2
    rw [e] at z3
    omega
  · exact .of_left (intBits_le_64 (by omega) (by omega))
  · exact .of_right (intBits_le_64 (by omega) (by omega))
theorem divOk_of {i j : Int} (h : Pu.divOk i j = true) : j ≠ 0 ∧ Builtin.divisionGoesByPylong i j = false := by
  unfold Pu.divOk at h
  simp only [Bool.and_eq_true, Bool.or_eq_true, decide_eq_true_eq] at h
  refine ⟨h.1, ?_⟩
  rcases h.2 with h2 | h2
  · exact PyProof.noPylong_of_log2 h2
  · show (decide ((if j == 0 then 0 else j.natAbs.log2 / 30 + 1) > 300) && decide ((if i == 0 then 0 else i.natAbs.log2 / 30 + 1) > (if j == 0 then 0 else j.natAbs.log2 / 30 + 1) + 150)) = false
    have : ¬ ((if i == 0 then 0 else i.natAbs.log2 / 30 + 1) > (if j == 0 then 0 else j.natAbs.log2 / 30 + 1) + 150) := by
      have hj : (j == 0) = false := beq_eq_false_iff_ne.mpr h.1
      rw [hj]
      simp only [Bool.false_eq_true, if_false]
      split <;> omega
    rw [decide_eq_false this, Bool.and_false]
theorem op_mulX : OpR X (binaryOp .Mult) (rI (fun i j => Pu.mulOk i j = true) fun i j => .int (i * j)) := opI fun _ _ _ _ _ _ _ hc q => mul_int q (mulOk_of hc)
theorem op_fdivX : OpR X (binaryOp .FloorDiv) (rI (fun i j => Pu.divOk i j = true) fun i j => .int (i.fdiv j)) := opI fun i j _ _ _ _ _ hc q => floordiv_int (divOk_of hc).1 q (.inl (divOk_of hc).2)
theorem op_modX : OpR X (binaryOp .Mod) (rI (fun _ j => j ≠ 0) fun i j => .int (i.fmod j)) := op_modN
theorem op_powX : OpR X (binaryOp .Pow) (rI (fun i j => Pu.powOk i j = true) fun i j => .int (i ^ j.toNat)) := opI fun i j _ _ _ _ _ hc q => by
  unfold Pu.powOk at hc
  simp only [Bool.and_eq_true, decide_eq_true_eq] at hc
  exact pow_int_small hc.1.1 hc.1.2 hc.2 q
/-- xs * k of a list that is read -/
theorem op_repS : OpR X (binaryOp .Mult) (fun x y H Q => ∃ l k xs, x = .ref l ∧ y = .int k ∧ H l = some (.lst xs) ∧ 0 ≤ k ∧ k < 1000 ∧ xs.length * k.toNat ≤ sizeLine ∧ ∀ p, H p = none → Q (.ref p) (upd H p (.lst (List.replicate k.toNat xs).flatten))) := by
  intro pins s σ H x y v u Q I rx ry h
  obtain ⟨l, k, xs, e1, e2, hH, h1, h2, hz, q⟩ := h
  exact op_rep pins s σ H x y v u Q I rx ry ⟨l, k, xs, e1, e2, hH, by omega, by omega, hz, q⟩
end

/-! ### shapes of expressions -/
def plainX : Expr → Bool
  | .Starred .. => false
  | .Slice .. => false
  | .Set .. => false
  | _ => true
theorem starEach_plain {e : Expr} {es : List Expr} {env : Env} (h : plainX e = true) : starEach (e :: es) env = (false, eval e env) :: starEach es env := by
  cases e <;> first | rfl | cases h
theorem backTo_plain {pos : Pos} {env : Env} : ∀ {es : List Expr}, es.all plainX = true → (backTo pos (starEach es env)).any (·.1) = false
  | [], _ => rfl
  | e :: es, h => by
    rw [List.all_cons, Bool.and_eq_true] at h
    rw [starEach_plain h.1]
    have ih := backTo_plain (pos := pos) (env := env) h.2
    show (false || (backTo pos (starEach es env)).any (·.1)) = false
    rw [ih]
    rfl
theorem folded_plain {e : Expr} {env : Env} (h : plainX e = true) (x : Value) : foldedSetIterable e env x = pure x := by
  cases e <;> first | rfl | cases h
theorem nomark_plain {e : Expr} {op : CmpOp} (h : plainX e = true) : behindInMarks op e = false := by
  cases e <;> first | rfl | cases h
theorem ix_plain {e : Expr} (h : plainX e = true) : PlainIx e := by
  intro o i
  cases e <;> first | rfl | cases h
end L2
namespace Pu
open PySem L2
/-- no comprehension but of a list, nothing starred -/
def goodX : Expr → Bool
  | .Starred .. => false
  | .Slice .. => false
  | .Set .. => false
  | .SetComp .. => false
  | .DictComp .. => false
  | .GeneratorExp .. => false
  | .NamedExpr .. => false
  | .Lambda .. => false
  | .Await .. => false
  | .Yield .. => false
  | .YieldFrom .. => false
  | .IfExp .. => false
  | _ => true
theorem plain_of {e : Expr} (h : goodX e = true) : plainX e = true := by
  cases e <;> first | rfl | cases h
theorem chk_good {c : Ck} {e : E} {sc : Scope} {a : Expr} (h : chk c e sc a = true) : goodX a = true := by
  cases e <;> cases a <;> first | rfl | (simp [chk] at h; done)
theorem chks_good {c : Ck} : ∀ {e : E} {sc : Scope} {as : List Expr}, chks c e sc as = true → as.all plainX = true := by
  intro e
  induction e with
  | nil =>
    intro sc as h
    cases as with
    | nil => rfl
    | cons a as => simp [chks] at h
  | cons e r _ ih =>
    intro sc as h
    cases as with
    | nil => rfl
    | cons a as =>
      have h' : chk c e sc a = true ∧ chks c r sc as = true := by simpa [chks] using h
      rw [List.all_cons, Bool.and_eq_true]
      exact ⟨plain_of (chk_good h'.1), ih h'.2⟩
  | _ => intro sc as h; simp [chks] at h
theorem swaps_good {e : Expr} {t : Option Expr} {l : Nat} {env : PySem.Env} (h : goodX e = true) (h1 : isLC e = false) : swapsWith e t l env = pure false := by
  cases e <;> first | rfl | (cases h1; done) | (cases h; done)

theorem gN_of {sc : Scope} {s : String} {x : Str} (h : gN sc s x = true) : x = Str.ofString s ∧ sc.names.lookup x = some .globalImplicit ∧ okN x = true := by
  unfold gN at h
  simp only [Bool.and_eq_true, beq_iff_eq] at h
  refine ⟨h.1.1, ?_, h.2⟩
  have q := h.1.2
  unfold glB at q
  split at q
  · assumption
  · cases q
theorem okN_of {x : Str} (h : okN x = true) : (x == ("__debug__" : Str)) = false ∧ (x == ("__classdict__" : Str)) = false ∧ x ≠ ("__name__" : Str) ∧ x ≠ ("super" : Str) := by
  unfold okN at h
  simp only [Bool.and_eq_true, Bool.not_eq_true'] at h
  exact ⟨h.1.1.1, h.1.1.2, beq_eq_false_iff_ne.mp h.1.2, beq_eq_false_iff_ne.mp h.2⟩
theorem visB_of {sc : Scope} {x : Str} (h : visB sc x = true) : Vis sc x := by
  unfold visB at h
  split at h
  · exact .inl (by assumption)
  · exact .inr (.inl (by assumption))
  · exact .inr (.inr (by assumption))
  · cases h
theorem locB_of {sc : Scope} {x : Str} (h : locB sc x = true) : Loc sc x := by
  unfold locB at h
  split at h
  · exact .inl (by assumption)
  · exact .inr (by assumption)
  · cases h
theorem pureLoc_of {sc : Scope} {x : Str} (h : pureLoc sc x = true) : sc.names.lookup x = some .local := by
  unfold pureLoc at h
  split at h
  · assumption
  · cases h
theorem slotB_of {N : List Str} {i : Nat} {x : Str} (h : slotB N i x = true) : N[i]? = some x := by
  unfold slotB at h
  split at h
  · rename_i y q
    rw [q, eq_of_beq h]
  · cases h
end Pu

/-! Expressions: what the evaluator says is what comes out. -/
namespace Pu
open PySem L2

structure Pk where
  K : PySem.W.Frag
  cl : Cl
  o : Orc
  E : XK
  ex : String → Option Addr
def ExcIs (ex : String → Option Addr) (c : String) (w : D) (C : Addr) (dx : Option Addr) (H : Hp) : Prop := ex c = some C ∧ match w with
  | .non => dx = none
  | .int k => ∃ a, dx = some a ∧ H a = some (.xd [(Str.ofString "at", .int k)])
  | _ => False
def Pk.W (p : Pk) (H : Hp) (c : String) (w : D) : Prop := ∀ (H' : Hp) (C : Addr) (dx : Option Addr), Same H H' → ExcIs p.ex c w C dx H' → p.E (.ref C) dx H'
theorem Pk.W.mono {p : Pk} {H H1 : Hp} {c : String} {w : D} (s : Same H H1) (h : p.W H c w) : p.W H1 c w := fun H' C dx q e => h H' C dx (s.trans q) e

/-- what an own class must have, so that isinstance asks its instances rightly -/
structure InsK (K : PySem.W.Frag) (C : Addr) : Prop where
  cl : Cls K C
  ha : PySem.W.findIn K (.ref C) "__class__" = some (some (.builtin "object.__class__"))
  hn : PySem.W.specialIn K (.builtin "object.__class__") "__get__" = some (some (.builtin "getset_descriptor.__get__"))
  htk : PySem.W.takesIn K (.builtin "object.__class__") = some true
  hm : PySem.W.mroIn K C (.type "object") = some true
/-- an own class and the names of its fields -/
structure ClK (K : PySem.W.Frag) (C : Addr) (ns : List Str) : Prop where
  cls : Cls K C
  no : ∀ f ∈ ns, NoAttr K C f
  nd : ns.Nodup
  sz : ns.length < 1000
/-- the promise of an __init__ that stores its parameters -/
def spI (K : PySem.W.Frag) (ns : List Str) : Sp := fun vs H Q E => ∃ a C dx xs, vs = .ref a :: xs ∧ H a = some (.ins C dx []) ∧ ClK K C ns ∧ xs.length = ns.length ∧ Q .non (upd H a (.ins C dx (ns.zip xs)))
/-- what a class must have to be made -/
inductive NewK (X : Cx) (C : Addr) (ns : List Str) : Prop
  | ini {f : Addr} {fd : FuncData} {ps : List Str} {k : Nat} : Mk X.K C f → FnOk X.prog X.w X.K X.mg X.base (L2.CX X.prog X.w) k f fd ps (spI X.K ns) → Room (k + 1) X.A → Binds X.K fd ps [] → NewK X C ns
  | obj : ns = [] → PySem.W.makesIn X.K C = true → PySem.W.findIn X.K (.ref C) "__init__" = some (some (.builtin "object.__init__")) → PySem.W.mroIn X.K C (.type "object") = some true → PySem.W.keepIn X.K (.ref C) = true → NewK X C ns
/-- a def's promise: what the evaluator says -/
def spF (p : Pk) (f : String) : Sp := fun vs H Q E => ∃ G ds, Same G H ∧ RepA p.K p.cl G vs ds ∧
  Wp (Pk.W { p with E := E } H) (p.o.call f ds) (fun d => ∀ G' H' v, Grow G H G' H' → Out p.K p.cl (p.o.fresh f) G' H H' v d → Q v H')
/-- the def called by a global name, by values -/
def FnC (X : Cx) (p : Pk) (f : String) (fa : Addr) : Prop :=
  ∀ (pins : List (Addr × Obj)) (s : Shared) (σ : St) (H : Hp) (vs : List V) (us : List Value) (Q : VK) (G : Hp) (ds : List D), Inv X pins σ H s → Vals vs us → Same G H → RepA p.K p.cl G vs ds →
    Wp (p.W H) (p.o.call f ds) (fun d => ∀ G' H' v, Grow G H G' H' → Out p.K p.cl (p.o.fresh f) G' H H' v d → Q v H') →
    wpAny (model X.prog X.w) X.A (call (.ref fa) us) (EP X pins σ Q) X.xe s
structure FnK (X : Cx) (p : Pk) (f : String) (fa : Addr) : Prop where
  kp : PySem.W.keepIn X.K (.ref fa) = true
  ok : ∃ fd ps k, FnOk X.prog X.w X.K X.mg X.base (L2.CX X.prog X.w) k fa fd ps (spF p f) ∧ Room k X.A ∧ Binds X.K fd ps []
theorem FnK.c {X : Cx} {p : Pk} {f : String} {fa : Addr} (h : FnK X p f fa) (ps : Passes (L2.CX X.prog X.w) X p.E) : FnC X p f fa := by
  intro pins s σ H vs us Q G ds I r sg ra w
  obtain ⟨fd, pr, k, F, hr, hb⟩ := h.ok
  exact run_fn F hr hb .nil ps I r (by rw [List.append_nil]; exact ⟨G, ds, sg, ra, w⟩)
structure XOk (c : Ck) (p : Pk) (X : Cx) : Prop where
  K : X.K = p.K
  N : X.N = c.N
  nd : c.N.Nodup
  calm : X.calm = true
  room : X.A.units + 64 < cLine
  mgB : ∀ b ∈ bAll, X.mg (Str.ofString b) = none
  glob : ∀ x d, p.o.glob x = some d → ∃ v u, X.mg (Str.ofString x) = some u ∧ RelV v u ∧ Rep p.K p.cl (fun _ => none) v d
  call : ∀ f, c.isF f = true → ∃ fa, X.mg (Str.ofString f) = some (.ref fa) ∧ FnK X p f fa
  pass : Passes (L2.CX X.prog X.w) X p.E
  isC : ∀ k, c.isC k = true → ∃ v u, ClsV v u ∧ RelV v u ∧ (X.mg (Str.ofString k) = some u ∨ (X.mg (Str.ofString k) = none ∧ bootBuiltins (Str.ofString k) = some u)) ∧
    (∀ e C ns b, p.cl e = some (C, ns) → p.o.isx e k = some b → ExcC p.K C ∧ PySem.W.kitOne p.K (.ref C) u = some b) ∧
    ∀ e C ns b, p.cl e = some (C, ns) → p.o.isi e k = some b → InsK p.K C ∧ PySem.W.kitOne p.K (.ref C) u = some b
  bor : ∀ f ds d, p.o.bor f = true → p.o.call f ds = .ok d → (if p.o.fresh f = true then d.noL1 else d.noL) = true
  new : ∀ k, c.isN k = true → ∃ C ns, X.mg (Str.ofString k) = some (.ref C) ∧ p.cl k = some (C, ns) ∧ NewK X C ns ∧ ClK X.K C ns ∧ ∀ ds, p.o.new k ds = .stuck ∨ (p.o.new k ds = .ok (.obj k ds) ∧ ds.length = ns.length)
  fld : ∀ k f i, p.o.field k f = some i → ∃ C ns, p.cl k = some (C, ns) ∧ ClK X.K C ns ∧ ns[i]? = some (Str.ofString f)
  meth : ∀ k m ds, p.o.meth k m ds = .stuck ∨ ∃ f C ns fa, p.o.meth k m ds = p.o.call f ds ∧ (p.o.freshM m = true → p.o.fresh f = true) ∧ (p.o.borM m = true → p.o.bor f = true) ∧ p.cl k = some (C, ns) ∧ ClK X.K C ns ∧
    Str.ofString m ∉ ns ∧ Meth X.K C (Str.ofString m) fa ∧ FnK X p f fa

/-! ### readings -/
section
variable (p : Pk)
def tV (e : E) : TE := fun σ H Q => ∃ G r, EnvRep p.K p.cl G r σ H ∧ AllFrz (esc p.o e) r ∧ Wp (p.W H) (ev p.o r e) fun d => ∀ G' H' v, Grow G H G' H' → Out p.K p.cl (isFresh p.o e) G' H H' v d → Q v H'
def tR (e : E) : TE := fun σ H Q => ∃ G r, EnvRep p.K p.cl G r σ H ∧ AllFrz (esc p.o e) r ∧ Wp (p.W H) (ev p.o r e) fun d => ∀ G' H' v, Grow G H G' H' → Rep p.K p.cl G' v d → Q v H'
def tBo (e : E) : TE := fun σ H Q => ∃ G r, EnvRep p.K p.cl G r σ H ∧ AllFrz (escB p.o e) r ∧ Wp (p.W H) (ev p.o r e) fun d => ∀ G' H' v, Grow G H G' H' → RepB p.K p.cl G' H' v d → Q v H'
def tT (e : E) : TT := fun σ H Q => ∃ G r, EnvRep p.K p.cl G r σ H ∧ AllFrz (escB p.o e) r ∧ Wp (p.W H) (ev p.o r e) fun d => ∃ b, d = .bl b ∧ ∀ G' H', Grow G H G' H' → Q b H'
def tAr (es : E) : TA := fun σ H Q => ∃ G r, EnvRep p.K p.cl G r σ H ∧ AllFrz (esc p.o es) r ∧ Wp (p.W H) (evs p.o r es) fun ds => ∀ G' H' vs, Grow G H G' H' → RepA p.K p.cl G' vs ds → Q vs H'
/-- arguments that are looked at -/
inductive RepBA (K : PySem.W.Frag) (cl : Cl) (G H : Hp) : List V → List D → Prop
  | nil : RepBA K cl G H [] []
  | cons {v : V} {vs : List V} {d : D} {ds : List D} : RepB K cl G H v d → RepBA K cl G H vs ds → RepBA K cl G H (v :: vs) (d :: ds)
def tAb (es : E) : TA := fun σ H Q => ∃ G r, EnvRep p.K p.cl G r σ H ∧ AllFrz (esc.escBs p.o es) r ∧ Wp (p.W H) (evs p.o r es) fun ds => ∀ G' H' vs, Grow G H G' H' → RepBA p.K p.cl G' H' vs ds → Q vs H'
end
theorem RepBA.grow {K : PySem.W.Frag} {cl : Cl} {G H G' H' : Hp} (g : Grow G H G' H') {vs : List V} {ds : List D} (h : RepBA K cl G H vs ds) : RepBA K cl G' H' vs ds := by
  induction h with
  | nil => exact .nil
  | cons r _ ih => exact .cons (r.grow g) ih

section
variable {c : Ck} {p : Pk} {X : Cx} {G G' H H' : Hp} {r : Env} {σ : St} {e a b : E} {x y : Expr}
theorem peImp {x : Expr} {t t' : TE} (h : PE X x t) (i : ∀ σ H Q, t' σ H Q → t σ H Q) : PE X x t' := ⟨fun pins s σ H Q I q => h.run pins s σ H Q I (i σ H Q q)⟩
theorem paImp {x : List Expr} {t t' : TA} (h : PA X x t) (i : ∀ σ H Q, t' σ H Q → t σ H Q) : PA X x t' := ⟨fun pos pins s σ H Q I q => h.run pos pins s σ H Q I (i σ H Q q)⟩
theorem ptImp {x : Expr} {t t' : TT} (h : PT X x t) (i : ∀ σ H Q, t' σ H Q → t σ H Q) : PT X x t' := ⟨fun pins s σ H Q I q => h.run pins s σ H Q I (i σ H Q q)⟩

theorem AllFrz.left {l m : List Nat} (h : AllFrz (l ++ m) r) : AllFrz l r := fun i hi => h i (List.mem_append_left _ hi)
theorem AllFrz.right {l m : List Nat} (h : AllFrz (l ++ m) r) : AllFrz m r := fun i hi => h i (List.mem_append_right _ hi)
theorem escB_sub {o : Orc} {e : E} {i : Nat} (h : i ∈ escB o e) : i ∈ esc o e := by
  unfold escB notVar at h
  split at h
  · cases h
  · exact h
theorem AllFrz.toB {o : Orc} (h : AllFrz (esc o e) r) : AllFrz (escB o e) r := fun i hi => h i (escB_sub hi)

/-- what a first part leaves -/
theorem wB {α : Type} {f : D → R α} {K : α → Prop} {Q : VK} (R : EnvRep p.K p.cl G r σ H) (fz : AllFrz (escB p.o a) r) (h : Wp (p.W H) (ev p.o r a >>= f) K)
    (hk : ∀ d G1 H1 v, Grow G H G1 H1 → RepB p.K p.cl G1 H1 v d → Wp (p.W H1) (f d) K → Q v H1) : tBo p a σ H Q :=
  ⟨G, r, R, fz, (Wp.bind.mp h).imp (fun _ _ z => z) fun d q G1 H1 v g rb => hk d G1 H1 v g rb (q.imp (fun _ _ z => z.mono g.sh) fun _ z => z)⟩
theorem wR {α : Type} {f : D → R α} {K : α → Prop} {Q : VK} (R : EnvRep p.K p.cl G r σ H) (fz : AllFrz (esc p.o a) r) (h : Wp (p.W H) (ev p.o r a >>= f) K)
    (hk : ∀ d G1 H1 v, Grow G H G1 H1 → Rep p.K p.cl G1 v d → Wp (p.W H1) (f d) K → Q v H1) : tR p a σ H Q :=
  ⟨G, r, R, fz, (Wp.bind.mp h).imp (fun _ _ z => z) fun d q G1 H1 v g rb => hk d G1 H1 v g rb (q.imp (fun _ _ z => z.mono g.sh) fun _ z => z)⟩
theorem wT {α : Type} {f : D → R α} {K : α → Prop} {Q : Bool → Hp → Prop} (R : EnvRep p.K p.cl G r σ H) (fz : AllFrz (escB p.o a) r) (h : Wp (p.W H) (ev p.o r a >>= fun d => asBl d >>= fun k => f (.bl k)) K)
    (hk : ∀ k G1 H1, Grow G H G1 H1 → Wp (p.W H1) (f (.bl k)) K → Q k H1) : tT p a σ H Q :=
  ⟨G, r, R, fz, (Wp.bind.mp h).imp (fun _ _ z => z) fun d q => by
    cases d with
    | bl k => exact ⟨k, rfl, fun G1 H1 g => hk k G1 H1 g (Wp.imp q (fun _ _ z => z.mono g.sh) fun _ z => z)⟩
    | _ => exact False.elim q⟩
theorem wAr {α : Type} {f : List D → R α} {K : α → Prop} {Q : List V → Hp → Prop} (R : EnvRep p.K p.cl G r σ H) (fz : AllFrz (esc p.o e) r) (h : Wp (p.W H) (evs p.o r e >>= f) K)
    (hk : ∀ ds G1 H1 vs, Grow G H G1 H1 → RepA p.K p.cl G1 vs ds → Wp (p.W H1) (f ds) K → Q vs H1) : tAr p e σ H Q :=
  ⟨G, r, R, fz, (Wp.bind.mp h).imp (fun _ _ z => z) fun d q G1 H1 v g rb => hk d G1 H1 v g rb (q.imp (fun _ _ z => z.mono g.sh) fun _ z => z)⟩
theorem wAb {α : Type} {f : List D → R α} {K : α → Prop} {Q : List V → Hp → Prop} (R : EnvRep p.K p.cl G r σ H) (fz : AllFrz (esc.escBs p.o e) r) (h : Wp (p.W H) (evs p.o r e >>= f) K)
    (hk : ∀ ds G1 H1 vs, Grow G H G1 H1 → RepBA p.K p.cl G1 H1 vs ds → Wp (p.W H1) (f ds) K → Q vs H1) : tAb p e σ H Q :=
  ⟨G, r, R, fz, (Wp.bind.mp h).imp (fun _ _ z => z) fun d q G1 H1 v g rb => hk d G1 H1 v g rb (q.imp (fun _ _ z => z.mono g.sh) fun _ z => z)⟩

/-! ### from one reading to another -/
theorem pe_R (h : PE X x (tV p e)) : PE X x (tR p e) := peImp h fun σ H Q ⟨G, r, R, f, w⟩ => ⟨G, r, R, f, w.imp (fun _ _ z => z) fun d q G' H' v g o => by
  obtain ⟨G2, g2, _, r2⟩ := o.rep g
  exact q G2 H' v g2 r2⟩
theorem pe_Bv (h : PE X x (tV p e)) (n : escB p.o e = esc p.o e) : PE X x (tBo p e) := peImp h fun σ H Q ⟨G, r, R, f, w⟩ => ⟨G, r, R, (by rw [← n]; exact f), w.imp (fun _ _ z => z) fun d q G' H' v g o => q G' H' v g o.repB⟩

theorem getV_of {d : D} {i : Nat} (h : getV r i = .ok d) : ∃ fl, r[i]? = some (some (fl, d)) := by
  unfold getV at h
  split at h
  · rename_i fl d' q
    cases h
    exact ⟨_, q⟩
  · cases h
theorem wpGet {W : String → D → Prop} {i : Nat} {k : D → Prop} (h : Wp W (getV r i) k) : ∃ fl d, r[i]? = some (some (fl, d)) ∧ k d := by
  cases q : getV r i with
  | ok d =>
    rw [q] at h
    obtain ⟨fl, e⟩ := getV_of q
    exact ⟨fl, d, e, h⟩
  | exc c v =>
    unfold getV at q
    split at q <;> cases q
  | stuck => rw [q] at h; exact False.elim h

/-! ### names and constants -/
theorem e_var {i : Nat} {n : Str} {pos : Pos} (O : XOk c p X) (hs : slotB c.N i n = true) (hv : visB X.env.scope n = true) (hk : okN n = true) : PE X (.Name n pos) (tV p (.var i)) ∧ PE X (.Name n pos) (tBo p (.var i)) := by
  have base : PE X (.Name n pos) (tVar i) := pe_var (by rw [O.N]; exact slotB_of hs) (visB_of hv) (okN_of hk).1 (okN_of hk).2.1
  refine ⟨peImp base fun σ H Q ⟨G, r, R, f, w⟩ => ?_, peImp base fun σ H Q ⟨G, r, R, f, w⟩ => ?_⟩
  · obtain ⟨fl, d, e, q⟩ := wpGet w
    obtain ⟨v, h1, h2⟩ := R.cell i fl d e
    have hf : fl = .frz := f i (by simp [esc]) fl d e
    subst hf
    exact ⟨v, h1, q G H v (.refl R.sub) (.of h2 (.inl rfl))⟩
  · obtain ⟨fl, d, e, q⟩ := wpGet w
    obtain ⟨v, h1, h2⟩ := R.cell i fl d e
    exact ⟨v, h1, q G H v (.refl R.sub) h2.repB⟩
theorem e_const {v : V} {d : D} (h : PE X x (tC v)) (hr : ∀ G, Rep p.K p.cl G v d) (he : ∀ r, ev p.o r e = .ok d) (hf : isFresh p.o e = false) : PE X x (tV p e) :=
  peImp h fun σ H Q ⟨G, r, R, f, w⟩ => by
    rw [he] at w
    exact w G H v (.refl R.sub) (.of (hr G) (.inl hf))
theorem e_glob {s : String} {n : Str} {pos : Pos} (O : XOk c p X) (h : gN X.env.scope s n = true) : PE X (.Name n pos) (tV p (.glob s)) := by
  obtain ⟨e1, e2, e3⟩ := gN_of h
  subst e1
  cases q : p.o.glob s with
  | none =>
    refine ⟨fun pins st σ H Q I ⟨G, r, R, f, w⟩ => ?_⟩
    have w' : Wp (p.W H) (ofO (p.o.glob s)) _ := w
    rw [q] at w'
    exact False.elim w'
  | some d =>
    obtain ⟨v, u, m, rel, rep⟩ := O.glob s d q
    refine e_const (d := d) (pe_glob e2 m rel (okN_of e3).1) (fun G => Rep.mono (fun _ _ z => by cases z) _ _ rep) (fun r => ?_) rfl
    show ofO (p.o.glob s) = _
    rw [q]
    rfl

/-! ### argument lists -/
theorem a_nil : PA X [] (tAr p .nil) ∧ PA X [] (tAb p .nil) :=
  ⟨paImp pa_nil fun σ H Q ⟨G, r, R, f, w⟩ => w G H [] (.refl R.sub) .nil, paImp pa_nil fun σ H Q ⟨G, r, R, f, w⟩ => w G H [] (.refl R.sub) .nil⟩
theorem a_cons {xs : List Expr} {es : E} (g : plainX x = true) (h1 : PE X x (tR p e)) (h2 : PA X xs (tAr p es)) : PA X (x :: xs) (tAr p (.cons e es)) := by
  refine paImp (pa_cons h1 h2 (starEach_plain g)) fun σ H Q ⟨G, r, R, f, w⟩ => ?_
  refine wR R f.left w fun d G1 H1 v g1 r1 w1 => ?_
  refine wAr (R.grow g1) f.right w1 fun ds G2 H2 vs g2 r2 w2 => ?_
  exact w2 G2 H2 (v :: vs) (g1.trans g2) (.cons (Rep.mono g2.sg _ _ r1) r2)
theorem a_consB {xs : List Expr} {es : E} (g : plainX x = true) (h1 : PE X x (tBo p e)) (h2 : PA X xs (tAb p es)) : PA X (x :: xs) (tAb p (.cons e es)) := by
  refine paImp (pa_cons h1 h2 (starEach_plain g)) fun σ H Q ⟨G, r, R, f, w⟩ => ?_
  refine wB R (AllFrz.left f) w fun d G1 H1 v g1 r1 w1 => ?_
  refine wAb (R.grow g1) (AllFrz.right f) w1 fun ds G2 H2 vs g2 r2 w2 => ?_
  exact w2 G2 H2 (v :: vs) (g1.trans g2) (.cons (r1.grow g2) r2)

/-! ### displays -/
theorem Out.fresh {K : PySem.W.Frag} {cl : Cl} {fr : Bool} {G G1 H H1 : Hp} {q : Addr} {vs : List V} {ds : List D} (g1 : Grow G H G1 H1) (hq : H1 q = none) (r1 : RepA K cl G1 vs ds) (hf : fr = true) : Out K cl fr G1 H (upd H1 q (.lst vs)) (.ref q) (.lst ds) := by
  unfold Out
  rw [if_pos ⟨hf, rfl⟩]
  exact ⟨⟨q, vs, ds, rfl, rfl, g1.sub.free hq, upd_same, r1⟩, fun a e => by cases e; exact g1.sh.free hq⟩
theorem lim_eq : (Pu.lim : Nat) = sizeLine := by rw [sizeLine_eq]; rfl
theorem e_tup {xs : List Expr} {es : E} {k : Nat} {pos : Pos} (h : PA X xs (tAr p es)) : PE X (.Tuple xs k pos) (tV p (.tup es)) := by
  refine peImp (pe_tup h) fun σ H Q ⟨G, r, R, f, w⟩ => ?_
  refine wAr R f w fun ds G1 H1 vs g1 r1 w1 => ?_
  obtain ⟨hl, w1⟩ := Wp.ite w1
  refine ⟨by rw [r1.length, ← lim_eq]; exact hl, fun q hq => ?_⟩
  have g2 := Grow.laid g1.sub hq (.tup vs)
  exact w1 _ _ _ (g1.trans g2) (.of (.tup (.of upd_same) (RepA.mono g2.sg _ _ r1)) (.inl rfl))
theorem e_lst {xs : List Expr} {es : E} {pos : Pos} (h : PA X xs (tAr p es)) : PE X (.List xs pos) (tV p (.lst es)) := by
  refine peImp (pe_lst h) fun σ H Q ⟨G, r, R, f, w⟩ => ?_
  refine wAr R f w fun ds G1 H1 vs g1 r1 w1 => ?_
  obtain ⟨hl, w1⟩ := Wp.ite w1
  refine ⟨by rw [r1.length, ← lim_eq]; exact hl, fun q hq => ?_⟩
  exact w1 _ _ _ (g1.trans (Grow.mine g1.sub hq _)) (.fresh g1 hq r1 rfl)
end
end Pu

namespace Pu
open PySem L2
section
variable {c : Ck} {p : Pk} {X : Cx} {G G' H H' : Hp} {r : Env} {σ : St} {e a b : E} {x y z : Expr} {pos : Pos}
theorem Out.back {K : PySem.W.Frag} {cl : Cl} {fr : Bool} {H2 : Hp} {v : V} {d : D} (s : Same H H2) (h : Out K cl fr G' H2 H' v d) : Out K cl fr G' H H' v d := by
  unfold Out at h ⊢
  by_cases q : fr = true ∧ d.isL = true
  · rw [if_pos q] at h ⊢
    exact ⟨h.1, fun a e => s.free (h.2 a e)⟩
  · rw [if_neg q] at h ⊢
    exact h

/-- what is wanted behind an operation on values -/
def Kv (p : Pk) (fr : Bool) (G H : Hp) (Q : VK) (z : D) : Prop := ∀ G' H' v, Grow G H G' H' → Out p.K p.cl fr G' H H' v z → Q v H'
theorem Kv.of {fr : Bool} {G1 H1 : Hp} {Q : VK} {z : D} (g : Grow G H G1 H1) (h : ∀ G' H' v, Grow G H G' H' → Out p.K p.cl fr G' H H' v z → Q v H') : Kv p fr G1 H1 Q z :=
  fun G' H' v g2 o => h G' H' v (g.trans g2) (o.back g.sh)
/-- a value that needs nothing new -/
theorem Kv.flat {fr : Bool} {Q : VK} {z : D} {v : V} (s : Same G H) (h : Kv p fr G H Q z) (rz : ∀ G, Rep p.K p.cl G v z) (n : z.isL = false) : Q v H := h G H v (.refl s) (.of (rz G) (.inr n))
/-- a new list -/
theorem Kv.lst {Q : VK} {vs : List V} {ds : List D} {fr : Bool} (s : Same G H) (h : Kv p fr G H Q (.lst ds)) (hf : fr = true) (r : RepA p.K p.cl G vs ds) (q : Addr) (hq : H q = none) : Q (.ref q) (upd H q (.lst vs)) :=
  h _ _ _ (Grow.mine s hq _) (.fresh (.refl s) hq r hf)
theorem Kv.tup {Q : VK} {vs : List V} {ds : List D} {fr : Bool} (s : Same G H) (h : Kv p fr G H Q (.tup ds)) (r : RepA p.K p.cl G vs ds) (q : Addr) (hq : H q = none) : Q (.ref q) (upd H q (.tup vs)) :=
  have g2 := Grow.laid s hq (.tup vs)
  h _ _ _ g2 (.of (.tup (.of upd_same) (RepA.mono g2.sg _ _ r)) (.inr rfl))

theorem e_op {o : Bop} {op : Operator} {rr : R2} (ha : PE X x (tBo p a)) (hb : PE X y (tBo p b)) (ho : OpR X (binaryOp op) rr)
    (hr : ∀ (d e : D) (G H : Hp) (v u : V) (Q : VK), Same G H → RepB p.K p.cl G H v d → RepB p.K p.cl G H u e → Wp (p.W H) (bop o d e) (Kv p true G H Q) → rr v u H Q) :
    PE X (.BinOp x op y pos) (tV p (.bin o a b)) := by
  refine peImp (pe_op ho ha hb) fun σ H Q ⟨G, r, R, f, w⟩ => ?_
  refine wB R (AllFrz.left f) w fun d G1 H1 v g1 r1 w1 => ?_
  refine wB (R.grow g1) (AllFrz.right f) w1 fun e G2 H2 u g2 r2 w2 => ?_
  exact hr d e G2 H2 v u Q g2.sub (r1.grow g2) r2 (Wp.imp w2 (fun _ _ z => z) fun z k => .of (g1.trans g2) k)
theorem rep_flatten (k : Nat) (xs : List V) : (List.replicate k xs).flatten = rep k xs := by
  induction k with
  | zero => rfl
  | succ k ih => rw [List.replicate_succ, List.flatten_cons, ih]; rfl
theorem RepA.rep {K : PySem.W.Frag} {cl : Cl} {xs : List V} {ds : List D} (h : RepA K cl G xs ds) (k : Nat) : RepA K cl G (Pu.rep k xs) (Pu.rep k ds) := by
  induction k with
  | zero => exact .nil
  | succ k ih => exact h.append ih
theorem txt_append (x y : List Nat) : (txt x ++ txt y : Str) = txt (x ++ y) := by
  show (⟨(txt x).cps ++ (txt y).cps⟩ : Str) = _
  unfold txt
  simp
theorem e_bin {o : Bop} {op : Operator} (O : XOk c p X) (h : bopOk o op = true) (ha : PE X x (tBo p a)) (hb : PE X y (tBo p b)) : PE X (.BinOp x op y pos) (tV p (.bin o a b)) := by
  cases o with
  | add =>
    cases op <;> first | (cases h; done) | skip
    refine e_op ha hb (op_add.or (op_add_str.or op_catS)) fun d e G H v u Q s rv ru w => ?_
    rw [O.K]
    cases d <;> cases e <;> first | exact False.elim w | skip
    · cases rv.int; cases ru.int
      exact .inl ⟨_, _, rfl, rfl, Kv.flat s w (fun _ => .int _) rfl⟩
    · cases rv.str; cases ru.str
      obtain ⟨hl, w⟩ := Wp.ite w
      refine .inr (.inl ⟨_, _, rfl, rfl, by rw [txt_len, txt_len, ← lim_eq]; exact hl, ?_⟩)
      rw [txt_append]
      exact Kv.flat s w (fun _ => .str _) rfl
    · obtain ⟨hl, w⟩ := Wp.ite w
      obtain ⟨a1, xs, rfl, q1, s1⟩ := rv.lst s
      obtain ⟨a2, ys, rfl, q2, s2⟩ := ru.lst s
      exact .inr (.inr ⟨a1, a2, xs, ys, rfl, rfl, q1, q2, by rw [s1.length, s2.length, ← lim_eq]; exact hl, fun q hq => Kv.lst s w rfl (s1.append s2) q hq⟩)
  | sub =>
    cases op <;> first | (cases h; done) | skip
    refine e_op ha hb op_sub fun d e G H v u Q s rv ru w => ?_
    cases d <;> cases e <;> first | exact False.elim w | skip
    cases rv.int; cases ru.int
    exact ⟨_, _, rfl, rfl, Kv.flat s w (fun _ => .int _) rfl⟩
  | mul =>
    cases op <;> first | (cases h; done) | skip
    refine e_op ha hb op_mulX fun d e G H v u Q s rv ru w => ?_
    cases d <;> cases e <;> first | exact False.elim w | skip
    cases rv.int; cases ru.int
    obtain ⟨hl, w⟩ := Wp.ite w
    exact ⟨_, _, rfl, rfl, hl, Kv.flat s w (fun _ => .int _) rfl⟩
  | fdiv =>
    cases op <;> first | (cases h; done) | skip
    refine e_op ha hb op_fdivX fun d e G H v u Q s rv ru w => ?_
    cases d <;> cases e <;> first | exact False.elim w | skip
    cases rv.int; cases ru.int
    obtain ⟨hl, w⟩ := Wp.ite w
    exact ⟨_, _, rfl, rfl, hl, Kv.flat s w (fun _ => .int _) rfl⟩
  | mod =>
    cases op <;> first | (cases h; done) | skip
    refine e_op ha hb op_modX fun d e G H v u Q s rv ru w => ?_
    cases d <;> cases e <;> first | exact False.elim w | skip
    cases rv.int; cases ru.int
    obtain ⟨hl, w⟩ := Wp.ite w
    exact ⟨_, _, rfl, rfl, hl, Kv.flat s w (fun _ => .int _) rfl⟩
  | pow =>
    cases op <;> first | (cases h; done) | skip
    refine e_op ha hb op_powX fun d e G H v u Q s rv ru w => ?_
    cases d <;> cases e <;> first | exact False.elim w | skip
    cases rv.int; cases ru.int
    obtain ⟨hl, w⟩ := Wp.ite w
    exact ⟨_, _, rfl, rfl, hl, Kv.flat s w (fun _ => .int _) rfl⟩
theorem e_neg (ha : PE X x (tBo p a)) : PE X (.UnaryOp .USub x pos) (tV p (.neg a)) := by
  refine peImp (pe_un un_neg ha) fun σ H Q ⟨G, r, R, f, w⟩ => ?_
  refine wB R f w fun d G1 H1 v g1 r1 w1 => ?_
  cases d <;> first | exact False.elim w1 | skip
  cases r1.int
  exact ⟨_, rfl, w1 G1 H1 _ g1 (.of (.int _) (.inl rfl))⟩

/-! ### comparisons -/
/-- a comparison by values -/
theorem cop_R {o : Cop} {op : CmpOp} (O : XOk c p X) (h : copOk o op = true) : ∃ rr : R2, OpR X (compareOp op) rr ∧
    ∀ (d e : D) (G H : Hp) (v u : V) (Q : VK) (W : String → D → Prop), Same G H → RepB p.K p.cl G H v d → RepB p.K p.cl G H u e → Wp W (cop o d e) (fun k => Q (.bl k) H) → rr v u H Q := by
  cases o with
  | eq =>
    cases op <;> first | (cases h; done) | skip
    refine ⟨_, op_eqD O.room, fun d e G H v u Q W s rv ru w => ?_⟩
    obtain ⟨⟨h1, h2⟩, w⟩ := Wp.ite w
    rw [O.K]
    exact ⟨d.py, e.py, rv.dp s h1, ru.dp s h2, fit_shaped h1, fit_shaped h2, by rw [eqv_py d e 64 64 h1 h2]; exact w⟩
  | ne =>
    cases op <;> first | (cases h; done) | skip
    refine ⟨_, op_neD O.room, fun d e G H v u Q W s rv ru w => ?_⟩
    obtain ⟨⟨h1, h2⟩, w⟩ := Wp.ite w
    rw [O.K]
    exact ⟨d.py, e.py, rv.dp s h1, ru.dp s h2, fit_shaped h1, fit_shaped h2, by rw [eqv_py d e 64 64 h1 h2]; exact w⟩
  | lt =>
    cases op <;> first | (cases h; done) | skip
    refine ⟨_, op_lt, fun d e G H v u Q W s rv ru w => ?_⟩
    cases d <;> cases e <;> first | exact False.elim w | skip
    cases rv.int; cases ru.int
    exact ⟨_, _, rfl, rfl, w⟩
  | le =>
    cases op <;> first | (cases h; done) | skip
    refine ⟨_, op_le.or op_le_str, fun d e G H v u Q W s rv ru w => ?_⟩
    cases d <;> cases e <;> first | exact False.elim w | skip
    · cases rv.int; cases ru.int
      exact .inl ⟨_, _, rfl, rfl, w⟩
    · cases rv.str; cases ru.str
      refine .inr ⟨_, _, rfl, rfl, ?_⟩
      have q := Wp.ok.mp w
      rename_i m n
      have e : (!decide ((txt n).cps.toList < (txt m).cps.toList)) = decide (m ≤ n) := by
        unfold txt
        simp only [List.toList_toArray]
        by_cases hh : n < m
        · rw [decide_eq_true hh, decide_eq_false (by exact fun z => absurd hh (List.not_lt.mpr z))]; rfl
        · rw [decide_eq_false hh, decide_eq_true (List.not_lt.mp hh)]; rfl
      rw [e]
      exact q
  | gt =>
    cases op <;> first | (cases h; done) | skip
    refine ⟨_, op_gt, fun d e G H v u Q W s rv ru w => ?_⟩
    cases d <;> cases e <;> first | exact False.elim w | skip
    cases rv.int; cases ru.int
    exact ⟨_, _, rfl, rfl, w⟩
  | ge =>
    cases op <;> first | (cases h; done) | skip
    refine ⟨_, op_ge, fun d e G H v u Q W s rv ru w => ?_⟩
    cases d <;> cases e <;> first | exact False.elim w | skip
    cases rv.int; cases ru.int
    exact ⟨_, _, rfl, rfl, w⟩
  | in_ =>
    cases op <;> first | (cases h; done) | skip
    refine ⟨_, op_in_sign.or op_in_seq, fun d e G H v u Q W s rv ru w => ?_⟩
    rw [O.K]
    have seq : ∀ (es : List D) (a : Addr) (xs : List V), u = .ref a → (SqL p.K H a xs ∨ SqT p.K H a xs) → RepA p.K p.cl G xs es → Wp W (isIn d es) (fun k => Q (.bl k) H) → rIn p.K false v u H Q := fun es a xs e1 q1 s1 w => by
      obtain ⟨⟨h1, h2⟩, w⟩ := Wp.ite w
      have nl : d.isL = false := by cases d <;> first | rfl | cases h1
      have rd := rv.rep nl
      exact ⟨a, xs, e1, q1, rd.flat h1, s1.flat h2, by rw [if_neg Bool.false_ne_true, s1.inV rd h1 h2]; exact w⟩
    cases e with
    | str z =>
      cases ru.str
      cases d <;> first | exact False.elim w | skip
      rename_i xx
      cases xx with
      | nil => exact False.elim w
      | cons k r =>
        cases r with
        | cons _ _ => exact False.elim w
        | nil =>
          cases rv.str
          refine .inl ⟨k, txt z, rfl, rfl, ?_⟩
          exact w
    | lst es =>
      obtain ⟨a, xs, e1, q1, s1⟩ := ru.lst s
      refine .inr (seq es a xs e1 (.inl q1) s1 ?_)
      cases d with
      | str l => cases l with
        | nil => exact w
        | cons k r => cases r <;> exact w
      | _ => exact w
    | tup es =>
      obtain ⟨a, xs, e1, q1, s1⟩ := ru.tup s
      refine .inr (seq es a xs e1 (.inr q1) s1 ?_)
      cases d with
      | str l => cases l with
        | nil => exact w
        | cons k r => cases r <;> exact w
      | _ => exact w
    | _ =>
      cases d with
      | str l => cases l with
        | nil => exact False.elim w
        | cons k r => cases r <;> exact False.elim w
      | _ => exact False.elim w
  | nin =>
    cases op <;> first | (cases h; done) | skip
    refine ⟨_, op_notIn_sign.or op_notIn_seq, fun d e G H v u Q W s rv ru w => ?_⟩
    rw [O.K]
    have seq : ∀ (es : List D) (a : Addr) (xs : List V), u = .ref a → (SqL p.K H a xs ∨ SqT p.K H a xs) → RepA p.K p.cl G xs es → Wp W (isIn d es >>= fun b => pure (!b)) (fun k => Q (.bl k) H) → rIn p.K true v u H Q := fun es a xs e1 q1 s1 w => by
      obtain ⟨⟨h1, h2⟩, w⟩ := Wp.ite (Wp.bind.mp w)
      have nl : d.isL = false := by cases d <;> first | rfl | cases h1
      have rd := rv.rep nl
      exact ⟨a, xs, e1, q1, rd.flat h1, s1.flat h2, by rw [if_pos rfl, s1.inV rd h1 h2]; exact w⟩
    cases e with
    | str z =>
      cases ru.str
      cases d <;> first | exact False.elim w | skip
      rename_i xx
      cases xx with
      | nil => exact False.elim w
      | cons k r =>
        cases r with
        | cons _ _ => exact False.elim w
        | nil =>
          cases rv.str
          refine .inl ⟨k, txt z, rfl, rfl, ?_⟩
          exact w
    | lst es =>
      obtain ⟨a, xs, e1, q1, s1⟩ := ru.lst s
      refine .inr (seq es a xs e1 (.inl q1) s1 ?_)
      cases d with
      | str l => cases l with
        | nil => exact w
        | cons k r => cases r <;> exact w
      | _ => exact w
    | tup es =>
      obtain ⟨a, xs, e1, q1, s1⟩ := ru.tup s
      refine .inr (seq es a xs e1 (.inr q1) s1 ?_)
      cases d with
      | str l => cases l with
        | nil => exact w
        | cons k r => cases r <;> exact w
      | _ => exact w
    | _ =>
      cases d with
      | str l => cases l with
        | nil => exact False.elim w
        | cons k r => cases r <;> exact False.elim w
      | _ => exact False.elim w
theorem copOut {fr : Bool} {G1 H1 : Hp} {k : Bool} {Q : VK} (g : Grow G H G1 H1) (h : ∀ G' H' v, Grow G H G' H' → Out p.K p.cl fr G' H H' v (.bl k) → Q v H') : Q (.bl k) H1 := h G1 H1 _ g (.of (.bl k) (.inr rfl))
theorem e_cmp {o : Cop} {op : CmpOp} (O : XOk c p X) (h : copOk o op = true) (gy : plainX y = true) (ha : PE X x (tBo p a)) (hb : PE X y (tBo p b)) : PE X (.Compare x [op] [y] pos) (tV p (.cmp o a b)) := by
  obtain ⟨rr, ho, hr⟩ := cop_R O h
  refine peImp (pe_cmpR ho ha hb (nomark_plain gy)) fun σ H Q ⟨G, r, R, f, w⟩ => ?_
  refine wB R (AllFrz.left f) w fun d G1 H1 v g1 r1 w1 => ?_
  refine wB (R.grow g1) (AllFrz.right f) w1 fun e G2 H2 u g2 r2 w2 => ?_
  exact hr d e G2 H2 v u Q _ g2.sub (r1.grow g2) r2 (Wp.imp (Wp.bind.mp w2) (fun _ _ z => z) fun k q => copOut (g1.trans g2) q)
theorem t_cmp {o : Cop} {op : CmpOp} (O : XOk c p X) (h : copOk o op = true) (gy : plainX y = true) (ha : PE X x (tBo p a)) (hb : PE X y (tBo p b)) : PT X (.Compare x [op] [y] pos) (tT p (.cmp o a b)) := by
  obtain ⟨rr, ho, hr⟩ := cop_R O h
  refine ptImp (pt_cmpR ho ha hb (nomark_plain gy)) fun σ H Q ⟨G, r, R, f, w⟩ => ?_
  refine wB R (AllFrz.left f) w fun d G1 H1 v g1 r1 w1 => ?_
  refine wB (R.grow g1) (AllFrz.right f) w1 fun e G2 H2 u g2 r2 w2 => ?_
  refine hr d e G2 H2 v u _ _ g2.sub (r1.grow g2) r2 (Wp.imp (Wp.bind.mp w2) (fun _ _ z => z) fun k q => ?_)
  obtain ⟨k', e, q⟩ := q
  cases e
  exact ⟨_, rfl, q G2 H2 (g1.trans g2)⟩
theorem e_isN {j : Nat} {pos' : Pos} (ha : PE X x (tBo p a)) : PE X (.Compare x [.Is] [.Constant .none j pos'] pos) (tV p (.isN a)) := by
  refine peImp (pe_cmp (pc_isN ha) rfl) fun σ H Q ⟨G, r, R, f, w⟩ => ?_
  refine wB R f w fun d G1 H1 v g1 r1 w1 => ?_
  rw [non_iff r1]
  exact copOut g1 w1
where
  non_iff {G H : Hp} {v : V} {d : D} (h : RepB p.K p.cl G H v d) : decide (v = .non) = d.isNon := by
    rcases h with h | ⟨a, xs, es, e1, e2, _⟩
    · cases h <;> simp [D.isNon]
    · subst e1 e2; simp [D.isNon]
theorem t_isN {j : Nat} {pos' : Pos} (ha : PE X x (tBo p a)) : PT X (.Compare x [.Is] [.Constant .none j pos'] pos) (tT p (.isN a)) := by
  refine ptImp (pt_cmp (pc_isN ha) rfl) fun σ H Q ⟨G, r, R, f, w⟩ => ?_
  refine wB R f w fun d G1 H1 v g1 r1 w1 => ?_
  obtain ⟨k, e, q⟩ := w1
  cases e
  exact ⟨_, rfl, by rw [e_isN.non_iff r1]; exact q G1 H1 g1⟩
theorem e_notN {j : Nat} {pos' : Pos} (ha : PE X x (tBo p a)) : PE X (.Compare x [.IsNot] [.Constant .none j pos'] pos) (tV p (.notN a)) := by
  refine peImp (pe_cmp (pc_notN ha) rfl) fun σ H Q ⟨G, r, R, f, w⟩ => ?_
  refine wB R f w fun d G1 H1 v g1 r1 w1 => ?_
  rw [e_isN.non_iff r1]
  exact copOut g1 w1
theorem t_notN {j : Nat} {pos' : Pos} (ha : PE X x (tBo p a)) : PT X (.Compare x [.IsNot] [.Constant .none j pos'] pos) (tT p (.notN a)) := by
  refine ptImp (pt_cmp (pc_notN ha) rfl) fun σ H Q ⟨G, r, R, f, w⟩ => ?_
  refine wB R f w fun d G1 H1 v g1 r1 w1 => ?_
  obtain ⟨k, e, q⟩ := w1
  cases e
  refine ⟨_, rfl, ?_⟩
  rw [e_isN.non_iff r1]
  exact q G1 H1 g1
theorem lastPlain {o o' : CmpOp} (gz : plainX z = true) : lastMarks [o, o'] [y, z] = false := nomark_plain gz
theorem e_cmp2 {o o' : Cop} {op op' : CmpOp} {e : E} (O : XOk c p X) (h : copOk o op = true) (h' : copOk o' op' = true) (gz : plainX z = true) (ha : PE X x (tBo p a)) (hb : PE X y (tBo p b)) (hc : PE X z (tBo p e)) :
    PE X (.Compare x [op, op'] [y, z] pos) (tV p (.cmp2 o o' a b e)) := by
  obtain ⟨rr, ho, hr⟩ := cop_R O h
  obtain ⟨rr', ho', hr'⟩ := cop_R O h'
  refine peImp (pe_chain ho ho' ha hb hc (lastPlain gz)) fun σ H Q ⟨G, r, R, f, w⟩ => ?_
  refine wB R (AllFrz.left f) w fun d G1 H1 v g1 r1 w1 => ?_
  refine wB (R.grow g1) (AllFrz.left (AllFrz.right f)) w1 fun e G2 H2 u g2 r2 w2 => ?_
  refine hr d e G2 H2 v u _ _ g2.sub (r1.grow g2) r2 (Wp.imp (Wp.bind.mp w2) (fun _ _ z => z) fun k q => ?_)
  refine ⟨k, rfl, ?_⟩
  cases k with
  | false => exact copOut (g1.trans g2) q
  | true =>
    rw [if_pos rfl] at q ⊢
    refine wB (R.grow (g1.trans g2)) (AllFrz.right (AllFrz.right f)) q fun e' G3 H3 u' g3 r3 w3 => ?_
    exact hr' e e' G3 H3 u u' Q _ g3.sub (r2.grow g3) r3 (Wp.imp (Wp.bind.mp w3) (fun _ _ z => z) fun k q => copOut ((g1.trans g2).trans g3) q)
theorem t_cmp2 {o o' : Cop} {op op' : CmpOp} {e : E} (O : XOk c p X) (h : copOk o op = true) (h' : copOk o' op' = true) (gz : plainX z = true) (ha : PE X x (tBo p a)) (hb : PE X y (tBo p b)) (hc : PE X z (tBo p e)) :
    PT X (.Compare x [op, op'] [y, z] pos) (tT p (.cmp2 o o' a b e)) := by
  obtain ⟨rr, ho, hr⟩ := cop_R O h
  obtain ⟨rr', ho', hr'⟩ := cop_R O h'
  refine ptImp (pt_chain ho ho' ha hb hc (lastPlain gz)) fun σ H Q ⟨G, r, R, f, w⟩ => ?_
  refine wB R (AllFrz.left f) w fun d G1 H1 v g1 r1 w1 => ?_
  refine wB (R.grow g1) (AllFrz.left (AllFrz.right f)) w1 fun e G2 H2 u g2 r2 w2 => ?_
  refine hr d e G2 H2 v u _ _ g2.sub (r1.grow g2) r2 (Wp.imp (Wp.bind.mp w2) (fun _ _ z => z) fun k q => ?_)
  refine ⟨k, rfl, ?_⟩
  cases k with
  | false =>
    obtain ⟨k', e, q⟩ := q
    cases e
    exact ⟨_, rfl, q G2 H2 (g1.trans g2)⟩
  | true =>
    rw [if_pos rfl] at q ⊢
    refine wB (R.grow (g1.trans g2)) (AllFrz.right (AllFrz.right f)) q fun e' G3 H3 u' g3 r3 w3 => ?_
    refine hr' e e' G3 H3 u u' _ _ g3.sub (r2.grow g3) r3 (Wp.imp (Wp.bind.mp w3) (fun _ _ z => z) fun k q => ?_)
    obtain ⟨k', e, q⟩ := q
    cases e
    exact ⟨_, rfl, q G3 H3 ((g1.trans g2).trans g3)⟩

/-! ### and, or, not -/
theorem asBl_of {W : String → D → Prop} {d : D} {k : Bool → Prop} (h : Wp W (asBl d) k) : ∃ b, d = .bl b ∧ k b := by
  cases d <;> first | exact False.elim h | exact ⟨_, rfl, h⟩
theorem e_not (ha : PE X x (tR p a)) : PE X (.UnaryOp .Not x pos) (tV p (.not a)) := by
  refine peImp (pe_not ha) fun σ H Q ⟨G, r, R, f, w⟩ => ?_
  refine wR R f w fun d G1 H1 v g1 r1 w1 => ?_
  obtain ⟨b, rfl, w1⟩ := asBl_of (Wp.bind.mp w1)
  cases r1
  exact ⟨b, rfl, copOut g1 w1⟩
theorem e_and {ys : List Expr} (ha : PE X x (tR p a)) (hb : PE X (.BoolOp .And (y :: ys) pos) (tR p b)) : PE X (.BoolOp .And (x :: y :: ys) pos) (tV p (.and a b)) := by
  refine peImp (pe_and ha hb) fun σ H Q ⟨G, r, R, f, w⟩ => ?_
  refine wR R f.left w fun d G1 H1 v g1 r1 w1 => ?_
  obtain ⟨k, rfl, w2⟩ := asBl_of (Wp.bind.mp w1)
  cases r1
  refine ⟨k, rfl, ?_⟩
  cases k with
  | false => exact copOut g1 w2
  | true =>
    rw [if_pos rfl] at w2 ⊢
    exact ⟨G1, r, R.grow g1, f.right, w2.imp (fun _ _ z => z) fun d q G2 H2 v g2 r2 => q G2 H2 v (g1.trans g2) (.of r2 (.inl rfl))⟩
theorem e_or {ys : List Expr} (ha : PE X x (tR p a)) (hb : PE X (.BoolOp .Or (y :: ys) pos) (tR p b)) : PE X (.BoolOp .Or (x :: y :: ys) pos) (tV p (.or a b)) := by
  refine peImp (pe_or ha hb) fun σ H Q ⟨G, r, R, f, w⟩ => ?_
  refine wR R f.left w fun d G1 H1 v g1 r1 w1 => ?_
  obtain ⟨k, rfl, w2⟩ := asBl_of (Wp.bind.mp w1)
  cases r1
  refine ⟨k, rfl, ?_⟩
  cases k with
  | true => exact copOut g1 w2
  | false =>
    rw [if_neg Bool.false_ne_true] at w2 ⊢
    exact ⟨G1, r, R.grow g1, f.right, w2.imp (fun _ _ z => z) fun d q G2 H2 v g2 r2 => q G2 H2 v (g1.trans g2) (.of r2 (.inl rfl))⟩
/-- a test from its value -/
theorem t_val (h : PE X x (tBo p a)) (he : ∀ whole, isTrue x X.env whole = (do let v ← whole; standAt x.pos; holding [v] (truthy v))) : PT X x (tT p a) := by
  refine ptImp (pt_val h he) fun σ H Q ⟨G, r, R, f, w⟩ => ⟨G, r, R, f, w.imp (fun _ _ z => z) fun d q G1 H1 v g1 r1 => ?_⟩
  obtain ⟨b, rfl, q⟩ := q
  cases r1.bl
  exact ⟨b, rfl, q G1 H1 g1⟩
theorem t_not (ha : PT X x (tT p a)) : PT X (.UnaryOp .Not x pos) (tT p (.not a)) := by
  refine ptImp (pt_not ha) fun σ H Q ⟨G, r, R, f, w⟩ => ?_
  exact ⟨G, r, R, AllFrz.toB (e := a) f, (Wp.bind.mp w).imp (fun _ _ z => z) fun d q => by
    obtain ⟨b, rfl, q⟩ := asBl_of (Wp.bind.mp q)
    obtain ⟨b', e, q⟩ := q
    cases e
    exact ⟨b, rfl, fun G1 H1 g => q G1 H1 g⟩⟩
end
end Pu

namespace Pu
open PySem L2
section
variable {c : Ck} {p : Pk} {X : Cx} {G G' H H' : Hp} {r : Env} {σ : St} {e a b : E} {x y z : Expr} {pos : Pos}

/-! ### tests of and, or -/
theorem pw_of {op : BoolOp} {ys : List Expr} {t : TT} (h : PT X (.BoolOp op ys pos) t) : PW X (.BoolOp op ys pos) t :=
  ⟨fun whole pins s σ H Q I q => h.run pins s σ H Q I q⟩
theorem t_and {ys : List Expr} (ha : PT X x (tT p a)) (na : escB p.o a = escB p.o a) (hb : PW X (.BoolOp .And (y :: ys) pos) (tT p b)) : PT X (.BoolOp .And (x :: y :: ys) pos) (tT p (.and a b)) := by
  refine ptImp (pw_and ha hb).pt fun σ H Q ⟨G, r, R, f, w⟩ => ?_
  refine ⟨G, r, R, AllFrz.toB (e := a) (AllFrz.left f), (Wp.bind.mp w).imp (fun _ _ z => z) fun d q => ?_⟩
  obtain ⟨k, rfl, q2⟩ := asBl_of (Wp.bind.mp q)
  clear q
  refine ⟨k, rfl, fun G1 H1 g1 => ?_⟩
  cases k with
  | false =>
    obtain ⟨k', e, q⟩ := q2
    cases e
    exact q G1 H1 g1
  | true =>
    rw [if_pos rfl] at q2 ⊢
    exact ⟨G1, r, R.grow g1, AllFrz.toB (e := b) (AllFrz.right f), q2.imp (fun _ _ z => z.mono g1.sh) fun d ⟨k', e, q⟩ => ⟨k', e, fun G2 H2 g2 => q G2 H2 (g1.trans g2)⟩⟩
theorem t_or {ys : List Expr} (ha : PT X x (tT p a)) (hb : PW X (.BoolOp .Or (y :: ys) pos) (tT p b)) : PT X (.BoolOp .Or (x :: y :: ys) pos) (tT p (.or a b)) := by
  refine ptImp (pw_or ha hb).pt fun σ H Q ⟨G, r, R, f, w⟩ => ?_
  refine ⟨G, r, R, AllFrz.toB (e := a) (AllFrz.left f), (Wp.bind.mp w).imp (fun _ _ z => z) fun d q => ?_⟩
  obtain ⟨k, rfl, q2⟩ := asBl_of (Wp.bind.mp q)
  clear q
  refine ⟨k, rfl, fun G1 H1 g1 => ?_⟩
  cases k with
  | true =>
    obtain ⟨k', e, q⟩ := q2
    cases e
    exact q G1 H1 g1
  | false =>
    rw [if_neg Bool.false_ne_true] at q2 ⊢
    exact ⟨G1, r, R.grow g1, AllFrz.toB (e := b) (AllFrz.right f), q2.imp (fun _ _ z => z.mono g1.sh) fun d ⟨k', e, q⟩ => ⟨k', e, fun G2 H2 g2 => q G2 H2 (g1.trans g2)⟩⟩

/-! ### items and slices -/
theorem wpOfO {α : Type} {W : String → D → Prop} {o : Option α} {k : α → Prop} (h : Wp W (ofO o) k) : ∃ a, o = some a ∧ k a := Wp.ofO h
theorem e_ix {i : E} (O : XOk c p X) (gy : plainX y = true) (ha : PE X x (tBo p a)) (hb : PE X y (tBo p i)) : PE X (.Subscript x y pos) (tV p (.ix a i)) := by
  refine peImp (pe_ix ix_seq ha hb (ix_plain gy)) fun σ H Q ⟨G, r, R, f, w⟩ => ?_
  refine wB R (AllFrz.left f) w fun d G1 H1 v g1 r1 w1 => ?_
  refine wB (R.grow g1) (AllFrz.right f) w1 fun e G2 H2 u g2 r2 w2 => ?_
  have r1 := r1.grow g2
  have g := g1.trans g2
  rw [O.K]
  cases d <;> cases e <;> first | exact False.elim w2 | skip
  · cases r1.str; cases r2.int
    obtain ⟨hl, w2⟩ := Wp.ite w2
    obtain ⟨k, hk, w2⟩ := Wp.ofO (Wp.bind.mp w2)
    exact .inr (.inr ⟨_, _, k, rfl, rfl, by rw [txt_len, ← lim_eq]; exact hl, by simpa [txt, L2.atI, Pu.atI, ixN_eq] using hk, w2 G2 H2 (.str (txt [k])) g (.of (.str [k]) (.inl rfl))⟩)
  · cases r2.int
    obtain ⟨k, hk, w2⟩ := Wp.ofO w2
    obtain ⟨q, xs, rfl, q1, s1⟩ := r1.tup g.sub
    obtain ⟨v, h1, h2⟩ := s1.at hk
    exact .inr (.inl ⟨q, xs, _, v, rfl, rfl, q1, h1, w2 G2 H2 v g (.of h2 (.inl rfl))⟩)
  · cases r2.int
    obtain ⟨k, hk, w2⟩ := Wp.ofO w2
    obtain ⟨q, xs, rfl, q1, s1⟩ := r1.lst g.sub
    obtain ⟨v, h1, h2⟩ := s1.at hk
    exact .inl ⟨q, xs, _, v, rfl, rfl, q1, h1, w2 G2 H2 v g (.of h2 (.inl rfl))⟩
def partOf (p : Pk) (r : Env) (lo : E) : R (Option Int) := if lo.isNil = true then pure none else do let v ← ev p.o r lo; let k ← asInt v; pure (some k)
def tP (p : Pk) (lo : E) : TO := fun σ H Q => ∃ G r, EnvRep p.K p.cl G r σ H ∧ AllFrz (escB p.o lo) r ∧ Wp (p.W H) (partOf p r lo) fun o => ∀ G' H', Grow G H G' H' → Q o H'
theorem poImp {x : Option Expr} {t t' : TO} (h : PO X x t) (i : ∀ σ H Q, t' σ H Q → t σ H Q) : PO X x t' := ⟨fun pins s σ H Q I q => h.run pins s σ H Q I (i σ H Q q)⟩
theorem p_none {lo : E} (h : lo.isNil = true) : PO X none (tP p lo) := poImp po_none fun σ H Q ⟨G, r, R, f, w⟩ => by
  unfold partOf at w
  rw [if_pos h] at w
  exact w G H (.refl R.sub)
theorem p_some {lo : E} (h : lo.isNil = false) (hx : PE X x (tBo p lo)) : PO X (some x) (tP p lo) := poImp (po_some hx) fun σ H Q ⟨G, r, R, f, w⟩ => by
  unfold partOf at w
  rw [h, if_neg Bool.false_ne_true] at w
  refine wB R f w fun d G1 H1 v g1 r1 w1 => ?_
  cases d <;> first | exact False.elim w1 | skip
  cases r1.int
  exact ⟨_, rfl, w1 G1 H1 g1⟩
theorem wP {α : Type} {lo : E} {f : Option Int → R α} {K : α → Prop} {Q : Option Int → Hp → Prop} (R : EnvRep p.K p.cl G r σ H) (fz : AllFrz (escB p.o lo) r) (h : Wp (p.W H) (partOf p r lo >>= f) K)
    (hk : ∀ o G1 H1, Grow G H G1 H1 → Wp (p.W H1) (f o) K → Q o H1) : tP p lo σ H Q :=
  ⟨G, r, R, fz, (Wp.bind.mp h).imp (fun _ _ z => z) fun d q G1 H1 g => hk d G1 H1 g (q.imp (fun _ _ z => z.mono g.sh) fun _ z => z)⟩
theorem cut_txt (z : List Nat) (lo hi : Option Int) : cutS (txt z) lo hi = txt (cut z lo hi) := by
  unfold cutS txt cut
  simp [sIx_eq, Str.length]
theorem e_sl {lo hi : E} {l h : Option Expr} {p2 : Pos} (O : XOk c p X) (ha : PE X x (tBo p a)) (hl : PO X l (tP p lo)) (hh : PO X h (tP p hi)) : PE X (.Subscript x (.Slice l h none p2) pos) (tV p (.sl a lo hi)) := by
  refine peImp (pe_slice (sl_list.or (sl_tup.or sl_str)) ha hl hh) fun σ H Q ⟨G, r, R, f, w⟩ => ?_
  refine wB R (AllFrz.left f) w fun d G1 H1 v g1 r1 w1 => ?_
  refine wP (R.grow g1) (AllFrz.left (AllFrz.right f)) w1 fun o1 G2 H2 g2 w2 => ?_
  refine wP ((R.grow g1).grow g2) (AllFrz.right (AllFrz.right f)) w2 fun o2 G3 H3 g3 w3 => ?_
  have r1 := (r1.grow g2).grow g3
  have g := (g1.trans g2).trans g3
  rw [O.K]
  cases d <;> first | exact False.elim w3 | skip
  · cases r1.str
    obtain ⟨hl, w3⟩ := Wp.ite w3
    refine .inr (.inr ⟨_, rfl, by rw [txt_len, ← lim_eq]; exact hl, ?_⟩)
    rw [cut_txt]
    exact w3 G3 H3 _ g (.of (.str _) (.inr rfl))
  · rename_i ds _
    obtain ⟨hlt, w3⟩ := Wp.ite w3
    obtain ⟨q, xs, rfl, q1, s1⟩ := r1.tup g.sub
    refine .inr (.inl ⟨q, xs, rfl, q1, fun ⟨z1, z2⟩ => ?_, fun t ht => ?_⟩)
    · have e : (cut ds o1 o2).length = ds.length := by
        unfold cut
        rw [sIx_eq, sIx_eq, ← s1.length, z1, z2]
        simp [s1.length]
      omega
    · have g4 := Grow.laid g3.sub ht (.tup (cutV xs o1 o2))
      exact w3 _ _ _ (g.trans g4) (.of (.tup (.of upd_same) (RepA.mono g4.sg _ _ (s1.cut o1 o2))) (.inr rfl))
  · obtain ⟨q, xs, rfl, q1, s1⟩ := r1.lst g.sub
    exact .inl ⟨q, xs, rfl, q1, fun t ht => w3 _ _ _ (g.trans (Grow.mine g3.sub ht _)) (.fresh g ht (s1.cut o1 o2) rfl)⟩

/-! ### calls -/
/-- the own lists among some values -/
def ownsOf (G H : Hp) (vs : List V) : List Addr := vs.filterMap fun v => match v with
  | .ref a => match G a, H a with
    | none, some (.lst _) => some a
    | _, _ => none
  | _ => none
theorem mem_ownsOf {vs : List V} {q : Addr} : q ∈ ownsOf G H vs → G q = none ∧ ∃ xs, H q = some (.lst xs) := by
  intro h
  obtain ⟨v, hv, e⟩ := List.mem_filterMap.mp h
  cases v <;> first | (cases e; done) | skip
  rename_i q'
  dsimp only at e
  split at e
  · rename_i xs h1 h2
    cases e
    exact ⟨h1, xs, h2⟩
  · cases e
theorem ownsOf_mem {vs : List V} {q : Addr} {xs : List V} (h : V.ref q ∈ vs) (h1 : G q = none) (h2 : H q = some (.lst xs)) : q ∈ ownsOf G H vs := by
  refine List.mem_filterMap.mpr ⟨_, h, ?_⟩
  dsimp only
  rw [h1, h2]
def addL (G H : Hp) (l : List Addr) : Hp := fun a => if a ∈ l then H a else G a
theorem addL_in {l : List Addr} {q : Addr} (h : q ∈ l) : addL G H l q = H q := if_pos h
theorem addL_out {l : List Addr} {q : Addr} (h : q ∉ l) : addL G H l q = G q := if_neg h
theorem addL_same {l : List Addr} (hl : ∀ q ∈ l, G q = none) : Same G (addL G H l) := fun q u e => by
  by_cases m : q ∈ l
  · rw [hl q m] at e; cases e
  · rw [addL_out m]; exact e
theorem addL_sub {l : List Addr} (s : Same G H) : Same (addL G H l) H := fun q u e => by
  by_cases m : q ∈ l
  · rw [addL_in m] at e; exact e
  · rw [addL_out m] at e; exact s _ _ e
theorem repBA_add {vs : List V} {ds : List D} (l : List Addr) (hl : ∀ q ∈ l, G q = none) : ∀ {vs : List V} {ds : List D}, (∀ v ∈ vs, ∀ q xs, v = .ref q → G q = none → H q = some (.lst xs) → q ∈ l) → RepBA p.K p.cl G H vs ds → RepA p.K p.cl (addL G H l) vs ds := by
  intro vs ds hm h
  induction h with
  | nil => exact .nil
  | cons r t ih =>
    refine .cons ?_ (ih fun v hv => hm v (List.mem_cons_of_mem _ hv))
    rcases r with r | ⟨q, xs, es, e1, e2, n, h2, s⟩
    · exact Rep.mono (addL_same hl) _ _ r
    · subst e1 e2
      have m := hm _ List.mem_cons_self q xs rfl n h2
      exact .lst (.of (by rw [addL_in m]; exact h2)) (RepA.mono (addL_same hl) _ _ s)
/-- behind a call whose answer holds no list: what was looked at is one's own again -/
theorem back_own {l : List Addr} {fr : Bool} {v : V} {d : D} (hl : ∀ q ∈ l, G q = none ∧ ∃ xs, H q = some (.lst xs)) (g : Grow (addL G H l) H G' H') (o : Out p.K p.cl fr G' H H' v d) (n : (if fr = true then d.noL1 else d.noL) = true) :
    Grow G H (less G' l) H' ∧ Out p.K p.cl fr (less G' l) H H' v d := by
  have hL : ∀ q ∈ l, ∃ xs, G' q = some (.lst xs) := fun q hq => by
    obtain ⟨_, xs, e⟩ := hl q hq
    exact ⟨xs, by rw [g.nw q (by rw [e]; simp), addL_in hq]; exact e⟩
  refine ⟨⟨fun q u e => ?_, g.sh, fun q u e => ?_, fun q hq => ?_⟩, ?_⟩
  · have m : q ∉ l := fun m => by rw [(hl q m).1] at e; cases e
    unfold less
    rw [if_neg m]
    exact g.sg _ _ (by rw [addL_out m]; exact e)
  · unfold less at e
    by_cases m : q ∈ l
    · rw [if_pos m] at e; cases e
    · rw [if_neg m] at e; exact g.sub _ _ e
  · unfold less
    by_cases m : q ∈ l
    · rw [if_pos m, (hl q m).1]
    · rw [if_neg m, g.nw q hq, addL_out m]
  · unfold Out at o ⊢
    by_cases cc : fr = true ∧ d.isL = true
    · rw [if_pos cc] at o ⊢
      rw [if_pos cc.1] at n
      obtain ⟨⟨q, xs, ds, e1, e2, n1, h1, s1⟩, h2⟩ := o
      subst e2
      refine ⟨⟨q, xs, ds, e1, rfl, ?_, h1, RepA.less hL ds xs n s1⟩, h2⟩
      unfold less
      split
      · rfl
      · exact n1
    · rw [if_neg cc] at o ⊢
      refine Rep.less hL d v ?_ o
      by_cases fc : fr = true
      · rw [if_pos fc] at n
        have nl : d.isL = false := by
          cases q : d.isL with
          | false => rfl
          | true => exact absurd ⟨fc, q⟩ cc
        cases d <;> first | exact n | cases nl
      · rw [if_neg fc] at n; exact n
theorem e_call {f : String} {n : Str} {xs : List Expr} {es : E} {p1 : Pos} (O : XOk c p X) (hf : c.isF f = true) (hn : gN X.env.scope f n = true) (gp : (x :: xs).all plainX = true)
    (ha : PA X (x :: xs) (tAr p es)) (hb : PA X (x :: xs) (tAb p es)) : PE X (.Call (.Name n p1) (x :: xs) [] pos) (tV p (.call f es)) := by
  obtain ⟨e1, e2, e3⟩ := gN_of hn
  subst e1
  obtain ⟨fa, hm, hK⟩ := O.call f hf
  have hk := hK.kp
  have hF := hK.c O.pass
  rw [List.all_cons, Bool.and_eq_true] at gp
  refine ⟨fun pins s σ H Q I ⟨G, r, R, f', w⟩ => ?_⟩
  refine wpAny_Call_Name_kw (ld_glob I e2 hm ?_ (okN_of e3).1)
  by_cases hbo : p.o.bor f = true
  · have f2 : AllFrz (esc.escBs p.o es) r := by
      have := f'
      unfold esc at this
      rw [if_pos hbo] at this
      exact this
    refine PySem.W.callWith_K (h₀ := X.base) I.ok.mod.kin hk (thn (hb.run pos pins s σ H _ I (wAb (f := fun ds => p.o.call f ds) R f2 w fun ds G1 H1 vs g1 r1 w1 => (show ∃ ds G1, Grow G H G1 H1 ∧ RepBA p.K p.cl G1 H1 vs ds ∧ Wp (p.W H1) (p.o.call f ds) _ from ⟨ds, G1, g1, r1, w1⟩))) fun us s1 ⟨vs, H1, I1, rv, ds, G1, g1, r1, w1⟩ => ⟨I1.kIn, ?_⟩) (starEach_plain gp.1) (backTo_plain gp.2)
    have hl : ∀ q ∈ ownsOf G1 H1 vs, G1 q = none ∧ ∃ xs, H1 q = some (.lst xs) := fun q hq => mem_ownsOf hq
    have ra := repBA_add (vs := vs) (ds := ds) (ownsOf G1 H1 vs) (fun q hq => (hl q hq).1) (fun v hv q xs e n1 h2 => by subst e; exact ownsOf_mem hv n1 h2) r1
    refine hF pins s1 σ H1 vs us Q (addL G1 H1 (ownsOf G1 H1 vs)) ds I1 rv (addL_sub g1.sub) ra ?_
    cases q : p.o.call f ds with
    | ok d =>
      rw [q] at w1
      intro G2 H2 v g2 o2
      obtain ⟨g3, o3⟩ := back_own hl g2 o2 (O.bor f ds d hbo q)
      exact w1 _ _ _ (g1.trans g3) (o3.back g1.sh)
    | exc k v => rw [q] at w1; exact w1
    | stuck => rw [q] at w1; exact w1
  · have f2 : AllFrz (esc p.o es) r := by
      have := f'
      unfold esc at this
      rw [if_neg hbo] at this
      exact this
    refine PySem.W.callWith_K (h₀ := X.base) I.ok.mod.kin hk (thn (ha.run pos pins s σ H _ I (wAr (f := fun ds => p.o.call f ds) R f2 w fun ds G1 H1 vs g1 r1 w1 => (show ∃ ds G1, Grow G H G1 H1 ∧ RepA p.K p.cl G1 vs ds ∧ Wp (p.W H1) (p.o.call f ds) _ from ⟨ds, G1, g1, r1, w1⟩))) fun us s1 ⟨vs, H1, I1, rv, ds, G1, g1, r1, w1⟩ => ⟨I1.kIn, ?_⟩) (starEach_plain gp.1) (backTo_plain gp.2)
    refine hF pins s1 σ H1 vs us Q G1 ds I1 rv g1.sub r1 (w1.imp (fun _ _ z => z) fun d q G2 H2 v g2 o2 => q G2 H2 v (g1.trans g2) (o2.back g1.sh))
end
end Pu

namespace Pu
open PySem L2

/-! ### lists of ints in order -/
theorem ins_perm (x : Int) : ∀ l : List Int, (ins x l).Perm (x :: l)
  | [] => .refl _
  | y :: r => by
    unfold ins
    split
    · exact .refl _
    · exact ((ins_perm x r).cons y).trans (List.Perm.swap x y r)
theorem isort_perm : ∀ l : List Int, (isort l).Perm l
  | [] => .refl _
  | x :: r => (ins_perm x (isort r)).trans ((isort_perm r).cons x)
theorem ins_mem {x y : Int} {l : List Int} (h : y ∈ ins x l) : y = x ∨ y ∈ l := by
  have := (ins_perm x l).mem_iff.mp h
  simpa using this
theorem ins_sorted (x : Int) : ∀ l : List Int, l.Pairwise (· ≤ ·) → (ins x l).Pairwise (· ≤ ·)
  | [], _ => by simp [ins]
  | y :: r, h => by
    have h' := List.pairwise_cons.mp h
    unfold ins
    split
    · rename_i hle
      exact List.pairwise_cons.mpr ⟨fun z hz => by
        rcases List.mem_cons.mp hz with rfl | hz
        · exact hle
        · exact Int.le_trans hle (h'.1 z hz), h⟩
    · rename_i hle
      exact List.pairwise_cons.mpr ⟨fun z hz => by
        rcases ins_mem hz with rfl | hz
        · omega
        · exact h'.1 z hz, ins_sorted x r h'.2⟩
theorem isort_sorted : ∀ l : List Int, (isort l).Pairwise (· ≤ ·)
  | [] => .nil
  | x :: r => ins_sorted x _ (isort_sorted r)
theorem sorted_unique : ∀ {l m : List Int}, l.Perm m → l.Pairwise (· ≤ ·) → m.Pairwise (· ≤ ·) → l = m := fun p h1 h2 =>
  p.eq_of_pairwise (le := (· ≤ ·)) (fun a b _ _ h h' => Int.le_antisymm h h') h1 h2
theorem maxL_spec : ∀ {l : List Int} {m : Int}, maxL l = some m → m ∈ l ∧ ∀ y ∈ l, y ≤ m
  | [], _, h => by cases h
  | x :: r, m, h => by
    have h' : r.foldl max x = m := Option.some.inj h
    subst h'
    have key : ∀ (r : List Int) (x : Int), (r.foldl max x = x ∨ r.foldl max x ∈ r) ∧ x ≤ r.foldl max x ∧ ∀ y ∈ r, y ≤ r.foldl max x := by
      intro r
      induction r with
      | nil => intro x; simp
      | cons z r ih =>
        intro x
        obtain ⟨h1, h2, h3⟩ := ih (max x z)
        rw [List.foldl_cons]
        refine ⟨?_, by omega, fun y hy => ?_⟩
        · rcases h1 with h1 | h1
          · rw [h1]
            rcases Int.le_total x z with q | q
            · exact .inr (by rw [Int.max_eq_right q]; simp)
            · exact .inl (Int.max_eq_left q)
          · exact .inr (List.mem_cons_of_mem _ h1)
        · rcases List.mem_cons.mp hy with rfl | hy
          · omega
          · exact h3 y hy
    obtain ⟨h1, h2, h3⟩ := key r x
    refine ⟨?_, fun y hy => ?_⟩
    · rcases h1 with h1 | h1
      · rw [h1]; simp
      · exact List.mem_cons_of_mem _ h1
    · rcases List.mem_cons.mp hy with rfl | hy
      · exact h2
      · exact h3 y hy
theorem minL_spec : ∀ {l : List Int} {m : Int}, minL l = some m → m ∈ l ∧ ∀ y ∈ l, m ≤ y
  | [], _, h => by cases h
  | x :: r, m, h => by
    have h' : r.foldl min x = m := Option.some.inj h
    subst h'
    have key : ∀ (r : List Int) (x : Int), (r.foldl min x = x ∨ r.foldl min x ∈ r) ∧ r.foldl min x ≤ x ∧ ∀ y ∈ r, r.foldl min x ≤ y := by
      intro r
      induction r with
      | nil => intro x; simp
      | cons z r ih =>
        intro x
        obtain ⟨h1, h2, h3⟩ := ih (min x z)
        rw [List.foldl_cons]
        refine ⟨?_, by omega, fun y hy => ?_⟩
        · rcases h1 with h1 | h1
          · rw [h1]
            rcases Int.le_total x z with q | q
            · exact .inl (Int.min_eq_left q)
            · exact .inr (by rw [Int.min_eq_right q]; simp)
          · exact .inr (List.mem_cons_of_mem _ h1)
        · rcases List.mem_cons.mp hy with rfl | hy
          · omega
          · exact h3 y hy
    obtain ⟨h1, h2, h3⟩ := key r x
    refine ⟨?_, fun y hy => ?_⟩
    · rcases h1 with h1 | h1
      · rw [h1]; simp
      · exact List.mem_cons_of_mem _ h1
    · rcases List.mem_cons.mp hy with rfl | hy
      · exact h2
      · exact h3 y hy

section
variable {c : Ck} {p : Pk} {X : Cx} {G G' H H' : Hp} {r : Env} {σ : St} {e a b : E} {x y z : Expr} {pos : Pos}

/-- a built-in by values: what the evaluator says is what the rule asks -/
def BRule (p : Pk) (s : String) (rr : List V → Hp → VK → Prop) : Prop :=
  ∀ (ds : List D) (G H : Hp) (vs : List V) (Q : VK), Same G H → RepBA p.K p.cl G H vs ds → Wp (p.W H) (builtin s ds) (Kv p true G H Q) → rr vs H Q
theorem e_bltF {s : String} {n : Str} {xs : List Expr} {es : E} {p1 : Pos} {id : String} {rr : List V → Hp → VK → Prop} (O : XOk c p X) (hc : CallR X (.builtin id) rr) (hn : gN X.env.scope s n = true) (hb : s ∈ bAll)
    (hv : bootBuiltins (Str.ofString s) = some (.builtin id)) (gp : (x :: xs).all plainX = true) (ha : PA X (x :: xs) (tAb p es)) (R : BRule p s rr) : PE X (.Call (.Name n p1) (x :: xs) [] pos) (tV p (.blt s es)) := by
  obtain ⟨e1, e2, e3⟩ := gN_of hn
  subst e1
  rw [List.all_cons, Bool.and_eq_true] at gp
  refine peImp (pe_callB hc e2 (O.mgB _ hb) hv ha (okN_of e3).2.2.1 (okN_of e3).1 (starEach_plain gp.1) (backTo_plain gp.2)) fun σ H Q ⟨G, r, R', f, w⟩ => ?_
  refine wAb (f := fun ds => builtin s ds) R' f w fun ds G1 H1 vs g1 r1 w1 => ?_
  exact R ds G1 H1 vs Q g1.sub r1 (w1.imp (fun _ _ z => z) fun z k => .of g1 k)
theorem e_bltT {s : String} {n : Str} {xs : List Expr} {es : E} {p1 : Pos} {T : String} {rr : List V → Hp → VK → Prop} (O : XOk c p X) (hc : CallR X (.type T) rr) (hn : gN X.env.scope s n = true) (hb : s ∈ bAll)
    (hv : bootBuiltins (Str.ofString s) = some (.type T)) (gp : (x :: xs).all plainX = true) (ha : PA X (x :: xs) (tAb p es)) (R : BRule p s rr) : PE X (.Call (.Name n p1) (x :: xs) [] pos) (tV p (.blt s es)) := by
  obtain ⟨e1, e2, e3⟩ := gN_of hn
  subst e1
  rw [List.all_cons, Bool.and_eq_true] at gp
  refine peImp (pe_callTy hc e2 (O.mgB _ hb) hv ha (okN_of e3).2.2.1 (okN_of e3).1 (starEach_plain gp.1) (backTo_plain gp.2)) fun σ H Q ⟨G, r, R', f, w⟩ => ?_
  refine wAb (f := fun ds => builtin s ds) R' f w fun ds G1 H1 vs g1 r1 w1 => ?_
  exact R ds G1 H1 vs Q g1.sub r1 (w1.imp (fun _ _ z => z) fun z k => .of g1 k)

/-- one argument -/
theorem one_arg {K : PySem.W.Frag} {cl : Cl} {d : D} {vs : List V} (h : RepBA K cl G H vs [d]) : ∃ v, vs = [v] ∧ RepB K cl G H v d := by
  cases h with
  | cons r t => cases t; exact ⟨_, rfl, r⟩
theorem two_arg {K : PySem.W.Frag} {cl : Cl} {d e : D} {vs : List V} (h : RepBA K cl G H vs [d, e]) : ∃ v u, vs = [v, u] ∧ RepB K cl G H v d ∧ RepB K cl G H u e := by
  cases h with
  | cons r t =>
    cases t with
    | cons r' t => cases t; exact ⟨_, _, rfl, r, r'⟩

theorem b_len (O : XOk c p X) : BRule p "len" (fun xs H Q => ∃ x n, xs = [x] ∧ LenV X.K x H n ∧ Q (.int n) H) := by
  intro ds G H vs Q s rv w
  replace w : Wp (p.W H) (bLen ds) (Kv p true G H Q) := w
  unfold bLen at w
  split at w
  · rename_i d
    obtain ⟨v, rfl, r⟩ := one_arg rv
    rw [O.K]
    cases d <;> first | exact False.elim w | skip
    · cases r.str
      obtain ⟨hl, w⟩ := Wp.ite w
      exact ⟨_, _, rfl, ⟨by rw [txt_len, ← lim_eq]; exact hl, rfl⟩, by rw [txt_len]; exact Kv.flat s w (fun _ => .int _) rfl⟩
    · obtain ⟨q, xs, rfl, q1, s1⟩ := r.tup s
      exact ⟨_, _, rfl, .inr ⟨xs, q1, rfl⟩, by rw [s1.length]; exact Kv.flat s w (fun _ => .int _) rfl⟩
    · obtain ⟨q, xs, rfl, q1, s1⟩ := r.lst s
      exact ⟨_, _, rfl, .inl ⟨xs, q1, rfl⟩, by rw [s1.length]; exact Kv.flat s w (fun _ => .int _) rfl⟩
  · exact False.elim w
theorem b_abs : BRule p "abs" (fun xs H Q => ∃ i, xs = [.int i] ∧ Q (.int (if i < 0 then -i else i)) H) := by
  intro ds G H vs Q s rv w
  replace w : Wp (p.W H) (bAbs ds) (Kv p true G H Q) := w
  unfold bAbs at w
  split at w
  · obtain ⟨v, rfl, r⟩ := one_arg rv
    cases r.int
    exact ⟨_, rfl, Kv.flat s w (fun _ => .int _) rfl⟩
  · exact False.elim w
theorem b_max (O : XOk c p X) : BRule p "max" (fun xs H Q => (∃ i j, xs = [.int i, .int j] ∧ Q (.int (if j > i then j else i)) H) ∨ rMax X.K xs H Q) := by
  intro ds G H vs Q s rv w
  replace w : Wp (p.W H) (bMax ds) (Kv p true G H Q) := w
  unfold bMax at w
  split at w
  · obtain ⟨v, u, rfl, r, r'⟩ := two_arg rv
    cases r.int; cases r'.int
    exact .inl ⟨_, _, rfl, Kv.flat s w (fun _ => .int _) rfl⟩
  · obtain ⟨v, rfl, r⟩ := one_arg rv
    obtain ⟨q, xs, rfl, q1, s1⟩ := r.lst s
    obtain ⟨ns, h1, w⟩ := Wp.ofO (Wp.bind.mp w)
    obtain ⟨m, h2, w⟩ := Wp.ofO (Wp.bind.mp w)
    obtain ⟨h3, h4⟩ := maxL_spec h2
    rw [O.K]
    refine .inr ⟨q, ns, rfl, by rw [← s1.ofInts h1]; exact q1, List.length_pos_of_mem h3, fun m' h5 h6 => ?_⟩
    have e : m' = m := Int.le_antisymm (h4 m' h5) (h6 m h3)
    subst e
    exact Kv.flat s w (fun _ => .int _) rfl
  · exact False.elim w
theorem b_min (O : XOk c p X) : BRule p "min" (fun xs H Q => (∃ i j, xs = [.int i, .int j] ∧ Q (.int (if j < i then j else i)) H) ∨ rMin X.K xs H Q ∨
    ∃ (a : Addr) (ns : List Int) (m : Int), xs = [.ref a] ∧ SqT X.K H a (ns.map V.int) ∧ minL ns = some m ∧ Q (.int m) H) := by
  intro ds G H vs Q s rv w
  replace w : Wp (p.W H) (bMin ds) (Kv p true G H Q) := w
  unfold bMin at w
  split at w
  · obtain ⟨v, u, rfl, r, r'⟩ := two_arg rv
    cases r.int; cases r'.int
    exact .inl ⟨_, _, rfl, Kv.flat s w (fun _ => .int _) rfl⟩
  · obtain ⟨v, rfl, r⟩ := one_arg rv
    obtain ⟨q, xs, rfl, q1, s1⟩ := r.lst s
    obtain ⟨ns, h1, w⟩ := Wp.ofO (Wp.bind.mp w)
    obtain ⟨m, h2, w⟩ := Wp.ofO (Wp.bind.mp w)
    obtain ⟨h3, h4⟩ := minL_spec h2
    rw [O.K]
    refine .inr (.inl ⟨q, ns, rfl, by rw [← s1.ofInts h1]; exact q1, List.length_pos_of_mem h3, fun m' h5 h6 => ?_⟩)
    have e : m' = m := Int.le_antisymm (h6 m h3) (h4 m' h5)
    subst e
    exact Kv.flat s w (fun _ => .int _) rfl
  · obtain ⟨v, rfl, r⟩ := one_arg rv
    obtain ⟨q, xs, rfl, q1, s1⟩ := r.tup s
    obtain ⟨ns, h1, w⟩ := Wp.ofO (Wp.bind.mp w)
    obtain ⟨m, h2, w⟩ := Wp.ofO (Wp.bind.mp w)
    rw [O.K]
    exact .inr (.inr ⟨q, ns, m, rfl, by rw [← s1.ofInts h1]; exact q1, h2, Kv.flat s w (fun _ => .int _) rfl⟩)
  · exact False.elim w
theorem b_sum (O : XOk c p X) : BRule p "sum" (rSum X.K) := by
  intro ds G H vs Q s rv w
  replace w : Wp (p.W H) (bSum ds) (Kv p true G H Q) := w
  unfold bSum at w
  split at w
  · obtain ⟨v, rfl, r⟩ := one_arg rv
    obtain ⟨q, xs, rfl, q1, s1⟩ := r.lst s
    obtain ⟨ns, h1, w⟩ := Wp.ofO (Wp.bind.mp w)
    rw [O.K]
    exact ⟨q, ns, rfl, by rw [← s1.ofInts h1]; exact q1, Kv.flat s w (fun _ => .int _) rfl⟩
  · exact False.elim w
theorem b_sorted (O : XOk c p X) : BRule p "sorted" (rSorted X.K) := by
  intro ds G H vs Q s rv w
  replace w : Wp (p.W H) (bSorted ds) (Kv p true G H Q) := w
  unfold bSorted at w
  split at w
  · obtain ⟨v, rfl, r⟩ := one_arg rv
    obtain ⟨q, xs, rfl, q1, s1⟩ := r.lst s
    obtain ⟨ns, h1, w⟩ := Wp.ofO (Wp.bind.mp w)
    obtain ⟨hl, w⟩ := Wp.ite w
    rw [O.K]
    refine ⟨q, ns, rfl, by rw [← s1.ofInts h1]; exact q1, hl, fun ns' t hp hs ht => ?_⟩
    have e : ns' = isort ns := sorted_unique (hp.trans (isort_perm ns).symm) hs (isort_sorted ns)
    subst e
    exact Kv.lst s w rfl (RepA.ints _) t ht
  · exact False.elim w
theorem b_all (O : XOk c p X) : BRule p "all" (rAll X.K) := by
  intro ds G H vs Q s rv w
  replace w : Wp (p.W H) (bAll' ds) (Kv p true G H Q) := w
  unfold bAll' at w
  split at w
  · obtain ⟨v, rfl, r⟩ := one_arg rv
    obtain ⟨q, xs, rfl, q1, s1⟩ := r.lst s
    obtain ⟨ns, h1, w⟩ := Wp.ofO (Wp.bind.mp w)
    rw [O.K]
    exact ⟨q, ns, rfl, by rw [← s1.ofBools h1]; exact q1, Kv.flat s w (fun _ => .bl _) rfl⟩
  · exact False.elim w
theorem b_list (O : XOk c p X) : BRule p "list" (fun xs H Q => ∃ p ys, xs = [.ref p] ∧ (SqL X.K H p ys ∨ SqT X.K H p ys) ∧ ∀ l, H l = none → Q (.ref l) (upd H l (.lst ys))) := by
  intro ds G H vs Q s rv w
  replace w : Wp (p.W H) (bList ds) (Kv p true G H Q) := w
  unfold bList at w
  rw [O.K]
  split at w
  · obtain ⟨v, rfl, r⟩ := one_arg rv
    obtain ⟨q, xs, rfl, q1, s1⟩ := r.lst s
    exact ⟨q, xs, rfl, .inl q1, fun t ht => Kv.lst s w rfl s1 t ht⟩
  · obtain ⟨v, rfl, r⟩ := one_arg rv
    obtain ⟨q, xs, rfl, q1, s1⟩ := r.tup s
    exact ⟨q, xs, rfl, .inr q1, fun t ht => Kv.lst s w rfl s1 t ht⟩
  · exact False.elim w
theorem b_tuple (O : XOk c p X) : BRule p "tuple" (fun xs H Q => ∃ p ys, xs = [.ref p] ∧ ((SqL X.K H p ys ∧ ∀ l, H l = none → Q (.ref l) (upd H l (.tup ys))) ∨ (SqT X.K H p ys ∧ Q (.ref p) H))) := by
  intro ds G H vs Q s rv w
  replace w : Wp (p.W H) (bTuple ds) (Kv p true G H Q) := w
  unfold bTuple at w
  rw [O.K]
  split at w
  · obtain ⟨v, rfl, r⟩ := one_arg rv
    obtain ⟨q, xs, rfl, q1, s1⟩ := r.lst s
    exact ⟨q, xs, rfl, .inl ⟨q1, fun t ht => Kv.tup s w s1 t ht⟩⟩
  · obtain ⟨v, rfl, r⟩ := one_arg rv
    obtain ⟨q, xs, e, q1, s1⟩ := r.tup s
    subst e
    exact ⟨q, xs, rfl, .inr ⟨q1, w G H _ (.refl s) (.of (r.rep rfl) (.inr rfl))⟩⟩
  · exact False.elim w
theorem b_int : BRule p "int" (fun xs H Q => ((∃ i, xs = [.int i] ∧ Q (.int i) H) ∨ ∃ k, xs = [.bl k] ∧ Q (.int (if k then 1 else 0)) H)) := by
  intro ds G H vs Q s rv w
  replace w : Wp (p.W H) (bInt ds) (Kv p true G H Q) := w
  unfold bInt at w
  split at w
  · obtain ⟨v, rfl, r⟩ := one_arg rv
    cases r.int
    exact .inl ⟨_, rfl, Kv.flat s w (fun _ => .int _) rfl⟩
  · obtain ⟨v, rfl, r⟩ := one_arg rv
    cases r.bl
    exact .inr ⟨_, rfl, Kv.flat s w (fun _ => .int _) rfl⟩
  · exact False.elim w
end
end Pu

namespace L2
open PySem PySem.Spec PyProof.Rows
theorem readsAll_ints {h : Heap} : ∀ {ns : List Int} {us : List Value}, Vals (ns.map V.int) us → ∃ as, ReadsAll h us (ns.map PyData.int) as
  | [], _, r => by cases r; exact ⟨_, .nil⟩
  | n :: ns, _, r => by
    cases r with
    | cons r t =>
      obtain ⟨tk, rfl⟩ := r
      obtain ⟨as, h⟩ := readsAll_ints t
      exact ⟨_, .cons (.int n tk) h⟩
theorem depthAll_ints : ∀ ns : List Int, PyData.depthAll (ns.map PyData.int) = 0
  | [] => rfl
  | n :: ns => by
    show max 0 (PyData.depthAll (ns.map PyData.int)) = 0
    rw [depthAll_ints ns]; rfl
/-- min(t), a tuple of ints -/
theorem cr_minT {X : Cx} (hc : X.calm = true) (hu : X.A.units + 64 < cLine) : CallR X (.builtin "min") (fun xs H Q => ∃ (a : Addr) (ns : List Int) (m : Int), xs = [.ref a] ∧ SqT X.K H a (ns.map V.int) ∧ Pu.minL ns = some m ∧ Q (.int m) H) := by
  intro pins s σ H xs us Q I r h
  obtain ⟨a, ns, m, rfl, hq, hm, q⟩ := h
  obtain ⟨u, rfl, rx⟩ := vals1 r
  cases rx
  obtain ⟨its, rv, pl, hz⟩ := I.tuple hq
  cases ns with
  | nil => cases hm
  | cons n ns =>
    obtain ⟨as, ra⟩ := readsAll_ints (h := s.heap) rv
    have hm' : ns.foldl min n = m := Option.some.inj hm
    have al : PySem.W.AlikeAll ((n :: ns).map PyData.int) := ⟨fun x hx y hy => by
      obtain ⟨i, _, rfl⟩ := List.mem_map.mp hx
      obtain ⟨j, _, rfl⟩ := List.mem_map.mp hy
      rfl, fun x hx => by
      obtain ⟨i, _, rfl⟩ := List.mem_map.mp hx
      exact fun z => by cases z⟩
    refine PySem.W.min_tuple_data (I.ok.hd hc) (show s.heap.IsTuple a its.toArray from pl) (x := .int n) (xs := ns.map PyData.int) ra al (by rw [show (PyData.int n :: ns.map PyData.int) = (n :: ns).map PyData.int from rfl, depthAll_ints]; omega) fun i v h' tk bs hi rd hk => ?_
    rw [PySem.W.minD_ints, hm'] at rd
    cases rd with
    | int _ t => exact ⟨.int m, H, I.kept hk, ⟨_, rfl⟩, q⟩
end L2
namespace Pu
open PySem L2
section
variable {c : Ck} {p : Pk} {X : Cx} {G G' H H' : Hp} {r : Env} {σ : St} {e a b : E} {x y z : Expr} {pos : Pos}
theorem codes_ofString (s : String) : txt (codes s) = Str.ofString s := by
  rw [Str.ofString_eq_toList]
  simp [txt, codes]
theorem b_str : BRule p "str" (fun xs H Q => ∃ i, xs = [.int i] ∧ i.natAbs.log2 < 1920 ∧ Q (.str (toString i)) H) := by
  intro ds G H vs Q s rv w
  replace w : Wp (p.W H) (bStr ds) (Kv p true G H Q) := w
  unfold bStr at w
  split at w
  · obtain ⟨v, rfl, r⟩ := one_arg rv
    cases r.int
    obtain ⟨hl, w⟩ := Wp.ite w
    refine ⟨_, rfl, hl, ?_⟩
    have q := Kv.flat (v := .str (txt (numStr _))) s w (fun _ => .str _) rfl
    unfold numStr at q
    rw [codes_ofString] at q
    exact q
  · exact False.elim w

theorem e_blt {s : String} {n : Str} {xs : List Expr} {es : E} {p1 : Pos} (O : XOk c p X) (hs : (decide (s ∈ bFuns) || decide (s ∈ bTypes)) = true) (hn : gN X.env.scope s n = true) (gp : (x :: xs).all plainX = true) (ha : PA X (x :: xs) (tAb p es)) :
    PE X (.Call (.Name n p1) (x :: xs) [] pos) (tV p (.blt s es)) := by
  have hs' : s ∈ bFuns ∨ s ∈ bTypes := by simpa using hs
  have hm : s = "len" ∨ s = "abs" ∨ s = "max" ∨ s = "min" ∨ s = "sum" ∨ s = "sorted" ∨ s = "all" ∨ s = "int" ∨ s = "str" ∨ s = "list" ∨ s = "tuple" := by
    rcases hs' with h | h
    · simp only [bFuns, List.mem_cons, List.mem_nil_iff, or_false] at h
      rcases h with h | h | h | h | h | h | h <;> simp [h]
    · simp only [bTypes, List.mem_cons, List.mem_nil_iff, or_false] at h
      rcases h with h | h | h | h <;> simp [h]
  rcases hm with rfl | rfl | rfl | rfl | rfl | rfl | rfl | rfl | rfl | rfl | rfl
  · exact e_bltF O call_len hn (by decide) (by decide +kernel) gp ha (b_len O)
  · exact e_bltF O call_abs hn (by decide) (by decide +kernel) gp ha b_abs
  · exact e_bltF O ((call_max2 O.calm).or (cr_max O.calm)) hn (by decide) (by decide +kernel) gp ha (b_max O)
  · exact e_bltF O ((call_min2 O.calm).or ((cr_min O.calm).or (cr_minT O.calm O.room))) hn (by decide) (by decide +kernel) gp ha (b_min O)
  · exact e_bltF O (cr_sum O.calm) hn (by decide) (by decide +kernel) gp ha (b_sum O)
  · exact e_bltF O cr_sorted hn (by decide) (by decide +kernel) gp ha (b_sorted O)
  · exact e_bltF O (cr_all O.calm) hn (by decide) (by decide +kernel) gp ha (b_all O)
  · exact e_bltT O call_int1 hn (by decide) (by decide +kernel) gp ha b_int
  · exact e_bltT O call_str_int hn (by decide) (by decide +kernel) gp ha b_str
  · exact e_bltT O call_list_of hn (by decide) (by decide +kernel) gp ha (b_list O)
  · exact e_bltT O call_tuple_of hn (by decide) (by decide +kernel) gp ha (b_tuple O)

/-! ### isinstance with a built-in class -/
theorem tyOf_lst {K : PySem.W.Frag} {q : Addr} {xs : List V} (h : SqL K H q xs) : TyX K H (.ref q) (.type "list") := by
  rcases h with (h | ⟨o, h⟩) | ⟨o, its, n, h, hc, _⟩
  · exact .base (.lst h)
  · exact .base (.frz h)
  · exact .kList h hc
theorem tyOf_tup {K : PySem.W.Frag} {q : Addr} {xs : List V} (h : SqT K H q xs) : TyX K H (.ref q) (.type "tuple") := by
  rcases h with (h | ⟨o, h⟩) | ⟨o, its, n, h, hc, _⟩
  · exact .base (.tup h)
  · exact .fTuple h
  · exact .kTuple h hc
def tyName : D → Option String
  | .non => some "NoneType"
  | .bl _ => some "bool"
  | .int _ => some "int"
  | .str _ => some "str"
  | .tup _ => some "tuple"
  | .lst _ => some "list"
  | _ => none
theorem tyX_of {K : PySem.W.Frag} {v : V} {d : D} {t : String} (s : Same G H) (h : RepB K p.cl G H v d) (e : tyName d = some t) : TyX K H v (.type t) := by
  cases d with
  | non => cases e; have h := h.rep rfl; cases h; exact .base .non
  | bl b => cases e; cases h.bl; exact .base (.bl b)
  | int i => cases e; cases h.int; exact .base (.int i)
  | str x => cases e; cases h.str; exact .base (.str _)
  | tup ds => cases e; obtain ⟨q, xs, rfl, q1, _⟩ := h.tup s; exact tyOf_tup q1
  | lst ds => cases e; obtain ⟨q, xs, rfl, q1, _⟩ := h.lst s; exact tyOf_lst q1
  | obj _ _ => cases e
  | exc _ _ => cases e
theorem isiB_of {W : String → D → Prop} {o : Orc} {k : String} {d : D} {K : Bool → Prop} (hk : k ∈ bClasses) (h : Wp W (isiB o k d) K) : ∃ t b, tyName d = some t ∧ kitB t k = some b ∧ K b := by
  simp only [bClasses, List.mem_cons, List.mem_nil_iff, or_false] at hk
  rcases hk with rfl | rfl | rfl | rfl | rfl <;> cases d <;> first | exact False.elim h | exact ⟨_, _, rfl, by decide +kernel, h⟩
/-- a caught exception -/
def rIsX (K : PySem.W.Frag) : List V → Hp → VK → Prop := fun xs H Q => ∃ (a C : Addr) (v : V) (u : Value) (b : Bool), xs = [.ref a, v] ∧ H a = some (ExV C a) ∧ ExcC K C ∧ ClsV v u ∧ PySem.W.kitOne K (.ref C) u = some b ∧ Q (.bl b) H
theorem call_isX {X : Cx} : CallR X (.builtin "isinstance") (rIsX X.K) := by
  intro pins s σ H xs us Q I r h
  obtain ⟨a, C, v, u, b, rfl, hH, hC, hv, hb, q⟩ := h
  cases r with
  | cons r1 rr => cases rr with
    | cons r2 rr =>
      cases rr; cases r1
      have e := hv.eq r2
      subst e
      obtain ⟨⟨oe, vs, e1, ⟨z1, z2⟩, e2⟩, _⟩ := I.hok a _ hH
      have J : PySem.W.InstAt s.heap a oe C none := by
        obtain ⟨oc, od, oda, osl⟩ := oe
        dsimp only at z1 z2 e2
        subst z1 z2 e2
        exact ⟨e1, rfl, rfl, trivial⟩
      exact PySem.W.kia_one (PySem.W.handS_kitx_exc hC.hg hC.hk hC.hs hC.hd hC.ha hC.hn hC.ht hC.hm) I.kIn J hb (fun z => nomatch z) fun tk => ⟨.bl b, H, I.kept (t' := tk) fun _ _ z => z, rfl, q⟩
theorem isiB_own {W : String → D → Prop} {o : Orc} {k : String} {d : D} {K : Bool → Prop} (hk : ¬ k ∈ bClasses) (h : Wp W (isiB o k d) K) :
    (∃ e w b, d = .exc e w ∧ o.isx e k = some b ∧ K b) ∨ ∃ e w b, d = .obj e w ∧ o.isi e k = some b ∧ K b := by
  simp only [bClasses, List.mem_cons, List.mem_nil_iff, or_false, not_or] at hk
  obtain ⟨h1, h2, h3, h4, h5⟩ := hk
  have n1 : ¬ k ∈ ["int", "bool", "str", "tuple", "list"] := by simp [h1, h2, h3, h4, h5]
  have n2 : ¬ k ∈ ["int", "bool"] := by simp [h1, h5]
  have n3 : ¬ k ∈ ["str", "tuple", "list"] := by simp [h2, h3, h4]
  have n4 : ¬ k ∈ ["bool", "str", "tuple", "list"] := by simp [h2, h3, h4, h5]
  have n5 : ¬ k ∈ ["int", "bool", "tuple", "list"] := by simp [h1, h3, h4, h5]
  have n6 : ¬ k ∈ ["int", "bool", "str", "list"] := by simp [h1, h2, h3, h5]
  have n7 : ¬ k ∈ ["int", "bool", "str", "tuple"] := by simp [h1, h2, h4, h5]
  cases d with
  | exc e w =>
    have h : Wp W (if k ∈ ["int", "bool", "str", "tuple", "list"] then .stuck else ofO (o.isx e k)) K := h
    rw [if_neg n1] at h
    obtain ⟨b, e1, q⟩ := Wp.ofO h
    exact .inl ⟨e, w, b, rfl, e1, q⟩
  | obj e w =>
    have h : Wp W (if k ∈ ["int", "bool", "str", "tuple", "list"] then .stuck else ofO (o.isi e k)) K := h
    rw [if_neg n1] at h
    obtain ⟨b, e1, q⟩ := Wp.ofO h
    exact .inr ⟨e, w, b, rfl, e1, q⟩
  | _ =>
    exfalso
    simp only [isiB] at h
    first
      | (rw [if_neg n1] at h; exact h)
      | (rw [if_neg n2, if_neg n3] at h; exact h)
      | (rw [if_neg h1, if_neg n4] at h; exact h)
      | (rw [if_neg h2, if_neg n5] at h; exact h)
      | (rw [if_neg h4, if_neg n6] at h; exact h)
      | (rw [if_neg h3, if_neg n7] at h; exact h)
theorem e_isiO {k : String} {n m : Str} {p1 p2 : Pos} (O : XOk c p X) (hn : gN X.env.scope "isinstance" n = true) (hm : gN X.env.scope k m = true) (hk : ¬ k ∈ bClasses) (hc : c.isC k = true) (gx : plainX x = true) (ha : PE X x (tBo p a)) :
    PE X (.Call (.Name n p1) [x, .Name m p2] [] pos) (tV p (.isi a k)) := by
  obtain ⟨e1, e2, e3⟩ := gN_of hn
  obtain ⟨f1, f2, f3⟩ := gN_of hm
  subst e1 f1
  obtain ⟨v, u, hv, hr, hmg, hx, ho⟩ := O.isC k hc
  have ty : PE X (.Name (Str.ofString k) p2) (tC v) := by
    rcases hmg with h | ⟨h, hb⟩
    · exact pe_glob f2 h hr (okN_of f3).1
    · exact pe_bltn f2 h hb hr (okN_of f3).2.2.1 (okN_of f3).1
  refine peImp (pe_callB (call_isX.or call_isi) e2 (O.mgB _ (by decide)) (by decide +kernel) (pa_cons ha (pa_cons ty pa_nil (starEach_plain rfl)) (starEach_plain gx)) (okN_of e3).2.2.1 (okN_of e3).1 (starEach_plain gx) rfl) fun σ H Q ⟨G, r, R, f, w⟩ => ?_
  refine wB R f w fun d G1 H1 v1 g1 r1 w1 => ?_
  rw [O.K]
  rcases isiB_own hk (Wp.bind.mp w1) with ⟨e, w0, b, rfl, hb, q⟩ | ⟨e, w0, b, rfl, hb, q⟩
  · have r1 := r1.rep rfl
    cases r1 with
    | exc k1 g =>
      obtain ⟨h1, h2⟩ := hx _ _ _ _ k1 hb
      exact .inl ⟨_, _, v, u, b, rfl, g1.sub _ _ g, h1, hv, h2, copOut g1 q⟩
  · have r1 := r1.rep rfl
    cases r1 with
    | obj k1 g l ra =>
      obtain ⟨h1, h2⟩ := ho _ _ _ _ k1 hb
      exact .inr ⟨_, v, _, u, b, rfl, hv, .base (.ins (g1.sub _ _ g) h1.cl h1.ha h1.hn h1.htk h1.hm), h2, copOut g1 q⟩
theorem e_rev {k : Nat} {p1 p2 p3 : Pos} (O : XOk c p X) (ha : PE X x (tBo p a)) : PE X (.Subscript x (.Slice none none (some (.UnaryOp .USub (.Constant (.int 1) k p1) p2)) p3) pos) (tV p (.rev a)) := by
  refine peImp (pe_revL ha) fun σ H Q ⟨G, r, R, f, w⟩ => ?_
  refine wB R f w fun d G1 H1 v g1 r1 w1 => ?_
  cases d <;> first | exact False.elim w1 | skip
  obtain ⟨a1, xs, rfl, q1, s1⟩ := r1.lst g1.sub
  rw [O.K]
  refine ⟨a1, xs, rfl, q1, fun q hq => ?_⟩
  exact Kv.lst g1.sub (Kv.of (fr := true) g1 w1) rfl s1.reverse q hq
theorem e_isi {k : String} {n m : Str} {p1 p2 : Pos} (O : XOk c p X) (hn : gN X.env.scope "isinstance" n = true) (hm : gN X.env.scope k m = true) (hk : k ∈ bClasses) (gx : plainX x = true) (ha : PE X x (tBo p a)) :
    PE X (.Call (.Name n p1) [x, .Name m p2] [] pos) (tV p (.isi a k)) := by
  obtain ⟨e1, e2, e3⟩ := gN_of hn
  obtain ⟨f1, f2, f3⟩ := gN_of hm
  subst e1 f1
  have hb : bootBuiltins (Str.ofString k) = some (.type k) := by
    simp only [bClasses, List.mem_cons, List.mem_nil_iff, or_false] at hk
    rcases hk with rfl | rfl | rfl | rfl | rfl <;> decide +kernel
  have hA : k ∈ bAll := by
    simp only [bClasses, List.mem_cons, List.mem_nil_iff, or_false] at hk
    rcases hk with rfl | rfl | rfl | rfl | rfl <;> decide
  have ty : PE X (.Name (Str.ofString k) p2) (tC (.ty k)) := pe_bltn f2 (O.mgB _ hA) hb rfl (okN_of f3).2.2.1 (okN_of f3).1
  refine peImp (pe_callB call_isi e2 (O.mgB _ (by decide)) (by decide +kernel) (pa_cons ha (pa_cons ty pa_nil (starEach_plain rfl)) (starEach_plain gx)) (okN_of e3).2.2.1 (okN_of e3).1 (starEach_plain gx) rfl) fun σ H Q ⟨G, r, R, f, w⟩ => ?_
  refine wB R f w fun d G1 H1 v g1 r1 w1 => ?_
  obtain ⟨t, b, h1, h2, q⟩ := isiB_of hk (Wp.bind.mp w1)
  rw [O.K]
  exact ⟨v, .ty k, .type t, .type k, b, rfl, .ty k, tyX_of g1.sub r1 h1, kit_ty h2, copOut g1 q⟩
theorem e_isiA {k : String} {n m : Str} {p1 p2 : Pos} (O : XOk c p X) (hn : gN X.env.scope "isinstance" n = true) (hm : gN X.env.scope k m = true) (hk : k ∈ bClasses ∨ c.isC k = true) (gx : plainX x = true) (ha : PE X x (tBo p a)) :
    PE X (.Call (.Name n p1) [x, .Name m p2] [] pos) (tV p (.isi a k)) := by
  by_cases hb : k ∈ bClasses
  · exact e_isi O hn hm hb gx ha
  · exact e_isiO O hn hm hb (hk.resolve_left hb) gx ha
end
end Pu

/-! Own classes: a new one, its fields, its methods. -/
namespace Pu
open PySem L2
section
variable {c : Ck} {p : Pk} {X : Cx} {G G' H H' : Hp} {r : Env} {σ : St} {e a b es : E} {x y : Expr} {pos : Pos}
theorem base_of {v : Expr} {f : Str} {env : PySem.Env} (hs : notSuper v = true) : attributeBase v f env (eval v env) = eval v env := by
  unfold attributeBase
  cases v <;> first | rfl | skip
  rename_i g as ks pc
  cases g <;> first | rfl | skip
  cases as <;> first | rfl | skip
  cases ks <;> first | rfl | cases hs
theorem lookup_zip : ∀ {ns : List Str} {xs : List V} {i : Nat} {f : Str} {v : V}, ns.Nodup → ns[i]? = some f → xs[i]? = some v → (ns.zip xs).lookup f = some v
  | [], _, _, _, _, _, h, _ => by simp at h
  | n :: ns, [], _, _, _, _, _, h => by simp at h
  | n :: ns, x :: xs, 0, f, v, nd, h1, h2 => by
    simp at h1 h2
    subst h1 h2
    simp [List.lookup]
  | n :: ns, x :: xs, i + 1, f, v, nd, h1, h2 => by
    have nd' := List.nodup_cons.mp nd
    have hf : f ∈ ns := List.mem_of_getElem? (by simpa using h1)
    have hb : (f == n) = false := beq_eq_false_iff_ne.mpr fun z => nd'.1 (by rw [← z]; exact hf)
    show (match f == n with | true => some x | false => (ns.zip xs).lookup f) = some v
    rw [hb]
    exact lookup_zip nd'.2 (by simpa using h1) (by simpa using h2)
theorem lookup_zip_none : ∀ {ns : List Str} {xs : List V} {f : Str}, f ∉ ns → (ns.zip xs).lookup f = none
  | [], _, _, _ => by simp
  | n :: ns, [], _, _ => by simp
  | n :: ns, x :: xs, f, h => by
    have hb : (f == n) = false := beq_eq_false_iff_ne.mpr fun z => h (by rw [z]; exact List.mem_cons_self)
    show (match f == n with | true => some x | false => (ns.zip xs).lookup f) = none
    rw [hb]
    exact lookup_zip_none fun z => h (List.mem_cons_of_mem _ z)
/-- e.f -/
theorem e_fld {f : String} (O : XOk c p X) (hs : notSuper x = true) (ha : PE X x (tR p a)) : PE X (.Attribute x (Str.ofString f) pos) (tV p (.fld a f)) := by
  refine peImp (pe_fld ha (base_of hs)) fun σ H Q ⟨G, r, R, fz, w⟩ => ?_
  refine wR R fz w fun d G1 H1 v g1 r1 w1 => ?_
  cases d <;> first | exact False.elim w1 | skip
  rename_i k ds
  have w1 : Wp _ (ofO (p.o.field k f) >>= fun i => ofO ds[i]?) _ := w1
  obtain ⟨i, hi, w2⟩ := Wp.ofO (Wp.bind.mp w1)
  obtain ⟨d, hd, w3⟩ := Wp.ofO w2
  obtain ⟨C, ns, h1, h2, h3⟩ := O.fld k f i hi
  cases r1 with
  | @obj _ a1 C1 dx ns1 xs _ k1 q l ra =>
    rw [h1] at k1
    cases k1
    obtain ⟨v1, e1, e2⟩ := ra.get hd
    exact ⟨a1, C, dx, _, v1, rfl, g1.sub _ _ q, h2.cls, h2.no _ (List.mem_of_getElem? h3), lookup_zip h2.nd h3 e1, w3 G1 H1 v1 g1 (.of e2 (.inl rfl))⟩
/-- the instance made -/
theorem new_run {C : Addr} {ns : List Str} (N : NewK X C ns) (hc : ClK X.K C ns) {pins : List (Addr × Obj)} {s : Shared} {vs : List V} {us : List Value} {Q : VK} (pass : Passes (L2.CX X.prog X.w) X p.E) (I : Inv X pins σ H s) (rv : Vals vs us) (hl : vs.length = ns.length)
    (q : ∀ y dx, H y = none → H dx = none → dx ≠ y → Q (.ref y) (upd (upd H dx (.own y)) y (.ins C dx (ns.zip vs)))) : wpAny (model X.prog X.w) X.A (call (.ref C) us) (EP X pins σ Q) X.xe s := by
  cases N with
  | ini M F hr hb =>
    refine run_make M F hr hb .nil pass I rv fun y dx h1 h2 h3 => ?_
    rw [List.append_nil]
    refine ⟨y, C, dx, vs, rfl, upd_same, hc, hl, rfl, ?_⟩
    have e : upd (upd (upd H dx (.own y)) y (.ins C dx [])) y (.ins C dx (ns.zip vs)) = upd (upd H dx (.own y)) y (.ins C dx (ns.zip vs)) := funext fun b => by
      by_cases hb : b = y
      · subst hb; rw [upd_same, upd_same]
      · rw [upd_ne hb, upd_ne hb, upd_ne hb]
    rw [e]
    exact q y dx h1 h2 h3
  | obj h0 hm hi ht hk =>
    subst h0
    have hv : vs = [] := List.eq_nil_of_length_eq_zero (by simpa using hl)
    subst hv
    cases rv
    have I2 := Inv.made (C := C) I
    have hq := q (s.heap.objs.size + 1) s.heap.objs.size (I.hok.fresh (Nat.le_succ _)) (I.hok.fresh (Nat.le_refl _)) (Nat.ne_of_lt (Nat.lt_succ_self _))
    have ho : ((s.heap.push PySem.W.emptyDict).push (PySem.W.instObj C s.heap.objs.size)).get? (s.heap.objs.size + 1) = some (PySem.W.instObj C s.heap.objs.size) := by
      have := Heap.get?_push_size (s.heap.push PySem.W.emptyDict) (o := PySem.W.instObj C s.heap.objs.size) rfl
      rwa [Heap.size_push] at this
    have t2 : PySem.W.Looks (model X.prog X.w) ((s.heap.push PySem.W.emptyDict).push (PySem.W.instObj C s.heap.objs.size)) (isInstance (.ref (s.heap.objs.size + 1)) (.type "object")) true := (NwA.type_at ho rfl).andThen (PySem.W.looks_mroIn I2.kIn ht)
    refine wpAny_call (make_map0 I.kIn hm hi (fun self => PySem.W.Looks.of_pure (PySem.W.oi_bind self)) ?_)
    refine codeAny_call_builtin PySem.W.oi_plain PySem.W.entry_oi (@PySem.W.check_slot (model X.prog X.w) _ _ _ "object.__init__" "object" "__init__" (.ref (s.heap.objs.size + 1)) [] [] _ PySem.W.oi_kind PySem.W.oi_split t2 (NwA.oi_args_any (.ref (s.heap.objs.size + 1)) [] []) ?_)
    rw [PySem.W.oi_run]
    exact wpAny_pure (And.intro rfl ⟨V.ref (s.heap.objs.size + 1), _, I2, rfl, hq⟩)
theorem new_fin {C : Addr} {ns : List Str} {k : String} (O : XOk c p X) (hcl : p.cl k = some (C, ns)) (hN : NewK X C ns) (hC : ClK X.K C ns) (hnew : ∀ ds, p.o.new k ds = .stuck ∨ (p.o.new k ds = .ok (.obj k ds) ∧ ds.length = ns.length))
    {pins : List (Addr × Obj)} {s1 : Shared} {H1 G1 : Hp} {vs : List V} {us : List Value} {ds : List D} {Q : VK} (I1 : Inv X pins σ H1 s1) (rv : Vals vs us) (g1 : Grow G H G1 H1) (r1 : RepA p.K p.cl G1 vs ds)
    (w1 : Wp (p.W H1) (p.o.new k ds) (fun d => ∀ G' H' v, Grow G H G' H' → Out p.K p.cl false G' H H' v d → Q v H')) : wpAny (model X.prog X.w) X.A (call (.ref C) us) (EP X pins σ Q) X.xe s1 := by
  rcases hnew ds with h | ⟨h, hl⟩
  · rw [h] at w1; exact w1.elim
  · rw [h] at w1
    refine new_run hN hC O.pass I1 rv (by rw [r1.length, hl]) fun y dx h1 h2 h3 => ?_
    have g2 := Grow.laid g1.sub h2 (.own y)
    have hy : upd H1 dx (.own y) y = none := by rw [upd_ne (Ne.symm h3)]; exact h1
    have g3 := Grow.laid g2.sub hy (.ins C dx (ns.zip vs))
    exact w1 _ _ _ ((g1.trans g2).trans g3) (.of (.obj hcl upd_same (by rw [r1.length, hl]) (RepA.mono (g2.trans g3).sg _ _ r1)) (.inl rfl))
theorem new_kp {C : Addr} {ns : List Str} (N : NewK X C ns) : PySem.W.keepIn X.K (.ref C) = true := match N with
  | .ini M _ _ _ => M.kp
  | .obj _ _ _ _ h => h
/-- C(..) -/
theorem e_new {k : String} {n : Str} {xs : List Expr} {p1 : Pos} (O : XOk c p X) (hk : c.isN k = true) (hn : gN X.env.scope k n = true) (gp : (x :: xs).all plainX = true) (ha : PA X (x :: xs) (tAr p es)) : PE X (.Call (.Name n p1) (x :: xs) [] pos) (tV p (.new k es)) := by
  obtain ⟨e1, e2, e3⟩ := gN_of hn
  subst e1
  obtain ⟨C, ns, hm, hcl, hN, hC, hnew⟩ := O.new k hk
  rw [List.all_cons, Bool.and_eq_true] at gp
  refine ⟨fun pins s σ H Q I ⟨G, r, R, f', w⟩ => ?_⟩
  refine wpAny_Call_Name_kw (ld_glob I e2 hm ?_ (okN_of e3).1)
  refine PySem.W.callWith_K (h₀ := X.base) I.ok.mod.kin (new_kp hN) (thn (ha.run pos pins s σ H _ I (wAr (f := fun ds => p.o.new k ds) R f' w fun ds G1 H1 vs g1 r1 w1 => (show ∃ ds G1, Grow G H G1 H1 ∧ RepA p.K p.cl G1 vs ds ∧ Wp (p.W H1) (p.o.new k ds) _ from ⟨ds, G1, g1, r1, w1⟩))) fun us s1 ⟨vs, H1, I1, rv, ds, G1, g1, r1, w1⟩ => ⟨I1.kIn, ?_⟩) (starEach_plain gp.1) (backTo_plain gp.2)
  exact new_fin O hcl hN hC hnew I1 rv g1 r1 w1
theorem e_new0 {k : String} {n : Str} {p1 : Pos} (O : XOk c p X) (hk : c.isN k = true) (hn : gN X.env.scope k n = true) : PE X (.Call (.Name n p1) [] [] pos) (tV p (.new k .nil)) := by
  obtain ⟨e1, e2, e3⟩ := gN_of hn
  subst e1
  obtain ⟨C, ns, hm, hcl, hN, hC, hnew⟩ := O.new k hk
  refine ⟨fun pins s σ H Q I ⟨G, r, R, f', w⟩ => ?_⟩
  refine wpAny_Call_Name_kw (ld_glob I e2 hm ?_ (okN_of e3).1)
  refine PySem.W.callWith_K0 I.kIn (new_kp hN) ?_
  exact new_fin (us := []) (vs := []) (ds := []) O hcl hN hC hnew I .nil (.refl R.sub) .nil w
theorem form_of {pos : Pos} {env : PySem.Env} {xs : List Expr} (gp : xs.all plainX = true) (hl : xs.length < 29) : methodCallForm (xs.length + ([] : List Keyword).length) (backTo pos (starEach xs env)) (backToKw pos (keywordEach [] env)) = true := by
  have h := backTo_plain (pos := pos) (env := env) gp
  unfold methodCallForm
  have h2 : (backTo pos (starEach xs env)).all (fun x => !x.1) = true := by
    rw [List.all_eq_true]
    intro x hx
    have := List.any_eq_false.mp h x hx
    simpa using this
  rw [h2]
  simp [keywordEach, backToKw]
  omega
theorem base_wp {v : Expr} {f : Str} {env : PySem.Env} {M : Model} {A : Around} {Q : Value → Shared → Prop} {E : Value → Shared → Prop} {s : Shared} (hs : notSup v = true) (h : wpAny M A (eval v env) Q E s) : wpAny M A (attributeBase v f env (eval v env)) Q E s := by
  unfold notSup at hs
  by_cases h1 : notSuper v = true
  · rw [base_of h1]; exact h
  · rw [Bool.or_eq_true] at hs
    have hs := hs.resolve_left h1
    split at hs
    · rename_i y x p q
      have hx : (y != ("super" : Str)) = true := hs
      unfold attributeBase
      simp only [hx, Bool.true_or, if_true]
      exact h
    · cases hs
/-- from the object to the method's call -/
theorem meth_run {o : Expr} {m : Str} {ap cp : Pos} {xs : List Expr} {s : Shared} {Q : Value → Shared → Prop} (hs : notSup o = true) (gp : xs.all plainX = true) (hl : xs.length < 29) (hline : (ap.endLine == cp.line) = true)
    (h : ∀ pl, wpAny (model X.prog X.w) X.A (eval o X.env) (fun ov s1 => wpAny (model X.prog X.w) X.A (getMethod ov m pl) (fun fx s2 => wpAny (model X.prog X.w) X.A (callWith cp fx.1 fx.2 (backTo cp (starEach xs X.env)) (backToKw cp (keywordEach [] X.env))) Q X.xe s2) X.xe s1) X.xe s) :
    wpAny (model X.prog X.w) X.A (eval (.Call (.Attribute o m ap) xs [] cp) X.env) Q X.xe s := by
  rw [arm_eval_Call]
  refine wpAny_bind (base_wp hs (wpAny_mono (h (do return (← importBound o X.env).getD true)) (fun ov s₁ h₁ => ?_) fun _ _ e => e))
  refine wpAny_bind (wpAny_standAt ?_)
  have hform := form_of (pos := cp) (env := X.env) gp hl
  have hpos : methodCallPos true o X.env ap cp = pure cp := by unfold methodCallPos; simp [hline]
  unfold methodCall
  rw [hform]
  refine wpAny_bind (wpAny_holding ?_)
  refine wpAny_mono h₁ (fun fx s2 h2 => ?_) fun _ _ e => e
  exact wpAny_bind (wpAny_of_eq hpos h2)
theorem wN {α : Type} {f : List D → R α} {K : α → Prop} {W : String → D → Prop} {x : R (List D)} (h : Wp W (R.noX x >>= f) K) : ∃ ds, x = .ok ds ∧ Wp W (f ds) K := by
  cases x with
  | ok ds => exact ⟨ds, rfl, h⟩
  | exc k v => exact h.elim
  | stuck => exact h.elim
theorem meth_end {f m : String} {fa : Addr} {pins : List (Addr × Obj)} {s1 : Shared} {H1 G1 : Hp} {vs : List V} {us : List Value} {ds : List D} {Q : VK} (hK : FnK X p f fa) (O : XOk c p X) (hf : p.o.freshM m = true → p.o.fresh f = true) (I1 : Inv X pins σ H1 s1) (rv : Vals vs us) (g1 : Grow G H G1 H1) (r1 : RepA p.K p.cl G1 vs ds)
    (w1 : Wp (p.W H1) (p.o.call f ds) (fun d => ∀ G' H' v, Grow G H G' H' → Out p.K p.cl (p.o.freshM m) G' H H' v d → Q v H')) : wpAny (model X.prog X.w) X.A (call (.ref fa) us) (EP X pins σ Q) X.xe s1 := by
  refine hK.c O.pass pins s1 σ H1 vs us Q G1 ds I1 rv g1.sub r1 (w1.imp (fun _ _ z => z) fun d q G2 H2 v g2 o2 => ?_)
  by_cases hm : p.o.freshM m = true
  · rw [hm] at q
    rw [hf hm] at o2
    exact q G2 H2 v (g1.trans g2) (o2.back g1.sh)
  · obtain ⟨G3, g3, _, r3⟩ := o2.rep g2
    exact q G3 H2 v (g1.trans g3) (.of r3 (.inl (by simpa using hm)))
/-- o.m(..) -/
theorem e_meth {m : String} {ap cp : Pos} {xs : List Expr} (O : XOk c p X) (hs : notSup x = true) (gp : xs.all plainX = true) (hl : xs.length < 29) (hline : (ap.endLine == cp.line) = true) (he : PE X x (tR p a)) (ha : PA X xs (tAr p es)) (hb : PA X xs (tAb p es)) (hn : xs = [] → es = .nil) :
    PE X (.Call (.Attribute x (Str.ofString m) ap) xs [] cp) (tV p (.meth a m es)) := by
  refine ⟨fun pins s σ H Q I ⟨G, r, R, f', w⟩ => ?_⟩
  refine meth_run hs gp hl hline fun pl => ?_
  refine thn (he.run pins s σ H _ I (wR R f'.left w fun d G1 H1 v g1 r1 w1 => (show ∃ d G1, Grow G H G1 H1 ∧ Rep p.K p.cl G1 v d ∧ Wp (p.W H1) (Pu.R.noX (evs p.o r es) >>= fun ds => methOf p.o m d ds) _ from ⟨d, G1, g1, r1, w1⟩))) fun u s1 ⟨v, H1, I1, rv, d, G1, g1, r1, w1⟩ => ?_
  obtain ⟨ds, hds, w2⟩ := wN w1
  cases d <;> first | exact False.elim w2 | skip
  rename_i k ds0
  have w2 : Wp _ (p.o.meth k m (.obj k ds0 :: ds)) _ := w2
  rcases O.meth k m (.obj k ds0 :: ds) with hh | ⟨f, C, ns, fa, hc, hfr, hbo, hcl, hC, hnm, hM, hK⟩
  · rw [hh] at w2; exact w2.elim
  rw [hc] at w2
  have w2 : Wp (p.W H1) (p.o.call f (.obj k ds0 :: ds)) (fun d => ∀ G' H' v, Grow G H G' H' → Out p.K p.cl (p.o.freshM m) G' H H' v d → Q v H') := w2
  cases r1 with
  | @obj _ a1 C1 dx ns1 ys _ k1 q l ra =>
    have k2 := k1
    rw [hcl] at k2
    cases k2
    obtain rfl : u = Value.ref a1 := rv
    have ro : Rep p.K p.cl G1 (.ref a1) (.obj k ds0) := .obj k1 q l ra
    refine getmeth_ok I1 (g1.sub _ _ q) hC.cls hM (lookup_zip_none hnm) ?_
    cases xs with
    | nil =>
      cases hn rfl
      have hds : Pu.R.ok [] = Pu.R.ok ds := hds
      cases hds
      refine PySem.W.callWith_K0 (first := [.ref a1]) I1.kIn hM.kp ?_
      exact meth_end (vs := [V.ref a1]) (us := [Value.ref a1]) hK O hfr I1 (.cons rfl .nil) g1 (.cons ro .nil) w2
    | cons x1 xs =>
      rw [List.all_cons, Bool.and_eq_true] at gp
      have f2 : AllFrz (if p.o.borM m = true then esc.escBs p.o es else esc p.o es) r := f'.right
      by_cases hbm : p.o.borM m = true
      · rw [if_pos hbm] at f2
        have R1 := R.grow g1
        have hQ : tAb p es σ H1 (fun vs H2 => ∃ G2, Grow G1 H1 G2 H2 ∧ RepBA p.K p.cl G2 H2 vs ds) := ⟨G1, r, R1, f2, by rw [hds]; exact fun G2 H2 vs g2 r2 => ⟨G2, g2, r2⟩⟩
        refine PySem.W.callWith_K (first := [.ref a1]) (h₀ := X.base) I1.ok.mod.kin hM.kp (thn (hb.run cp pins s1 σ H1 _ I1 hQ) fun us s2 ⟨vs, H2, I2, rv2, G2, g2, r2⟩ => ⟨I2.kIn, ?_⟩) (starEach_plain gp.1) (backTo_plain gp.2)
        have r2 : RepBA p.K p.cl G2 H2 (.ref a1 :: vs) (.obj k ds0 :: ds) := .cons (.inl (Rep.mono g2.sg _ _ ro)) r2
        have hl : ∀ q ∈ ownsOf G2 H2 (.ref a1 :: vs), G2 q = none ∧ ∃ xs, H2 q = some (.lst xs) := fun q hq => mem_ownsOf hq
        have ra := repBA_add (vs := .ref a1 :: vs) (ds := .obj k ds0 :: ds) (ownsOf G2 H2 (.ref a1 :: vs)) (fun q hq => (hl q hq).1) (fun v hv q xs e n1 h2 => by subst e; exact ownsOf_mem hv n1 h2) r2
        have g12 := g1.trans g2
        have w3 := w2.imp (fun _ _ z => z.mono g2.sh) fun _ z => z
        refine hK.c O.pass pins s2 σ H2 (.ref a1 :: vs) (.ref a1 :: us) Q (addL G2 H2 (ownsOf G2 H2 (.ref a1 :: vs))) (.obj k ds0 :: ds) I2 (.cons rfl rv2) (addL_sub g12.sub) ra ?_
        cases qc : p.o.call f (.obj k ds0 :: ds) with
        | ok d =>
          rw [qc] at w3
          intro G3 H3 v g3 o3
          obtain ⟨g4, o4⟩ := back_own hl g3 o3 (O.bor f _ d (hbo hbm) qc)
          by_cases hm : p.o.freshM m = true
          · rw [hfr hm] at o4
            rw [hm] at w3
            exact w3 _ _ _ (g12.trans g4) (o4.back g12.sh)
          · obtain ⟨G5, g5, _, r5⟩ := o4.rep g4
            exact w3 _ _ _ (g12.trans g5) (.of r5 (.inl (by simpa using hm)))
        | exc k v => rw [qc] at w3; exact w3
        | stuck => rw [qc] at w3; exact w3
      · rw [if_neg hbm] at f2
        have R1 := R.grow g1
        have hQ : tAr p es σ H1 (fun vs H2 => ∃ G2, Grow G1 H1 G2 H2 ∧ RepA p.K p.cl G2 vs ds) := ⟨G1, r, R1, f2, by rw [hds]; exact fun G2 H2 vs g2 r2 => ⟨G2, g2, r2⟩⟩
        refine PySem.W.callWith_K (first := [.ref a1]) (h₀ := X.base) I1.ok.mod.kin hM.kp (thn (ha.run cp pins s1 σ H1 _ I1 hQ) fun us s2 ⟨vs, H2, I2, rv2, G2, g2, r2⟩ => ⟨I2.kIn, ?_⟩) (starEach_plain gp.1) (backTo_plain gp.2)
        exact meth_end (vs := V.ref a1 :: vs) (us := Value.ref a1 :: us) hK O hfr I2 (.cons rfl rv2) (g1.trans g2) (.cons (Rep.mono g2.sg _ _ ro) r2) (w2.imp (fun _ _ z => z.mono g2.sh) fun _ z => z)
end
end Pu

/-! What a for walks. -/
namespace L2
open PySem PySem.Spec PyProof.Rows
theorem piImp {X : Cx} {tg iter : Expr} {t t' : TI} (h : PI X tg iter t) (i : ∀ σ H R, t' σ H R → t σ H R) : PI X tg iter t' := ⟨fun pins s σ H R I q => h.run pins s σ H R I (i σ H R q)⟩
/-- a list or a tuple -/
def iSeq (K : PySem.W.Frag) (tl : TE) : TI := fun σ H R => tl σ H fun x H1 => ∃ a, x = .ref a ∧ (((∃ xs, SqL K H1 a xs) ∧ R (Itl K a) H1) ∨ ((∃ xs, SqT K H1 a xs) ∧ R (Itt K a) H1))
theorem pi_seq {X : Cx} {tg l : Expr} {tl : TE} (hl : PE X l tl) : PI X tg l (iSeq X.K tl) := by
  refine ⟨fun pins s σ H R I h => ?_⟩
  refine thn (hl.run pins s σ H _ I h) fun v s1 ⟨x, H1, I1, r1, q1⟩ => ?_
  obtain ⟨a, e, q1⟩ := q1
  subst e
  cases r1
  rcases q1 with ⟨⟨xs, hq⟩, q⟩ | ⟨⟨xs, hq⟩, q⟩
  · obtain ⟨its, rv, p, hz⟩ := I1.list hq
    refine wpAny_pyIter_list p.isList ?_
    refine ⟨s1.heap.objs.size, [s1.heap.objs.size], _, _, H1, rfl, I1.kept (t' := s1.toks) fun b o e => Heap.get?_push_of_some _ e, turn_list a _, ⟨_, Heap.get?_push_size _ rfl, rfl, rfl⟩, fun b hb => ?_, q⟩
    have e : b = s1.heap.objs.size := by simpa using hb
    subst e
    exact I1.fpOk (Nat.le_refl _) (I1.hok.fresh (Nat.le_refl _))
  · obtain ⟨its, rv, p, hz⟩ := I1.tuple hq
    refine wpAny_pyIter_tuple (show s1.heap.IsTuple a its.toArray from p) ?_
    refine ⟨s1.heap.objs.size, [s1.heap.objs.size], _, _, H1, rfl, I1.kept (t' := s1.toks) fun b o e => Heap.get?_push_of_some _ e, turn_tuple a _, ⟨_, Heap.get?_push_size _ rfl, rfl, rfl⟩, fun b hb => ?_, q⟩
    have e : b = s1.heap.objs.size := by simpa using hb
    subst e
    exact I1.fpOk (Nat.le_refl _) (I1.hok.fresh (Nat.le_refl _))
end L2
namespace Pu
open PySem L2
section
variable {c : Ck} {p : Pk} {X : Cx} {G G' H H' : Hp} {r : Env} {σ : St} {e a b : E} {x y z : Expr} {pos : Pos} {K : PySem.W.Frag} {cl : Cl} {v : V} {d : D}
abbrev Srcs := List (Addr × List V)
/-- a value with the list that must stand still for it -/
def SrcRep (K : PySem.W.Frag) (cl : Cl) (G H : Hp) (v : V) (d : D) (l : Srcs) : Prop := (Rep K cl G v d ∧ l = []) ∨ ∃ a xs ds, v = .ref a ∧ d = .lst ds ∧ l = [(a, xs)] ∧ H a = some (.lst xs) ∧ RepA K cl G xs ds
def Alive (G0 : Hp) (l : Srcs) (H : Hp) : Prop := Same G0 H ∧ ∀ q ∈ l, H q.1 = some (.lst q.2)
theorem Alive.left {G0 : Hp} {l m : Srcs} {H : Hp} (h : Alive G0 (l ++ m) H) : Alive G0 l H := ⟨h.1, fun q hq => h.2 q (List.mem_append_left _ hq)⟩
theorem Alive.right {G0 : Hp} {l m : Srcs} {H : Hp} (h : Alive G0 (l ++ m) H) : Alive G0 m H := ⟨h.1, fun q hq => h.2 q (List.mem_append_right _ hq)⟩
theorem Alive.mono {G0 G1 : Hp} {l : Srcs} {H : Hp} (s : Same G0 G1) (h : Alive G1 l H) : Alive G0 l H := ⟨s.trans h.1, h.2⟩
theorem SrcRep.grow {l : Srcs} (g : Grow G H G' H') (h : SrcRep K cl G H v d l) : SrcRep K cl G' H' v d l := by
  rcases h with ⟨h, e⟩ | ⟨a, xs, ds, e1, e2, e3, q, r⟩
  · exact .inl ⟨Rep.mono g.sg _ _ h, e⟩
  · exact .inr ⟨a, xs, ds, e1, e2, e3, g.sh _ _ q, RepA.mono g.sg _ _ r⟩
theorem SrcRep.lst {l : Srcs} {ds : List D} (h : SrcRep K cl G H v (.lst ds) l) : ∃ a xs, v = .ref a ∧ RepA K cl G xs ds ∧ ∀ H2, Alive G l H2 → SqL K H2 a xs := by
  rcases h with ⟨h, e⟩ | ⟨a, xs, es, e1, e2, e3, q, r⟩
  · cases h with
    | lst s r => exact ⟨_, _, rfl, r, fun H2 A => A.1.seq s⟩
  · cases e2
    exact ⟨a, xs, e1, r, fun H2 A => .of (A.2 (a, xs) (by rw [e3]; simp))⟩
theorem SrcRep.tup {l : Srcs} {ds : List D} (h : SrcRep K cl G H v (.tup ds) l) : ∃ a xs, v = .ref a ∧ RepA K cl G xs ds ∧ ∀ H2, Alive G l H2 → SqT K H2 a xs := by
  rcases h with ⟨h, e⟩ | ⟨a, xs, es, e1, e2, e3, q, r⟩
  · cases h with
    | tup s r => exact ⟨_, _, rfl, r, fun H2 A => sameT A.1 s⟩
  · cases e2
/-- where these lists stand: names that are one's own -/
def SrcIn (e : E) (r : Env) (σ : St) (l : Srcs) : Prop := ∀ q ∈ l, ∃ i, e = .var i ∧ σ[i]? = some (some (.ref q.1)) ∧ ∃ fl d, r[i]? = some (some (fl, d)) ∧ fl ≠ .frz
def tSrc (p : Pk) (e : E) : St → Hp → (V → Hp → Srcs → Hp → Prop) → Prop := fun σ H Q => ∃ G r, EnvRep p.K p.cl G r σ H ∧ AllFrz (escB p.o e) r ∧ Wp (p.W H) (ev p.o r e) fun d =>
  ∀ G' H' v l, Grow G H G' H' → SrcRep p.K p.cl G' H' v d l → SrcIn e r σ l → Q v H' l G'
/-- as a reading -/
def tSr (p : Pk) (e : E) : TE := fun σ H Q => ∃ G r, EnvRep p.K p.cl G r σ H ∧ AllFrz (escB p.o e) r ∧ Wp (p.W H) (ev p.o r e) fun d => ∀ G' H' v l, Grow G H G' H' → SrcRep p.K p.cl G' H' v d l → SrcIn e r σ l → Q v H'
theorem s_var {i : Nat} {n : Str} {pos : Pos} (O : XOk c p X) (hs : slotB c.N i n = true) (hv : visB X.env.scope n = true) (hk : okN n = true) : PE X (.Name n pos) (tSr p (.var i)) := by
  have base : PE X (.Name n pos) (tVar i) := pe_var (by rw [O.N]; exact slotB_of hs) (visB_of hv) (okN_of hk).1 (okN_of hk).2.1
  refine peImp base fun σ H Q ⟨G, r, R, f, w⟩ => ?_
  obtain ⟨fl, d, e, q⟩ := wpGet w
  obtain ⟨v, h1, h2⟩ := R.cell i fl d e
  by_cases hf : fl = .frz
  · subst hf
    exact ⟨v, h1, q G H v [] (.refl R.sub) (.inl ⟨h2, rfl⟩) (fun _ z => by cases z)⟩
  · have h3 : OwnRep p.K p.cl G H v d := by cases fl <;> first | exact absurd rfl hf | exact h2
    obtain ⟨a, xs, ds, e1, e2, n, hh, ra⟩ := h3
    subst e1 e2
    refine ⟨_, h1, q G H _ [(a, xs)] (.refl R.sub) (.inr ⟨a, xs, ds, rfl, rfl, rfl, hh, ra⟩) fun q' hq => ?_⟩
    have e' : q' = (a, xs) := by simpa using hq
    subst e'
    exact ⟨i, rfl, h1, fl, _, e, hf⟩
theorem s_other (h : PE X x (tR p a)) (n : escB p.o a = esc p.o a) : PE X x (tSr p a) := peImp h fun σ H Q ⟨G, r, R, f, w⟩ => ⟨G, r, R, (by rw [← n]; exact f), w.imp (fun _ _ z => z) fun d q G' H' v g rr => q G' H' v [] g (.inl ⟨rr, rfl⟩) fun _ z => by cases z⟩
theorem wS {α : Type} {f : D → R α} {K : α → Prop} {Q : VK} (R : EnvRep p.K p.cl G r σ H) (fz : AllFrz (escB p.o a) r) (h : Wp (p.W H) (ev p.o r a >>= f) K)
    (hk : ∀ d G1 H1 v l, Grow G H G1 H1 → SrcRep p.K p.cl G1 H1 v d l → SrcIn a r σ l → Wp (p.W H1) (f d) K → Q v H1) : tSr p a σ H Q :=
  ⟨G, r, R, fz, (Wp.bind.mp h).imp (fun _ _ z => z) fun d q G1 H1 v l g rb si => hk d G1 H1 v l g rb si (q.imp (fun _ _ z => z.mono g.sh) fun _ z => z)⟩

/-- an iterator over these data -/
structure WalkOk (K : PySem.W.Frag) (cl : Cl) (J : It) (ds : List D) (G0 : Hp) (l : Srcs) : Prop where
  go : ∀ i H, Alive G0 l H → i < ds.length → J.go i H
  stop : ∀ i H, Alive G0 l H → ds.length ≤ i → J.stop i H
  yld : ∀ i H x H' G, Alive G0 l H → Same G0 G → Same G H → i < ds.length → J.yld i H x H' → ∃ d G', ds[i]? = some d ∧ Grow G H G' H' ∧ Rep K cl G' x d
def SrcAt (e : E) (r : Env) (σ : St) (l : Srcs) (H : Hp) : Prop := ∀ q ∈ l, H q.1 = some (.lst q.2) ∧ ∃ i ∈ locks e, σ[i]? = some (some (.ref q.1)) ∧ ∃ fl d, r[i]? = some (some (fl, d)) ∧ fl ≠ .frz
def tI (p : Pk) (e : E) : TI := fun σ H R => ∃ G r, EnvRep p.K p.cl G r σ H ∧ AllFrz (esc p.o e) r ∧ Wp (p.W H) (evI p.o r e) fun ds => ∀ G' H' J l, Grow G H G' H' → WalkOk p.K p.cl J ds G' l → SrcAt e r σ l H' → R J H'

theorem walk_list {a : Addr} {xs : List V} {ds : List D} {l : Srcs} (r : RepA K cl G xs ds) (h : ∀ H2, Alive G l H2 → SqL K H2 a xs) : WalkOk K cl (Itl K a) ds G l where
  go := fun i H A hi => by
    have hx : i < xs.length := by rw [r.length]; exact hi
    exact ⟨xs, xs[i], h H A, by simp [hx]⟩
  stop := fun i H A hi => ⟨xs, h H A, by rw [r.length]; exact hi⟩
  yld := fun i H x H' G1 A s1 s2 hi y => by
    obtain ⟨e, y⟩ := y
    subst e
    obtain ⟨d, h1, h2⟩ := r.getV (y xs (h _ A))
    exact ⟨d, G1, h1, .refl s2, Rep.mono s1 _ _ h2⟩
theorem walk_tup {a : Addr} {xs : List V} {ds : List D} {l : Srcs} (r : RepA K cl G xs ds) (h : ∀ H2, Alive G l H2 → SqT K H2 a xs) : WalkOk K cl (Itt K a) ds G l where
  go := fun i H A hi => by
    have hx : i < xs.length := by rw [r.length]; exact hi
    exact ⟨xs, xs[i], h H A, by simp [hx]⟩
  stop := fun i H A hi => ⟨xs, h H A, by rw [r.length]; exact hi⟩
  yld := fun i H x H' G1 A s1 s2 hi y => by
    obtain ⟨e, y⟩ := y
    subst e
    obtain ⟨d, h1, h2⟩ := r.getV (y xs (h _ A))
    exact ⟨d, G1, h1, .refl s2, Rep.mono s1 _ _ h2⟩
theorem walk_rev {a : Addr} {xs : List V} {ds : List D} {l : Srcs} (r : RepA K cl G xs ds) (h : ∀ H2, Alive G l H2 → SqL K H2 a xs) : WalkOk K cl (Itv K a xs.length) ds.reverse G l where
  go := fun i H A hi => by
    have hx : i < xs.length := by rw [r.length]; simpa using hi
    have hx2 : xs.length - 1 - i < xs.length := by omega
    exact ⟨hx, xs, xs[xs.length - 1 - i], h H A, by simp [hx2]⟩
  stop := fun i H A hi => by
    show xs.length ≤ i
    rw [r.length]; simpa using hi
  yld := fun i H x H' G1 A s1 s2 hi y => by
    obtain ⟨e, y⟩ := y
    subst e
    obtain ⟨d, h1, h2⟩ := r.getV (y xs (h _ A))
    have hi' : i < ds.length := by simpa using hi
    refine ⟨d, G1, ?_, .refl s2, Rep.mono s1 _ _ h2⟩
    rw [List.getElem?_reverse hi', ← r.length]
    exact h1
theorem walk_range (lo : Int) (n : Nat) (l : Srcs) : WalkOk K cl (Itr lo n) (rangeL lo n) G l where
  go := fun i H A hi => by
    have : i < n := by simpa [rangeL] using hi
    exact this
  stop := fun i H A hi => by
    have : n ≤ i := by simpa [rangeL] using hi
    exact this
  yld := fun i H x H' G1 A s1 s2 hi y => by
    obtain ⟨e, y⟩ := y
    subst e y
    have hn : i < n := by simpa [rangeL] using hi
    refine ⟨.int (lo + i), G1, ?_, .refl s2, .int _⟩
    unfold rangeL
    rw [List.getElem?_map, List.getElem?_range hn]
    rfl
theorem zipP_len (xs ys : List D) : (zipP xs ys).length = min xs.length ys.length := by simp [zipP]
theorem zipP_get {xs ys : List D} {i : Nat} {d e : D} (h1 : xs[i]? = some d) (h2 : ys[i]? = some e) : (zipP xs ys)[i]? = some (.tup [d, e]) := by
  unfold zipP
  rw [List.getElem?_map, List.getElem?_zip_eq_some.mpr (⟨h1, h2⟩ : xs[i]? = some (d, e).1 ∧ ys[i]? = some (d, e).2)]
  rfl
theorem walk_zipL {a b : Addr} {xs ys : List V} {ds es : List D} {l : Srcs} (r : RepA K cl G xs ds) (r' : RepA K cl G ys es) (h : ∀ H2, Alive G l H2 → SqL K H2 a xs) (h' : ∀ H2, Alive G l H2 → SqL K H2 b ys) : WalkOk K cl (Itz K a b) (zipP ds es) G l where
  go := fun i H A hi => by
    rw [zipP_len, ← r.length, ← r'.length] at hi
    have h1 : i < xs.length := by omega
    have h2 : i < ys.length := by omega
    exact ⟨xs, ys, xs[i], ys[i], h H A, h' H A, by simp [h1], by simp [h2]⟩
  stop := fun i H A hi => by
    rw [zipP_len, ← r.length, ← r'.length] at hi
    exact ⟨xs, ys, h H A, h' H A, by omega⟩
  yld := fun i H x H' G1 A s1 s2 hi y => by
    obtain ⟨T, u, w, e, ht, e', y1, y2⟩ := y
    subst e e'
    obtain ⟨d, h1, h2⟩ := r.getV (y1 xs (h _ A))
    obtain ⟨d', h3, h4⟩ := r'.getV (y2 ys (h' _ A))
    have g := Grow.laid s2 ht (.tup [u, w])
    exact ⟨_, _, zipP_get h1 h3, g, .tup (.of upd_same) (.cons (Rep.mono (s1.trans g.sg) _ _ h2) (.cons (Rep.mono (s1.trans g.sg) _ _ h4) .nil))⟩
theorem walk_zipT {a b : Addr} {xs ys : List V} {ds es : List D} {l : Srcs} (r : RepA K cl G xs ds) (r' : RepA K cl G ys es) (h : ∀ H2, Alive G l H2 → SqT K H2 a xs) (h' : ∀ H2, Alive G l H2 → SqT K H2 b ys) : WalkOk K cl (RZ.ItzT K a b) (zipP ds es) G l where
  go := fun i H A hi => by
    rw [zipP_len, ← r.length, ← r'.length] at hi
    have h1 : i < xs.length := by omega
    have h2 : i < ys.length := by omega
    exact ⟨xs, ys, xs[i], ys[i], h H A, h' H A, by simp [h1], by simp [h2]⟩
  stop := fun i H A hi => by
    rw [zipP_len, ← r.length, ← r'.length] at hi
    exact ⟨xs, ys, h H A, h' H A, by omega⟩
  yld := fun i H x H' G1 A s1 s2 hi y => by
    obtain ⟨T, u, w, e, ht, e', y1, y2⟩ := y
    subst e e'
    obtain ⟨d, h1, h2⟩ := r.getV (y1 xs (h _ A))
    obtain ⟨d', h3, h4⟩ := r'.getV (y2 ys (h' _ A))
    have g := Grow.laid s2 ht (.tup [u, w])
    exact ⟨_, _, zipP_get h1 h3, g, .tup (.of upd_same) (.cons (Rep.mono (s1.trans g.sg) _ _ h2) (.cons (Rep.mono (s1.trans g.sg) _ _ h4) .nil))⟩

theorem srcAt_of {e : E} {l : Srcs} (h : SrcRep K cl G H v d l) (hi : SrcIn a r σ l) (hl : ∀ i, a = .var i → i ∈ locks e) : SrcAt e r σ l H := fun q hq => by
  obtain ⟨i, e1, h1, h2⟩ := hi q hq
  refine ⟨?_, i, hl i e1, h1, h2⟩
  rcases h with ⟨h, e2⟩ | ⟨a', xs, ds, e2, e3, e4, hh, ra⟩
  · rw [e2] at hq; cases hq
  · rw [e4] at hq
    have e' : q = (a', xs) := by simpa using hq
    rw [e']; exact hh
theorem SrcAt.grow {e : E} {l : Srcs} (s : Same H H') (h : SrcAt e r σ l H) : SrcAt e r σ l H' := fun q hq => ⟨s _ _ (h q hq).1, (h q hq).2⟩
theorem SrcAt.app {e : E} {l m : Srcs} (h : SrcAt e r σ l H) (h' : SrcAt e r σ m H) : SrcAt e r σ (l ++ m) H := fun q hq => (List.mem_append.mp hq).elim (h q) (h' q)
theorem SrcAt.nil {e : E} : SrcAt e r σ [] H := fun _ z => by cases z

theorem i_seq {tg : Expr} (O : XOk c p X) (ha : PE X x (tSr p a)) : PI X tg x (tI p (.iseq a)) := by
  refine piImp (pi_seq ha) fun σ H Q ⟨G, r, R, f, w⟩ => ?_
  refine wS R f w fun d G1 H1 v l g1 r1 si w1 => ?_
  rw [O.K]
  have at_ := srcAt_of (e := .iseq a) r1 si fun i e => by subst e; simp [locks]
  have al : Alive G1 l H1 := ⟨g1.sub, fun q hq => (at_ q hq).1⟩
  cases d <;> first | exact False.elim w1 | skip
  · obtain ⟨q, xs, rfl, ra, h⟩ := r1.tup
    exact ⟨q, rfl, .inr ⟨⟨xs, h H1 al⟩, w1 G1 H1 _ l g1 (walk_tup ra h) at_⟩⟩
  · obtain ⟨q, xs, rfl, ra, h⟩ := r1.lst
    exact ⟨q, rfl, .inl ⟨⟨xs, h H1 al⟩, w1 G1 H1 _ l g1 (walk_list ra h) at_⟩⟩
theorem rngOk_of {i : Int} (h : rngOk i = true) : -(2 ^ 62) ≤ i ∧ i < 2 ^ 62 := by
  unfold rngOk at h
  simpa using h
theorem i_rng {tg : Expr} {n : Str} {p1 : Pos} (O : XOk c p X) (hn : gN X.env.scope "range" n = true) (gx : plainX x = true) (ha : PE X x (tR p a)) : PI X tg (.Call (.Name n p1) [x] [] pos) (tI p (.irng a)) := by
  obtain ⟨e1, e2, e3⟩ := gN_of hn
  subst e1
  refine piImp (pi_range1 e2 (O.mgB _ (by decide)) (pa_cons ha pa_nil (starEach_plain gx)) (starEach_plain gx)) fun σ H Q ⟨G, r, R, f, w⟩ => ?_
  refine wR R f w fun d G1 H1 v g1 r1 w1 => ?_
  cases d <;> first | exact False.elim w1 | skip
  cases r1
  obtain ⟨hl, w1⟩ := Wp.ite (show Wp _ (if rngOk _ = true then _ else _) _ from w1)
  obtain ⟨h1, h2⟩ := rngOk_of hl
  exact ⟨_, rfl, h1, h2, w1 G1 H1 _ [] g1 (walk_range 0 _ []) .nil⟩
theorem i_rng2 {tg : Expr} {n : Str} {p1 : Pos} (O : XOk c p X) (hn : gN X.env.scope "range" n = true) (gx : plainX x = true) (gy : plainX y = true) (ha : PE X x (tR p a)) (hb : PE X y (tR p b)) : PI X tg (.Call (.Name n p1) [x, y] [] pos) (tI p (.irng2 a b)) := by
  obtain ⟨e1, e2, e3⟩ := gN_of hn
  subst e1
  refine piImp (pi_range2 e2 (O.mgB _ (by decide)) (pa_cons ha (pa_cons hb pa_nil (starEach_plain gy)) (starEach_plain gx)) (by rw [starEach_plain gx, starEach_plain gy]; rfl) (starEach_plain gy)) fun σ H Q ⟨G, r, R, f, w⟩ => ?_
  refine wR R (AllFrz.left f) w fun d G1 H1 v g1 r1 w1 => ?_
  refine wR (R.grow g1) (AllFrz.right f) w1 fun e G2 H2 u g2 r2 w2 => ?_
  cases d <;> first | exact False.elim w2 | skip
  cases e <;> first | exact False.elim w2 | skip
  cases r1; cases r2
  obtain ⟨⟨hl, hl2⟩, w2⟩ := Wp.ite (show Wp _ (if rngOk _ = true ∧ rngOk _ = true then _ else _) _ from w2)
  obtain ⟨h1, h2⟩ := rngOk_of hl
  obtain ⟨h3, h4⟩ := rngOk_of hl2
  exact ⟨_, _, rfl, ⟨h1, h2, h3, h4⟩, w2 G2 H2 _ [] (g1.trans g2) (walk_range _ _ []) .nil⟩
theorem i_rev {tg : Expr} {n : Str} {p1 : Pos} (O : XOk c p X) (hn : gN X.env.scope "reversed" n = true) (gx : plainX x = true) (ha : PE X x (tSr p a)) : PI X tg (.Call (.Name n p1) [x] [] pos) (tI p (.irev a)) := by
  obtain ⟨e1, e2, e3⟩ := gN_of hn
  subst e1
  refine piImp (pi_reversed e2 (O.mgB _ (by decide)) (pa_cons ha pa_nil (starEach_plain gx)) (starEach_plain gx)) fun σ H Q ⟨G, r, R, f, w⟩ => ?_
  refine wS R f w fun d G1 H1 v l g1 r1 si w1 => ?_
  rw [O.K]
  have at_ := srcAt_of (e := .irev a) r1 si fun i e => by subst e; simp [locks]
  have al : Alive G1 l H1 := ⟨g1.sub, fun q hq => (at_ q hq).1⟩
  cases d <;> first | exact False.elim w1 | skip
  obtain ⟨q, xs, rfl, ra, h⟩ := r1.lst
  exact ⟨q, xs, rfl, h H1 al, w1 G1 H1 _ l g1 (walk_rev ra h) at_⟩
theorem i_zip {elts : List Expr} {kk : Nat} {tpos : Pos} {n : Str} {p1 : Pos} (O : XOk c p X) (hn : gN X.env.scope "zip" n = true) (gx : plainX x = true) (gy : plainX y = true) (ha : PE X x (tSr p a)) (hb : PE X y (tSr p b)) :
    PI X (.Tuple elts kk tpos) (.Call (.Name n p1) [x, y] [] pos) (tI p (.izip a b)) := by
  obtain ⟨e1, e2, e3⟩ := gN_of hn
  subst e1
  refine piImp (RZ.pi_zipA e2 (O.mgB _ (by decide)) (pa_cons ha (pa_cons hb pa_nil (starEach_plain gy)) (starEach_plain gx)) (starEach_plain gx) (by rw [starEach_plain gy]; rfl)) fun σ H Q ⟨G, r, R, f, w⟩ => ?_
  refine wS R (AllFrz.left f) w fun d G1 H1 v l g1 r1 si w1 => ?_
  refine wS (R.grow g1) (AllFrz.right f) w1 fun e G2 H2 u m g2 r2 si2 w2 => ?_
  rw [O.K]
  have at1 := (srcAt_of (e := .izip a b) r1 si fun i e => by subst e; cases b <;> simp [locks]).grow g2.sh
  have at2 := srcAt_of (e := .izip a b) r2 si2 fun i e => by subst e; cases a <;> simp [locks]
  have at_ := at1.app at2
  have al : Alive G2 (l ++ m) H2 := ⟨g2.sub, fun q hq => (at_ q hq).1⟩
  have r1 := r1.grow g2
  cases d <;> cases e <;> first | exact False.elim w2 | skip
  · obtain ⟨q, xs, rfl, ra, h⟩ := r1.tup
    obtain ⟨q', ys, rfl, rb, h'⟩ := r2.tup
    exact ⟨q, q', xs, ys, rfl, .inr ⟨h H2 al.left, h' H2 al.right, w2 G2 H2 _ (l ++ m) (g1.trans g2) (walk_zipT ra rb (fun H A => h H A.left) (fun H A => h' H A.right)) at_⟩⟩
  · obtain ⟨q, xs, rfl, ra, h⟩ := r1.lst
    obtain ⟨q', ys, rfl, rb, h'⟩ := r2.lst
    exact ⟨q, q', xs, ys, rfl, .inl ⟨h H2 al.left, h' H2 al.right, w2 G2 H2 _ (l ++ m) (g1.trans g2) (walk_zipL ra rb (fun H A => h H A.left) (fun H A => h' H A.right)) at_⟩⟩
end
end Pu

/-! Targets, comprehensions, and every expression. -/
namespace Pu
open PySem L2
/-- in a block nothing is raised -/
def quietP (p : Pk) : Pk := ⟨p.K, p.cl, p.o, fun _ _ _ => False, p.ex⟩
section
variable {c : Ck} {p : Pk} {X : Cx} {G G' H H' : Hp} {r : Env} {σ : St} {e a b : E} {x y z : Expr} {pos : Pos} {K : PySem.W.Frag} {cl : Cl} {v : V} {d : D}
/-! ### stores -/
structure EnvOff (K : PySem.W.Frag) (cl : Cl) (l : List Nat) (G : Hp) (r : Env) (σ : St) (H : Hp) : Prop where
  sub : Same G H
  len : σ.length = r.length
  cell : ∀ (i : Nat) (fl : Fl) (d : D), i ∉ l → r[i]? = some (some (fl, d)) → ∃ v, σ[i]? = some (some v) ∧ CellRep K cl G H fl v d
  apart : ∀ (i j : Nat) (fi fj : Fl) (di dj : D) (v : V), i ∉ l → j ∉ l → i ≠ j → r[i]? = some (some (fi, di)) → r[j]? = some (some (fj, dj)) → fi ≠ .frz → fj ≠ .frz → σ[i]? = some (some v) → σ[j]? = some (some v) → False
theorem EnvRep.off (l : List Nat) (R : EnvRep K cl G r σ H) : EnvOff K cl l G r σ H := ⟨R.sub, R.len, fun i fl d _ e => R.cell i fl d e, fun i j fi fj di dj v _ _ => R.apart i j fi fj di dj v⟩
theorem EnvOff.on (R : EnvOff K cl [] G r σ H) : EnvRep K cl G r σ H := ⟨R.sub, R.len, fun i fl d e => R.cell i fl d (by simp) e, fun i j fi fj di dj v => R.apart i j fi fj di dj v (by simp) (by simp)⟩
theorem EnvOff.set {l : List Nat} {i : Nat} (R : EnvOff K cl (i :: l) G r σ H) (h : Rep K cl G v d) : EnvOff K cl l G (setV r i d) (σ.set i (some v)) H := by
  refine ⟨R.sub, by unfold setV; rw [List.length_set, List.length_set]; exact R.len, fun j fl d' hj e => ?_, fun j k fj fk dj dk u hj hk hjk e1 e2 n1 n2 s1 s2 => ?_⟩
  · unfold setV at e
    by_cases q : i = j
    · subst q
      have hlt : i < r.length := by
        by_cases z : i < r.length
        · exact z
        · rw [List.getElem?_eq_none (by simpa using z)] at e; cases e
      rw [List.getElem?_set_self hlt] at e
      cases e
      exact ⟨v, List.getElem?_set_self (by rw [R.len]; exact hlt), h⟩
    · rw [List.getElem?_set_ne q] at e
      obtain ⟨u, h1, h2⟩ := R.cell j fl d' (by simp only [List.mem_cons, not_or]; exact ⟨fun z => q z.symm, hj⟩) e
      exact ⟨u, by rw [List.getElem?_set_ne q]; exact h1, h2⟩
  · unfold setV at e1 e2
    have key : ∀ {j : Nat} {fj : Fl} {dj : D}, (r.set i (some (.frz, d)))[j]? = some (some (fj, dj)) → fj ≠ .frz → i ≠ j := fun {j fj dj} e n q => by
      subst q
      have hlt : i < r.length := by
        by_cases z : i < r.length
        · exact z
        · rw [List.getElem?_eq_none (by simpa using z)] at e; cases e
      rw [List.getElem?_set_self hlt] at e
      cases e
      exact n rfl
    have q1 := key e1 n1
    have q2 := key e2 n2
    rw [List.getElem?_set_ne q1] at e1 s1
    rw [List.getElem?_set_ne q2] at e2 s2
    exact R.apart j k fj fk dj dk u (by simp only [List.mem_cons, not_or]; exact ⟨fun z => q1 z.symm, hj⟩) (by simp only [List.mem_cons, not_or]; exact ⟨fun z => q2 z.symm, hk⟩) hjk e1 e2 n1 n2 s1 s2
def setVs (σ : St) : List Nat → List V → St
  | i :: is, v :: vs => setVs (σ.set i (some v)) is vs
  | _, _ => σ
theorem EnvOff.setAll : ∀ {is : List Nat} {ds : List D} {vs : List V} {r : Env} {σ : St}, EnvOff K cl is G r σ H → RepA K cl G vs ds → ds.length = is.length → EnvOff K cl [] G (Pu.setAll r is ds) (setVs σ is vs) H
  | [], [], _, _, _, R, h, _ => by cases h; exact R
  | [], _ :: _, _, _, _, _, _, hl => by cases hl
  | _ :: _, [], _, _, _, _, _, hl => by cases hl
  | i :: is, d :: ds, _, r, σ, R, h, hl => by
    cases h with
    | cons h1 h2 => exact EnvOff.setAll (is := is) (ds := ds) (r := setV r i d) (EnvOff.set R h1) h2 (by simpa using hl)
theorem EnvOff.wipe {is : List Nat} (R : EnvRep K cl G r σ H) : EnvOff K cl is G r (wipe σ is) H :=
  ⟨R.sub, by rw [wipe_length]; exact R.len, fun i fl d hi e => by rw [wipe_out hi]; exact R.cell i fl d e, fun i j fi fj di dj v hi hj h e1 e2 n1 n2 s1 s2 => by
    rw [wipe_out hi] at s1
    rw [wipe_out hj] at s2
    exact R.apart i j fi fj di dj v h e1 e2 n1 n2 s1 s2⟩
theorem setVs_length : ∀ (is : List Nat) (vs : List V) (σ : St), (setVs σ is vs).length = σ.length
  | [], _, _ => by simp [setVs]
  | _ :: _, [], _ => by simp [setVs]
  | i :: is, v :: vs, σ => by rw [setVs, setVs_length is vs, List.length_set]
theorem setVs_out : ∀ {is : List Nat} {vs : List V} {σ : St} {j : Nat}, j ∉ is → (setVs σ is vs)[j]? = σ[j]?
  | [], _, _, _, _ => by simp [setVs]
  | _ :: _, [], _, _, _ => by simp [setVs]
  | i :: is, v :: vs, σ, j, h => by
    simp only [List.mem_cons, not_or] at h
    rw [setVs, setVs_out h.2, List.getElem?_set_ne (fun e => h.1 e.symm)]
theorem wipe_in {σ : St} : ∀ {vs : List Nat} {i : Nat}, i ∈ vs → i < σ.length → (wipe σ vs)[i]? = some none
  | v :: vs, i, h, hl => by
    unfold L2.wipe
    by_cases e : v = i
    · subst e
      exact List.getElem?_set_self (by rw [wipe_length]; exact hl)
    · rw [List.getElem?_set_ne e]
      rcases List.mem_cons.mp h with q | q
      · exact absurd q.symm e
      · exact wipe_in q hl
theorem wipe_set {is : List Nat} {vs : List V} {σ : St} : wipe (setVs (wipe σ is) is vs) is = wipe σ is := by
  apply List.ext_getElem?
  intro j
  by_cases h : j ∈ is
  · by_cases hl : j < σ.length
    · rw [wipe_in h (by rw [setVs_length, wipe_length]; exact hl), wipe_in h hl]
    · rw [List.getElem?_eq_none (by rw [wipe_length, setVs_length, wipe_length]; omega), List.getElem?_eq_none (by rw [wipe_length]; omega)]
  · rw [wipe_out h, setVs_out h]

/-! ### targets -/
def gSlots : List Nat → TGs
  | [] => gNil
  | i :: is => gCons (gName i) (gSlots is)
theorem gSlots_of : ∀ {is : List Nat} {vs : List V} {σ : St} {H : Hp} {Q : St → Hp → Prop}, vs.length = is.length → Q (setVs σ is vs) H → gSlots is vs σ H Q
  | [], [], _, _, _, _, q => ⟨rfl, q⟩
  | [], _ :: _, _, _, _, h, _ => by cases h
  | _ :: _, [], _, _, _, h, _ => by cases h
  | i :: is, v :: vs, σ, H, Q, h, q => ⟨v, vs, rfl, gSlots_of (by simpa using h) q⟩
/-- the names of a block may be stored -/
def Stores (X : Cx) (sc : Scope) : Prop := ∀ n, locB sc n = true → Loc X.env.scope n ∧ (X.fn n = true ∨ X.env.scope.names.lookup n = some .local)
theorem g_slots {sc : Scope} (O : XOk c p X) (hT : Stores X sc) : ∀ {is : List Nat} {es : List Expr}, chkTs c.N sc is es = true → PGs X es (gSlots is) ∧ (assignEach es X.env).length = is.length ∧ (assignEach es X.env).findIdx? (·.1) = none
  | [], [], _ => ⟨pgs_nil, rfl, rfl⟩
  | [], _ :: _, h => by simp [chkTs] at h
  | i :: is, es, h => by
    cases es with
    | nil => simp [chkTs] at h
    | cons y ys =>
      cases y <;> first | (simp [chkTs] at h; done) | skip
      rename_i n pos
      have h' : (slotB c.N i n = true ∧ locB sc n = true) ∧ chkTs c.N sc is ys = true := by simpa [chkTs, Bool.and_eq_true] using h
      obtain ⟨h1, h2, h3⟩ := g_slots O hT h'.2
      obtain ⟨hl, hf⟩ := hT n h'.1.2
      refine ⟨pgs_cons (pg_name (by rw [O.N]; exact O.nd) (by rw [O.N]; exact slotB_of h'.1.1) hl hf) h1 rfl, ?_, ?_⟩
      · show (assignEach ys X.env).length + 1 = _
        rw [h2]; rfl
      · show ((false, _) :: assignEach ys X.env).findIdx? _ = none
        rw [List.findIdx?_cons]
        simp only [Bool.false_eq_true, if_false, h3]
        rfl
/-- a for's target -/
def gT (K : PySem.W.Frag) (tup : Bool) (is : List Nat) : TG := match tup, is with
  | true, is => gTup K is.length (gSlots is)
  | false, [i] => gName i
  | false, _ => fun _ _ _ _ => False
theorem g_T {sc : Scope} (O : XOk c p X) (hT : Stores X sc) {tup : Bool} {is : List Nat} {tg : Expr} (h : chkT c.N sc tup is tg = true) : PG X tg (gT p.K tup is) := by
  unfold chkT at h
  split at h
  · obtain ⟨h1, h2, h3⟩ := g_slots O hT h
    have := pg_tup (k := by assumption) (pos := by assumption) O.calm h1 h2 h3
    rw [O.K] at this
    exact this
  · rename_i i n pos
    simp only [Bool.and_eq_true] at h
    obtain ⟨hl, hf⟩ := hT _ h.2
    exact pg_name (by rw [O.N]; exact O.nd) (by rw [O.N]; exact slotB_of h.1) hl hf
  · cases h
/-- what it does: wiped or not -/
theorem gT_of {tup : Bool} {is : List Nat} {σ σ0 : St} {r1 : Env} {Q : St → Hp → Prop} (s : Same G H) (hb : bindT r tup is d = .ok r1) (hr : Rep K cl G v d)
    (h : ∀ vs ds, Pu.setAll r is ds = r1 → RepA K cl G vs ds → ds.length = is.length → Q (setVs σ is vs) H) : gT K tup is v σ H Q := by
  cases tup with
  | true =>
    cases d <;> first | (cases hb; done) | skip
    rename_i ds
    have hb' : (if ds.length = is.length then R.ok (Pu.setAll r is ds) else .stuck) = .ok r1 := hb
    by_cases hl : ds.length = is.length
    · rw [if_pos hl] at hb'
      cases hb'
      cases hr with
      | tup q ra => exact ⟨_, _, rfl, sameT s q, by rw [ra.length, hl], gSlots_of (by rw [ra.length, hl]) (h _ _ rfl ra hl)⟩
    · rw [if_neg hl] at hb'; cases hb'
  | false =>
    cases is with
    | nil => cases hb
    | cons i is =>
      cases is with
      | nil =>
        cases hb
        exact h [v] [d] rfl (.cons hr .nil) rfl
      | cons _ _ => cases hb

/-! ### comprehensions -/
theorem ownOf_map : ∀ {is : List Nat}, (∀ i ∈ is, ∃ n, c.N[i]? = some n) → (ownOf c.N is).map (·.2) = is
  | [], _ => rfl
  | i :: is, h => by
    obtain ⟨n, e⟩ := h i List.mem_cons_self
    have ih := ownOf_map (is := is) fun j hj => h j (List.mem_cons_of_mem _ hj)
    unfold ownOf at ih ⊢
    rw [List.filterMap_cons, e]
    show i :: List.map _ _ = _
    rw [ih]
theorem chkTs_slots {sc : Scope} : ∀ {is : List Nat} {es : List Expr}, chkTs c.N sc is es = true → ∀ i ∈ is, ∃ n, c.N[i]? = some n
  | [], _, _ => fun i hi => by cases hi
  | i :: is, es, h => by
    cases es with
    | nil => simp [chkTs] at h
    | cons y ys =>
      cases y <;> first | (simp [chkTs] at h; done) | skip
      rename_i n pos
      have h' : (slotB c.N i n = true ∧ locB sc n = true) ∧ chkTs c.N sc is ys = true := by simpa [chkTs, Bool.and_eq_true] using h
      intro j hj
      rcases List.mem_cons.mp hj with rfl | hj
      · exact ⟨n, slotB_of h'.1.1⟩
      · exact chkTs_slots h'.2 j hj
theorem chkT_slots {sc : Scope} {tup : Bool} {is : List Nat} {tg : Expr} (h : chkT c.N sc tup is tg = true) : ∀ i ∈ is, ∃ n, c.N[i]? = some n := by
  unfold chkT at h
  split at h
  · exact chkTs_slots h
  · rename_i i n pos
    simp only [Bool.and_eq_true] at h
    intro j hj
    have e : j = i := by simpa using hj
    subst e
    exact ⟨n, slotB_of h.1⟩
  · cases h
theorem XOk.blk (O : XOk c p X) {s : Shared} {H : Hp} {scope : Scope} {C : Addr} {cl : List (Str × Addr)} {fp : List Addr} : XOk c (quietP p) (X.blk s H scope (compEnvC scope cl C X.env) fp) where
  K := O.K
  N := O.N
  nd := O.nd
  calm := O.calm
  room := O.room
  mgB := O.mgB
  glob := O.glob
  call := fun f hf => let ⟨fa, h1, h2⟩ := O.call f hf; ⟨fa, h1, ⟨h2.kp, h2.ok⟩⟩
  new := fun k hk => let ⟨C, ns, h1, h2, h3, h4, h5⟩ := O.new k hk
    ⟨C, ns, h1, h2, match h3 with
      | .ini a b c d => .ini a b c d
      | .obj a b c d e => .obj a b c d e, h4, h5⟩
  fld := O.fld
  meth := fun k m ds => (O.meth k m ds).imp id fun ⟨f, C, ns, fa, h1, h2, h3, h4, h5, h6, h7, h8⟩ => ⟨f, C, ns, fa, h1, h2, h3, h4, h5, h6, h7, ⟨h8.kp, h8.ok⟩⟩
  pass := fun pins σ H s e s' I h => by
    obtain ⟨a, B, H', cls, d, _, _, _, _, _, _, _, hE⟩ := h
    exact hE.elim
  isC := O.isC
  bor := O.bor
theorem blk_stores {s : Shared} {H : Hp} {scope : Scope} {C : Addr} {cl : List (Str × Addr)} {fp : List Addr} : Stores (X.blk s H scope (compEnvC scope cl C X.env) fp) scope := by
  intro n h
  have key : ∀ k : NameKind, k ≠ .free → scope.names.lookup n = some k → (relabel scope X.env).names.lookup n = some k := fun k hk e => lookup_relS_keep hk e
  unfold locB at h
  split at h
  · rename_i e
    have e' := key .local (by decide) e
    exact ⟨.inl e', .inr e'⟩
  · rename_i e
    have e' := key .cell (by decide) e
    exact ⟨.inr e', .inl (by show (scope.names.lookup n == some NameKind.cell) = true; rw [e]; rfl)⟩
  · cases h
theorem mapR_cons {f : D → R (Option D)} {x : D} {xs ys : List D} (h : mapR f (x :: xs) = .ok ys) : ∃ o, f x = .ok o ∧ match o with
    | some y => ∃ zs, mapR f xs = .ok zs ∧ ys = y :: zs
    | none => mapR f xs = .ok ys := by
  rw [mapR] at h
  obtain ⟨o, h1, h2⟩ := R.bind_ok h
  refine ⟨o, h1, ?_⟩
  cases o with
  | none => exact h2
  | some y =>
    obtain ⟨zs, h3, h4⟩ := R.bind_ok h2
    cases h4
    exact ⟨zs, h3, rfl⟩
theorem frz_setV {m : List Nat} {i : Nat} {d : D} (h : AllFrz m r) : AllFrz m (setV r i d) := fun j hj fl d' e => by
  unfold setV at e
  by_cases q : i = j
  · subst q
    by_cases z : i < r.length
    · rw [List.getElem?_set_self z] at e; cases e; rfl
    · rw [List.getElem?_eq_none (by simpa using z)] at e; cases e
  · rw [List.getElem?_set_ne q] at e
    exact h j hj fl d' e
theorem frz_setAll {m : List Nat} : ∀ {is : List Nat} {ds : List D} {r : Env}, AllFrz m r → AllFrz m (Pu.setAll r is ds)
  | [], _, _, h => by simpa [Pu.setAll] using h
  | _ :: _, [], _, h => by simpa [Pu.setAll] using h
  | i :: is, d :: ds, r, h => frz_setAll (is := is) (ds := ds) (r := setV r i d) (frz_setV h)
/-- one turn of a comprehension -/
def turnE (o : Orc) (r : Env) (elt : E) (tup : Bool) (is : List Nat) (cnd : E) (x : D) : R (Option D) := do
  let r' ← bindT r tup is x
  let k ← (if cnd.isNil = true then pure true else do let c ← ev o r' cnd; asBl c)
  if k = true then do let y ← ev o r' elt; pure (some y) else pure none
/-- the test of a comprehension -/
def tCnd (p : Pk) (cnd : E) : TT := if cnd.isNil = true then tYes else tT p cnd
theorem e_lc {elt : E} {tup : Bool} {is : List Nat} {it cnd : E} {el tg iter : Expr} {ifs : List Expr} {scope : Scope} (O : XOk c p X) (hi : PI X tg iter (tI p it)) (gi : plainX iter = true)
    (hg : chkT c.N scope tup is tg = true) (hbk : L2.blkC c.N X.env.scope scope (ownOf c.N is) = true)
    (ht : ∀ (s : Shared) (H : Hp) (C : Addr) (cl : List (Str × Addr)) (fp : List Addr), PTs (X.blk s H scope (compEnvC scope cl C X.env) fp) ifs (tCnd (quietP p) cnd))
    (he : ∀ (s : Shared) (H : Hp) (C : Addr) (cl : List (Str × Addr)) (fp : List Addr), PE (X.blk s H scope (compEnvC scope cl C X.env) fp) el (tR (quietP p) elt)) :
    BlkOk X.N X.env.scope scope (ownOf c.N is) ∧ (∀ (s : Shared) (H : Hp) (C : Addr) (cl : List (Str × Addr)) (fp : List Addr), PG (X.blk s H scope (compEnvC scope cl C X.env) fp) tg (gT p.K tup is)) ∧
    ∀ σ H Q, tV p (.lc elt tup is it cnd) σ H Q → tLc (tI p it) (gT p.K tup is) (tCnd (quietP p) cnd) (tR (quietP p) elt) ((ownOf c.N is).map (·.2)) σ H Q := by
  refine ⟨by rw [O.N]; exact blkOk_by hbk, fun s H C cl fp => g_T (p := (quietP p)) O.blk blk_stores hg, fun σ H Q ⟨G, r, RR, f, w⟩ => ?_⟩
  rw [ownOf_map (chkT_slots hg)]
  have fI : AllFrz (esc p.o it) r := AllFrz.left f
  have fE : AllFrz (esc p.o elt) r := AllFrz.left (AllFrz.right f)
  have fC : AllFrz (esc p.o cnd) r := AllFrz.right (AllFrz.right f)
  refine ⟨G, r, RR, fI, (Wp.bind.mp w).imp (fun _ _ z => z) fun ds w1 G1 H1 J l g1 wk sa => ?_⟩
  have w2 : ∃ ys, mapR (turnE p.o r elt tup is cnd) ds = .ok ys ∧ ys.length ≤ lim ∧ ∀ G' H' v, Grow G H G' H' → Out p.K p.cl true G' H H' v (.lst ys) → Q v H' := by
    have w1 := Wp.bind.mp w1
    cases q : mapR (turnE p.o r elt tup is cnd) ds with
    | ok ys =>
      have q' : R.noX (mapR (turnE p.o r elt tup is cnd) ds) = .ok ys := by rw [q]; rfl
      have w1' : Wp (p.W H) (R.noX (mapR (turnE p.o r elt tup is cnd) ds)) _ := w1
      rw [q'] at w1'
      obtain ⟨hl, w3⟩ := Wp.ite w1'
      exact ⟨ys, rfl, hl, w3⟩
    | exc k v =>
      have q' : R.noX (mapR (turnE p.o r elt tup is cnd) ds) = .stuck := by rw [q]; rfl
      have w1' : Wp (p.W H) (R.noX (mapR (turnE p.o r elt tup is cnd) ds)) _ := w1
      rw [q'] at w1'
      exact False.elim w1'
    | stuck =>
      have q' : R.noX (mapR (turnE p.o r elt tup is cnd) ds) = .stuck := by rw [q]; rfl
      have w1' : Wp (p.W H) (R.noX (mapR (turnE p.o r elt tup is cnd) ds)) _ := w1
      rw [q'] at w1'
      exact False.elim w1'
  obtain ⟨ys, hm, hlim, fin⟩ := w2
  intro D0 hD
  let W : Nat → Nat → Hp → Prop := fun i m H2 => m = ds.length - i ∧ i ≤ ds.length ∧ ∃ G2 acc as zs, Grow G1 H1 G2 H2 ∧ H2 D0 = some (.lst acc) ∧ G2 D0 = none ∧ RepA p.K p.cl G2 acc as ∧ mapR (turnE p.o r elt tup is cnd) (ds.drop i) = .ok zs ∧ ys = as ++ zs
  refine ⟨W, ⟨ds.length, rfl, Nat.zero_le _, G1, [], [], ys, Grow.mine g1.sub hD _, upd_same, g1.sub.free hD, .nil, hm, rfl⟩, ?_⟩
  rintro i m H2 ⟨rfl, hi2, G2, acc, as, zs, g2, hD2, nD2, ra, hz, hy⟩
  have al : Alive G1 l H2 := ⟨g2.sg.trans g2.sub, fun q hq => g2.sh _ _ (sa q hq).1⟩
  by_cases hlt : i < ds.length
  · refine .inr ⟨wk.go i H2 al hlt, fun H' => W (i + 1) (ds.length - (i + 1)) H', fun H' h' => ⟨_, by omega, h'⟩, fun x H3 yy => ?_⟩
    obtain ⟨d, G3, hd, g3, rd⟩ := wk.yld i H2 x H3 G2 al g2.sg g2.sub hlt yy
    have hdrop : ds.drop i = d :: ds.drop (i + 1) := by
      rw [List.drop_eq_getElem_cons hlt]
      rw [List.getElem?_eq_getElem hlt] at hd
      cases hd
      rfl
    rw [hdrop] at hz
    obtain ⟨oo, h1, h2⟩ := mapR_cons hz
    obtain ⟨r1, hb, h3⟩ := R.bind_ok h1
    have R3 : EnvRep p.K p.cl G3 r σ H3 := ((RR.grow g1).grow g2).grow g3
    refine gT_of (σ0 := σ) g3.sub hb rd fun vs es e1 rv hl => ⟨wipe_set, ?_⟩
    have R4 : EnvRep p.K p.cl G3 r1 (setVs (wipe σ is) is vs) H3 := by
      rw [← e1]
      exact (EnvOff.setAll (EnvOff.wipe (is := is) R3) rv hl).on
    have fz : ∀ {m : List Nat}, AllFrz m r → AllFrz m r1 := fun {m} h => by rw [← e1]; exact frz_setAll h
    obtain ⟨k, hk, h4⟩ := R.bind_ok h3
    have gA := g2.trans g3
    have nD3 : G3 D0 = none := by rw [g3.nw D0 (by rw [hD2]; simp)]; exact nD2
    have hD3 : H3 D0 = some (.lst acc) := g3.sh _ _ hD2
    have fin2 : ∀ G4 H4, Grow G3 H3 G4 H4 → if k = true then tR (quietP p) elt (setVs (wipe σ is) is vs) H4 (fun y H5 => ∃ acc, H5 D0 = some (.lst acc) ∧ acc.length < sizeLine ∧ W (i + 1) (ds.length - (i + 1)) (upd H5 D0 (.lst (acc ++ [y])))) else W (i + 1) (ds.length - (i + 1)) H4 := fun G4 H4 g4 => by
      have nD4 : G4 D0 = none := by rw [g4.nw D0 (by rw [hD3]; simp)]; exact nD3
      have hD4 : H4 D0 = some (.lst acc) := g4.sh _ _ hD3
      cases k with
      | false =>
        rw [if_neg Bool.false_ne_true] at h4 ⊢
        cases h4
        exact ⟨rfl, hlt, G4, acc, as, zs, gA.trans g4, hD4, nD4, RepA.mono (g3.sg.trans g4.sg) _ _ ra, h2, hy⟩
      | true =>
        rw [if_pos rfl] at h4 ⊢
        obtain ⟨y, hy1, hy2⟩ := R.bind_ok h4
        cases hy2
        obtain ⟨zs', h5, h6⟩ := h2
        subst h6
        refine ⟨G4, r1, R4.grow g4, fz fE, ?_⟩
        show Wp _ (ev p.o r1 elt) _
        rw [hy1]
        intro G5 H5 u g5 ru
        have nD5 : G5 D0 = none := by rw [g5.nw D0 (by rw [hD4]; simp)]; exact nD4
        have gB := (gA.trans g4).trans g5
        refine ⟨acc, g5.sh _ _ hD4, ?_, rfl, hlt, G5, acc ++ [u], as ++ [y], zs', ⟨gB.sg, fun b o z => ?_, fun b o z => ?_, gB.nw⟩, upd_same, nD5, (RepA.mono ((g3.sg.trans g4.sg).trans g5.sg) _ _ ra).append (.cons ru .nil), h5, by rw [hy]; simp⟩
        · have e2 := congrArg List.length hy
          rw [List.length_append, List.length_cons] at e2
          rw [ra.length, ← lim_eq]
          omega
        · rw [upd_ne (ne_of_none z hD)]; exact gB.sh _ _ z
        · rw [upd_ne (ne_of_none z nD5)]; exact gB.sub _ _ z
    unfold tCnd
    by_cases hn : cnd.isNil = true
    · rw [if_pos hn] at hk ⊢
      cases hk
      exact fin2 G3 H3 (.refl g3.sub)
    · rw [if_neg hn] at hk ⊢
      obtain ⟨cd, hc1, hc2⟩ := R.bind_ok hk
      cases cd <;> first | (cases hc2; done) | skip
      cases hc2
      refine ⟨G3, r1, R4, AllFrz.toB (fz fC), ?_⟩
      show Wp _ (ev p.o r1 cnd) _
      rw [hc1]
      exact ⟨_, rfl, fun G4 H4 g4 => fin2 G4 H4 g4⟩
  · have e : i = ds.length := by omega
    subst e
    rw [List.drop_length] at hz
    cases hz
    rw [List.append_nil] at hy
    subst hy
    refine .inl ⟨wk.stop _ H2 al (Nat.le_refl _), fin G2 H2 _ (g1.trans g2) ?_⟩
    unfold Out
    rw [if_pos ⟨rfl, rfl⟩]
    exact ⟨⟨D0, acc, ys, rfl, rfl, nD2, hD2, ra⟩, fun a e => by cases e; exact g1.sh.free hD⟩
end
end Pu

/-! Every expression. -/
namespace Pu
open PySem L2
section
variable {c : Ck} {o o' : Bop} {co co' : Cop} {a b d es elt it cnd lo hi : E} {f k : String} {i : Nat} {is : List Nat} {tup : Bool} {sc : Scope} {x : Expr} {xs : List Expr}
theorem inv_var (h : chk c (.var i) sc x = true) : ∃ n p, x = .Name n p ∧ slotB c.N i n = true ∧ visB sc n = true ∧ okN n = true := by
  unfold chk at h
  split at h
  · simp only [Bool.and_eq_true] at h; exact ⟨_, _, rfl, h.1.1, h.1.2, h.2⟩
  · cases h
theorem inv_non (h : chk c .non sc x = true) : ∃ j p, x = .Constant .none j p := by
  unfold chk at h
  split at h
  · exact ⟨_, _, rfl⟩
  · cases h
theorem inv_bl {v : Bool} (h : chk c (.bl v) sc x = true) : ∃ j p, x = .Constant (.bool v) j p := by
  unfold chk at h
  split at h
  · rw [eq_of_beq h]; exact ⟨_, _, rfl⟩
  · cases h
theorem inv_int {v : Int} (h : chk c (.int v) sc x = true) : ∃ j p, x = .Constant (.int v) j p := by
  unfold chk at h
  split at h
  · rw [eq_of_beq h]; exact ⟨_, _, rfl⟩
  · cases h
theorem inv_str (h : chk c (.str f) sc x = true) : ∃ j p, x = .Constant (.str (Str.ofString f)) j p := by
  unfold chk at h
  split at h
  · rw [eq_of_beq h]; exact ⟨_, _, rfl⟩
  · cases h
theorem inv_glob (h : chk c (.glob f) sc x = true) : ∃ n p, x = .Name n p ∧ gN sc f n = true := by
  unfold chk at h
  split at h
  · exact ⟨_, _, rfl, h⟩
  · cases h
theorem inv_tup (h : chk c (.tup es) sc x = true) : ∃ xs j p, x = .Tuple xs j p ∧ chks c es sc xs = true := by
  unfold chk at h
  split at h
  · exact ⟨_, _, _, rfl, h⟩
  · cases h
theorem inv_lst (h : chk c (.lst es) sc x = true) : ∃ xs p, x = .List xs p ∧ chks c es sc xs = true := by
  unfold chk at h
  split at h
  · exact ⟨_, _, rfl, h⟩
  · cases h
theorem inv_bin (h : chk c (.bin o a b) sc x = true) : ∃ l op r p, x = .BinOp l op r p ∧ bopOk o op = true ∧ chk c a sc l = true ∧ chk c b sc r = true := by
  unfold chk at h
  split at h
  · simp only [Bool.and_eq_true] at h; exact ⟨_, _, _, _, rfl, h.1.1, h.1.2, h.2⟩
  · cases h
theorem inv_neg (h : chk c (.neg a) sc x = true) : ∃ y p, x = .UnaryOp .USub y p ∧ chk c a sc y = true := by
  unfold chk at h
  split at h
  · exact ⟨_, _, rfl, h⟩
  · cases h
theorem inv_not (h : chk c (.not a) sc x = true) : ∃ y p, x = .UnaryOp .Not y p ∧ chk c a sc y = true := by
  unfold chk at h
  split at h
  · exact ⟨_, _, rfl, h⟩
  · cases h
theorem inv_cmp (h : chk c (.cmp co a b) sc x = true) : ∃ l op r p, x = .Compare l [op] [r] p ∧ copOk co op = true ∧ chk c a sc l = true ∧ chk c b sc r = true := by
  unfold chk at h
  split at h
  · simp only [Bool.and_eq_true] at h; exact ⟨_, _, _, _, rfl, h.1.1, h.1.2, h.2⟩
  · cases h
theorem inv_cmp2 (h : chk c (.cmp2 co co' a b d) sc x = true) : ∃ l op op' m r p, x = .Compare l [op, op'] [m, r] p ∧ copOk co op = true ∧ copOk co' op' = true ∧ chk c a sc l = true ∧ chk c b sc m = true ∧ chk c d sc r = true := by
  unfold chk at h
  split at h
  · simp only [Bool.and_eq_true] at h; exact ⟨_, _, _, _, _, _, rfl, h.1.1.1.1, h.1.1.1.2, h.1.1.2, h.1.2, h.2⟩
  · cases h
theorem inv_isN (h : chk c (.isN a) sc x = true) : ∃ l j p' p, x = .Compare l [.Is] [.Constant .none j p'] p ∧ chk c a sc l = true := by
  unfold chk at h
  split at h
  · exact ⟨_, _, _, _, rfl, h⟩
  · cases h
theorem inv_notN (h : chk c (.notN a) sc x = true) : ∃ l j p' p, x = .Compare l [.IsNot] [.Constant .none j p'] p ∧ chk c a sc l = true := by
  unfold chk at h
  split at h
  · exact ⟨_, _, _, _, rfl, h⟩
  · cases h
theorem inv_and (h : chk c (.and a b) sc x = true) : ∃ u v ys p, x = .BoolOp .And (u :: v :: ys) p ∧ chk c a sc u = true ∧ ((ys = [] ∧ chk c b sc v = true) ∨ (ys ≠ [] ∧ chk c b sc (.BoolOp .And (v :: ys) p) = true)) := by
  unfold chk at h
  split at h
  · simp only [Bool.and_eq_true] at h
    refine ⟨_, _, _, _, rfl, h.1, ?_⟩
    have h2 := h.2
    split at h2
    · exact .inl ⟨rfl, h2⟩
    · exact .inr ⟨by simp, h2⟩
  · cases h
theorem inv_or (h : chk c (.or a b) sc x = true) : ∃ u v ys p, x = .BoolOp .Or (u :: v :: ys) p ∧ chk c a sc u = true ∧ ((ys = [] ∧ chk c b sc v = true) ∨ (ys ≠ [] ∧ chk c b sc (.BoolOp .Or (v :: ys) p) = true)) := by
  unfold chk at h
  split at h
  · simp only [Bool.and_eq_true] at h
    refine ⟨_, _, _, _, rfl, h.1, ?_⟩
    have h2 := h.2
    split at h2
    · exact .inl ⟨rfl, h2⟩
    · exact .inr ⟨by simp, h2⟩
  · cases h
theorem inv_ix (h : chk c (.ix a b) sc x = true) : ∃ y z p, x = .Subscript y z p ∧ chk c a sc y = true ∧ chk c b sc z = true := by
  unfold chk at h
  split at h
  · simp only [Bool.and_eq_true] at h; exact ⟨_, _, _, rfl, h.1, h.2⟩
  · cases h
theorem inv_sl (h : chk c (.sl a lo hi) sc x = true) : ∃ y l u p2 p, x = .Subscript y (.Slice l u none p2) p ∧ chk c a sc y = true ∧
    ((l = none ∧ lo.isNil = true) ∨ ∃ z, l = some z ∧ lo.isNil = false ∧ chk c lo sc z = true) ∧ ((u = none ∧ hi.isNil = true) ∨ ∃ z, u = some z ∧ hi.isNil = false ∧ chk c hi sc z = true) := by
  unfold chk at h
  split at h
  · simp only [Bool.and_eq_true] at h
    refine ⟨_, _, _, _, _, rfl, h.1.1, ?_, ?_⟩
    · have h2 := h.1.2
      split at h2
      · exact .inl ⟨rfl, h2⟩
      · simp only [Bool.and_eq_true, Bool.not_eq_true'] at h2; exact .inr ⟨_, rfl, h2.1, h2.2⟩
    · have h2 := h.2
      split at h2
      · exact .inl ⟨rfl, h2⟩
      · simp only [Bool.and_eq_true, Bool.not_eq_true'] at h2; exact .inr ⟨_, rfl, h2.1, h2.2⟩
  · cases h
theorem inv_call (h : chk c (.call f es) sc x = true) : ∃ n p1 y ys p, x = .Call (.Name n p1) (y :: ys) [] p ∧ gN sc f n = true ∧ c.isF f = true ∧ chks c es sc (y :: ys) = true := by
  unfold chk at h
  split at h
  · simp only [Bool.and_eq_true] at h; exact ⟨_, _, _, _, _, rfl, h.1.1, h.1.2, h.2⟩
  · cases h
theorem inv_blt (h : chk c (.blt f es) sc x = true) : ∃ n p1 y ys p, x = .Call (.Name n p1) (y :: ys) [] p ∧ (decide (f ∈ bFuns) || decide (f ∈ bTypes)) = true ∧ gN sc f n = true ∧ chks c es sc (y :: ys) = true := by
  unfold chk at h
  split at h
  · simp only [Bool.and_eq_true] at h; exact ⟨_, _, _, _, _, rfl, h.1.1, h.1.2, h.2⟩
  · cases h
theorem inv_isi (h : chk c (.isi a k) sc x = true) : ∃ n p1 y m p2 p, x = .Call (.Name n p1) [y, .Name m p2] [] p ∧ gN sc "isinstance" n = true ∧ chk c a sc y = true ∧ gN sc k m = true ∧ (k ∈ bClasses ∨ c.isC k = true) := by
  unfold chk at h
  split at h
  · simp only [Bool.and_eq_true, decide_eq_true_eq, Bool.or_eq_true] at h; exact ⟨_, _, _, _, _, _, rfl, h.1.1.1, h.1.1.2, h.1.2, h.2⟩
  · cases h
theorem inv_fld (h : chk c (.fld a k) sc x = true) : ∃ y p, x = .Attribute y (Str.ofString k) p ∧ chk c a sc y = true ∧ notSuper y = true := by
  unfold chk at h
  split at h
  · simp only [Bool.and_eq_true, beq_iff_eq] at h
    obtain ⟨⟨h1, h2⟩, h3⟩ := h
    subst h2
    exact ⟨_, _, rfl, h1, h3⟩
  · cases h
theorem inv_new (h : chk c (.new k es) sc x = true) : ∃ n p1 ys p, x = .Call (.Name n p1) ys [] p ∧ gN sc k n = true ∧ c.isN k = true ∧ chks c es sc ys = true := by
  unfold chk at h
  split at h
  · simp only [Bool.and_eq_true] at h; exact ⟨_, _, _, _, rfl, h.1.1, h.1.2, h.2⟩
  · cases h
theorem inv_meth (h : chk c (.meth a k es) sc x = true) : ∃ y ap ys p, x = .Call (.Attribute y (Str.ofString k) ap) ys [] p ∧ chk c a sc y = true ∧ (ap.endLine == p.line) = true ∧ notSup y = true ∧ ys.length < 29 ∧ chks c es sc ys = true := by
  unfold chk at h
  split at h
  · simp only [Bool.and_eq_true, decide_eq_true_eq] at h
    obtain ⟨⟨⟨⟨⟨h1, h2⟩, h3⟩, h4⟩, h5⟩, h6⟩ := h
    have h2 := eq_of_beq h2
    subst h2
    exact ⟨_, _, _, _, rfl, h1, h3, h4, h5, h6⟩
  · cases h
theorem inv_rev (h : chk c (.rev a) sc x = true) : ∃ y k p1 p2 p3 p, x = .Subscript y (.Slice none none (some (.UnaryOp .USub (.Constant (.int 1) k p1) p2)) p3) p ∧ chk c a sc y = true := by
  unfold chk at h
  split at h
  · exact ⟨_, _, _, _, _, _, rfl, h⟩
  · cases h
theorem inv_lc (h : chk c (.lc elt tup is it cnd) sc x = true) : ∃ el tg iter ifs scope p, x = .ListComp el [⟨tg, iter, ifs, 0⟩] scope p ∧ chkI c it sc tup iter = true ∧ chkT c.N scope tup is tg = true ∧ chk c elt (L2.relS scope sc) el = true ∧
    ((ifs = [] ∧ cnd.isNil = true) ∨ ∃ t, ifs = [t] ∧ cnd.isNil = false ∧ chk c cnd (L2.relS scope sc) t = true) ∧ L2.blkC c.N sc scope (ownOf c.N is) = true := by
  unfold chk at h
  split at h
  · rename_i el tg iter ifs as_ scope p
    simp only [Bool.and_eq_true] at h
    obtain ⟨⟨⟨⟨⟨h1, h2⟩, h3⟩, h4⟩, h5⟩, h6⟩ := h
    have e := eq_of_beq h1
    subst e
    refine ⟨_, _, _, _, _, _, rfl, h2, h3, h4, ?_, h6⟩
    split at h5
    · exact .inl ⟨rfl, h5⟩
    · simp only [Bool.and_eq_true, Bool.not_eq_true'] at h5; exact .inr ⟨_, rfl, h5.1, h5.2⟩
    · cases h5
  · cases h
theorem inv_cons (h : chks c (.cons a es) sc xs = true) : ∃ y ys, xs = y :: ys ∧ chk c a sc y = true ∧ chks c es sc ys = true := by
  unfold chks at h
  split at h
  · simp only [Bool.and_eq_true] at h; exact ⟨_, _, rfl, h.1, h.2⟩
  · cases h
theorem inv_nil (h : chks c .nil sc xs = true) : xs = [] := by
  unfold chks at h
  split at h
  · rfl
  · cases h
theorem inv_irng (h : chkI c (.irng a) sc tup x = true) : ∃ n p1 y p, x = .Call (.Name n p1) [y] [] p ∧ gN sc "range" n = true ∧ chk c a sc y = true := by
  unfold chkI at h
  split at h
  · simp only [Bool.and_eq_true] at h; exact ⟨_, _, _, _, rfl, h.1, h.2⟩
  · cases h
theorem inv_irev (h : chkI c (.irev a) sc tup x = true) : ∃ n p1 y p, x = .Call (.Name n p1) [y] [] p ∧ gN sc "reversed" n = true ∧ chk c a sc y = true := by
  unfold chkI at h
  split at h
  · simp only [Bool.and_eq_true] at h; exact ⟨_, _, _, _, rfl, h.1, h.2⟩
  · cases h
theorem inv_irng2 (h : chkI c (.irng2 a b) sc tup x = true) : ∃ n p1 y z p, x = .Call (.Name n p1) [y, z] [] p ∧ gN sc "range" n = true ∧ chk c a sc y = true ∧ chk c b sc z = true := by
  unfold chkI at h
  split at h
  · simp only [Bool.and_eq_true] at h; exact ⟨_, _, _, _, _, rfl, h.1.1, h.1.2, h.2⟩
  · cases h
theorem inv_izip (h : chkI c (.izip a b) sc tup x = true) : ∃ n p1 y z p, x = .Call (.Name n p1) [y, z] [] p ∧ tup = true ∧ gN sc "zip" n = true ∧ chk c a sc y = true ∧ chk c b sc z = true := by
  unfold chkI at h
  split at h
  · simp only [Bool.and_eq_true] at h; exact ⟨_, _, _, _, _, rfl, h.1.1.1, h.1.1.2, h.1.2, h.2⟩
  · cases h
end
theorem chks_nil {c : Ck} {es : E} {sc : Scope} (h : chks c es sc [] = true) : es = .nil := by
  cases es <;> first | rfl | (simp [chks] at h; done)
theorem chkI_plain {c : Ck} {e : E} {sc : Scope} {tup : Bool} {x : Expr} (h : chkI c e sc tup x = true) : plainX x = true := by
  cases e <;> first | (simp [chkI] at h; done) | skip
  · exact plain_of (chk_good (by simpa [chkI] using h))
  · obtain ⟨_, _, _, _, rfl, _⟩ := inv_irng h; rfl
  · obtain ⟨_, _, _, _, _, rfl, _⟩ := inv_irng2 h; rfl
  · obtain ⟨_, _, _, _, _, rfl, _⟩ := inv_izip h; rfl
  · obtain ⟨_, _, _, _, rfl, _⟩ := inv_irev h; rfl

/-- tests by value -/
def tstX : Expr → Bool
  | .UnaryOp .Not _ _ => false
  | .BoolOp .. => false
  | .IfExp .. => false
  | .Compare .. => false
  | _ => true
theorem tst_of {x : Expr} {env : PySem.Env} (h : tstX x = true) : ∀ whole, isTrue x env whole = (do let v ← whole; standAt x.pos; holding [v] (truthy v)) := by
  intro whole
  cases x with
  | UnaryOp op y p => cases op <;> first | rfl | cases h
  | BoolOp => cases h
  | IfExp => cases h
  | Compare => cases h
  | _ => rfl

structure Good (e : E) : Prop where
  pe : ∀ {c : Ck} {p : Pk} {X : Cx} {x : Expr}, chk c e X.env.scope x = true → XOk c p X → PE X x (tV p e)
  pb : ∀ {c : Ck} {p : Pk} {X : Cx} {x : Expr}, chk c e X.env.scope x = true → XOk c p X → PE X x (tBo p e)
  ps : ∀ {c : Ck} {p : Pk} {X : Cx} {x : Expr}, chk c e X.env.scope x = true → XOk c p X → PE X x (tSr p e)
  pt : ∀ {c : Ck} {p : Pk} {X : Cx} {x : Expr}, chk c e X.env.scope x = true → XOk c p X → PT X x (tT p e)
  pa : ∀ {c : Ck} {p : Pk} {X : Cx} {xs : List Expr}, chks c e X.env.scope xs = true → XOk c p X → PA X xs (tAr p e)
  pab : ∀ {c : Ck} {p : Pk} {X : Cx} {xs : List Expr}, chks c e X.env.scope xs = true → XOk c p X → PA X xs (tAb p e)
  pi : ∀ {c : Ck} {p : Pk} {X : Cx} {tup : Bool} {tg x : Expr}, chkI c e X.env.scope tup x = true → (tup = true → isTup tg = true) → XOk c p X → PI X tg x (tI p e)
theorem Good.pr {e : E} (g : Good e) {c : Ck} {p : Pk} {X : Cx} {x : Expr} (h : chk c e X.env.scope x = true) (O : XOk c p X) : PE X x (tR p e) := pe_R (g.pe h O)
/-- an expression that is no name, by its value -/
theorem good_of {e : E} (n : ∀ o, escB o e = esc o e) (pe : ∀ {c : Ck} {p : Pk} {X : Cx} {x : Expr}, chk c e X.env.scope x = true → XOk c p X → PE X x (tV p e))
    (pt : ∀ {c : Ck} {p : Pk} {X : Cx} {x : Expr}, chk c e X.env.scope x = true → XOk c p X → PT X x (tT p e))
    (na : ∀ {c sc xs}, chks c e sc xs = true → False) (ni : ∀ {c sc tup x}, chkI c e sc tup x = true → False) : Good e where
  pe := pe
  pb := fun h O => pe_Bv (pe h O) (n _)
  ps := fun h O => s_other (pe_R (pe h O)) (n _)
  pt := pt
  pa := fun h => (na h).elim
  pab := fun h => (na h).elim
  pi := fun h => (ni h).elim
theorem good_val {e : E} (n : ∀ o, escB o e = esc o e) (pe : ∀ {c : Ck} {p : Pk} {X : Cx} {x : Expr}, chk c e X.env.scope x = true → XOk c p X → PE X x (tV p e))
    (ts : ∀ {c : Ck} {sc : Scope} {x : Expr}, chk c e sc x = true → tstX x = true)
    (na : ∀ {c sc xs}, chks c e sc xs = true → False) (ni : ∀ {c sc tup x}, chkI c e sc tup x = true → False) : Good e :=
  good_of n pe (fun h O => t_val (pe_Bv (pe h O) (n _)) (tst_of (ts h))) na ni
/-- nothing stands for it -/
theorem good_not {e : E} (ne : ∀ {c sc x}, chk c e sc x = true → False) (pa : ∀ {c : Ck} {p : Pk} {X : Cx} {xs : List Expr}, chks c e X.env.scope xs = true → XOk c p X → PA X xs (tAr p e) ∧ PA X xs (tAb p e))
    (pi : ∀ {c : Ck} {p : Pk} {X : Cx} {tup : Bool} {tg x : Expr}, chkI c e X.env.scope tup x = true → (tup = true → isTup tg = true) → XOk c p X → PI X tg x (tI p e)) : Good e where
  pe := fun h => (ne h).elim
  pb := fun h => (ne h).elim
  ps := fun h => (ne h).elim
  pt := fun h => (ne h).elim
  pa := fun h O => (pa h O).1
  pab := fun h O => (pa h O).2
  pi := pi
theorem pl {c : Ck} {e : E} {sc : Scope} {x : Expr} (h : chk c e sc x = true) : plainX x = true := plain_of (chk_good h)
theorem sw_false {e : E} : True := trivial

theorem good : ∀ e : E, Good e := by
  intro e
  induction e with
  | var i =>
    refine ⟨fun h O => ?_, fun h O => ?_, fun h O => ?_, fun h O => ?_, fun h => ?_, fun h => ?_, fun h => ?_⟩
    · obtain ⟨n, pp, rfl, h1, h2, h3⟩ := inv_var h; exact (e_var O h1 h2 h3).1
    · obtain ⟨n, pp, rfl, h1, h2, h3⟩ := inv_var h; exact (e_var O h1 h2 h3).2
    · obtain ⟨n, pp, rfl, h1, h2, h3⟩ := inv_var h; exact s_var O h1 h2 h3
    · obtain ⟨n, pp, rfl, h1, h2, h3⟩ := inv_var h; exact t_val (e_var O h1 h2 h3).2 (tst_of rfl)
    · simp [chks] at h
    · simp [chks] at h
    · simp [chkI] at h
  | non => exact good_val (fun _ => rfl) (fun h O => by obtain ⟨j, pp, rfl⟩ := inv_non h; exact e_const (d := .non) pe_non (fun _ => .non) (fun _ => rfl) rfl) (fun h => by obtain ⟨j, pp, rfl⟩ := inv_non h; rfl) (fun h => by simp [chks] at h) (fun h => by simp [chkI] at h)
  | bl v => exact good_val (fun _ => rfl) (fun h O => by obtain ⟨j, pp, rfl⟩ := inv_bl h; exact e_const (d := .bl v) pe_bl (fun _ => .bl v) (fun _ => rfl) rfl) (fun h => by obtain ⟨j, pp, rfl⟩ := inv_bl h; rfl) (fun h => by simp [chks] at h) (fun h => by simp [chkI] at h)
  | int v => exact good_val (fun _ => rfl) (fun h O => by obtain ⟨j, pp, rfl⟩ := inv_int h; exact e_const (d := .int v) pe_int (fun _ => .int v) (fun _ => rfl) rfl) (fun h => by obtain ⟨j, pp, rfl⟩ := inv_int h; rfl) (fun h => by simp [chks] at h) (fun h => by simp [chkI] at h)
  | str s => exact good_val (fun _ => rfl) (fun h O => by obtain ⟨j, pp, rfl⟩ := inv_str h; exact e_const (d := .str (codes s)) pe_str (fun _ => by rw [← codes_ofString]; exact .str _) (fun _ => rfl) rfl) (fun h => by obtain ⟨j, pp, rfl⟩ := inv_str h; rfl) (fun h => by simp [chks] at h) (fun h => by simp [chkI] at h)
  | glob s => exact good_val (fun _ => rfl) (fun h O => by obtain ⟨n, pp, rfl, h1⟩ := inv_glob h; exact e_glob O h1) (fun h => by obtain ⟨n, pp, rfl, h1⟩ := inv_glob h; rfl) (fun h => by simp [chks] at h) (fun h => by simp [chkI] at h)
  | nil => exact good_not (fun h => by simp [chk] at h) (fun h O => by rw [inv_nil h]; exact a_nil) (fun h => by simp [chkI] at h)
  | cons a es iha ihs =>
    refine good_not (fun h => by simp [chk] at h) (fun h O => ?_) (fun h => by simp [chkI] at h)
    obtain ⟨y, ys, rfl, h1, h2⟩ := inv_cons h
    exact ⟨a_cons (pl h1) (iha.pr h1 O) (ihs.pa h2 O), a_consB (pl h1) (iha.pb h1 O) (ihs.pab h2 O)⟩
  | tup es ih => exact good_val (fun _ => rfl) (fun h O => by obtain ⟨xs, j, pp, rfl, h1⟩ := inv_tup h; exact e_tup (ih.pa h1 O)) (fun h => by obtain ⟨xs, j, pp, rfl, h1⟩ := inv_tup h; rfl) (fun h => by simp [chks] at h) (fun h => by simp [chkI] at h)
  | lst es ih => exact good_val (fun _ => rfl) (fun h O => by obtain ⟨xs, pp, rfl, h1⟩ := inv_lst h; exact e_lst (ih.pa h1 O)) (fun h => by obtain ⟨xs, pp, rfl, h1⟩ := inv_lst h; rfl) (fun h => by simp [chks] at h) (fun h => by simp [chkI] at h)
  | bin o a b iha ihb => exact good_val (fun _ => rfl) (fun h O => by obtain ⟨l, op, r, pp, rfl, h1, h2, h3⟩ := inv_bin h; exact e_bin O h1 (iha.pb h2 O) (ihb.pb h3 O)) (fun h => by obtain ⟨l, op, r, pp, rfl, _⟩ := inv_bin h; rfl) (fun h => by simp [chks] at h) (fun h => by simp [chkI] at h)
  | neg a iha => exact good_val (fun _ => rfl) (fun h O => by obtain ⟨y, pp, rfl, h1⟩ := inv_neg h; exact e_neg (iha.pb h1 O)) (fun h => by obtain ⟨y, pp, rfl, h1⟩ := inv_neg h; rfl) (fun h => by simp [chks] at h) (fun h => by simp [chkI] at h)
  | cmp o a b iha ihb => exact good_of (fun _ => rfl) (fun h O => by obtain ⟨l, op, r, pp, rfl, h1, h2, h3⟩ := inv_cmp h; exact e_cmp O h1 (pl h3) (iha.pb h2 O) (ihb.pb h3 O)) (fun h O => by obtain ⟨l, op, r, pp, rfl, h1, h2, h3⟩ := inv_cmp h; exact t_cmp O h1 (pl h3) (iha.pb h2 O) (ihb.pb h3 O)) (fun h => by simp [chks] at h) (fun h => by simp [chkI] at h)
  | cmp2 o o' a b d iha ihb ihd => exact good_of (fun _ => rfl) (fun h O => by obtain ⟨l, op, op', m, r, pp, rfl, h1, h2, h3, h4, h5⟩ := inv_cmp2 h; exact e_cmp2 O h1 h2 (pl h5) (iha.pb h3 O) (ihb.pb h4 O) (ihd.pb h5 O)) (fun h O => by obtain ⟨l, op, op', m, r, pp, rfl, h1, h2, h3, h4, h5⟩ := inv_cmp2 h; exact t_cmp2 O h1 h2 (pl h5) (iha.pb h3 O) (ihb.pb h4 O) (ihd.pb h5 O)) (fun h => by simp [chks] at h) (fun h => by simp [chkI] at h)
  | isN a iha => exact good_of (fun _ => rfl) (fun h O => by obtain ⟨l, j, p', pp, rfl, h1⟩ := inv_isN h; exact e_isN (iha.pb h1 O)) (fun h O => by obtain ⟨l, j, p', pp, rfl, h1⟩ := inv_isN h; exact t_isN (iha.pb h1 O)) (fun h => by simp [chks] at h) (fun h => by simp [chkI] at h)
  | notN a iha => exact good_of (fun _ => rfl) (fun h O => by obtain ⟨l, j, p', pp, rfl, h1⟩ := inv_notN h; exact e_notN (iha.pb h1 O)) (fun h O => by obtain ⟨l, j, p', pp, rfl, h1⟩ := inv_notN h; exact t_notN (iha.pb h1 O)) (fun h => by simp [chks] at h) (fun h => by simp [chkI] at h)
  | and a b iha ihb =>
    refine good_of (fun _ => rfl) (fun h O => ?_) (fun h O => ?_) (fun h => by simp [chks] at h) (fun h => by simp [chkI] at h)
    · obtain ⟨u, v, ys, pp, rfl, h1, h2⟩ := inv_and h
      rcases h2 with ⟨rfl, h2⟩ | ⟨_, h2⟩
      · exact e_and (iha.pr h1 O) (pe_one (ihb.pr h2 O))
      · exact e_and (iha.pr h1 O) (ihb.pr h2 O)
    · obtain ⟨u, v, ys, pp, rfl, h1, h2⟩ := inv_and h
      rcases h2 with ⟨rfl, h2⟩ | ⟨_, h2⟩
      · exact t_and (iha.pt h1 O) rfl (pw_and1 (ihb.pt h2 O))
      · exact t_and (iha.pt h1 O) rfl (pw_of (ihb.pt h2 O))
  | or a b iha ihb =>
    refine good_of (fun _ => rfl) (fun h O => ?_) (fun h O => ?_) (fun h => by simp [chks] at h) (fun h => by simp [chkI] at h)
    · obtain ⟨u, v, ys, pp, rfl, h1, h2⟩ := inv_or h
      rcases h2 with ⟨rfl, h2⟩ | ⟨_, h2⟩
      · exact e_or (iha.pr h1 O) (pe_one (ihb.pr h2 O))
      · exact e_or (iha.pr h1 O) (ihb.pr h2 O)
    · obtain ⟨u, v, ys, pp, rfl, h1, h2⟩ := inv_or h
      rcases h2 with ⟨rfl, h2⟩ | ⟨_, h2⟩
      · exact t_or (iha.pt h1 O) (pw_or1 (ihb.pt h2 O))
      · exact t_or (iha.pt h1 O) (pw_of (ihb.pt h2 O))
  | not a iha => exact good_of (fun _ => rfl) (fun h O => by obtain ⟨y, pp, rfl, h1⟩ := inv_not h; exact e_not (iha.pr h1 O)) (fun h O => by obtain ⟨y, pp, rfl, h1⟩ := inv_not h; exact t_not (iha.pt h1 O)) (fun h => by simp [chks] at h) (fun h => by simp [chkI] at h)
  | ix a i iha ihi => exact good_val (fun _ => rfl) (fun h O => by obtain ⟨y, z, pp, rfl, h1, h2⟩ := inv_ix h; exact e_ix O (pl h2) (iha.pb h1 O) (ihi.pb h2 O)) (fun h => by obtain ⟨y, z, pp, rfl, _⟩ := inv_ix h; rfl) (fun h => by simp [chks] at h) (fun h => by simp [chkI] at h)
  | sl a lo hi iha ihl ihh =>
    refine good_val (fun _ => rfl) (fun h O => ?_) (fun h => by obtain ⟨y, l, u, p2, pp, rfl, _⟩ := inv_sl h; rfl) (fun h => by simp [chks] at h) (fun h => by simp [chkI] at h)
    obtain ⟨y, l, u, p2, pp, rfl, h1, h2, h3⟩ := inv_sl h
    refine e_sl O (iha.pb h1 O) ?_ ?_
    · rcases h2 with ⟨rfl, h2⟩ | ⟨z, rfl, h2, h4⟩
      · exact p_none h2
      · exact p_some h2 (ihl.pb h4 O)
    · rcases h3 with ⟨rfl, h2⟩ | ⟨z, rfl, h2, h4⟩
      · exact p_none h2
      · exact p_some h2 (ihh.pb h4 O)
  | call f es ih => exact good_val (fun _ => rfl) (fun h O => by obtain ⟨n, p1, y, ys, pp, rfl, h1, h2, h3⟩ := inv_call h; exact e_call O h2 h1 (chks_good h3) (ih.pa h3 O) (ih.pab h3 O)) (fun h => by obtain ⟨n, p1, y, ys, pp, rfl, _⟩ := inv_call h; rfl) (fun h => by simp [chks] at h) (fun h => by simp [chkI] at h)
  | meth a m es iha ihs => exact good_val (fun _ => rfl) (fun h O => by obtain ⟨y, ap, ys, pp, rfl, h1, h2, h3, h4, h5⟩ := inv_meth h; exact e_meth O h3 (chks_good h5) h4 h2 (iha.pr h1 O) (ihs.pa h5 O) (ihs.pab h5 O) (fun z => by subst z; exact chks_nil h5)) (fun h => by obtain ⟨y, ap, ys, pp, rfl, _⟩ := inv_meth h; rfl) (fun h => by simp [chks] at h) (fun h => by simp [chkI] at h)
  | new k es ih =>
    refine good_val (fun _ => rfl) (fun h O => ?_) (fun h => by obtain ⟨n, p1, ys, pp, rfl, _⟩ := inv_new h; rfl) (fun h => by simp [chks] at h) (fun h => by simp [chkI] at h)
    obtain ⟨n, p1, ys, pp, rfl, h1, h2, h3⟩ := inv_new h
    cases ys with
    | nil => cases chks_nil h3; exact e_new0 O h2 h1
    | cons y ys => exact e_new O h2 h1 (chks_good h3) (ih.pa h3 O)
  | blt b es ih => exact good_val (fun _ => rfl) (fun h O => by obtain ⟨n, p1, y, ys, pp, rfl, h1, h2, h3⟩ := inv_blt h; exact e_blt O h1 h2 (chks_good h3) (ih.pab h3 O)) (fun h => by obtain ⟨n, p1, y, ys, pp, rfl, _⟩ := inv_blt h; rfl) (fun h => by simp [chks] at h) (fun h => by simp [chkI] at h)
  | sset a iha => exact good_not (fun h => by unfold chk at h; split at h <;> simp at h) (fun h => by simp [chks] at h) (fun h => by simp [chkI] at h)
  | smeth m a es _ _ => exact good_not (fun h => by simp [chk] at h) (fun h => by simp [chks] at h) (fun h => by simp [chkI] at h)
  | fld a f iha => exact good_val (fun _ => rfl) (fun h O => by obtain ⟨y, pp, rfl, h1, h2⟩ := inv_fld h; exact e_fld O h2 (iha.pr h1 O)) (fun h => by obtain ⟨y, pp, rfl, _⟩ := inv_fld h; rfl) (fun h => by simp [chks] at h) (fun h => by simp [chkI] at h)
  | isi a k iha => exact good_val (fun _ => rfl) (fun h O => by obtain ⟨n, p1, y, m, p2, pp, rfl, h1, h2, h3, h4⟩ := inv_isi h; exact e_isiA O h1 h3 h4 (pl h2) (iha.pb h2 O)) (fun h => by obtain ⟨n, p1, y, m, p2, pp, rfl, _⟩ := inv_isi h; rfl) (fun h => by simp [chks] at h) (fun h => by simp [chkI] at h)
  | lc elt tup is it cnd ihe iht ihc =>
    refine good_val (fun _ => rfl) (fun {c p X x} h O => ?_) (fun h => by obtain ⟨el, tg, iter, ifs, scope, pp, rfl, _⟩ := inv_lc h; rfl) (fun h => by simp [chks] at h) (fun h => by simp [chkI] at h)
    obtain ⟨el, tg, iter, ifs, scope, pp, rfl, h1, h2, h3, h4, h5⟩ := inv_lc h
    have tt : tup = true → isTup tg = true := fun e => by
      subst e
      cases tg <;> first | rfl | (simp [chkT] at h2; done)
    have hp := iht.pi h1 tt O
    have he : ∀ (s : Shared) (H : Hp) (C : Addr) (cl : List (Str × Addr)) (fp : List Addr), PE (X.blk s H scope (compEnvC scope cl C X.env) fp) el (tR (quietP p) elt) := fun s H C cl fp => ihe.pr (X := X.blk s H scope (compEnvC scope cl C X.env) fp) h3 O.blk
    have ht : ∀ (s : Shared) (H : Hp) (C : Addr) (cl : List (Str × Addr)) (fp : List Addr), PTs (X.blk s H scope (compEnvC scope cl C X.env) fp) ifs (tCnd (quietP p) cnd) := fun s H C cl fp => by
      rcases h4 with ⟨rfl, h4⟩ | ⟨t, rfl, h4, h6⟩
      · unfold tCnd; rw [if_pos h4]; exact pts_nil
      · unfold tCnd; rw [if_neg (by rw [h4]; exact Bool.false_ne_true)]
        exact pts_one (ihc.pt (X := X.blk s H scope (compEnvC scope cl C X.env) fp) h6 O.blk)
    obtain ⟨q1, q2, q3⟩ := e_lc (elt := elt) (cnd := cnd) O hp (chkI_plain h1) h2 h5 ht he
    exact peImp (pe_lc O.calm (by rw [O.N]; exact O.nd) hp q1 q2 ht he (folded_plain (chkI_plain h1))) q3
  | rev a iha => exact good_val (fun _ => rfl) (fun h O => by obtain ⟨y, k, p1, p2, p3, pp, rfl, h1⟩ := inv_rev h; exact e_rev O (iha.pb h1 O)) (fun h => by obtain ⟨y, k, p1, p2, p3, pp, rfl, _⟩ := inv_rev h; rfl) (fun h => by simp [chks] at h) (fun h => by simp [chkI] at h)
  | lzip a b _ _ => exact good_not (fun h => by simp [chk] at h) (fun h => by simp [chks] at h) (fun h => by simp [chkI] at h)
  | iseq a iha => exact good_not (fun h => by simp [chk] at h) (fun h => by simp [chks] at h) (fun h ht O => i_seq O (iha.ps (by simpa [chkI] using h) O))
  | irng a iha => exact good_not (fun h => by simp [chk] at h) (fun h => by simp [chks] at h) (fun h ht O => by obtain ⟨n, p1, y, pp, rfl, h1, h2⟩ := inv_irng h; exact i_rng O h1 (pl h2) (iha.pr h2 O))
  | irng2 a b iha ihb => exact good_not (fun h => by simp [chk] at h) (fun h => by simp [chks] at h) (fun h ht O => by obtain ⟨n, p1, y, z, pp, rfl, h1, h2, h3⟩ := inv_irng2 h; exact i_rng2 O h1 (pl h2) (pl h3) (iha.pr h2 O) (ihb.pr h3 O))
  | izip a b iha ihb =>
    refine good_not (fun h => by simp [chk] at h) (fun h => by simp [chks] at h) (fun {c p X tup tg x} h ht O => ?_)
    obtain ⟨n, p1, y, z, pp, rfl, h0, h1, h2, h3⟩ := inv_izip h
    have := ht h0
    cases tg <;> first | (cases this; done) | skip
    exact i_zip O h1 (pl h2) (pl h3) (iha.ps h2 O) (ihb.ps h3 O)
  | irev a iha => exact good_not (fun h => by simp [chk] at h) (fun h => by simp [chks] at h) (fun h ht O => by obtain ⟨n, p1, y, pp, rfl, h1, h2⟩ := inv_irev h; exact i_rev O h1 (pl h2) (iha.ps h2 O))
end Pu

/-! The evaluator looks at the data alone. -/
namespace Pu
open PySem
def dat (r : Env) : List (Option D) := r.map fun x => x.map (·.2)
theorem getV_dat {r r' : Env} (h : dat r = dat r') (i : Nat) : getV r i = getV r' i := by
  have e : ∀ r : Env, getV r i = match (dat r)[i]? with
    | some (some d) => .ok d
    | _ => .stuck := fun r => by
    unfold getV dat
    rw [List.getElem?_map]
    cases r[i]? with
    | none => rfl
    | some o => cases o with
      | none => rfl
      | some q => rfl
  rw [e r, e r', h]
theorem dat_set (r : Env) (i : Nat) (fl : Fl) (d : D) : dat (r.set i (some (fl, d))) = (dat r).set i (some d) := by
  unfold dat
  rw [List.map_set]
  rfl
theorem dat_setV {r r' : Env} (h : dat r = dat r') (i : Nat) (d : D) : dat (setV r i d) = dat (setV r' i d) := by
  unfold setV
  rw [dat_set, dat_set, h]
theorem dat_setAll : ∀ {is : List Nat} {ds : List D} {r r' : Env}, dat r = dat r' → dat (setAll r is ds) = dat (setAll r' is ds)
  | [], _, _, _, h => by simpa [setAll] using h
  | _ :: _, [], _, _, h => by simpa [setAll] using h
  | i :: is, d :: ds, r, r', h => dat_setAll (is := is) (ds := ds) (r := setV r i d) (r' := setV r' i d) (dat_setV h i d)
theorem dat_bindT {r r' : Env} (h : dat r = dat r') (tup : Bool) (is : List Nat) (d : D) {β : Type} (f : Env → R β) (hf : ∀ q q', dat q = dat q' → f q = f q') : (bindT r tup is d >>= f) = (bindT r' tup is d >>= f) := by
  cases tup with
  | true =>
    cases d <;> first | rfl | skip
    rename_i ds
    show ((if ds.length = is.length then R.ok (setAll r is ds) else .stuck) >>= f) = ((if ds.length = is.length then R.ok (setAll r' is ds) else .stuck) >>= f)
    by_cases hl : ds.length = is.length
    · rw [if_pos hl, if_pos hl]; exact hf _ _ (dat_setAll h)
    · rw [if_neg hl, if_neg hl]
  | false =>
    cases is with
    | nil => rfl
    | cons i is =>
      cases is with
      | nil => exact hf _ _ (dat_setV h i d)
      | cons _ _ => rfl
theorem mapR_congr {f g : D → R (Option D)} : ∀ (xs : List D), (∀ x, f x = g x) → mapR f xs = mapR g xs := fun xs h => by
  have e : f = g := funext h
  rw [e]
structure DatE (o : Orc) (e : E) : Prop where
  ev : ∀ r r', dat r = dat r' → ev o r e = Pu.ev o r' e
  evs : ∀ r r', dat r = dat r' → evs o r e = Pu.evs o r' e
  evI : ∀ r r', dat r = dat r' → evI o r e = Pu.evI o r' e
theorem datE (o : Orc) (e : E) : DatE o e := by
  induction e with
  | var i => exact ⟨fun r r' h => getV_dat h i, fun _ _ _ => rfl, fun _ _ _ => rfl⟩
  | lc elt tup is it cnd ihe iht ihc =>
    refine ⟨fun r r' h => ?_, fun _ _ _ => rfl, fun _ _ _ => rfl⟩
    simp only [Pu.ev]
    rw [iht.evI r r' h]
    congr 1
    funext xs
    congr 2
    refine mapR_congr xs fun x => ?_
    refine dat_bindT h tup is x _ fun q q' hq => ?_
    rw [ihc.ev q q' hq, ihe.ev q q' hq]
  | non =>
    exact ⟨fun r r' h => by first | rfl | simp only [Pu.ev], fun r r' h => by first | rfl | simp only [Pu.evs], fun r r' h => by first | rfl | simp only [Pu.evI]⟩
  | bl v =>
    exact ⟨fun r r' h => by first | rfl | simp only [Pu.ev], fun r r' h => by first | rfl | simp only [Pu.evs], fun r r' h => by first | rfl | simp only [Pu.evI]⟩
  | int v =>
    exact ⟨fun r r' h => by first | rfl | simp only [Pu.ev], fun r r' h => by first | rfl | simp only [Pu.evs], fun r r' h => by first | rfl | simp only [Pu.evI]⟩
  | str v =>
    exact ⟨fun r r' h => by first | rfl | simp only [Pu.ev], fun r r' h => by first | rfl | simp only [Pu.evs], fun r r' h => by first | rfl | simp only [Pu.evI]⟩
  | glob v =>
    exact ⟨fun r r' h => by first | rfl | simp only [Pu.ev], fun r r' h => by first | rfl | simp only [Pu.evs], fun r r' h => by first | rfl | simp only [Pu.evI]⟩
  | nil =>
    exact ⟨fun r r' h => by first | rfl | simp only [Pu.ev], fun r r' h => by first | rfl | simp only [Pu.evs], fun r r' h => by first | rfl | simp only [Pu.evI]⟩
  | cons a b ha hb =>
    exact ⟨fun r r' h => by first | rfl | simp only [Pu.ev, ha.ev r r' h, ha.evs r r' h, hb.ev r r' h, hb.evs r r' h], fun r r' h => by first | rfl | simp only [Pu.evs, ha.ev r r' h, ha.evs r r' h, hb.ev r r' h, hb.evs r r' h], fun r r' h => by first | rfl | simp only [Pu.evI, ha.ev r r' h, ha.evs r r' h, hb.ev r r' h, hb.evs r r' h]⟩
  | tup a ha =>
    exact ⟨fun r r' h => by first | rfl | simp only [Pu.ev, ha.ev r r' h, ha.evs r r' h], fun r r' h => by first | rfl | simp only [Pu.evs, ha.ev r r' h, ha.evs r r' h], fun r r' h => by first | rfl | simp only [Pu.evI, ha.ev r r' h, ha.evs r r' h]⟩
  | lst a ha =>
    exact ⟨fun r r' h => by first | rfl | simp only [Pu.ev, ha.ev r r' h, ha.evs r r' h], fun r r' h => by first | rfl | simp only [Pu.evs, ha.ev r r' h, ha.evs r r' h], fun r r' h => by first | rfl | simp only [Pu.evI, ha.ev r r' h, ha.evs r r' h]⟩
  | bin op a b ha hb =>
    exact ⟨fun r r' h => by first | rfl | simp only [Pu.ev, ha.ev r r' h, ha.evs r r' h, hb.ev r r' h, hb.evs r r' h], fun r r' h => by first | rfl | simp only [Pu.evs, ha.ev r r' h, ha.evs r r' h, hb.ev r r' h, hb.evs r r' h], fun r r' h => by first | rfl | simp only [Pu.evI, ha.ev r r' h, ha.evs r r' h, hb.ev r r' h, hb.evs r r' h]⟩
  | neg a ha =>
    exact ⟨fun r r' h => by first | rfl | simp only [Pu.ev, ha.ev r r' h, ha.evs r r' h], fun r r' h => by first | rfl | simp only [Pu.evs, ha.ev r r' h, ha.evs r r' h], fun r r' h => by first | rfl | simp only [Pu.evI, ha.ev r r' h, ha.evs r r' h]⟩
  | cmp op a b ha hb =>
    exact ⟨fun r r' h => by first | rfl | simp only [Pu.ev, ha.ev r r' h, ha.evs r r' h, hb.ev r r' h, hb.evs r r' h], fun r r' h => by first | rfl | simp only [Pu.evs, ha.ev r r' h, ha.evs r r' h, hb.ev r r' h, hb.evs r r' h], fun r r' h => by first | rfl | simp only [Pu.evI, ha.ev r r' h, ha.evs r r' h, hb.ev r r' h, hb.evs r r' h]⟩
  | cmp2 op op' a b d ha hb hd =>
    exact ⟨fun r r' h => by first | rfl | simp only [Pu.ev, ha.ev r r' h, ha.evs r r' h, hb.ev r r' h, hb.evs r r' h, hd.ev r r' h, hd.evs r r' h], fun r r' h => by first | rfl | simp only [Pu.evs, ha.ev r r' h, ha.evs r r' h, hb.ev r r' h, hb.evs r r' h, hd.ev r r' h, hd.evs r r' h], fun r r' h => by first | rfl | simp only [Pu.evI, ha.ev r r' h, ha.evs r r' h, hb.ev r r' h, hb.evs r r' h, hd.ev r r' h, hd.evs r r' h]⟩
  | isN a ha =>
    exact ⟨fun r r' h => by first | rfl | simp only [Pu.ev, ha.ev r r' h, ha.evs r r' h], fun r r' h => by first | rfl | simp only [Pu.evs, ha.ev r r' h, ha.evs r r' h], fun r r' h => by first | rfl | simp only [Pu.evI, ha.ev r r' h, ha.evs r r' h]⟩
  | notN a ha =>
    exact ⟨fun r r' h => by first | rfl | simp only [Pu.ev, ha.ev r r' h, ha.evs r r' h], fun r r' h => by first | rfl | simp only [Pu.evs, ha.ev r r' h, ha.evs r r' h], fun r r' h => by first | rfl | simp only [Pu.evI, ha.ev r r' h, ha.evs r r' h]⟩
  | and a b ha hb =>
    exact ⟨fun r r' h => by first | rfl | simp only [Pu.ev, ha.ev r r' h, ha.evs r r' h, hb.ev r r' h, hb.evs r r' h], fun r r' h => by first | rfl | simp only [Pu.evs, ha.ev r r' h, ha.evs r r' h, hb.ev r r' h, hb.evs r r' h], fun r r' h => by first | rfl | simp only [Pu.evI, ha.ev r r' h, ha.evs r r' h, hb.ev r r' h, hb.evs r r' h]⟩
  | or a b ha hb =>
    exact ⟨fun r r' h => by first | rfl | simp only [Pu.ev, ha.ev r r' h, ha.evs r r' h, hb.ev r r' h, hb.evs r r' h], fun r r' h => by first | rfl | simp only [Pu.evs, ha.ev r r' h, ha.evs r r' h, hb.ev r r' h, hb.evs r r' h], fun r r' h => by first | rfl | simp only [Pu.evI, ha.ev r r' h, ha.evs r r' h, hb.ev r r' h, hb.evs r r' h]⟩
  | not a ha =>
    exact ⟨fun r r' h => by first | rfl | simp only [Pu.ev, ha.ev r r' h, ha.evs r r' h], fun r r' h => by first | rfl | simp only [Pu.evs, ha.ev r r' h, ha.evs r r' h], fun r r' h => by first | rfl | simp only [Pu.evI, ha.ev r r' h, ha.evs r r' h]⟩
  | ix a b ha hb =>
    exact ⟨fun r r' h => by first | rfl | simp only [Pu.ev, ha.ev r r' h, ha.evs r r' h, hb.ev r r' h, hb.evs r r' h], fun r r' h => by first | rfl | simp only [Pu.evs, ha.ev r r' h, ha.evs r r' h, hb.ev r r' h, hb.evs r r' h], fun r r' h => by first | rfl | simp only [Pu.evI, ha.ev r r' h, ha.evs r r' h, hb.ev r r' h, hb.evs r r' h]⟩
  | sl a b d ha hb hd =>
    exact ⟨fun r r' h => by first | rfl | simp only [Pu.ev, ha.ev r r' h, ha.evs r r' h, hb.ev r r' h, hb.evs r r' h, hd.ev r r' h, hd.evs r r' h], fun r r' h => by first | rfl | simp only [Pu.evs, ha.ev r r' h, ha.evs r r' h, hb.ev r r' h, hb.evs r r' h, hd.ev r r' h, hd.evs r r' h], fun r r' h => by first | rfl | simp only [Pu.evI, ha.ev r r' h, ha.evs r r' h, hb.ev r r' h, hb.evs r r' h, hd.ev r r' h, hd.evs r r' h]⟩
  | call f a ha =>
    exact ⟨fun r r' h => by first | rfl | simp only [Pu.ev, ha.ev r r' h, ha.evs r r' h], fun r r' h => by first | rfl | simp only [Pu.evs, ha.ev r r' h, ha.evs r r' h], fun r r' h => by first | rfl | simp only [Pu.evI, ha.ev r r' h, ha.evs r r' h]⟩
  | meth a m b ha hb =>
    exact ⟨fun r r' h => by first | rfl | simp only [Pu.ev, ha.ev r r' h, ha.evs r r' h, hb.ev r r' h, hb.evs r r' h], fun r r' h => by first | rfl | simp only [Pu.evs, ha.ev r r' h, ha.evs r r' h, hb.ev r r' h, hb.evs r r' h], fun r r' h => by first | rfl | simp only [Pu.evI, ha.ev r r' h, ha.evs r r' h, hb.ev r r' h, hb.evs r r' h]⟩
  | new f a ha =>
    exact ⟨fun r r' h => by first | rfl | simp only [Pu.ev, ha.ev r r' h, ha.evs r r' h], fun r r' h => by first | rfl | simp only [Pu.evs, ha.ev r r' h, ha.evs r r' h], fun r r' h => by first | rfl | simp only [Pu.evI, ha.ev r r' h, ha.evs r r' h]⟩
  | blt f a ha =>
    exact ⟨fun r r' h => by first | rfl | simp only [Pu.ev, ha.ev r r' h, ha.evs r r' h], fun r r' h => by first | rfl | simp only [Pu.evs, ha.ev r r' h, ha.evs r r' h], fun r r' h => by first | rfl | simp only [Pu.evI, ha.ev r r' h, ha.evs r r' h]⟩
  | sset a ha =>
    exact ⟨fun r r' h => by first | rfl | simp only [Pu.ev, ha.ev r r' h, ha.evs r r' h], fun r r' h => by first | rfl | simp only [Pu.evs, ha.ev r r' h, ha.evs r r' h], fun r r' h => by first | rfl | simp only [Pu.evI, ha.ev r r' h, ha.evs r r' h]⟩
  | smeth m a b ha hb =>
    exact ⟨fun r r' h => by first | rfl | simp only [Pu.ev, ha.ev r r' h, ha.evs r r' h, hb.ev r r' h, hb.evs r r' h], fun r r' h => by first | rfl | simp only [Pu.evs, ha.ev r r' h, ha.evs r r' h, hb.ev r r' h, hb.evs r r' h], fun r r' h => by first | rfl | simp only [Pu.evI, ha.ev r r' h, ha.evs r r' h, hb.ev r r' h, hb.evs r r' h]⟩
  | fld a f ha =>
    exact ⟨fun r r' h => by first | rfl | simp only [Pu.ev, ha.ev r r' h, ha.evs r r' h], fun r r' h => by first | rfl | simp only [Pu.evs, ha.ev r r' h, ha.evs r r' h], fun r r' h => by first | rfl | simp only [Pu.evI, ha.ev r r' h, ha.evs r r' h]⟩
  | isi a f ha =>
    exact ⟨fun r r' h => by first | rfl | simp only [Pu.ev, ha.ev r r' h, ha.evs r r' h], fun r r' h => by first | rfl | simp only [Pu.evs, ha.ev r r' h, ha.evs r r' h], fun r r' h => by first | rfl | simp only [Pu.evI, ha.ev r r' h, ha.evs r r' h]⟩
  | rev a ha =>
    exact ⟨fun r r' h => by first | rfl | simp only [Pu.ev, ha.ev r r' h, ha.evs r r' h], fun r r' h => by first | rfl | simp only [Pu.evs, ha.ev r r' h, ha.evs r r' h], fun r r' h => by first | rfl | simp only [Pu.evI, ha.ev r r' h, ha.evs r r' h]⟩
  | lzip a b ha hb =>
    exact ⟨fun r r' h => by first | rfl | simp only [Pu.ev, ha.ev r r' h, ha.evs r r' h, hb.ev r r' h, hb.evs r r' h], fun r r' h => by first | rfl | simp only [Pu.evs, ha.ev r r' h, ha.evs r r' h, hb.ev r r' h, hb.evs r r' h], fun r r' h => by first | rfl | simp only [Pu.evI, ha.ev r r' h, ha.evs r r' h, hb.ev r r' h, hb.evs r r' h]⟩
  | iseq a ha =>
    exact ⟨fun r r' h => by first | rfl | simp only [Pu.ev, ha.ev r r' h, ha.evs r r' h], fun r r' h => by first | rfl | simp only [Pu.evs, ha.ev r r' h, ha.evs r r' h], fun r r' h => by first | rfl | simp only [Pu.evI, ha.ev r r' h, ha.evs r r' h]⟩
  | irng a ha =>
    exact ⟨fun r r' h => by first | rfl | simp only [Pu.ev, ha.ev r r' h, ha.evs r r' h], fun r r' h => by first | rfl | simp only [Pu.evs, ha.ev r r' h, ha.evs r r' h], fun r r' h => by first | rfl | simp only [Pu.evI, ha.ev r r' h, ha.evs r r' h]⟩
  | irng2 a b ha hb =>
    exact ⟨fun r r' h => by first | rfl | simp only [Pu.ev, ha.ev r r' h, ha.evs r r' h, hb.ev r r' h, hb.evs r r' h], fun r r' h => by first | rfl | simp only [Pu.evs, ha.ev r r' h, ha.evs r r' h, hb.ev r r' h, hb.evs r r' h], fun r r' h => by first | rfl | simp only [Pu.evI, ha.ev r r' h, ha.evs r r' h, hb.ev r r' h, hb.evs r r' h]⟩
  | izip a b ha hb =>
    exact ⟨fun r r' h => by first | rfl | simp only [Pu.ev, ha.ev r r' h, ha.evs r r' h, hb.ev r r' h, hb.evs r r' h], fun r r' h => by first | rfl | simp only [Pu.evs, ha.ev r r' h, ha.evs r r' h, hb.ev r r' h, hb.evs r r' h], fun r r' h => by first | rfl | simp only [Pu.evI, ha.ev r r' h, ha.evs r r' h, hb.ev r r' h, hb.evs r r' h]⟩
  | irev a ha =>
    exact ⟨fun r r' h => by first | rfl | simp only [Pu.ev, ha.ev r r' h, ha.evs r r' h], fun r r' h => by first | rfl | simp only [Pu.evs, ha.ev r r' h, ha.evs r r' h], fun r r' h => by first | rfl | simp only [Pu.evI, ha.ev r r' h, ha.evs r r' h]⟩
theorem dat_frzAt (r : Env) (i : Nat) : dat (frzAt r i) = dat r := by
  unfold frzAt
  split
  · rename_i fl d e
    rw [dat_set]
    apply List.ext_getElem?
    intro j
    by_cases q : i = j
    · subst q
      have hl : i < r.length := by
        by_cases z : i < r.length
        · exact z
        · rw [List.getElem?_eq_none (by simpa using z)] at e; cases e
      rw [List.getElem?_set_self (by unfold dat; rw [List.length_map]; exact hl)]
      unfold dat
      rw [List.getElem?_map, e]
      rfl
    · rw [List.getElem?_set_ne q]
  · rfl
theorem dat_frzL : ∀ (l : List Nat) (r : Env), dat (frzL r l) = dat r
  | [], _ => rfl
  | i :: l, r => by rw [frzL, dat_frzL l, dat_frzAt]
theorem evs_frz (o : Orc) (e : E) (r : Env) (l : List Nat) : evs o (frzL r l) e = evs o r e := (datE o e).evs _ _ (dat_frzL l r)
theorem ev_frz (o : Orc) (e : E) (r : Env) (l : List Nat) : ev o (frzL r l) e = ev o r e := (datE o e).ev _ _ (dat_frzL l r)
theorem evI_frz (o : Orc) (e : E) (r : Env) (l : List Nat) : evI o (frzL r l) e = evI o r e := (datE o e).evI _ _ (dat_frzL l r)
end Pu

/-! The state between two statements. -/
namespace Pu
open PySem L2
abbrev Lk := List (Nat × Addr × List V)
structure StRep (p : Pk) (G0 H0 : Hp) (L : Lk) (G : Hp) (r : Env) (σ : St) (H : Hp) : Prop where
  env : EnvRep p.K p.cl G r σ H
  sg : Same G0 G
  sh : Same H0 H
  nw : ∀ a, H0 a ≠ none → G a = G0 a
  own : ∀ (i : Nat) (fl : Fl) (d : D) (a : Addr), r[i]? = some (some (fl, d)) → fl ≠ .frz → σ[i]? = some (some (.ref a)) → H0 a = none
  lk : ∀ q ∈ L, σ[q.1]? = some (some (.ref q.2.1)) ∧ H q.2.1 = some (.lst q.2.2) ∧ (∃ fl d, r[q.1]? = some (some (fl, d)) ∧ fl ≠ .own) ∧ ∀ (j : Nat) (d : D), r[j]? = some (some (.own, d)) → σ[j]? ≠ some (some (.ref q.2.1))
section
variable {p : Pk} {G0 H0 G G' H H' : Hp} {L : Lk} {r : Env} {σ : St} {v : V} {d : D} {i : Nat}
theorem StRep.grow (S : StRep p G0 H0 L G r σ H) (g : Grow G H G' H') : StRep p G0 H0 L G' r σ H' where
  env := S.env.grow g
  sg := S.sg.trans g.sg
  sh := S.sh.trans g.sh
  nw := fun a ha => by
    have : H a ≠ none := by
      cases q : H0 a with
      | none => exact absurd q ha
      | some o => rw [S.sh _ _ q]; simp
    rw [g.nw a this, S.nw a ha]
  own := S.own
  lk := fun q hq => let ⟨h1, h2, h3, h4⟩ := S.lk q hq; ⟨h1, g.sh _ _ h2, h3, h4⟩
theorem get_lt {α : Type} {r : List α} {i : Nat} {x : α} (h : r[i]? = some x) : i < r.length := by
  by_cases z : i < r.length
  · exact z
  · rw [List.getElem?_eq_none (by simpa using z)] at h; cases h
/-- after a store at i: what stands at j -/
theorem set_get {r : Env} {x : Option (Fl × D)} {j : Nat} {fl : Fl} {d' : D} (h : (r.set i x)[j]? = some (some (fl, d'))) : (i = j ∧ i < r.length ∧ x = some (fl, d')) ∨ (i ≠ j ∧ r[j]? = some (some (fl, d'))) := by
  by_cases q : i = j
  · subst q
    have hl : i < r.length := by have := get_lt h; simpa using this
    rw [List.getElem?_set_self hl] at h
    exact .inl ⟨rfl, hl, Option.some.inj h⟩
  · rw [List.getElem?_set_ne q] at h
    exact .inr ⟨q, h⟩
/-- flags changed at i, the same data -/
theorem StRep.flag {fl fl' : Fl} (S : StRep p G0 H0 L G r σ H) (e : r[i]? = some (some (fl, d))) (hc : ∀ v, σ[i]? = some (some v) → CellRep p.K p.cl G H fl v d → CellRep p.K p.cl G H fl' v d) (hf : fl' = .frz ∨ fl ≠ .frz)
    (ho : fl' = .own → ∀ q ∈ L, i ≠ q.1 ∧ σ[i]? ≠ some (some (.ref q.2.1))) : StRep p G0 H0 L G (r.set i (some (fl', d))) σ H where
  env := ⟨S.env.sub, by rw [List.length_set]; exact S.env.len, fun j f d' h => by
      rcases set_get h with ⟨rfl, _, h⟩ | ⟨n, h⟩
      · cases h
        obtain ⟨v, h1, h2⟩ := S.env.cell _ _ _ e
        exact ⟨v, h1, hc v h1 h2⟩
      · exact S.env.cell j f d' h, fun j k fj fk dj dk u hjk h1 h2 n1 n2 s1 s2 => by
      have key : ∀ {j : Nat} {fj : Fl} {dj : D}, (r.set i (some (fl', d)))[j]? = some (some (fj, dj)) → fj ≠ .frz → ∃ f0, r[j]? = some (some (f0, dj)) ∧ f0 ≠ .frz := fun {j fj dj} h n => by
        rcases set_get h with ⟨rfl, _, h⟩ | ⟨_, h⟩
        · cases h
          rcases hf with z | z
          · exact absurd z n
          · exact ⟨fl, e, z⟩
        · exact ⟨fj, h, n⟩
      obtain ⟨f1, e1, m1⟩ := key h1 n1
      obtain ⟨f2, e2, m2⟩ := key h2 n2
      exact S.env.apart j k f1 f2 dj dk u hjk e1 e2 m1 m2 s1 s2⟩
  sg := S.sg
  sh := S.sh
  nw := S.nw
  own := fun j f d' a h n s => by
    rcases set_get h with ⟨rfl, _, h⟩ | ⟨_, h⟩
    · cases h
      rcases hf with z | z
      · exact absurd z n
      · exact S.own _ fl _ a e z s
    · exact S.own j f d' a h n s
  lk := fun q hq => by
    obtain ⟨h1, h2, ⟨f, dd, h3, h3'⟩, h4⟩ := S.lk q hq
    refine ⟨h1, h2, ?_, fun j d' h => ?_⟩
    · by_cases z : i = q.1
      · refine ⟨fl', d, by rw [z, List.getElem?_set_self (by rw [← z]; exact get_lt e)], fun w => ?_⟩
        exact (ho w q hq).1 z
      · exact ⟨f, dd, by rw [List.getElem?_set_ne z]; exact h3, h3'⟩
    · rcases set_get h with ⟨rfl, _, h⟩ | ⟨_, h⟩
      · cases h
        exact (ho rfl q hq).2
      · exact h4 j d' h
theorem StRep.frzAt (S : StRep p G0 H0 L G r σ H) (i : Nat) : ∃ G', Same G G' ∧ StRep p G0 H0 L G' (Pu.frzAt r i) σ H := by
  unfold Pu.frzAt
  split
  · rename_i fl d e
    by_cases hf : fl = .frz
    · subst hf
      exact ⟨G, .refl _, S.flag e (fun _ _ h => h) (.inl rfl) (fun z => by cases z)⟩
    · obtain ⟨v, h1, h2⟩ := S.env.cell i fl d e
      have h3 : OwnRep p.K p.cl G H v d := by cases fl <;> first | exact absurd rfl hf | exact h2
      obtain ⟨a, xs, ds, rfl, rfl, n, hh, ra⟩ := h3
      have sm : Same G (upd G a (.lst xs)) := fun b u z => by rw [upd_ne (ne_of_none z n)]; exact z
      have hn := S.own i fl _ a e hf h1
      refine ⟨upd G a (.lst xs), sm, ⟨⟨fun b u z => ?_, by rw [List.length_set]; exact S.env.len, fun j f d' h => ?_, fun j k fj fk dj dk u hjk e1 e2 n1 n2 s1 s2 => ?_⟩, S.sg.trans sm, S.sh, fun b hb => ?_, fun j f d' b h n' s => ?_, fun q hq => ?_⟩⟩
      · by_cases q : b = a
        · subst q; rw [upd_same] at z; cases z; exact hh
        · rw [upd_ne q] at z; exact S.env.sub _ _ z
      · rcases set_get h with ⟨rfl, _, h⟩ | ⟨ne, h⟩
        · cases h
          exact ⟨_, h1, .lst (.of upd_same) (RepA.mono sm _ _ ra)⟩
        · obtain ⟨u, g1, g2⟩ := S.env.cell j f d' h
          refine ⟨u, g1, ?_⟩
          have ow : f ≠ .frz → OwnRep p.K p.cl G H u d' → OwnRep p.K p.cl (upd G a (.lst xs)) H u d' := fun nf ⟨b, ys, es, e1, e2, n2, h2, r2⟩ => by
            subst e1
            refine ⟨b, ys, es, rfl, e2, ?_, h2, RepA.mono sm _ _ r2⟩
            rw [upd_ne]
            · exact n2
            · rintro rfl
              exact S.env.apart i j fl f _ _ _ ne e h hf nf h1 g1
          cases f with
          | frz => exact Rep.mono sm _ _ g2
          | own => exact ow (by decide) g2
          | lock => exact ow (by decide) g2
      · have key : ∀ {j : Nat} {fj : Fl} {dj : D}, (r.set i (some (.frz, D.lst ds)))[j]? = some (some (fj, dj)) → fj ≠ .frz → r[j]? = some (some (fj, dj)) := fun {j fj dj} h n => by
          rcases set_get h with ⟨rfl, _, h⟩ | ⟨_, h⟩
          · cases h; exact absurd rfl n
          · exact h
        exact S.env.apart j k fj fk dj dk u hjk (key e1 n1) (key e2 n2) n1 n2 s1 s2
      · rw [upd_ne (fun q => hb (by rw [q]; exact hn)), S.nw b hb]
      · rcases set_get h with ⟨rfl, _, h⟩ | ⟨_, h⟩
        · cases h; exact absurd rfl n'
        · exact S.own j f d' b h n' s
      · obtain ⟨g1, g2, ⟨f, dd, g3, g3'⟩, g4⟩ := S.lk q hq
        refine ⟨g1, g2, ?_, fun j d' h => ?_⟩
        · by_cases z : i = q.1
          · exact ⟨.frz, .lst ds, by rw [z, List.getElem?_set_self (by rw [← z]; exact get_lt e)], by decide⟩
          · exact ⟨f, dd, by rw [List.getElem?_set_ne z]; exact g3, g3'⟩
        · rcases set_get h with ⟨rfl, _, h⟩ | ⟨_, h⟩
          · cases h
          · exact g4 j d' h
  · exact ⟨G, .refl _, S⟩
theorem StRep.frzL (S : StRep p G0 H0 L G r σ H) (l : List Nat) : ∃ G', Same G G' ∧ StRep p G0 H0 L G' (Pu.frzL r l) σ H := by
  induction l generalizing r G with
  | nil => exact ⟨G, .refl _, S⟩
  | cons i l ih =>
    obtain ⟨G1, s1, S1⟩ := S.frzAt i
    obtain ⟨G2, s2, S2⟩ := ih S1
    exact ⟨G2, s1.trans s2, S2⟩
theorem frzAt_get {j : Nat} {fl : Fl} {d : D} (h : (Pu.frzAt r i)[j]? = some (some (fl, d))) : (fl = .frz ∧ i = j ∧ ∃ f, r[j]? = some (some (f, d))) ∨ (r[j]? = some (some (fl, d)) ∧ (i = j → fl = .frz)) := by
  unfold Pu.frzAt at h
  split at h
  · rename_i f d' e
    rcases set_get h with ⟨rfl, _, h⟩ | ⟨n, h⟩
    · cases h; exact .inl ⟨rfl, rfl, f, e⟩
    · exact .inr ⟨h, fun z => absurd z n⟩
  · rename_i hn
    refine .inr ⟨h, fun z => ?_⟩
    subst z
    exact absurd h (hn _ _)
theorem frzL_all : ∀ (l : List Nat) (r : Env), AllFrz l (Pu.frzL r l)
  | [], _ => fun i hi => by cases hi
  | i :: l, r => by
    have keep : ∀ (l : List Nat) (r : Env) (i : Nat), (∀ fl d, r[i]? = some (some (fl, d)) → fl = .frz) → ∀ fl d, (Pu.frzL r l)[i]? = some (some (fl, d)) → fl = .frz := by
      intro l
      induction l with
      | nil => intro r i h; exact h
      | cons k l ih =>
        intro r i h
        exact ih (Pu.frzAt r k) i fun fl d e => by
          rcases frzAt_get e with ⟨z, _⟩ | ⟨z, _⟩
          · exact z
          · exact h fl d z
    intro j hj
    rcases List.mem_cons.mp hj with rfl | hj
    · exact keep l _ _ fun fl d e => by
        rcases frzAt_get e with ⟨z, _⟩ | ⟨_, z⟩
        · exact z
        · exact z rfl
    · exact frzL_all l _ j hj
theorem AllFrz.frzL {l : List Nat} (h : AllFrz l r) (m : List Nat) : AllFrz l (Pu.frzL r m) := by
  induction m generalizing r with
  | nil => exact h
  | cons k m ih =>
    exact ih fun j hj fl d e => by
      rcases frzAt_get e with ⟨z, _⟩ | ⟨z, _⟩
      · exact z
      · exact h j hj fl d z

/-- name i gets a value -/
theorem StRep.setRep (S : StRep p G0 H0 L G r σ H) (h : Rep p.K p.cl G v d) (hL : ∀ q ∈ L, q.1 ≠ i) : StRep p G0 H0 L G (setV r i d) (σ.set i (some v)) H where
  env := (EnvOff.set (l := []) (S.env.off [i]) h).on
  sg := S.sg
  sh := S.sh
  nw := S.nw
  own := fun j f d' a h n s => by
    rcases set_get h with ⟨rfl, _, h⟩ | ⟨ne, h⟩
    · cases h; exact absurd rfl n
    · rw [List.getElem?_set_ne ne] at s
      exact S.own j f d' a h n s
  lk := fun q hq => by
    obtain ⟨h1, h2, ⟨f, dd, h3, h3'⟩, h4⟩ := S.lk q hq
    have ne : i ≠ q.1 := fun z => hL q hq z.symm
    refine ⟨by rw [List.getElem?_set_ne ne]; exact h1, h2, ⟨f, dd, by unfold setV; rw [List.getElem?_set_ne ne]; exact h3, h3'⟩, fun j d' h => ?_⟩
    rcases set_get h with ⟨rfl, _, h⟩ | ⟨ne', h⟩
    · cases h
    · rw [List.getElem?_set_ne ne']
      exact h4 j d' h
theorem StRep.setAll : ∀ {is : List Nat} {ds : List D} {vs : List V} {r : Env} {σ : St}, StRep p G0 H0 L G r σ H → RepA p.K p.cl G vs ds → ds.length = is.length → (∀ q ∈ L, q.1 ∉ is) → StRep p G0 H0 L G (Pu.setAll r is ds) (setVs σ is vs) H
  | [], [], _, _, _, S, h, _, _ => by cases h; exact S
  | [], _ :: _, _, _, _, _, _, hl, _ => by cases hl
  | _ :: _, [], _, _, _, _, _, hl, _ => by cases hl
  | i :: is, d :: ds, _, r, σ, S, h, hl, hL => by
    cases h with
    | cons h1 h2 =>
      exact StRep.setAll (is := is) (ds := ds) (r := setV r i d) (StRep.setRep (i := i) S h1 fun q hq z => hL q hq (by rw [z]; exact List.mem_cons_self)) h2 (by simpa using hl) fun q hq z => hL q hq (List.mem_cons_of_mem _ z)
/-- name i gets a list of its own -/
theorem StRep.setOwn (S : StRep p G0 H0 L G r σ H) (h : OwnRep p.K p.cl G H v d) (hL : ∀ q ∈ L, q.1 ≠ i)
    (hn : ∀ a, v = .ref a → H0 a = none ∧ (∀ (j : Nat) (fl : Fl) (d' : D), r[j]? = some (some (fl, d')) → fl ≠ .frz → σ[j]? ≠ some (some (.ref a))) ∧ ∀ q ∈ L, q.2.1 ≠ a) : StRep p G0 H0 L G (r.set i (some (.own, d))) (σ.set i (some v)) H := by
  obtain ⟨a, xs, ds, rfl, rfl, n0, hh, ra⟩ := h
  obtain ⟨n1, n2, n3⟩ := hn a rfl
  refine ⟨⟨S.env.sub, by rw [List.length_set, List.length_set]; exact S.env.len, fun j f d' h => ?_, fun j k fj fk dj dk u hjk e1 e2 m1 m2 s1 s2 => ?_⟩, S.sg, S.sh, S.nw, fun j f d' b h n s => ?_, fun q hq => ?_⟩
  · rcases set_get h with ⟨rfl, hl, h⟩ | ⟨ne, h⟩
    · cases h
      exact ⟨_, List.getElem?_set_self (by rw [S.env.len]; exact hl), ⟨a, xs, ds, rfl, rfl, n0, hh, ra⟩⟩
    · obtain ⟨u, g1, g2⟩ := S.env.cell j f d' h
      exact ⟨u, by rw [List.getElem?_set_ne ne]; exact g1, g2⟩
  · rcases set_get e1 with ⟨rfl, hl, e1⟩ | ⟨ne1, e1⟩
    · cases e1
      rcases set_get e2 with ⟨rfl, _, _⟩ | ⟨ne2, e2⟩
      · exact hjk rfl
      · rw [List.getElem?_set_self (by rw [S.env.len]; exact hl)] at s1
        rw [List.getElem?_set_ne ne2] at s2
        cases s1
        exact n2 _ _ _ e2 m2 s2
    · rw [List.getElem?_set_ne ne1] at s1
      rcases set_get e2 with ⟨rfl, hl, e2⟩ | ⟨ne2, e2⟩
      · cases e2
        rw [List.getElem?_set_self (by rw [S.env.len]; exact hl)] at s2
        cases s2
        exact n2 _ _ _ e1 m1 s1
      · rw [List.getElem?_set_ne ne2] at s2
        exact S.env.apart j k fj fk dj dk u hjk e1 e2 m1 m2 s1 s2
  · rcases set_get h with ⟨rfl, hl, h⟩ | ⟨ne, h⟩
    · rw [List.getElem?_set_self (by rw [S.env.len]; exact hl)] at s
      cases s
      exact n1
    · rw [List.getElem?_set_ne ne] at s
      exact S.own j f d' b h n s
  · obtain ⟨h1, h2, ⟨f, dd, h3, h3'⟩, h4⟩ := S.lk q hq
    have ne : i ≠ q.1 := fun z => hL q hq z.symm
    refine ⟨by rw [List.getElem?_set_ne ne]; exact h1, h2, ⟨f, dd, by rw [List.getElem?_set_ne ne]; exact h3, h3'⟩, fun j d' h => ?_⟩
    rcases set_get h with ⟨rfl, hl, h⟩ | ⟨ne', h⟩
    · rw [List.getElem?_set_self (by rw [S.env.len]; exact hl)]
      intro z
      cases z
      exact n3 q hq rfl
    · rw [List.getElem?_set_ne ne']
      exact h4 j d' h
theorem ownL_of {W : String → D → Prop} {k : List D → Prop} (h : Wp W (ownL r i) k) : ∃ ds, r[i]? = some (some (.own, .lst ds)) ∧ k ds := by
  unfold ownL at h
  split at h
  · exact ⟨_, by assumption, h⟩
  · exact False.elim h
/-- the own list of name i -/
theorem StRep.mine {ds : List D} (S : StRep p G0 H0 L G r σ H) (e : r[i]? = some (some (.own, .lst ds))) : ∃ a xs, σ[i]? = some (some (.ref a)) ∧ G a = none ∧ H a = some (.lst xs) ∧ RepA p.K p.cl G xs ds := by
  obtain ⟨v, h1, a, xs, es, e1, e2, n, hh, ra⟩ := S.env.cell i .own _ e
  cases e2
  subst e1
  exact ⟨a, xs, h1, n, hh, ra⟩
/-- it is changed -/
theorem StRep.put {ds es : List D} {a : Addr} {xs ys : List V} (S : StRep p G0 H0 L G r σ H) (e : r[i]? = some (some (.own, .lst ds))) (hs : σ[i]? = some (some (.ref a))) (hh : H a = some (.lst xs)) (n : G a = none) (ra : RepA p.K p.cl G ys es) :
    StRep p G0 H0 L G (putL r i es) σ (upd H a (.lst ys)) := by
  have hn := S.own i .own _ a e (by decide) hs
  unfold putL
  refine ⟨⟨fun b u z => ?_, by rw [List.length_set]; exact S.env.len, fun j f d' h => ?_, fun j k fj fk dj dk u hjk e1 e2 m1 m2 s1 s2 => ?_⟩, S.sg, fun b u z => ?_, S.nw, fun j f d' b h n' s => ?_, fun q hq => ?_⟩
  · rw [upd_ne (ne_of_none z n)]; exact S.env.sub _ _ z
  · rcases set_get h with ⟨rfl, hl, h⟩ | ⟨ne, h⟩
    · cases h
      exact ⟨_, hs, ⟨a, ys, es, rfl, rfl, n, upd_same, ra⟩⟩
    · obtain ⟨u, g1, g2⟩ := S.env.cell j f d' h
      refine ⟨u, g1, ?_⟩
      have ow : f ≠ .frz → OwnRep p.K p.cl G H u d' → OwnRep p.K p.cl G (upd H a (.lst ys)) u d' := fun nf ⟨b, zs, es, e1, e2, n2, h2, r2⟩ => by
        subst e1
        refine ⟨b, zs, es, rfl, e2, n2, ?_, r2⟩
        rw [upd_ne]
        · exact h2
        · rintro rfl
          exact S.env.apart i j .own f _ _ _ ne e h (by decide) nf hs g1
      cases f with
      | frz => exact g2
      | own => exact ow (by decide) g2
      | lock => exact ow (by decide) g2
  · have key : ∀ {j : Nat} {fj : Fl} {dj : D}, (r.set i (some (.own, D.lst es)))[j]? = some (some (fj, dj)) → fj ≠ .frz → ∃ f0 d0, r[j]? = some (some (f0, d0)) ∧ f0 ≠ .frz := fun {j fj dj} h n => by
      rcases set_get h with ⟨rfl, _, h⟩ | ⟨_, h⟩
      · exact ⟨_, _, e, by decide⟩
      · exact ⟨_, _, h, n⟩
    obtain ⟨f1, d1, e1, n1⟩ := key e1 m1
    obtain ⟨f2, d2, e2, n2⟩ := key e2 m2
    exact S.env.apart j k f1 f2 d1 d2 u hjk e1 e2 n1 n2 s1 s2
  · rw [upd_ne (ne_of_none z hn)]; exact S.sh _ _ z
  · rcases set_get h with ⟨rfl, _, h⟩ | ⟨_, h⟩
    · exact S.own _ _ _ b e (by decide) s
    · exact S.own j f d' b h n' s
  · obtain ⟨h1, h2, ⟨f, dd, h3, h3'⟩, h4⟩ := S.lk q hq
    have na : q.2.1 ≠ a := fun z => h4 i _ e (by rw [z]; exact hs)
    refine ⟨h1, by rw [upd_ne na]; exact h2, ?_, fun j d' h => ?_⟩
    · have ne : i ≠ q.1 := fun z => by
        rw [← z, e] at h3
        cases h3
        exact h3' rfl
      exact ⟨f, dd, by rw [List.getElem?_set_ne ne]; exact h3, h3'⟩
    · rcases set_get h with ⟨rfl, _, h⟩ | ⟨_, h⟩
      · exact h4 _ _ e
      · exact h4 j d' h
theorem StRep.kill1 (S : StRep p G0 H0 L G r σ H) (hL : ∀ q ∈ L, q.1 ≠ i) : StRep p G0 H0 L G (r.set i none) σ H := by
  have key : ∀ {j : Nat} {fj : Fl} {dj : D}, (r.set i none)[j]? = some (some (fj, dj)) → r[j]? = some (some (fj, dj)) := fun {j fj dj} h => by
    rcases set_get h with ⟨rfl, _, h⟩ | ⟨_, h⟩
    · cases h
    · exact h
  refine ⟨⟨S.env.sub, by rw [List.length_set]; exact S.env.len, fun j f d' h => S.env.cell j f d' (key h), fun j k fj fk dj dk u hjk e1 e2 m1 m2 s1 s2 => S.env.apart j k fj fk dj dk u hjk (key e1) (key e2) m1 m2 s1 s2⟩, S.sg, S.sh, S.nw, fun j f d' b h n' s => S.own j f d' b (key h) n' s, fun q hq => ?_⟩
  obtain ⟨h1, h2, ⟨f, dd, h3, h3'⟩, h4⟩ := S.lk q hq
  exact ⟨h1, h2, ⟨f, dd, by rw [List.getElem?_set_ne (fun z => hL q hq z.symm)]; exact h3, h3'⟩, fun j d' h => h4 j d' (key h)⟩
theorem StRep.kill : ∀ {l : List Nat} {r : Env}, StRep p G0 H0 L G r σ H → (∀ q ∈ L, q.1 ∉ l) → StRep p G0 H0 L G (Pu.kill r l) σ H
  | [], _, S, _ => S
  | i :: l, r, S, h => StRep.kill (l := l) (S.kill1 fun q hq z => h q hq (by rw [z]; simp)) fun q hq z => h q hq (List.mem_cons_of_mem _ z)
end
end Pu

/-! Statements. -/
namespace Pu
open PySem L2
abbrev veMro : List Value := [.type "ValueError", .type "Exception", .type "BaseException", .type "object"]
/-- an own exception class without __init__ -/
structure ExcK (X : Cx) (k : String) (C : Addr) : Prop where
  q : PySem.W.excIn X.K C veMro "ValueError.__new__" = true
  gC : X.mg (Str.ofString k) = some (.ref C)
  kC : PySem.W.keepIn X.K (.ref C) = true
  r : Raises X (.ref C)
structure SOk (c : Ck) (p : Pk) (X : Cx) : Prop extends XOk c p X where
  takes : Takes X (fun cls d _ H => p.E cls d H)
  passes : PassesOwn (model X.prog X.w) X.A X.env X.xe
  fnT : ∀ x, X.fn x = true
  kind : X.env.scope.kind = .function
  exc : ∀ k, c.isX k = true → ∃ C, p.ex k = some C ∧ ExcK X k C
  tr : ∀ k, c.isT k = true → ∃ Ct, X.mg (Str.ofString k) = some (.ref Ct) ∧ ∀ e C ns b, p.cl e = some (C, ns) → p.o.isx e k = some b → PySem.W.exmOne X.K (.ref C) (.ref Ct) = some b
  exCl : ∀ e C, p.ex e = some C → ∃ ns, p.cl e = some (C, ns)
  stk : X.stack = X.env :: X.outer
  frm : X.env.frame = some X.env.locals
theorem SOk.stores {c : Ck} {p : Pk} {X : Cx} (O : SOk c p X) : Stores X X.env.scope := fun n h => ⟨locB_of h, .inl (O.fnT n)⟩

/-- what is wanted behind a statement, by what the evaluator says of it -/
def WpS (p : Pk) (G0 H0 : Hp) (L : Lk) (D : Ends) : R (Env × Fw) → Prop
  | .ok (r', .nx) => ∀ G' σ' H', StRep p G0 H0 L G' r' σ' H' → D.nx σ' H'
  | .ok (_, .ret fr d) => ∀ G' H' v, Grow G0 H0 G' H' → Out p.K p.cl fr G' H0 H' v d → D.rt v H'
  | .ok (r', .brk) => ∀ G' σ' H', StRep p G0 H0 L G' r' σ' H' → D.bk σ' H'
  | .ok (r', .cont) => ∀ G' σ' H', StRep p G0 H0 L G' r' σ' H' → D.ct σ' H'
  | .exc k v => p.W H0 k v
  | .stuck => False
def tS (p : Pk) (s : S) : TS := fun D σ H => ∃ G0 H0 L G r, StRep p G0 H0 L G r σ H ∧ (∀ q ∈ L, q.1 ∉ assigns s) ∧ WpS p G0 H0 L D (exec p.o s r)
section
variable {c : Ck} {p : Pk} {X : Cx} {G0 H0 G G' H H' : Hp} {L : Lk} {r : Env} {σ : St} {Dn : Ends} {s : S} {x : Stmt} {l : List Stmt} {e : E}
theorem psImp {x : Stmt} {t t' : TS} (h : PS X x t) (i : ∀ D σ H, t' D σ H → t D σ H) : PS X x t' := ⟨fun pins s σ H D I q => h.run pins s σ H D I (i D σ H q)⟩
theorem pssImp {x : List Stmt} {t t' : TS} (h : PSs X x t) (i : ∀ D σ H, t' D σ H → t D σ H) : PSs X x t' := ⟨fun pins s σ H D I q => h.run pins s σ H D I (i D σ H q)⟩
theorem WpS.bind {α : Type} {x : R α} {f : α → R (Env × Fw)} (h : WpS p G0 H0 L Dn (x >>= f)) : Wp (p.W H0) x fun a => WpS p G0 H0 L Dn (f a) := by
  cases x <;> exact h
theorem Grow.ofSt (S : StRep p G0 H0 L G r σ H) : Grow G0 H0 G H := ⟨S.sg, S.sh, S.env.sub, S.nw⟩

/-- an expression ahead: what it lets escape is frozen -/
theorem ahead {α : Type} {f : D → R (Env × Fw)} (S : StRep p G0 H0 L G r σ H) (l : List Nat) (hl : ∀ i, i ∈ esc p.o e → i ∈ l) (w : WpS p G0 H0 L Dn (ev p.o r e >>= f)) :
    ∃ G1, StRep p G0 H0 L G1 (frzL r l) σ H ∧ AllFrz (esc p.o e) (frzL r l) ∧ Wp (p.W H) (ev p.o (frzL r l) e) fun d => WpS p G0 H0 L Dn (f d) := by
  obtain ⟨G1, _, S1⟩ := S.frzL l
  refine ⟨G1, S1, fun i hi => frzL_all l r i (hl i hi), ?_⟩
  rw [ev_frz]
  exact (WpS.bind w).imp (fun _ _ z => z.mono S.sh) fun _ z => z
theorem frzL_app (r : Env) (a b : List Nat) : frzL r (a ++ b) = frzL (frzL r a) b := by
  induction a generalizing r with
  | nil => rfl
  | cons i a ih => exact ih _

/-! ### names -/
theorem set_read {i : Nat} (h : tS p (.set i e) Dn σ H) : tV p e σ H fun v H1 => Dn.nx (σ.set i (some v)) H1 := by
  obtain ⟨G0, H0, L, G, r, S, hL, w⟩ := h
  obtain ⟨G1, S1, fz, w1⟩ := ahead (α := Unit) S (esc p.o e) (fun _ h => h) w
  refine ⟨G1, _, S1.env, fz, w1.imp (fun _ _ z => z) fun d w2 G2 H2 v g o => ?_⟩
  have hi : ∀ q ∈ L, q.1 ≠ i := fun q hq z => hL q hq (by rw [z]; simp [assigns])
  have S2 := S1.grow g
  by_cases cc : isFresh p.o e = true ∧ d.isL = true
  · have w3 : WpS p G0 H0 L Dn (.ok ((frzL r (esc p.o e)).set i (some (.own, d)), .nx)) := by
      have : setFl p.o r i e d = (frzL r (esc p.o e)).set i (some (.own, d)) := by unfold setFl; rw [if_pos cc]
      rw [← this]; exact w2
    unfold Out at o
    rw [if_pos cc] at o
    refine w3 G2 _ H2 (S2.setOwn o.1 hi fun a ea => ?_)
    have hn := o.2 a ea
    refine ⟨S.sh.free hn, fun j fl d' hj nf hs => ?_, fun q hq z => ?_⟩
    · obtain ⟨u, h1, h2⟩ := S1.env.cell j fl d' hj
      have h3 : OwnRep p.K p.cl G1 H u d' := by cases fl <;> first | exact absurd rfl nf | exact h2
      obtain ⟨b, xs, ds, e1, _, _, hh, _⟩ := h3
      rw [h1] at hs
      cases hs
      cases e1
      rw [hn] at hh; cases hh
    · have := (S1.lk q hq).2.1
      rw [z, hn] at this; cases this
  · have w3 : WpS p G0 H0 L Dn (.ok (setV (frzL r (esc p.o e)) i d, .nx)) := by
      have : setFl p.o r i e d = setV (frzL r (esc p.o e)) i d := by unfold setFl setV; rw [if_neg cc]
      rw [← this]; exact w2
    unfold Out at o
    rw [if_neg cc] at o
    exact w3 G2 _ H2 (S2.setRep o hi)
theorem isLC_lc {v : Expr} {sc : Scope} (q : isLC v = true) (h : chk c e sc v = true) : ∃ elt tup is it cnd, e = .lc elt tup is it cnd := by
  cases v <;> first | (cases q; done) | skip
  cases e <;> first | exact ⟨_, _, _, _, _, rfl⟩ | (unfold chk at h; cases h; done)
theorem s_set {i : Nat} {n : Str} {v : Expr} {px pos : Pos} (O : SOk c p X) (hs : slotB c.N i n = true) (hl : locB X.env.scope n = true) (h : chk c e X.env.scope v = true) : PS X (.Assign [.Name n px] v pos) (tS p (.set i e)) := by
  have hN : X.N.Nodup := by rw [O.N]; exact O.nd
  have hi : X.N[i]? = some n := by rw [O.N]; exact slotB_of hs
  have hlc := locB_of hl
  cases q : isLC v with
  | false => exact psImp (ps_set hN hi hlc ((good e).pe h O.toXOk) (swaps_good (chk_good h) q) (.inl (O.fnT n))) fun D σ H h => set_read h
  | true =>
    obtain ⟨elt, tup, is, it, cnd, e1⟩ := isLC_lc q h
    subst e1
    obtain ⟨el, tg, iter, ifs, scope, pp, e0, h1, h2, h3, h4, h5⟩ := inv_lc h
    subst e0
    have tt : tup = true → isTup tg = true := fun e => by
      subst e
      cases tg <;> first | rfl | (simp [chkT] at h2; done)
    have hp := (good it).pi h1 tt O.toXOk
    have he : ∀ (s : Shared) (H : Hp) (C : Addr) (cl : List (Str × Addr)) (fp : List Addr), PE (X.blk s H scope (compEnvC scope cl C X.env) fp) el (tR (quietP p) elt) := fun s H C cl fp => (good elt).pr (X := X.blk s H scope (compEnvC scope cl C X.env) fp) h3 O.toXOk.blk
    have ht : ∀ (s : Shared) (H : Hp) (C : Addr) (cl : List (Str × Addr)) (fp : List Addr), PTs (X.blk s H scope (compEnvC scope cl C X.env) fp) ifs (tCnd (quietP p) cnd) := fun s H C cl fp => by
      rcases h4 with ⟨rfl, h4⟩ | ⟨t, rfl, h4, h6⟩
      · unfold tCnd; rw [if_pos h4]; exact pts_nil
      · unfold tCnd; rw [if_neg (by rw [h4]; exact Bool.false_ne_true)]
        exact pts_one ((good cnd).pt (X := X.blk s H scope (compEnvC scope cl C X.env) fp) h6 O.toXOk.blk)
    obtain ⟨q1, q2, q3⟩ := e_lc (elt := elt) (cnd := cnd) O.toXOk hp (chkI_plain h1) h2 h5 ht he
    have hb : X.env.blockKind = .function := by unfold Env.blockKind; rw [O.kind]; rfl
    have sw : swapsWith (.ListComp el [⟨tg, iter, ifs, 0⟩] scope pp) (some (.Name n px)) pos.line X.env = pure (X.env.blockKind == .function && X.env.kindOf n == some .local && px.line == pp.line && !(scope.names.any fun (m, k) => m == n && (k == .local || k == .cell))) := by
      unfold swapsWith
      rfl
    cases w : (X.env.blockKind == .function && X.env.kindOf n == some .local && px.line == pp.line && !(scope.names.any fun (m, k) => m == n && (k == .local || k == .cell))) with
    | true =>
      rw [w] at sw
      simp only [Bool.and_eq_true] at w
      have kl : X.env.scope.names.lookup n = some .local := eq_of_beq w.1.1.2
      exact psImp (ps_setLc O.calm hN hi kl sw hp q1 q2 ht he (folded_plain (chkI_plain h1))) fun D σ H h => q3 _ _ _ (set_read h)
    | false =>
      rw [w] at sw
      exact psImp (ps_set hN hi hlc (peImp (pe_lc O.calm hN hp q1 q2 ht he (folded_plain (chkI_plain h1))) q3) sw (.inl (O.fnT n))) fun D σ H h => set_read h
theorem pg_or {tg : Expr} {t u : TG} (h1 : PG X tg t) (h2 : PG X tg u) : PG X tg (fun v σ H Q => t v σ H Q ∨ u v σ H Q) :=
  ⟨fun pins s σ H v u Q I r q => q.elim (fun q => h1.run pins s σ H v u Q I r q) fun q => h2.run pins s σ H v u Q I r q⟩
theorem s_unp {is : List Nat} {es : List Expr} {v : Expr} {k : Nat} {pt pos : Pos} (O : SOk c p X) (hs : chkTs c.N X.env.scope is es = true) (h : chk c e X.env.scope v = true) (n1 : isTup v = false) (n2 : isLC v = false) :
    PS X (.Assign [.Tuple es k pt] v pos) (tS p (.unp is e)) := by
  obtain ⟨h1, h2, h3⟩ := g_slots O.toXOk O.stores hs
  have hg := pg_or (pg_tup (k := k) (pos := pt) O.calm h1 h2 h3) (pg_unl (k := k) (pos := pt) O.calm h1 h2 h3)
  have sw : swappedStores [.Tuple es k pt] v X.env = pure none := by cases v <;> first | rfl | cases n1
  have sole : swapsWithSole [.Tuple es k pt] v pos.line X.env = pure false := by
    unfold swapsWithSole
    exact swaps_good (chk_good h) n2
  refine psImp (ps_asg ((good e).pr h O.toXOk) hg sole sw rfl) fun D σ H ⟨G0, H0, L, G, r, S, hL, w⟩ => ?_
  obtain ⟨G1, S1, fz, w1⟩ := ahead (α := Unit) S (esc p.o e) (fun _ h => h) w
  refine ⟨G1, _, S1.env, fz, w1.imp (fun _ _ z => z) fun d w2 G2 H2 v g rr => ?_⟩
  have S2 := S1.grow g
  cases d <;> first | exact False.elim w2 | skip
  · rename_i ds
    have w2 := WpS.bind w2
    obtain ⟨hl, w3⟩ := Wp.ite (show Wp _ (if ds.length = is.length then R.ok (Pu.setAll (frzL r (esc p.o e)) is ds) else .stuck) _ from w2)
    cases rr with
    | tup q ra =>
      rw [O.K]
      refine .inl ⟨_, _, rfl, sameT g.sub q, by rw [ra.length, hl], gSlots_of (by rw [ra.length, hl]) ?_⟩
      exact w3 G2 _ H2 (S2.setAll ra hl hL)
  · rename_i ds
    have w2 := WpS.bind w2
    obtain ⟨hl, w3⟩ := Wp.ite (show Wp _ (if ds.length = is.length then R.ok (Pu.setAll (frzL r (esc p.o e)) is ds) else .stuck) _ from w2)
    cases rr with
    | lst q ra =>
      rw [O.K]
      refine .inr ⟨_, _, rfl, g.sub.seq q, by rw [ra.length, hl], gSlots_of (by rw [ra.length, hl]) ?_⟩
      exact w3 G2 _ H2 (S2.setAll ra hl hL)
theorem s_aug {i : Nat} {n : Str} {v : Expr} {px pos : Pos} (O : SOk c p X) (hs : slotB c.N i n = true) (hl : locB X.env.scope n = true) (h : chk c e X.env.scope v = true) : PS X (.AugAssign (.Name n px) .Add v pos) (tS p (.aug i e)) := by
  refine psImp (ps_aug (by rw [O.N]; exact O.nd) (by rw [O.N]; exact slotB_of hs) (locB_of hl) ((good e).pr h O.toXOk) ip_add (.inl (O.fnT n))) fun D σ H ⟨G0, H0, L, G, r, S, hL, w⟩ => ?_
  obtain ⟨fl, d, e1, w1⟩ := wpGet (WpS.bind w)
  obtain ⟨u, hu, hc⟩ := S.env.cell i fl d e1
  refine ⟨u, hu, ?_⟩
  obtain ⟨G1, S1, fz, w2⟩ := ahead (α := Unit) S (esc p.o e) (fun _ h => h) w1
  refine ⟨G1, _, S1.env, fz, w2.imp (fun _ _ z => z) fun d2 w3 G2 H2 v g rr => ?_⟩
  have S2 := S1.grow g
  cases d <;> first | exact False.elim w3 | skip
  cases d2 <;> first | exact False.elim w3 | skip
  cases (hc.repB).int
  cases rr
  exact ⟨_, _, rfl, rfl, w3 G2 _ H2 (S2.setRep (.int _) fun q hq z => hL q hq (by rw [z]; simp [assigns]))⟩
theorem par_sw {ts : List Expr} {n m : Str} {px py pt pt2 : Pos} {kt k2 : Nat} {u v : Expr} (hb : X.env.blockKind = .function) (h1 : X.env.kindOf n = some .local) (h2 : X.env.kindOf m = some .local) (hne : (n == m) = false) (hl : (px.line == py.line) = true)
    (gu : plainX u = true) (gv : plainX v = true) (f1 : (foldedForSure 8 u && foldedForSure 8 v) = false) (f2 : (constantsAlone 8 u && constantsAlone 8 v) = false) :
    swappedStores [.Tuple [.Name n px, .Name m py] kt pt] (.Tuple [u, v] k2 pt2) X.env = pure (some [n, m]) := by
  have hs : ∀ {w : Expr}, plainX w = true → (match w with | .Starred .. => true | _ => false) = false := fun {w} g => by cases w <;> first | rfl | cases g
  have hb' : (X.env.blockKind != .function) = false := by rw [hb]; rfl
  have k1 : (X.env.kindOf n == some .local && px.line == px.line) = true := by rw [h1]; simp
  have k2' : (X.env.kindOf m == some .local && py.line == px.line) = true := by rw [h2, eq_of_beq hl]; simp
  have hed : ([n, m] : List Str).eraseDups.length = 2 := by
    have : (m == n) = false := by rw [beq_eq_false_iff_ne] at hne ⊢; exact fun z => hne z.symm
    simp [List.eraseDups_cons, this]
  have s1 : ([u, v].any fun | .Starred .. => true | _ => false) = false := by
    cases u <;> first | (cases gu; done) | (cases v <;> first | rfl | cases gv)
  unfold swappedStores
  simp only [pure_bind, s1]
  simp [hb', k1, k2', hed, f1, f2, List.filterMap, Expr.pos, h1, h2, eq_of_beq hl]
  intro hx
  exfalso
  rcases hx with hx | hx
  · cases u <;> first | (cases gu; done) | (cases hx; done)
  · cases v <;> first | (cases gv; done) | (cases hx; done)
end
end Pu

/-! More statements. -/
namespace Pu
open PySem L2
section
variable {c : Ck} {p : Pk} {X : Cx} {G0 H0 G G' H H' : Hp} {L : Lk} {r : Env} {σ : St} {Dn : Ends} {s : S} {x : Stmt} {l : List Stmt} {e : E}
theorem s_par {i j : Nat} {n m : Str} {a b : E} {px py pt pt2 pos : Pos} {kt k2 : Nat} {u v : Expr} (O : SOk c p X) (hi : slotB c.N i n = true) (hj : slotB c.N j m = true) (ln : pureLoc X.env.scope n = true) (lm : pureLoc X.env.scope m = true)
    (hij : (i == j) = false) (hnm : (n == m) = false) (hl : (px.line == py.line) = true) (ha : chk c a X.env.scope u = true) (hb : chk c b X.env.scope v = true) (f1 : (foldedForSure 8 u && foldedForSure 8 v) = false) (f2 : (constantsAlone 8 u && constantsAlone 8 v) = false) :
    PS X (.Assign [.Tuple [.Name n px, .Name m py] kt pt] (.Tuple [u, v] k2 pt2) pos) (tS p (.par i j a b)) := by
  have loc : ∀ {n : Str}, pureLoc X.env.scope n = true → X.env.scope.names.lookup n = some .local := fun {n} h => by
    unfold pureLoc at h
    split at h
    · assumption
    · cases h
  have hbk : X.env.blockKind = .function := by unfold Env.blockKind; rw [O.kind]; rfl
  have g := a_cons (pl ha) ((good a).pr ha O.toXOk) (a_cons (pl hb) ((good b).pr hb O.toXOk) a_nil.1)
  refine psImp (ps_par O.calm (by rw [O.N]; exact O.nd) (by rw [O.N]; exact slotB_of hi) (by rw [O.N]; exact slotB_of hj) (beq_eq_false_iff_ne.mp hij) (loc ln) (loc lm) g (par_sw (ts := []) hbk (loc ln) (loc lm) hnm hl (pl ha) (pl hb) f1 f2))
    fun D σ H ⟨G0, H0, L, G, r, S, hL, w⟩ => ?_
  obtain ⟨G1, _, S1⟩ := S.frzL (esc p.o a ++ esc p.o b)
  have fz : AllFrz (esc p.o (.cons a (.cons b .nil))) (frzL r (esc p.o a ++ esc p.o b)) := fun k hk => frzL_all _ r k (by simpa [esc] using hk)
  have w1 := WpS.bind w
  refine ⟨G1, _, S1.env, fz, ?_⟩
  have ee : evs p.o (frzL r (esc p.o a ++ esc p.o b)) (.cons a (.cons b .nil)) = (ev p.o r a >>= fun x => ev p.o r b >>= fun y => R.ok [x, y]) := by
    show (ev p.o (frzL r _) a >>= fun x => (ev p.o (frzL r _) b >>= fun y => ((R.ok [] : R (List Pu.D)) >>= fun z => pure (y :: z))) >>= fun xs => pure (x :: xs)) = _
    rw [ev_frz, ev_frz]
    cases ev p.o r a <;> first | rfl | skip
    cases ev p.o r b <;> rfl
  rw [ee]
  refine Wp.bind.mpr (w1.imp (fun _ _ z => z.mono S.sh) fun y w2 => Wp.bind.mpr ((WpS.bind w2).imp (fun _ _ z => z.mono S.sh) fun z w3 => ?_))
  intro G2 H2 vs g ra
  cases ra with
  | cons h1 t =>
    cases t with
    | cons h2 t =>
      cases t
      exact ⟨_, _, rfl, w3 G2 _ H2 (((S1.grow g).setRep h1 fun q hq z => hL q hq (by rw [z]; simp [assigns])).setRep h2 fun q hq z => hL q hq (by rw [z]; simp [assigns]))⟩
theorem s_put {i : Nat} {n : Str} {ix v : Expr} {k : E} {px ps pos : Pos} (O : SOk c p X) (hs : slotB c.N i n = true) (hv : visB X.env.scope n = true) (hk : okN n = true) (hi : chk c k X.env.scope ix = true) (h : chk c e X.env.scope v = true) :
    PS X (.Assign [.Subscript (.Name n px) ix ps] v pos) (tS p (.put i k e)) := by
  have base : PE X (.Name n px) (tVar i) := pe_var (by rw [O.N]; exact slotB_of hs) (visB_of hv) (okN_of hk).1 (okN_of hk).2.1
  have gx := pl hi
  have hg := pg_sub (pos := ps) base ((good k).pb hi O.toXOk) set_list (by cases ix <;> first | (cases gx; done) | (intro _; rfl))
  have sole : swapsWithSole [.Subscript (.Name n px) ix ps] v pos.line X.env = pure false := by
    unfold swapsWithSole
    cases q : isLC v with
    | false => exact swaps_good (chk_good h) q
    | true => cases v <;> first | rfl | (cases q; done)
  refine psImp (ps_asg ((good e).pr h O.toXOk) hg sole rfl rfl) fun D σ H ⟨G0, H0, L, G, r, S, hL, w⟩ => ?_
  obtain ⟨G1, S1, fz, w1⟩ := ahead (α := Unit) S (esc p.o e ++ esc p.o k) (fun _ h => List.mem_append_left _ h) w
  refine ⟨G1, _, S1.env, fz, w1.imp (fun _ _ z => z) fun d w2 G2 H2 v g rr => ?_⟩
  have S2 := S1.grow g
  obtain ⟨xs, e1, w3⟩ := ownL_of (WpS.bind w2)
  obtain ⟨a, ys, h1, h2, h3, ra⟩ := S2.mine e1
  refine ⟨.ref a, h1, ?_⟩
  have w4 := WpS.bind w3
  rw [← ev_frz p.o k r (esc p.o e ++ esc p.o k)] at w4
  refine ⟨G2, _, S2.env, fun j hj => frzL_all _ r j (List.mem_append_right _ (escB_sub hj)), w4.imp (fun _ _ z => z.mono S2.sh) fun kd w5 G3 H3 u g3 rb => ?_⟩
  cases kd <;> first | exact False.elim w5 | skip
  rename_i nn
  have eu := rb.int
  subst eu
  obtain ⟨j, hj, w6⟩ := Wp.ofO (WpS.bind (x := ofO (Pu.ixN xs.length nn)) w5)
  have S3 := S2.grow g3
  obtain ⟨a', ys', h1', h2', h3', ra'⟩ := S3.mine e1
  rw [h1] at h1'
  cases h1'
  exact ⟨a, ys', nn, j, rfl, rfl, h3', by rw [ra'.length]; exact hj, w6 G3 σ _ (S3.put e1 h1 h3' h2' (ra'.set (Rep.mono g3.sg _ _ rr)))⟩
theorem s_app {i : Nat} {n : Str} {v : Expr} {px ap cp pos : Pos} (O : SOk c p X) (hs : slotB c.N i n = true) (hv : visB X.env.scope n = true) (hk : okN n = true) (h : chk c e X.env.scope v = true) (hl : (ap.endLine == cp.line) = true) :
    PS X (.Expr (.Call (.Attribute (.Name n px) (Str.ofString "append") ap) [v] [] cp) pos) (tS p (.app i e)) := by
  have base : PE X (.Name n px) (tVar i) := pe_var (by rw [O.N]; exact slotB_of hs) (visB_of hv) (okN_of hk).1 (okN_of hk).2.1
  have gx := pl h
  have hp := pe_bm (apos := ap) (cpos := cp) PySem.F.plainAttrs_list PySem.F.slot_list_append PySem.F.type_list_append mt_append base (a_cons gx ((good e).pr h O.toXOk) a_nil.1) rfl (by rw [starEach_plain gx]; rfl) hl (starEach_plain gx) rfl
  refine psImp (ps_expr hp rfl) fun D σ H ⟨G0, H0, L, G, r, S, hL, w⟩ => ?_
  obtain ⟨xs, e1, w3⟩ := ownL_of (WpS.bind w)
  obtain ⟨G1, _, S1⟩ := S.frzL (esc p.o e)
  obtain ⟨a, ys, h1, h2, h3, ra⟩ := S1.mine e1
  have w4 := WpS.bind w3
  rw [← ev_frz p.o e r (esc p.o e)] at w4
  refine ⟨.ref a, h1, .inl ⟨rfl, ys, .of h3⟩, G1, _, S1.env, fun j hj => frzL_all _ r j (by simpa [esc] using hj), ?_⟩
  have ee : evs p.o (frzL r (esc p.o e)) (.cons e .nil) = (ev p.o (frzL r (esc p.o e)) e >>= fun x => R.ok [x]) := by
    show (ev p.o (frzL r _) e >>= fun x => (R.ok [] : R (List Pu.D)) >>= fun z => pure (x :: z)) = _
    rfl
  rw [ee]
  refine Wp.bind.mpr (w4.imp (fun _ _ z => z.mono S.sh) fun y w5 => ?_)
  intro G3 H3 us g3 rb
  cases rb with
  | cons r1 t =>
    cases t
    have S3 := S1.grow g3
    obtain ⟨a', ys', h1', h2', h3', ra'⟩ := S3.mine e1
    rw [h1] at h1'
    cases h1'
    by_cases hz : xs.length < lim
    · rw [if_pos hz] at w5
      exact ⟨a, ys', _, rfl, rfl, h3', by rw [ra'.length, ← lim_eq]; exact hz, w5 G3 σ _ (S3.put e1 h1 h3' h2' (ra'.append (.cons r1 .nil)))⟩
    · rw [if_neg hz] at w5; exact False.elim w5
theorem s_pop {i : Nat} {n : Str} {px ap cp pos : Pos} (O : SOk c p X) (hs : slotB c.N i n = true) (hv : visB X.env.scope n = true) (hk : okN n = true) (hl : (ap.endLine == cp.line) = true) :
    PS X (.Expr (.Call (.Attribute (.Name n px) (Str.ofString "pop") ap) [] [] cp) pos) (tS p (.pop i)) := by
  have base : PE X (.Name n px) (tVar i) := pe_var (by rw [O.N]; exact slotB_of hs) (visB_of hv) (okN_of hk).1 (okN_of hk).2.1
  have hp := pe_bm0 (apos := ap) (cpos := cp) PySem.F.plainAttrs_list PySem.F.slot_list_pop PySem.F.type_list_pop mt_pop base rfl hl
  refine psImp (ps_expr hp rfl) fun D σ H ⟨G0, H0, L, G, r, S, hL, w⟩ => ?_
  obtain ⟨xs, e1, w3⟩ := ownL_of (WpS.bind w)
  obtain ⟨a, ys, h1, h2, h3, ra⟩ := S.mine e1
  by_cases hz : xs = []
  · rw [if_pos hz] at w3; exact False.elim w3
  · rw [if_neg hz] at w3
    have hy : ys.length - 1 < ys.length := by
      rw [ra.length]
      cases xs with
      | nil => exact absurd rfl hz
      | cons _ _ => simp
    exact ⟨.ref a, h1, .inl ⟨rfl, ys, .of h3⟩, a, ys, ys[ys.length - 1], rfl, rfl, h3, List.getElem?_eq_getElem hy, w3 G σ _ (S.put e1 h1 h3 h2 ra.dropLast)⟩
theorem s_clr {i : Nat} {n : Str} {px ap cp pos : Pos} (O : SOk c p X) (hs : slotB c.N i n = true) (hv : visB X.env.scope n = true) (hk : okN n = true) (hl : (ap.endLine == cp.line) = true) :
    PS X (.Expr (.Call (.Attribute (.Name n px) (Str.ofString "clear") ap) [] [] cp) pos) (tS p (.clr i)) := by
  have base : PE X (.Name n px) (tVar i) := pe_var (by rw [O.N]; exact slotB_of hs) (visB_of hv) (okN_of hk).1 (okN_of hk).2.1
  have hp := pe_bm0 (apos := ap) (cpos := cp) PySem.F.plainAttrs_list PySem.F.slot_list_clear PySem.F.type_list_clear mt_clear base rfl hl
  refine psImp (ps_expr hp rfl) fun D σ H ⟨G0, H0, L, G, r, S, hL, w⟩ => ?_
  obtain ⟨xs, e1, w3⟩ := ownL_of (WpS.bind w)
  obtain ⟨a, ys, h1, h2, h3, ra⟩ := S.mine e1
  exact ⟨.ref a, h1, .inl ⟨rfl, ys, .of h3⟩, a, ys, rfl, rfl, h3, w3 G σ _ (S.put e1 h1 h3 h2 .nil)⟩
theorem s_expr {v : Expr} {pos : Pos} (O : SOk c p X) (h : chk c e X.env.scope v = true) (nl : isLC v = false) : PS X (.Expr v pos) (tS p (.expr e)) := by
  refine psImp (ps_expr ((good e).pb h O.toXOk) (swaps_good (chk_good h) nl)) fun D σ H ⟨G0, H0, L, G, r, S, hL, w⟩ => ?_
  obtain ⟨G1, _, S1⟩ := S.frzL (escB p.o e)
  refine ⟨G1, _, S1.env, frzL_all _ r, ?_⟩
  rw [ev_frz]
  exact (WpS.bind w).imp (fun _ _ z => z.mono S.sh) fun d w2 G2 H2 u g rb => w2 G2 _ H2 (S1.grow g)
theorem s_ite {t : Expr} {a b : S} {xs ys : List Stmt} {pos : Pos} (O : SOk c p X) (h : chk c e X.env.scope t = true) (ha : PSs X xs (tS p a)) (hb : PSs X ys (tS p b)) : PS X (.If t xs ys pos) (tS p (.ite e a b)) := by
  refine psImp (ps_if ((good e).pt h O.toXOk) ha hb) fun D σ H ⟨G0, H0, L, G, r, S, hL, w⟩ => ?_
  obtain ⟨G1, _, S1⟩ := S.frzL (escB p.o e)
  refine ⟨G1, _, S1.env, frzL_all _ r, ?_⟩
  rw [ev_frz]
  refine (WpS.bind w).imp (fun _ _ z => z.mono S.sh) fun d w2 => ?_
  cases d <;> first | exact False.elim w2 | skip
  rename_i k
  refine ⟨k, rfl, fun G2 H2 g => ?_⟩
  cases k with
  | true =>
    rw [if_pos rfl]
    exact ⟨G0, H0, L, G2, _, S1.grow g, fun q hq z => hL q hq (by simp only [assigns]; exact List.mem_append_left _ z), w2⟩
  | false =>
    rw [if_neg Bool.false_ne_true]
    exact ⟨G0, H0, L, G2, _, S1.grow g, fun q hq z => hL q hq (by simp only [assigns]; exact List.mem_append_right _ z), w2⟩
theorem s_retN {pos : Pos} : PS X (.Return none pos) (tS p .retN) := psImp ps_retN fun D σ H ⟨G0, H0, L, G, r, S, hL, w⟩ => w G H .non (Grow.ofSt S) (.of .non (.inr rfl))
theorem s_brk {pos : Pos} : PS X (.Break pos) (tS p .brk) := psImp ps_break fun D σ H ⟨G0, H0, L, G, r, S, hL, w⟩ => w G σ H S
theorem s_cont {pos : Pos} : PS X (.Continue pos) (tS p .cont) := psImp ps_continue fun D σ H ⟨G0, H0, L, G, r, S, hL, w⟩ => w G σ H S
theorem s_next {x : Stmt} (h : PS X x tNext) : PS X x (tS p .skip) := psImp h fun D σ H ⟨G0, H0, L, G, r, S, hL, w⟩ => w G σ H S
theorem s_raise {k : String} {n m : Str} {p1 p2 p3 pos : Pos} {j : Nat} (O : SOk c p X) (hx : c.isX k = true) (hn : gN X.env.scope k n = true) : PS X (.Raise (some (.Call (.Name n p1) [.Constant (.str m) j p2] [] p3)) none pos) (tS p (.raise k)) := by
  obtain ⟨C, h1, E⟩ := O.exc k hx
  obtain ⟨e1, e2, e3⟩ := gN_of hn
  subst e1
  refine psImp (ps_raise O.calm O.takes (pmk_own PySem.F.excBase_ValueError E.q E.gC E.kC E.r e2 (okN_of e3).1)) fun D σ H ⟨G0, H0, L, G, r, S, hL, w⟩ => ?_
  exact w H C none S.sh ⟨h1, rfl⟩
/-- what comes out, seen from the entry -/
theorem Out.from {K : PySem.W.Frag} {cl : Cl} {fr : Bool} {G' H0 H H' : Hp} {v : V} {d : D} (s : Same H0 H) (h : Out K cl fr G' H H' v d) : Out K cl fr G' H0 H' v d := by
  unfold Out at h ⊢
  by_cases cc : fr = true ∧ d.isL = true
  · rw [if_pos cc] at h ⊢
    exact ⟨h.1, fun a ea => s.free (h.2 a ea)⟩
  · rw [if_neg cc] at h ⊢
    exact h
theorem s_ret {v : Expr} {pos : Pos} (O : SOk c p X) (h : chk c e X.env.scope v = true) : PS X (.Return (some v) pos) (tS p (.ret e)) := by
  by_cases hv : ∃ i, e = .var i
  · obtain ⟨i, rfl⟩ := hv
    obtain ⟨n, pp, rfl, h1, h2, h3⟩ := inv_var h
    have base : PE X (.Name n pp) (tVar i) := pe_var (by rw [O.N]; exact slotB_of h1) (visB_of h2) (okN_of h3).1 (okN_of h3).2.1
    refine psImp (ps_ret base) fun D σ H ⟨G0, H0, L, G, r, S, hL, w⟩ => ?_
    obtain ⟨fl, d, e1, w1⟩ := wpGet (WpS.bind w)
    by_cases ho : isOwn r i = true
    · have hfl : fl = .own := by
        unfold isOwn at ho
        rw [e1] at ho
        cases fl <;> first | rfl | cases ho
      subst hfl
      obtain ⟨u, g1, g2⟩ := S.env.cell i .own d e1
      refine ⟨u, g1, ?_⟩
      have w2 : WpS p G0 H0 L D (.ok (r, .ret true d)) := by
        have : (isFresh p.o (.var i) || isOwn r i) = true := by rw [ho]; rfl
        have w3 : WpS p G0 H0 L D (.ok (r, .ret (isFresh p.o (.var i) || isOwn r i) d)) := w1
        rw [this] at w3; exact w3
      refine w2 G H u (Grow.ofSt S) ?_
      have g3 : OwnRep p.K p.cl G H u d := g2
      unfold Out
      have hd : d.isL = true := by
        obtain ⟨_, _, _, _, e4, _⟩ := g3
        rw [e4]; rfl
      rw [if_pos ⟨rfl, hd⟩]
      exact ⟨g3, fun a ea => S.own i .own d a e1 (by decide) (by rw [g1, ea])⟩
    · obtain ⟨G1, _, S1⟩ := S.frzAt i
      have e2 : (frzAt r i)[i]? = some (some (.frz, d)) := by
        unfold frzAt
        rw [e1]
        simp only
        rw [List.getElem?_set_self (get_lt e1)]
      obtain ⟨u, g1, g2⟩ := S1.env.cell i .frz d e2
      refine ⟨u, g1, ?_⟩
      have w2 : WpS p G0 H0 L D (.ok (r, .ret false d)) := by
        have : (isFresh p.o (.var i) || isOwn r i) = false := by
          have : isOwn r i = false := by simpa using ho
          rw [this]; rfl
        have w3 : WpS p G0 H0 L D (.ok (r, .ret (isFresh p.o (.var i) || isOwn r i) d)) := w1
        rw [this] at w3; exact w3
      exact w2 G1 H u (Grow.ofSt S1) (.of g2 (.inl rfl))
  · refine psImp (ps_ret ((good e).pe h O.toXOk)) fun D σ H ⟨G0, H0, L, G, r, S, hL, w⟩ => ?_
    obtain ⟨G1, S1, fz, w1⟩ := ahead (α := Unit) S (esc p.o e) (fun _ h => h) w
    refine ⟨G1, _, S1.env, fz, w1.imp (fun _ _ z => z) fun d w2 G2 H2 u g o => ?_⟩
    have w3 : WpS p G0 H0 L D (.ok (r, .ret (isFresh p.o e) d)) := by
      clear w1 S1 fz w S o g
      revert w2
      cases e <;> first | exact absurd ⟨_, rfl⟩ hv | (intro w2; exact w2) | (intro w2; have w4 : WpS p G0 H0 L D (.ok (r, .ret (isFresh p.o _ || false) d)) := w2; rw [Bool.or_false] at w4; exact w4)
    exact w3 G2 H2 u ((Grow.ofSt S1).trans g) (o.from S1.sh)
end
end Pu

/-! A try whose clause keeps the exception. -/
namespace Pu
open PySem PySem.Spec PyProof.Rows L2
section
variable {X : Cx} {pins : List (Addr × Obj)} {σ : L2.St} {H : Hp} {sI s s' : Shared} {B : Heap} {a C : Addr} {oe : Obj} {vs : Array Value}
/-- the exception's object, from now on tracked -/
theorem exV_ok {P : Program} {w : World} {h : Heap} (k : HOk P w H h) (n : H a = none) (he : h.get? a = some oe) (hz : Zc (.ref C) none oe) (hd : oe.data = .fields vs) : HOk P w (upd H a (ExV C a)) h := fun b u e => by
  by_cases q : b = a
  · subst q; rw [upd_same] at e; cases e
    exact ⟨⟨oe, vs, he, hz, hd⟩, ⟨oe, he⟩, fun h1 h2 ⟨o, v, e1, z, d⟩ kk => ⟨o, v, kk o e1, z, d⟩⟩
  · rw [upd_ne q] at e
    exact (k b u e).stay (fun _ _ _ z => z) (fun c z => by rw [upd_ne (ne_of_none z n)]; exact z) fun c xs z => by rw [upd_ne (ne_of_none z n)]; exact z
theorem landedX (I : Inv X pins σ H sI) (nb : ∀ b o, sI.heap.get? b = some o → b ∉ frs X.stack → B.get? b = some o) (st : B.StaysIn s'.heap) (up : sI.heap.UpToSlots s'.heap) (os : s'.os = sI.os) (ag : AllBare s'.gens)
    (hB : B.get? a = none) (hn : H a = none) (nf : a ∉ frs X.stack) (he : s'.heap.get? a = some oe) (hz : Zc (.ref C) none oe) (hd : oe.data = .fields vs) : Inv X pins σ (upd H a (ExV C a)) s' := by
  have fr : ∀ b ∈ frs X.stack, ∀ o, sI.heap.get? b = some o → ∃ sl, s'.heap.get? b = some { o with slots := sl } := fun b hb o e =>
    match I.stack.mem hb with
    | ⟨_, o', e', hd'⟩ => up b o e fun vs' z => by have e2 := e'.symm.trans e; cases e2; exact hd' vs' z
  have new : sI.heap.get? a = none := by
    cases q : sI.heap.get? a with
    | none => rfl
    | some o => have := nb a o q nf; rw [hB] at this; cases this
  have un : Un (frs X.stack) [] H (upd H a (ExV C a)) sI.heap s'.heap := {
    keep := fun b o e _ hb _ => st b o (nb b o e hb)
    slot := fun b o e _ hb _ => fr b hb o e
    free := fun b o e n _ => by rw [upd_ne (fun z => by rw [z, new] at e; cases e)]; exact n
    there := fun b o e _ => (Classical.em (b ∈ frs X.stack)).elim (fun hb => (fr b hb o e).elim fun _ q => ⟨_, q⟩) fun hb => ⟨o, st b o (nb b o e hb)⟩
    tups := fun b xs e => by rw [upd_ne (ne_of_none e hn)]; exact e
    frzs := fun b o u e => by rw [upd_ne (ne_of_none e hn)]; exact e
    tbls := fun b ps e => ⟨#[], by rw [upd_ne (ne_of_none e hn), e]; simp⟩ }
  have J := I.call (h' := s'.heap) (g' := s'.gens) (t' := s'.toks) (d' := s'.drawn) un (exV_ok ((I.inGround nb).kept st) hn he hz hd) ag fun _ z => nomatch z
  obtain ⟨a1, a2, a3, a4, a5⟩ := s'
  have os : a5 = sI.os := os
  subst os
  exact J
end
/-- what the clause wishes of an exception of the body: slot i is its name's -/
def wKeep (K : PySem.W.Frag) (c : Value) (i : Nat) (ts : Addr → TS) (Wout : WX) (D : Ends) : WX := fun cls d σ H => ∃ b, PySem.W.exmOne K cls c = some b ∧ (b = false → Wout cls d σ H) ∧
  (b = true → d = none ∧ ∃ C, cls = .ref C ∧ ∀ a, H a = none → ts a { nx := fun σ' H' => D.nx (σ'.set i none) H', rt := D.rt, bk := fun σ' H' => D.bk (σ'.set i none) H', ct := fun σ' H' => D.ct (σ'.set i none) H' } (σ.set i (some (.ref a))) (upd H a (ExV C a)))
def xeOf (X : Cx) (hs : List ExceptHandler) (pins : List (Addr × Obj)) (D : Ends) (e : Value) (s1 : Shared) : Prop :=
  wpAny (model X.prog X.w) X.A (noteFrame e X.env) (fun _ s2 => wpAny (model X.prog X.w) X.A (setFlight e none) (fun _ s3 => wpAny (model X.prog X.w) X.A (handleBy e X.env hs) (SP X pins D) X.xe s3) X.xe s2) X.xe s1
section
variable {X : Cx} {x n : Str} {c : Value} {i : Nat} {body suite : List Stmt} {b₀ : Stmt} {np pos pos' : Pos} {tb : WX → TS} {ts : Addr → TS} {Wout : WX} {D : Ends} {pins : List (Addr × Obj)}
theorem keep_catch (ok : X.Ok) (hs : X.stack = X.env :: X.outer) (hf : X.env.frame = some X.env.locals) (hN : X.N.Nodup) (hi : X.N[i]? = some n) (hln : X.env.kindOf n = some .local) (hg : Gl X x) (hdb : (x == ("__debug__" : Str)) = false) (hm : X.mg x = some c) (tk : Takes X Wout)
    (hsu : ∀ (a : Addr) (pn : List (Addr × Obj)), PSs (X.suite a pn) (b₀ :: suite) (ts a)) (hft : X.fn n = true) {xe : Value → Shared → Prop} {u : Value} {s' : Shared} (xx : XE (X.tr (X.pn ++ pins) xe) (wKeep X.K c i ts Wout D) u s') :
    xeOf X [.ExceptHandler (some (.Name x np)) (some n) (b₀ :: suite) pos'] pins D u s' := by
  obtain ⟨a, B, sI, pins', σ', H', cls, d, rfl, J', nb, up, sky, na, os, ag, b, hb1, hno, hyes⟩ := xx
  have J : Inv X pins σ' H' sI := J'.ofTry ok
  have hfr : X.A.frames = some (X.env :: X.outer) := hs ▸ ok.frames
  have sky' : Sky B (X.env :: X.outer) a (Zc cls d) X.env.locals s'.heap := hs ▸ sky
  unfold xeOf; refine Sky.land Zc.steady hfr hf sky' fun h3 fl3 up3 => ?_
  have J3 := J.landed (s' := { s' with heap := h3 }) nb fl3.1 (up.trans up3) os ag
  obtain ⟨oe3, vs3, he3, hz3, hd3⟩ := fl3.there
  have nfr : a ∉ frs X.stack := fun hm => by
    rw [hs] at hm; obtain ⟨_, o', e', hnf⟩ := fl3.2.2.1.mem hm
    have := he3.symm.trans e'; cases this; exact hnf _ hd3
  have nL : a ≠ X.env.locals := fun z => nfr (by rw [hs]; exact List.mem_filterMap.mpr ⟨_, List.mem_cons_self, hf.trans (by rw [z])⟩)
  have nF : a ∉ X.fs := fun hm => (List.mem_filterMap.mp hm).elim fun e he => nfr (by rw [hs]; exact List.mem_filterMap.mpr ⟨e, List.mem_cons_of_mem _ he.1, he.2⟩)
  have S3 := J3.suite he3 hd3 na nL nF
  have LM := PySem.W.exm_one (M := model X.prog X.w) J3.kIn (fun A Q E s k q => wpAny_typeOf_ref (k _ _ he3) (by rw [hz3.1]; exact q)) hb1
  refine wpAny_handleBy_cons (codeAny_handlers_test (ld_glob (X := X.suite a ((a, oe3) :: (X.pn ++ pins))) S3 hg hm (LM.here ?_) hdb)) (by intro q; cases q)
  cases b with
  | false =>
    refine (show wpAny _ X.A (handleBy (.ref a) X.env []) _ _ _ from wpAny_handleBy_nil ?_)
    obtain ⟨_, _, _, oe, vs, T, oT, ts', he, hz, hd, h1, hr⟩ := id fl3
    unfold PySem.passOn; refine wpAny_bind (wpAny_field he hd h1 ?_)
    rw [if_neg (by simp : ¬ (Value.ref T == Value.none) = true)]
    have fin : wpAny (model X.prog X.w) X.A (setFlight (.ref a) X.env.frame) (fun _ s4 => wpAny (model X.prog X.w) X.A (throw (.ref a) : Sem Flow) (SP X pins D) X.xe s4) X.xe { s' with heap := h3 } := hf ▸ HandSPX.setFlight_upZ fl3 fun h4 hh4 up4 =>
      wpAny_throw (tk _ _ ⟨a, B, sI, pins, σ', H', cls, d, rfl, J, nb, (up.trans up3).trans up4, .inr (.inr (hs ▸ hh4)), na, os, ag, hno rfl⟩)
    first
      | exact wpAny_bind (wpAny_pure (wpAny_bind fin))
      | exact wpAny_bind fin
  | true =>
    obtain ⟨ed, C, ec, hy⟩ := hyes rfl
    subst ed ec
    refine codeAny_handlers_suite_as (HandSPX.lands_againZ fl3 fun h4 fl4 up4 => ?_)
    obtain ⟨oe4, vs4, he4, hz4, hd4⟩ := fl4.there
    have J4 := landedX (s' := { s' with heap := h4 }) J nb fl4.1 ((up.trans up3).trans up4) os ag fl4.2.1 na nfr he4 hz4 hd4
    have S4 : Inv (X.suite a (X.pn ++ pins)) [] σ' (upd H' a (ExV C a)) { s' with heap := h4 } :=
      ⟨J4.ok.suite _ _, J4.os, J4.bare, J4.base, J4.loc, J4.cell, J4.free, J4.freeC, fun p hp => J4.pin p (by rw [List.append_nil] at hp; exact hp), J4.hok, J4.len⟩
    have un : ∀ {σ6 : L2.St} {H6 : Hp} {s6 : Shared}, Inv (X.suite a (X.pn ++ pins)) [] σ6 H6 s6 → Inv X pins σ6 H6 s6 := fun I6 =>
      ⟨ok, I6.os, I6.bare, I6.base, I6.loc, I6.cell, I6.free, I6.freeC, fun p hp => I6.pin p (by rw [List.append_nil]; exact hp), I6.hok, I6.len⟩
    refine store_ok (X := X.suite a (X.pn ++ pins)) (v := .ref a) S4 hN hi (.inl hln) rfl (fun s5 S5 => ?_) (.inl hft)
    refine wpAny_mono ((hsu a (X.pn ++ pins)).run [] s5 _ _ _ S5 (hy a na)) (fun f s6 hsp => ?_) fun _ _ z => False.elim z
    have end_ : ∀ {σ6 : L2.St} {H6 : Hp} {Q : Shared → Prop}, Inv (X.suite a (X.pn ++ pins)) [] σ6 H6 s6 → (∀ s7, Inv X pins (σ6.set i none) H6 s7 → Q s7) → wpAny (model X.prog X.w) X.A (do bindName X.env n .none; unbindBehindTheSuite X.env n pos') (fun _ s7 => Q s7) X.xe s6 :=
      fun S6 hq => gone_ok (un S6) hN hi hln hq
    cases f with
    | next => exact hsp.elim fun σ6 h => h.elim fun H6 h => end_ h.1 fun s7 J7 => ⟨_, _, J7, h.2⟩
    | brk => exact hsp.elim fun σ6 h => h.elim fun H6 h => end_ h.1 fun s7 J7 => ⟨_, _, J7, h.2⟩
    | cont => exact hsp.elim fun σ6 h => h.elim fun H6 h => end_ h.1 fun s7 J7 => ⟨_, _, J7, h.2⟩
    | ret u => exact hsp.elim fun v6 h => h.elim fun σ6 h => h.elim fun H6 h => end_ h.1 fun s7 J7 => ⟨_, _, _, J7, h.2.1, h.2.2⟩
theorem ps_keep (hs : X.stack = X.env :: X.outer) (hf : X.env.frame = some X.env.locals) (hN : X.N.Nodup) (hi : X.N[i]? = some n) (hln : X.env.kindOf n = some .local) (hg : Gl X x) (hdb : (x == ("__debug__" : Str)) = false) (hm : X.mg x = some c) (tk : Takes X Wout)
    (hb : ∀ (W : WX) (pn : List (Addr × Obj)) (xe : Value → Shared → Prop), Takes (X.tr pn xe) W → PSs (X.tr pn xe) body (tb W)) (hsu : ∀ (a : Addr) (pn : List (Addr × Obj)), PSs (X.suite a pn) (b₀ :: suite) (ts a)) (hft : X.fn n = true) :
    PS X (.Try body [.ExceptHandler (some (.Name x np)) (some n) (b₀ :: suite) pos'] [] [] pos) (fun D σ H => tb (wKeep X.K c i ts Wout D) D σ H) := by
  refine ⟨fun pins s σ H D I h => wpAny_Try_except ?_⟩
  have ok := I.ok
  refine wpAny_mono ((hb (wKeep X.K c i ts Wout D) (X.pn ++ pins) (xeOf X [.ExceptHandler (some (.Name x np)) (some n) (b₀ :: suite) pos'] pins D) fun u s' xx => keep_catch ok hs hf hN hi hln hg hdb hm tk hsu hft xx).run [] s σ H D (I.toTry _) h) (fun f s1 hsp => ?_) fun _ _ he => he
  cases f with
  | next => exact hsp.elim fun σ' h => h.elim fun H' h => wpAny_execs_nil ⟨σ', H', h.1.ofTry ok, h.2⟩
  | brk => exact hsp.elim fun σ' h => h.elim fun H' h => ⟨σ', H', h.1.ofTry ok, h.2⟩
  | cont => exact hsp.elim fun σ' h => h.elim fun H' h => ⟨σ', H', h.1.ofTry ok, h.2⟩
  | ret u => exact hsp.elim fun v h => h.elim fun σ' h => h.elim fun H' h => ⟨v, σ', H', h.1.ofTry ok, h.2.1, h.2.2⟩
end
/-! ### a call that may raise, wished for at the slots -/
section
variable {c : Ck} {p : Pk} {X : Cx} {G0 H0 G G' H H' : Hp} {L : Lk} {r : Env} {σ : L2.St} {e : E} {x : Expr} {pos : Pos}
theorem FnK.at {f : String} {fa : Addr} (h : FnK X p f fa) {We : XK} (hx : PassesAt (L2.CX X.prog X.w) X σ We) {pins : List (Addr × Obj)} {s : Shared} {vs : List V} {us : List Value} {Q : VK} {ds : List D} (I : Inv X pins σ H s) (rv : Vals vs us) (sg : Same G H) (ra : RepA p.K p.cl G vs ds)
    (w : Wp (Pk.W { p with E := We } H) (p.o.call f ds) fun d => ∀ G' H' v, Grow G H G' H' → Out p.K p.cl (p.o.fresh f) G' H H' v d → Q v H') : wpAny (model X.prog X.w) X.A (call (.ref fa) us) (EP X pins σ Q) X.xe s := by
  obtain ⟨fd, ps, k, F, hr, hb⟩ := h.ok
  exact run_fnS (E := fun _ => We) F hr hb hx I rv ⟨G, ds, sg, ra, w⟩
def tVS (p : Pk) (We : L2.St → XK) (f : String) (es : E) : TE := fun σ H Q => ∃ G r, EnvRep p.K p.cl G r σ H ∧ AllFrz (esc p.o (.call f es)) r ∧
  Wp ((quietP p).W H) (evs p.o r es) fun ds => Wp (Pk.W { p with E := We σ } H) (p.o.call f ds) fun d => ∀ G' H' v, Grow G H G' H' → Out p.K p.cl (p.o.fresh f) G' H H' v d → Q v H'
theorem e_callAt {f : String} {n : Str} {xs : List Expr} {es : E} {p1 : Pos} {We : L2.St → XK} (O : XOk c (quietP p) X) (hx : ∀ σ, PassesAt (L2.CX X.prog X.w) X σ (We σ)) (hf : c.isF f = true) (hn : gN X.env.scope f n = true) (gp : (x :: xs).all plainX = true)
    (ha : PA X (x :: xs) (tAr (quietP p) es)) (hb : PA X (x :: xs) (tAb (quietP p) es)) : PE X (.Call (.Name n p1) (x :: xs) [] pos) (tVS p We f es) := by
  obtain ⟨e1, e2, e3⟩ := gN_of hn
  subst e1
  obtain ⟨fa, hm, hK⟩ := O.call f hf
  have hK : FnK X p f fa := ⟨hK.kp, hK.ok⟩
  rw [List.all_cons, Bool.and_eq_true] at gp
  refine ⟨fun pins s σ H Q I ⟨G, r, R, f', w⟩ => wpAny_Call_Name_kw (ld_glob I e2 hm ?_ (okN_of e3).1)⟩
  by_cases hbo : p.o.bor f = true
  · have f2 : AllFrz (esc.escBs p.o es) r := by
      unfold esc at f'
      rw [if_pos hbo] at f'
      exact f'
    refine PySem.W.callWith_K (h₀ := X.base) I.ok.mod.kin hK.kp (thn (hb.run pos pins s σ H (fun vs H1 => ∃ ds G1, Grow G H G1 H1 ∧ RepBA p.K p.cl G1 H1 vs ds ∧ Wp (Pk.W { p with E := We σ } H1) (p.o.call f ds) fun d => ∀ G' H' v, Grow G H G' H' → Out p.K p.cl (p.o.fresh f) G' H H' v d → Q v H') I
      ⟨G, r, R, f2, Wp.imp w (fun _ _ z => z) fun ds q G1 H1 vs g1 r1 => ⟨ds, G1, g1, r1, Wp.imp q (fun _ _ z => Pk.W.mono g1.sh z) fun _ z => z⟩⟩) fun us s1 ⟨vs, H1, I1, rv, ds, G1, g1, r1, w1⟩ => ⟨I1.kIn, ?_⟩) (starEach_plain gp.1) (backTo_plain gp.2)
    have hl : ∀ q ∈ ownsOf G1 H1 vs, G1 q = none ∧ ∃ xs, H1 q = some (.lst xs) := fun q hq => mem_ownsOf hq
    have ra := repBA_add (vs := vs) (ds := ds) (ownsOf G1 H1 vs) (fun q hq => (hl q hq).1) (fun v hv q xs e n1 h2 => by subst e; exact ownsOf_mem hv n1 h2) r1
    refine hK.at (hx σ) (G := addL G1 H1 (ownsOf G1 H1 vs)) I1 rv (addL_sub g1.sub) ra ?_
    cases q : p.o.call f ds with
    | ok d =>
      rw [q] at w1
      intro G2 H2 v g2 o2
      obtain ⟨g3, o3⟩ := back_own hl g2 o2 (O.bor f ds d hbo q)
      exact w1 _ _ _ (g1.trans g3) (o3.back g1.sh)
    | exc k v => rw [q] at w1; exact w1
    | stuck => rw [q] at w1; exact w1
  · have f2 : AllFrz (esc p.o es) r := by
      unfold esc at f'
      rw [if_neg hbo] at f'
      exact f'
    refine PySem.W.callWith_K (h₀ := X.base) I.ok.mod.kin hK.kp (thn (ha.run pos pins s σ H (fun vs H1 => ∃ ds G1, Grow G H G1 H1 ∧ RepA p.K p.cl G1 vs ds ∧ Wp (Pk.W { p with E := We σ } H1) (p.o.call f ds) fun d => ∀ G' H' v, Grow G H G' H' → Out p.K p.cl (p.o.fresh f) G' H H' v d → Q v H') I
      ⟨G, r, R, f2, Wp.imp w (fun _ _ z => z) fun ds q G1 H1 vs g1 r1 => ⟨ds, G1, g1, r1, Wp.imp q (fun _ _ z => Pk.W.mono g1.sh z) fun _ z => z⟩⟩) fun us s1 ⟨vs, H1, I1, rv, ds, G1, g1, r1, w1⟩ => ⟨I1.kIn, ?_⟩) (starEach_plain gp.1) (backTo_plain gp.2)
    exact hK.at (hx σ) I1 rv g1.sub r1 (Wp.imp w1 (fun _ _ z => z) fun d q G2 H2 v g2 o2 => q G2 H2 v (g1.trans g2) (o2.back g1.sh))
theorem XOk.tr (O : XOk c p X) {pn : List (Addr × Obj)} {xe : Value → Shared → Prop} : XOk c (quietP p) (X.tr pn xe) where
  K := O.K
  N := O.N
  nd := O.nd
  calm := O.calm
  room := O.room
  mgB := O.mgB
  glob := O.glob
  call := fun f hf => let ⟨fa, h1, h2⟩ := O.call f hf; ⟨fa, h1, ⟨h2.kp, h2.ok⟩⟩
  new := fun k hk => let ⟨C, ns, h1, h2, h3, h4, h5⟩ := O.new k hk
    ⟨C, ns, h1, h2, match h3 with
      | .ini a b c d => .ini a b c d
      | .obj a b c d e => .obj a b c d e, h4, h5⟩
  fld := O.fld
  meth := fun k m ds => (O.meth k m ds).imp id fun ⟨f, C, ns, fa, h1, h2, h3, h4, h5, h6, h7, h8⟩ => ⟨f, C, ns, fa, h1, h2, h3, h4, h5, h6, h7, ⟨h8.kp, h8.ok⟩⟩
  pass := fun pins σ H s e s' I h => by
    obtain ⟨a, B, H', cls, d, _, _, _, _, _, _, _, hE⟩ := h
    exact hE.elim
  isC := O.isC
  bor := O.bor
/-- a slot that the evaluator holds nothing at -/
theorem StRep.forget {j : Nat} {v : Option V} (S : StRep p G0 H0 L G r σ H) (hr : ∀ fl d, r[j]? ≠ some (some (fl, d))) (hL : ∀ q ∈ L, q.1 ≠ j) : StRep p G0 H0 L G r (σ.set j v) H := by
  have ne : ∀ {i : Nat} {fl : Fl} {d : D}, r[i]? = some (some (fl, d)) → j ≠ i := fun {i fl d} e z => hr fl d (by rw [z]; exact e)
  refine ⟨⟨S.env.sub, by rw [List.length_set]; exact S.env.len, fun i fl d e => ?_, fun i k fi fk di dk u hik e1 e2 n1 n2 s1 s2 => ?_⟩, S.sg, S.sh, S.nw, fun i fl d a e n s => ?_, fun q hq => ?_⟩
  · obtain ⟨u, h1, h2⟩ := S.env.cell i fl d e
    exact ⟨u, by rw [List.getElem?_set_ne (ne e)]; exact h1, h2⟩
  · rw [List.getElem?_set_ne (ne e1)] at s1
    rw [List.getElem?_set_ne (ne e2)] at s2
    exact S.env.apart i k fi fk di dk u hik e1 e2 n1 n2 s1 s2
  · rw [List.getElem?_set_ne (ne e)] at s
    exact S.own i fl d a e n s
  · obtain ⟨h1, h2, h3, h4⟩ := S.lk q hq
    refine ⟨by rw [List.getElem?_set_ne (fun z => hL q hq z.symm)]; exact h1, h2, h3, fun i d e => ?_⟩
    rw [List.getElem?_set_ne (ne e)]
    exact h4 i d e
theorem Grow.exv {a C : Addr} (s : Same G H) (sh : Same H H') (hn : H' a = none) : Grow G H (upd G a (ExV C a)) (upd H' a (ExV C a)) := by
  have hH : H a = none := sh.free hn
  have hG : G a = none := s.free hH
  refine ⟨fun b u z => by rw [upd_ne (ne_of_none z hG)]; exact z, fun b u z => by rw [upd_ne (ne_of_none z hH)]; exact sh _ _ z, fun b u z => ?_, fun b hb => upd_ne fun z => hb (by rw [z]; exact hH)⟩
  by_cases q : b = a
  · subst q; rw [upd_same] at z ⊢; exact z
  · rw [upd_ne q] at z ⊢; exact sh _ _ (s _ _ z)
/-- what the clause does with the exception -/
theorem keep_read {Dn : Ends} {k : String} {w : D} {i j : Nat} {f : String} {es : E} {Ct : Addr} {cs : String} {G1 : Hp} (O : SOk c p X) (S1 : StRep p G0 H0 L G1 r σ H) (hi : ∀ q ∈ L, q.1 ≠ i) (hj : ∀ q ∈ L, q.1 ≠ j) (hij : i ≠ j)
    (ht : ∀ e C ns b, p.cl e = some (C, ns) → p.o.isx e cs = some b → PySem.W.exmOne X.K (.ref C) (.ref Ct) = some b)
    {r0 : Env} (hlr : r0.length = r.length) (w0 : WpS p G0 H0 L Dn (if w.isNon = true ∧ j < r0.length then (match p.o.isx k cs with
      | some true => pure ((r.set j none).set i (some (.frz, .exc k .non)), .nx)
      | some false => .exc k w
      | none => .stuck) else .stuck)) :
    Pk.W { p with E := WE (wKeep X.K (.ref Ct) j (fun _ => fun D σ H => tVar j σ H fun v H1 => D.nx (σ.set i (some v)) H1) (fun cls d _ H => p.E cls d H) Dn) σ } H k w := by
  by_cases hw : w.isNon = true ∧ j < r0.length
  · rw [if_pos hw] at w0
    obtain ⟨hw, hjr⟩ := hw
    have hw : w = .non := by cases w <;> first | rfl | cases hw
    subst hw
    intro H' C dx sh ⟨ex, ed⟩
    have ed : dx = none := ed
    subst ed
    obtain ⟨ns, ecl⟩ := O.exCl k C ex
    cases hb : p.o.isx k cs with
    | none => rw [hb] at w0; exact w0.elim
    | some b =>
      rw [hb] at w0
      refine ⟨b, ht k C ns b ecl hb, fun e => ?_, fun e => ?_⟩
      · subst e
        have w0 : p.W H0 k .non := w0
        exact w0 H' C none (S1.sh.trans sh) ⟨ex, rfl⟩
      · subst e
        refine ⟨rfl, C, rfl, fun a ha => ?_⟩
        have hlen := S1.env.len
        have g := Grow.exv (C := C) S1.env.sub sh ha
        have S2 := (S1.grow g).kill1 (i := j) hj
        have S3 := S2.setRep (i := i) (v := .ref a) (d := .exc k .non) (.exc ecl upd_same) hi
        have hr : ∀ fl d, (setV (r.set j none) i (.exc k .non))[j]? ≠ some (some (fl, d)) := fun fl d z => by
          unfold setV at z
          rw [List.getElem?_set_ne hij] at z
          rcases set_get z with ⟨_, _, z⟩ | ⟨z, _⟩
          · cases z
          · exact z rfl
        have S4 := S3.forget (j := j) (v := none) hr hj
        have w0 : ∀ G' σ' H', StRep p G0 H0 L G' ((r.set j none).set i (some (.frz, .exc k .non))) σ' H' → Dn.nx σ' H' := w0
        have hjl : j < σ.length := by omega
        have e4 : ((σ.set j (some (V.ref a))).set i (some (V.ref a))).set j none = (σ.set i (some (V.ref a))).set j none := by rw [List.set_comm _ _ (Ne.symm hij), List.set_set]
        refine ⟨.ref a, List.getElem?_set_self hjl, ?_⟩
        show Dn.nx (((σ.set j (some (V.ref a))).set i (some (V.ref a))).set j none) _
        rw [e4]
        exact w0 _ _ _ S4
  · rw [if_neg hw] at w0; exact w0.elim
theorem frzAt_len (r : Env) (i : Nat) : (frzAt r i).length = r.length := by
  unfold frzAt
  split
  · rw [List.length_set]
  · rfl
theorem frzL_len : ∀ (l : List Nat) (r : Env), (frzL r l).length = r.length
  | [], _ => rfl
  | i :: l, r => by
    show (frzL (frzAt r i) l).length = _
    rw [frzL_len l, frzAt_len]
/-- try: [y =] f(..) except k as n: m = n -/
theorem s_tryF {y : Option Nat} {f cs : String} {es : E} {i j : Nat} {b : Stmt} {cx n m n' : Str} {np pm pn' pa pos' : Pos} (O : SOk c p X) (h1 : slotB c.N j n = true) (h2 : pureLoc X.env.scope n = true) (h3 : slotB c.N i m = true) (h4 : locB X.env.scope m = true)
    (h5 : n' = n) (h6 : visB X.env.scope n = true) (h7 : okN n = true) (h8 : (i == j) = false) (h9 : c.isT cs = true) (h10 : gN X.env.scope cs cx = true)
    (hb : match y with
      | some y => (y == j) = false ∧ ∃ z v pz pb, b = .Assign [.Name z pz] v pb ∧ slotB c.N y z = true ∧ locB X.env.scope z = true ∧ chk c (.call f es) X.env.scope v = true ∧ isLC v = false
      | none => ∃ v pb, b = .Expr v pb ∧ chk c (.call f es) X.env.scope v = true ∧ isLC v = false) :
    PS X (.Try [b] [.ExceptHandler (some (.Name cx np)) (some n) [.Assign [.Name m pm] (.Name n' pn') pa] pos'] [] [] pos) (tS p (.tryF y f es j i cs)) := by
  subst h5
  obtain ⟨Ct, hmC, ht⟩ := O.tr cs h9
  obtain ⟨f1, f2, f3⟩ := gN_of h10
  subst f1
  have hN : X.N.Nodup := by rw [O.N]; exact O.nd
  have hj : X.N[j]? = some n' := by rw [O.N]; exact slotB_of h1
  have hi : X.N[i]? = some m := by rw [O.N]; exact slotB_of h3
  have hij : i ≠ j := beq_eq_false_iff_ne.mp h8
  have kl : X.env.kindOf n' = some .local := by
    unfold pureLoc at h2
    split at h2
    · assumption
    · cases h2
  have suite : ∀ (a : Addr) (pn : List (Addr × Obj)), PSs (X.suite a pn) [.Assign [.Name m pm] (.Name n' pn') pa] (fun D σ H => tVar j σ H fun v H1 => D.nx (σ.set i (some v)) H1) := fun a pn =>
    pss_one (ps_set (X := X.suite a pn) hN hi (locB_of h4) (pe_var (X := X.suite a pn) hj (visB_of h6) (okN_of h7).1 (okN_of h7).2.1) rfl (.inl (O.fnT m)))
  have call : ∀ {v : Expr}, chk c (.call f es) X.env.scope v = true → ∀ (W : WX) (pn : List (Addr × Obj)) (xe : Value → Shared → Prop), Takes (X.tr pn xe) W → PE (X.tr pn xe) v (tVS p (WE W) f es) := fun {v} hv W pn xe tk => by
    obtain ⟨n, p1, y, ys, pp, rfl, g1, g2, g3⟩ := inv_call hv
    exact e_callAt (X := X.tr pn xe) (c := c) O.toXOk.tr (fun σ => passAt tk σ) g2 g1 (chks_good g3) ((good es).pa (X := X.tr pn xe) g3 O.toXOk.tr) ((good es).pab (X := X.tr pn xe) g3 O.toXOk.tr)
  cases y with
  | some y =>
    obtain ⟨hyj, z, v, pz, pb, rfl, b1, b2, b3, b4⟩ := hb
    have hy : X.N[y]? = some z := by rw [O.N]; exact slotB_of b1
    refine psImp (ps_keep (tb := fun W D σ H => tVS p (WE W) f es σ H fun v H1 => D.nx (σ.set y (some v)) H1) O.stk O.frm hN hj kl f2 (okN_of f3).1 hmC O.takes
      (fun W pn xe tk => pss_one (ps_set (X := X.tr pn xe) hN hy (locB_of b2) (call b3 W pn xe tk) (swaps_good (chk_good b3) b4) (.inl (O.fnT z)))) suite (O.fnT n')) fun D σ H ⟨G0, H0, L, G, r, S, hL, w⟩ => ?_
    obtain ⟨G1, _, S1⟩ := S.frzL (esc p.o (.call f es))
    refine ⟨G1, _, S1.env, frzL_all _ r, ?_⟩
    rw [evs_frz]
    have w : WpS p G0 H0 L D (R.noX (evs p.o r es) >>= fun ds => _) := w
    cases hev : evs p.o r es with
    | stuck => rw [hev] at w; exact w.elim
    | exc k v => rw [hev] at w; exact w.elim
    | ok ds =>
      rw [hev] at w
      have w := WpS.bind w
      have w : WpS p G0 H0 L D (match p.o.call f ds with
        | .ok d => pure (setFl p.o r y (.call f es) d, .nx)
        | .exc k v => if v.isNon = true ∧ j < r.length then (match p.o.isx k cs with
          | some true => pure (((frzL r (esc p.o (.call f es))).set j none).set i (some (.frz, .exc k .non)), .nx)
          | some false => .exc k v
          | none => .stuck) else .stuck
        | .stuck => .stuck) := w
      show Wp _ (p.o.call f ds) _
      cases hc : p.o.call f ds with
      | stuck => rw [hc] at w; exact w.elim
      | exc k v =>
        rw [hc] at w
        exact keep_read (f := f) (es := es) O S1 (fun q hq z => hL q hq (by rw [z]; simp [assigns])) (fun q hq z => hL q hq (by rw [z]; simp [assigns])) hij ht (by rw [frzL_len]) w
      | ok d =>
        rw [hc] at w
        intro G2 H2 v g o
        have hi' : ∀ q ∈ L, q.1 ≠ y := fun q hq z => hL q hq (by rw [z]; simp [assigns])
        have S2 := S1.grow g
        have w2 : WpS p G0 H0 L D (.ok (setFl p.o r y (.call f es) d, .nx)) := w
        by_cases cc : p.o.fresh f = true ∧ d.isL = true
        · have w3 : WpS p G0 H0 L D (.ok ((frzL r (esc p.o (.call f es))).set y (some (.own, d)), .nx)) := by
            have : setFl p.o r y (.call f es) d = (frzL r (esc p.o (.call f es))).set y (some (.own, d)) := by unfold setFl; rw [if_pos (show isFresh p.o (.call f es) = true ∧ d.isL = true from cc)]
            rw [← this]; exact w2
          unfold Out at o
          rw [if_pos cc] at o
          refine w3 G2 _ H2 (S2.setOwn o.1 hi' fun a ea => ?_)
          have hn := o.2 a ea
          refine ⟨S.sh.free hn, fun j fl d' hj nf hs => ?_, fun q hq z => ?_⟩
          · obtain ⟨u, h1, h2⟩ := S1.env.cell j fl d' hj
            have h3 : OwnRep p.K p.cl G1 H u d' := by cases fl <;> first | exact absurd rfl nf | exact h2
            obtain ⟨b, xs, ds, e1, _, _, hh, _⟩ := h3
            rw [h1] at hs
            cases hs
            cases e1
            rw [hn] at hh; cases hh
          · have := (S1.lk q hq).2.1
            rw [z, hn] at this; cases this
        · have w3 : WpS p G0 H0 L D (.ok (setV (frzL r (esc p.o (.call f es))) y d, .nx)) := by
            have : setFl p.o r y (.call f es) d = setV (frzL r (esc p.o (.call f es))) y d := by unfold setFl setV; rw [if_neg (show ¬ (isFresh p.o (.call f es) = true ∧ d.isL = true) from cc)]
            rw [← this]; exact w2
          unfold Out at o
          rw [if_neg cc] at o
          exact w3 G2 _ H2 (S2.setRep o hi')
  | none =>
    obtain ⟨v, pb, rfl, b3, b4⟩ := hb
    refine psImp (ps_keep (tb := fun W D σ H => tVS p (WE W) f es σ H fun v H1 => D.nx σ H1) O.stk O.frm hN hj kl f2 (okN_of f3).1 hmC O.takes
      (fun W pn xe tk => pss_one (ps_expr (X := X.tr pn xe) (call b3 W pn xe tk) (swaps_good (chk_good b3) b4))) suite (O.fnT n')) fun D σ H ⟨G0, H0, L, G, r, S, hL, w⟩ => ?_
    obtain ⟨G1, _, S1⟩ := S.frzL (esc p.o (.call f es))
    refine ⟨G1, _, S1.env, frzL_all _ r, ?_⟩
    rw [evs_frz]
    have w : WpS p G0 H0 L D (R.noX (evs p.o r es) >>= fun ds => _) := w
    cases hev : evs p.o r es with
    | stuck => rw [hev] at w; exact w.elim
    | exc k v => rw [hev] at w; exact w.elim
    | ok ds =>
      rw [hev] at w
      have w := WpS.bind w
      have w : WpS p G0 H0 L D (match p.o.call f ds with
        | .ok d => pure (frzL r (esc p.o (.call f es)), .nx)
        | .exc k v => if v.isNon = true ∧ j < r.length then (match p.o.isx k cs with
          | some true => pure (((frzL r (esc p.o (.call f es))).set j none).set i (some (.frz, .exc k .non)), .nx)
          | some false => .exc k v
          | none => .stuck) else .stuck
        | .stuck => .stuck) := w
      show Wp _ (p.o.call f ds) _
      cases hc : p.o.call f ds with
      | stuck => rw [hc] at w; exact w.elim
      | exc k v =>
        rw [hc] at w
        exact keep_read (f := f) (es := es) O S1 (fun q hq z => hL q hq (by rw [z]; simp [assigns])) (fun q hq z => hL q hq (by rw [z]; simp [assigns])) hij ht (by rw [frzL_len]) w
      | ok d =>
        rw [hc] at w
        intro G2 H2 v g o
        have w2 : WpS p G0 H0 L D (.ok (frzL r (esc p.o (.call f es)), .nx)) := w
        exact w2 G2 _ H2 (S1.grow g)
/-- f(..).clear() -/
theorem s_clrE {v : Expr} {ap cp pos : Pos} (O : SOk c p X) (h : chk c e X.env.scope v = true) (hs : notSuper v = true) (hl : (ap.endLine == cp.line) = true) : PS X (.Expr (.Call (.Attribute v (Str.ofString "clear") ap) [] [] cp) pos) (tS p (.clrE e)) := by
  have hbase : attributeBase v (Str.ofString "clear") X.env (eval v X.env) = eval v X.env := by
    unfold attributeBase
    cases v <;> first | rfl | skip
    rename_i g as ks pc
    cases g <;> first | rfl | skip
    cases as <;> first | rfl | skip
    cases ks <;> first | rfl | cases hs
  have hp := pe_bm0 (apos := ap) (cpos := cp) PySem.F.plainAttrs_list PySem.F.slot_list_clear PySem.F.type_list_clear mt_clear ((good e).pe h O.toXOk) hbase hl
  refine psImp (ps_expr hp rfl) fun D σ H ⟨G0, H0, L, G, r, S, hL, w⟩ => ?_
  obtain ⟨G1, S1, fz, w1⟩ := ahead (α := Unit) S (esc p.o e) (fun _ h => h) w
  refine ⟨G1, _, S1.env, fz, w1.imp (fun _ _ z => z) fun d w2 G2 H2 v g o => ?_⟩
  by_cases cc : isFresh p.o e = true ∧ d.isL = true
  · rw [if_pos cc] at w2
    unfold Out at o
    rw [if_pos cc] at o
    obtain ⟨⟨a, xs, ds, rfl, rfl, n1, hh, ra⟩, hn⟩ := o
    have hn := hn a rfl
    refine ⟨.inl ⟨rfl, xs, .of hh⟩, a, xs, rfl, rfl, hh, ?_⟩
    have g2 : Grow G1 H G2 (upd H2 a (.lst [])) := ⟨g.sg, fun b u z => by rw [upd_ne (ne_of_none z hn)]; exact g.sh _ _ z, fun b u z => by rw [upd_ne (ne_of_none z n1)]; exact g.sub _ _ z, g.nw⟩
    exact w2 G2 _ _ (S1.grow g2)
  · rw [if_neg cc] at w2; exact w2.elim
end
end Pu

/-! Loops. -/
namespace Pu
open PySem L2
section
variable {c : Ck} {p : Pk} {X : Cx} {G0 H0 G G' H H' : Hp} {L : Lk} {r : Env} {σ : St} {Dn : Ends} {s : S} {x : Stmt} {l : List Stmt} {e : E}
noncomputable abbrev whlC (o : Orc) (e : E) : Env → R Bool := fun r => do let d ← ev o r e; asBl d
noncomputable abbrev whlB (o : Orc) (e : E) (b : S) (dead : List Nat) : Env → R (Env × Fw) := fun r => match exec o b r with
        | .ok (r', f) => .ok (frzL (kill r' dead) (escB o e), f)
        | x => x
theorem s_whl {t : Expr} {b : S} {dead : List Nat} {xs : List Stmt} {pos : Pos} (O : SOk c p X) (h : chk c e X.env.scope t = true) (hb : PSs X xs (tS p b)) : PS X (.While t xs [] pos) (tS p (.whl e b dead)) := by
  refine psImp (ps_while O.passes ((good e).pt h O.toXOk) hb) fun D σ H ⟨G0, H0, L, G, r, S, hL, w⟩ => ?_
  have w0 : WpS p G0 H0 L D (whileC (whlC p.o e) (whlB p.o e b dead) (frzL r (escB p.o e))) := w
  have ns : whileC (whlC p.o e) (whlB p.o e b dead) (frzL r (escB p.o e)) ≠ .stuck := fun z => by rw [z] at w0; exact w0
  obtain ⟨n, hn⟩ := whileC_spec ns
  generalize whileC (whlC p.o e) (whlB p.o e b dead) (frzL r (escB p.o e)) = res at w0 hn
  obtain ⟨G1, _, S1⟩ := S.frzL (escB p.o e)
  have hb1 : ∀ q ∈ L, q.1 ∉ assigns b := fun q hq z => hL q hq (by simp only [assigns]; exact List.mem_append_left _ z)
  have hb2 : ∀ q ∈ L, q.1 ∉ dead := fun q hq z => hL q hq (by simp only [assigns]; exact List.mem_append_right _ z)
  refine ⟨fun m σ H => ∃ G r, StRep p G0 H0 L G r σ H ∧ AllFrz (escB p.o e) r ∧ whileN (whlC p.o e) (whlB p.o e b dead) m r = some res, ⟨n, G1, _, S1, frzL_all _ r, hn⟩, ?_⟩
  clear hn S1 S w ns n
  rintro m σ H ⟨G, r, S, fz, hm⟩
  cases m with
  | zero => cases hm
  | succ k =>
    refine ⟨G, r, S.env, fz, ?_⟩
    unfold whileN at hm
    cases hc : ev p.o r e with
    | stuck =>
      have : whlC p.o e r = .stuck := by show (ev p.o r e >>= fun d => asBl d) = _; rw [hc]; rfl
      rw [this] at hm; cases hm; exact w0
    | exc kk v =>
      have : whlC p.o e r = .exc kk v := by show (ev p.o r e >>= fun d => asBl d) = _; rw [hc]; rfl
      rw [this] at hm; cases hm; exact Pk.W.mono S.sh w0
    | ok d =>
      have hd : whlC p.o e r = asBl d := by show (ev p.o r e >>= fun d => asBl d) = _; rw [hc]; rfl
      rw [hd] at hm
      cases d <;> first | (cases hm; exact w0.elim) | skip
      rename_i kb
      refine ⟨kb, rfl, fun G2 H2 g => ?_⟩
      have S2 := S.grow g
      cases kb with
      | false =>
        cases hm
        show (if false = true then _ else D.nx σ H2)
        rw [if_neg Bool.false_ne_true]
        exact w0 G2 σ H2 S2
      | true =>
        show (if true = true then _ else _)
        rw [if_pos rfl]
        have hm' : (match whlB p.o e b dead r with
          | .ok (r', .nx) => whileN (whlC p.o e) (whlB p.o e b dead) k r'
          | .ok (r', .cont) => whileN (whlC p.o e) (whlB p.o e b dead) k r'
          | .ok (r', .brk) => some (.ok (r', .nx))
          | .ok (r', .ret f d) => some (.ok (r', .ret f d))
          | .exc k v => some (.exc k v)
          | .stuck => some .stuck) = some res := hm
        refine ⟨fun σ' H' => ∃ m', m' < k + 1 ∧ ∃ G r, StRep p G0 H0 L G r σ' H' ∧ AllFrz (escB p.o e) r ∧ whileN (whlC p.o e) (whlB p.o e b dead) m' r = some res, fun _ _ z => z, G0, H0, L, G2, r, S2, hb1, ?_⟩
        cases hx : exec p.o b r with
        | stuck =>
          have : whlB p.o e b dead r = .stuck := by unfold whlB; rw [hx]
          rw [this] at hm'; cases hm'; exact w0
        | exc kk v =>
          have : whlB p.o e b dead r = .exc kk v := by unfold whlB; rw [hx]
          rw [this] at hm'; cases hm'; exact w0
        | ok q =>
          obtain ⟨r', f⟩ := q
          have : whlB p.o e b dead r = .ok (frzL (kill r' dead) (escB p.o e), f) := by unfold whlB; rw [hx]
          rw [this] at hm'
          cases f with
          | nx =>
            intro G3 σ3 H3 S3
            obtain ⟨G4, _, S4⟩ := (S3.kill hb2).frzL (escB p.o e)
            exact ⟨k, Nat.lt_succ_self k, G4, _, S4, frzL_all _ _, hm'⟩
          | cont =>
            intro G3 σ3 H3 S3
            obtain ⟨G4, _, S4⟩ := (S3.kill hb2).frzL (escB p.o e)
            exact ⟨k, Nat.lt_succ_self k, G4, _, S4, frzL_all _ _, hm'⟩
          | brk =>
            intro G3 σ3 H3 S3
            obtain ⟨G4, _, S4⟩ := (S3.kill hb2).frzL (escB p.o e)
            cases hm'
            exact w0 G4 σ3 H3 S4
          | ret fr d => cases hm'; exact w0

/-! ### for -/
theorem lockAt_get (r : Env) (i j : Nat) : (lockAt r i)[j]? = (r[j]?).map (Option.map fun q => (if j = i ∧ q.1 = .own then .lock else q.1, q.2)) := by
  have same : (∀ d, r[i]? ≠ some (some (.own, d))) → r[j]? = (r[j]?).map (Option.map fun q => (if j = i ∧ q.1 = .own then Fl.lock else q.1, q.2)) := fun hn => by
    cases q : r[j]? with
    | none => rfl
    | some y =>
      cases y with
      | none => rfl
      | some z =>
        obtain ⟨f, d⟩ := z
        show _ = some (some (if j = i ∧ f = .own then Fl.lock else f, d))
        by_cases hc : j = i ∧ f = .own
        · obtain ⟨rfl, rfl⟩ := hc
          exact absurd q (hn d)
        · rw [if_neg hc]
  unfold lockAt
  split
  · rename_i d e
    by_cases hj : i = j
    · subst hj
      rw [List.getElem?_set_self (get_lt e), e]
      show _ = some (some (if i = i ∧ Fl.own = .own then Fl.lock else .own, d))
      rw [if_pos ⟨rfl, rfl⟩]
    · rw [List.getElem?_set_ne hj]
      cases q : r[j]? with
      | none => rfl
      | some y =>
        cases y with
        | none => rfl
        | some z =>
          show _ = some (some (if j = i ∧ z.1 = .own then Fl.lock else z.1, z.2))
          rw [if_neg (fun hc => hj hc.1.symm)]
  · rename_i hn
    exact same hn
theorem lockL_get : ∀ (l : List Nat) (r : Env) (j : Nat), (lockL r l)[j]? = (r[j]?).map (Option.map fun q => (if j ∈ l ∧ q.1 = .own then .lock else q.1, q.2))
  | [], r, j => by
    show r[j]? = _
    cases r[j]? with
    | none => rfl
    | some y => cases y with
      | none => rfl
      | some z => simp
  | i :: l, r, j => by
    show (lockL (lockAt r i) l)[j]? = _
    rw [lockL_get l (lockAt r i) j, lockAt_get]
    cases r[j]? with
    | none => rfl
    | some y => cases y with
      | none => rfl
      | some z =>
        obtain ⟨f, d⟩ := z
        simp only [Option.map_some, Option.some.injEq, Prod.mk.injEq, and_true, List.mem_cons]
        by_cases h1 : j = i <;> by_cases h2 : f = .own <;> by_cases h3 : j ∈ l <;> simp [h1, h2, h3]
theorem StRep.lockAt (S : StRep p G0 H0 L G r σ H) (i : Nat) : StRep p G0 H0 L G (Pu.lockAt r i) σ H := by
  unfold Pu.lockAt
  split
  · rename_i d e
    exact S.flag e (fun _ _ h => h) (.inr (by decide)) (fun z => by cases z)
  · exact S
theorem StRep.lockL : ∀ (l : List Nat) {r : Env}, StRep p G0 H0 L G r σ H → StRep p G0 H0 L G (Pu.lockL r l) σ H
  | [], _, S => S
  | i :: l, _, S => StRep.lockL l (S.lockAt i)
theorem StRep.openAt (S : StRep p G0 H0 L G r σ H) (i : Nat) (h : ∀ q ∈ L, i ≠ q.1 ∧ σ[i]? ≠ some (some (.ref q.2.1))) : StRep p G0 H0 L G (Pu.openAt r i) σ H := by
  unfold Pu.openAt
  split
  · rename_i d e
    exact S.flag e (fun _ _ h => h) (.inr (by decide)) (fun _ => h)
  · exact S
theorem StRep.openL : ∀ (l : List Nat) {r : Env}, StRep p G0 H0 L G r σ H → (∀ i ∈ l, ∀ q ∈ L, i ≠ q.1 ∧ σ[i]? ≠ some (some (.ref q.2.1))) → StRep p G0 H0 L G (Pu.openL r l) σ H
  | [], _, S, _ => S
  | i :: l, _, S, h => StRep.openL l (S.openAt i (h i List.mem_cons_self)) fun j hj => h j (List.mem_cons_of_mem _ hj)
theorem StRep.left {M : Lk} (S : StRep p G0 H0 (L ++ M) G r σ H) : StRep p G0 H0 L G r σ H := { S with lk := fun q hq => S.lk q (List.mem_append_left _ hq) }
theorem pick {α β : Type} {P : α → β → Prop} : ∀ l : List α, (∀ x ∈ l, ∃ y, P x y) → ∃ m : List β, (∀ x ∈ l, ∃ y ∈ m, P x y) ∧ ∀ y ∈ m, ∃ x ∈ l, P x y
  | [], _ => ⟨[], (fun _ z => by cases z), fun _ z => by cases z⟩
  | x :: l, h => by
    obtain ⟨y, hy⟩ := h x List.mem_cons_self
    obtain ⟨m, h1, h2⟩ := pick l fun z hz => h z (List.mem_cons_of_mem _ hz)
    refine ⟨y :: m, fun z hz => ?_, fun z hz => ?_⟩
    · rcases List.mem_cons.mp hz with rfl | hz
      · exact ⟨y, List.mem_cons_self, hy⟩
      · obtain ⟨w, hw, q⟩ := h1 z hz
        exact ⟨w, List.mem_cons_of_mem _ hw, q⟩
    · rcases List.mem_cons.mp hz with rfl | hz
      · exact ⟨x, List.mem_cons_self, hy⟩
      · obtain ⟨w, hw, q⟩ := h2 z hz
        exact ⟨w, List.mem_cons_of_mem _ hw, q⟩
theorem bindT_cases (r : Env) (tup : Bool) (is : List Nat) (d : D) : bindT r tup is d = .stuck ∨ ∃ r1, bindT r tup is d = .ok r1 := by
  unfold bindT
  split
  · split
    · exact .inr ⟨_, rfl⟩
    · exact .inl rfl
  · exact .inr ⟨_, rfl⟩
  · exact .inl rfl
/-- the walked lists and the locked names -/
theorem locked {it : E} {l0 : Srcs} (S : StRep p G0 H0 L G r σ H) (at_ : SrcAt it r σ l0 H) : ∃ M : Lk, (∀ q ∈ l0, ∃ m ∈ M, m.2 = q) ∧ (∀ i ∈ owns r (locks it), ∃ m ∈ M, m.1 = i) ∧ (∀ m ∈ M, m.1 ∈ locks it) ∧
    StRep p G0 H0 (L ++ M) G (Pu.lockL r (owns r (locks it))) σ H := by
  have key : ∃ M : Lk, (∀ q ∈ l0, ∃ m ∈ M, m.2 = q) ∧ (∀ i ∈ owns r (locks it), ∃ m ∈ M, m.1 = i) ∧ ∀ m ∈ M, m.1 ∈ locks it ∧ σ[m.1]? = some (some (.ref m.2.1)) ∧ H m.2.1 = some (.lst m.2.2) ∧ ∃ fl d, r[m.1]? = some (some (fl, d)) ∧ fl ≠ .frz := by
    obtain ⟨m1, a1, b1⟩ := pick (P := fun (q : Addr × List V) (m : Nat × Addr × List V) => m.2 = q ∧ m.1 ∈ locks it ∧ σ[m.1]? = some (some (.ref m.2.1)) ∧ H m.2.1 = some (.lst m.2.2) ∧ ∃ fl d, r[m.1]? = some (some (fl, d)) ∧ fl ≠ .frz) l0 fun q hq => by
      obtain ⟨h1, i, h2, h3, h4⟩ := at_ q hq
      exact ⟨(i, q), rfl, h2, h3, h1, h4⟩
    obtain ⟨m2, a2, b2⟩ := pick (P := fun (i : Nat) (m : Nat × Addr × List V) => m.1 = i ∧ m.1 ∈ locks it ∧ σ[m.1]? = some (some (.ref m.2.1)) ∧ H m.2.1 = some (.lst m.2.2) ∧ ∃ fl d, r[m.1]? = some (some (fl, d)) ∧ fl ≠ .frz) (owns r (locks it)) fun i hi => by
      obtain ⟨h1, h2⟩ := List.mem_filter.mp hi
      unfold isOwn at h2
      split at h2
      · rename_i d e
        obtain ⟨v, g1, a, xs, ds, e1, _, _, hh, _⟩ := S.env.cell i .own d e
        subst e1
        exact ⟨(i, a, xs), rfl, h1, g1, hh, .own, d, e, by decide⟩
      · cases h2
    refine ⟨m1 ++ m2, fun q hq => ?_, fun i hi => ?_, fun m hm => ?_⟩
    · obtain ⟨m, h1, h2, _⟩ := a1 q hq
      exact ⟨m, List.mem_append_left _ h1, h2⟩
    · obtain ⟨m, h1, h2, _⟩ := a2 i hi
      exact ⟨m, List.mem_append_right _ h1, h2⟩
    · rcases List.mem_append.mp hm with h | h
      · obtain ⟨_, _, q⟩ := b1 m h; exact q.2
      · obtain ⟨_, _, q⟩ := b2 m h; exact q.2
  obtain ⟨M, k1, k2, k3⟩ := key
  have S2 := S.lockL (owns r (locks it))
  refine ⟨M, k1, k2, fun m hm => (k3 m hm).1, { S2 with lk := fun q hq => ?_ }⟩
  rcases List.mem_append.mp hq with hq | hq
  · exact S2.lk q hq
  · obtain ⟨g1, g2, g3, fl, d, g4, g5⟩ := k3 q hq
    have fl' : ∀ {j : Nat}, j ∈ locks it → ∀ {d}, r[j]? = some (some (.own, d)) → j ∈ owns r (locks it) := fun {j} hj {d} e => List.mem_filter.mpr ⟨hj, by unfold isOwn; rw [e]⟩
    refine ⟨g2, g3, ⟨_, d, by rw [lockL_get, g4]; rfl, ?_⟩, fun j d' hj hs => ?_⟩
    · show (if q.1 ∈ owns r (locks it) ∧ fl = .own then Fl.lock else fl) ≠ .own
      by_cases ho : fl = .own
      · subst ho
        rw [if_pos ⟨fl' g1 g4, rfl⟩]
        decide
      · rw [if_neg (fun z => ho z.2)]
        exact ho
    · rw [lockL_get] at hj
      cases q' : r[j]? with
      | none => rw [q'] at hj; cases hj
      | some y => cases y with
        | none => rw [q'] at hj; cases hj
        | some z =>
          obtain ⟨f, d2⟩ := z
          rw [q'] at hj
          have hj' : (if j ∈ owns r (locks it) ∧ f = .own then Fl.lock else f) = .own := by
            have := Option.some.inj (Option.some.inj hj)
            exact (Prod.mk.inj this).1
          by_cases hc : j ∈ owns r (locks it) ∧ f = .own
          · rw [if_pos hc] at hj'; cases hj'
          · rw [if_neg hc] at hj'
            subst hj'
            by_cases hij : q.1 = j
            · subst hij
              exact hc ⟨fl' g1 q', rfl⟩
            · exact S.env.apart q.1 j fl .own d d2 _ hij g4 q' g5 (by decide) g2 hs
noncomputable abbrev forB (o : Orc) (tup : Bool) (is : List Nat) (b : S) (dead : List Nat) : Env → D → R (Env × Fw) := fun r x => do
      let r' ← bindT r tup is x
      match exec o b r' with
      | .ok (r', f) => .ok (kill r' dead, f)
      | x => x
def opn (lk : List Nat) : R (Env × Fw) → R (Env × Fw)
  | .ok (r', f) => .ok (openL r' lk, f)
  | x => x
theorem s_for {tg iter : Expr} {tup : Bool} {is : List Nat} {it : E} {b : S} {dead : List Nat} {xs : List Stmt} {pos : Pos} (O : SOk c p X) (h1 : chkI c it X.env.scope tup iter = true) (h2 : chkT c.N X.env.scope tup is tg = true) (h3 : subsOk (locks it) (is ++ assigns b ++ dead) = true)
    (hb : PSs X xs (tS p b)) : PS X (.For tg iter xs [] pos) (tS p (.for_ tup is it b dead)) := by
  have tt : tup = true → isTup tg = true := fun e => by
    subst e
    cases tg <;> first | rfl | (simp [chkT] at h2; done)
  have hp := (good it).pi h1 tt O.toXOk
  refine psImp (ps_for O.passes O.calm hp (g_T O.toXOk O.stores h2) hb (folded_plain (chkI_plain h1))) fun D σ H ⟨G0, H0, L, G, r, S, hL, w⟩ => ?_
  obtain ⟨Ga, _, Sa⟩ := S.frzL (esc p.o it)
  refine ⟨Ga, _, Sa.env, frzL_all _ r, ?_⟩
  rw [evI_frz]
  refine (WpS.bind w).imp (fun _ _ z => z.mono S.sh) fun ds w1 => ?_
  intro G1 H1 J l0 g wk at_
  have S1 := Sa.grow g
  clear w Sa S
  generalize frzL r (esc p.o it) = r1 at w1 S1 at_
  have w2 : WpS p G0 H0 L D (opn (owns r1 (locks it)) (forL (forB p.o tup is b dead) ds (lockL r1 (owns r1 (locks it))))) := w1
  clear w1
  obtain ⟨M, k1, k2, k3, S2⟩ := locked S1 at_
  generalize hlk : owns r1 (locks it) = lk at w2 k2 S2
  have S3 : StRep p G1 H0 (L ++ M) G1 (lockL r1 lk) σ H1 := ⟨S2.env, .refl _, S2.sh, fun _ _ => rfl, S2.own, S2.lk⟩
  have hM : ∀ q ∈ L ++ M, q.1 ∉ is ++ assigns b ++ dead := fun q hq z => by
    rcases List.mem_append.mp hq with hq | hq
    · exact hL q hq z
    · have := List.all_eq_true.mp h3 q.1 (k3 q hq)
      simp only [Bool.not_eq_true'] at this
      have z' : (is ++ assigns b ++ dead).contains q.1 = true := List.contains_iff_mem.mpr z
      rw [z'] at this
      cases this
  have back : ∀ {G' : Hp} {r' : Env} {σ' : St} {H' : Hp}, StRep p G1 H0 (L ++ M) G' r' σ' H' → StRep p G0 H0 L G' (openL r' lk) σ' H' := fun {G' r' σ' H'} T => by
    have T1 : StRep p G0 H0 L G' r' σ' H' := ⟨T.left.env, S1.sg.trans T.sg, T.sh, fun a ha => by rw [T.nw a ha, S1.nw a ha], T.own, T.left.lk⟩
    refine T1.openL lk fun i hi q hq => ?_
    have hi' : i ∈ owns r1 (locks it) := by rw [hlk]; exact hi
    obtain ⟨_, hi''⟩ := List.mem_filter.mp hi'
    unfold isOwn at hi''
    split at hi''
    · rename_i d e
      obtain ⟨_, _, ⟨fl, dd, e3, n3⟩, e4⟩ := S1.lk q hq
      refine ⟨fun z => ?_, fun z => ?_⟩
      · rw [← z, e] at e3
        cases e3
        exact n3 rfl
      · obtain ⟨m, hm, rfl⟩ := k2 i hi
        have t1 := (T.lk m (List.mem_append_right _ hm)).1
        have t2 := (S2.lk m (List.mem_append_right _ hm)).1
        rw [t1] at z
        have zz : m.2.1 = q.2.1 := V.ref.inj (Option.some.inj (Option.some.inj z))
        exact e4 m.1 d e (by rw [t2, zz])
    · cases hi''
  have al : ∀ {G' : Hp} {r' : Env} {σ' : St} {H' : Hp}, StRep p G1 H0 (L ++ M) G' r' σ' H' → Alive G1 l0 H' := fun {G' r' σ' H'} T => ⟨T.sg.trans T.env.sub, fun q hq => by
    obtain ⟨m, hm, rfl⟩ := k1 q hq
    exact (T.lk m (List.mem_append_right _ hm)).2.1⟩
  refine ⟨fun i m σ H => m = ds.length - i ∧ i ≤ ds.length ∧ ∃ G r, StRep p G1 H0 (L ++ M) G r σ H ∧ WpS p G0 H0 L D (opn lk (forL (forB p.o tup is b dead) (ds.drop i) r)), ⟨ds.length, rfl, Nat.zero_le _, G1, _, S3, w2⟩, ?_⟩
  clear w2 S3 S2 at_ k3 hlk
  rintro i m σ H ⟨rfl, hi, G, r, T, w⟩
  by_cases hlt : i < ds.length
  · refine .inr ⟨wk.go i H (al T) hlt, fun σ' H' => ∃ m', m' < ds.length - i ∧ m' = ds.length - (i + 1) ∧ i + 1 ≤ ds.length ∧ ∃ G r, StRep p G1 H0 (L ++ M) G r σ' H' ∧ WpS p G0 H0 L D (opn lk (forL (forB p.o tup is b dead) (ds.drop (i + 1)) r)), fun _ _ z => z, fun x H' y => ?_⟩
    obtain ⟨d, G3, hd, g3, rx⟩ := wk.yld i H x H' G (al T) T.sg T.env.sub hlt y
    have T3 := T.grow g3
    have hdr : ds.drop i = d :: ds.drop (i + 1) := by
      rw [List.drop_eq_getElem_cons hlt]
      have := List.getElem?_eq_getElem hlt
      rw [hd] at this
      rw [Option.some.inj this]
    rw [hdr] at w
    rcases bindT_cases r tup is d with hbt | ⟨r1', hbt⟩
    · have : forB p.o tup is b dead r d = .stuck := by show (bindT r tup is d >>= _) = _; rw [hbt]; rfl
      unfold forL at w
      rw [this] at w
      exact w.elim
    · refine gT_of (σ0 := σ) T3.env.sub hbt rx fun vs ds' e ra hl => ?_
      refine ⟨G1, H0, L ++ M, G3, r1', by rw [← e]; exact T3.setAll ra hl fun q hq z => hM q hq (List.mem_append_left _ (List.mem_append_left _ z)), fun q hq z => hM q hq (List.mem_append_left _ (List.mem_append_right _ z)), ?_⟩
      have hk : ∀ q ∈ L ++ M, q.1 ∉ dead := fun q hq z => hM q hq (List.mem_append_right _ z)
      have hf : forB p.o tup is b dead r d = (match exec p.o b r1' with
        | .ok (r', f) => .ok (kill r' dead, f)
        | x => x) := by show (bindT r tup is d >>= _) = _; rw [hbt]; rfl
      unfold forL at w
      rw [hf] at w
      cases hx : exec p.o b r1' with
      | stuck => rw [hx] at w; exact w.elim
      | exc kk v => rw [hx] at w; exact w
      | ok q =>
        obtain ⟨r', f⟩ := q
        rw [hx] at w
        cases f with
        | nx => exact fun G4 σ4 H4 T4 => ⟨ds.length - (i + 1), by omega, rfl, hlt, G4, _, T4.kill hk, w⟩
        | cont => exact fun G4 σ4 H4 T4 => ⟨ds.length - (i + 1), by omega, rfl, hlt, G4, _, T4.kill hk, w⟩
        | brk => exact fun G4 σ4 H4 T4 => w G4 σ4 H4 (back (T4.kill hk))
        | ret fr d2 => exact fun G4 H4 v g4 o4 => w G4 H4 v ⟨S1.sg.trans g4.sg, g4.sh, g4.sub, fun a ha => by rw [g4.nw a ha, S1.nw a ha]⟩ o4
  · have e : i = ds.length := by omega
    subst e
    refine .inl ⟨wk.stop _ H (al T) (Nat.le_refl _), ?_⟩
    rw [List.drop_length] at w
    exact w G σ H (back T)

/-! ### every statement -/
structure GoodS (s : S) : Prop where
  one : ∀ {c : Ck} {p : Pk} {X : Cx} {x : Stmt}, chkB c s X.env.scope [x] = true → SOk c p X → PS X x (tS p s)
  all : ∀ {c : Ck} {p : Pk} {X : Cx} {l : List Stmt}, chkB c s X.env.scope l = true → SOk c p X → PSs X l (tS p s)
theorem good_one {s : S} (h : ∀ {c : Ck} {sc : Scope} {l : List Stmt}, chkB c s sc l = true → ∃ x, l = [x]) (one : ∀ {c : Ck} {p : Pk} {X : Cx} {x : Stmt}, chkB c s X.env.scope [x] = true → SOk c p X → PS X x (tS p s)) : GoodS s :=
  ⟨one, fun {c p X l} hc O => by
    obtain ⟨x, rfl⟩ := h hc
    exact pss_one (one hc O)⟩
theorem goodS : ∀ s : S, GoodS s := by
  intro s
  induction s with
  | skip =>
    have one : ∀ {c : Ck} {p : Pk} {X : Cx} {x : Stmt}, chkB c .skip X.env.scope [x] = true → SOk c p X → PS X x (tS p .skip) := fun {c p X x} h O => by
      unfold chkB at h
      split at h <;> first | (cases h; done) | skip
      · rename_i e; cases e
      · rename_i e; cases e; exact s_next ps_pass
      · rename_i e; cases e; exact s_next ps_doc
    refine ⟨one, fun {c p X l} h O => ?_⟩
    unfold chkB at h
    split at h <;> first | (cases h; done) | skip
    · exact pssImp pss_nil fun D σ H ⟨G0, H0, L, G, r, S, hL, w⟩ => w G σ H S
    · exact pss_one (s_next ps_pass)
    · exact pss_one (s_next ps_doc)
  | seq a b iha ihb =>
    refine ⟨fun {c p X x} h O => by simp [chkB] at h, fun {c p X l} h O => ?_⟩
    unfold chkB at h
    split at h <;> first | (cases h; done) | skip
    simp only [Bool.and_eq_true] at h
    refine pssImp (pss_cons (iha.one h.1 O) (ihb.all h.2 O)) fun D σ H ⟨G0, H0, L, G, r, S, hL, w⟩ => ?_
    refine ⟨G0, H0, L, G, r, S, fun q hq z => hL q hq (by simp only [assigns]; exact List.mem_append_left _ z), ?_⟩
    have w0 : WpS p G0 H0 L D (match exec p.o a r with
      | .ok (r', .nx) => exec p.o b r'
      | x => x) := w
    cases hx : exec p.o a r with
    | stuck => rw [hx] at w0; exact w0
    | exc k v => rw [hx] at w0; exact w0
    | ok q =>
      obtain ⟨r', f⟩ := q
      rw [hx] at w0
      cases f with
      | nx => exact fun G' σ' H' S' => ⟨G0, H0, L, G', r', S', fun q hq z => hL q hq (by simp only [assigns]; exact List.mem_append_right _ z), w0⟩
      | brk => exact w0
      | cont => exact w0
      | ret fr d => exact w0
  | set i e =>
    refine good_one (fun h => by unfold chkB at h; split at h <;> first | exact ⟨_, rfl⟩ | cases h) fun {c p X x} h O => ?_
    unfold chkB at h
    split at h <;> first | (cases h; done) | skip
    rename_i q; cases q
    simp only [Bool.and_eq_true] at h
    exact s_set O h.1.1 h.1.2 h.2
  | unp is e =>
    refine good_one (fun h => by unfold chkB at h; split at h <;> first | exact ⟨_, rfl⟩ | cases h) fun {c p X x} h O => ?_
    unfold chkB at h
    split at h <;> first | (cases h; done) | skip
    rename_i q; cases q
    simp only [Bool.and_eq_true, Bool.not_eq_true'] at h
    exact s_unp O h.1.1.1 h.1.1.2 h.1.2 h.2
  | par i j a b =>
    refine good_one (fun h => by unfold chkB at h; split at h <;> first | exact ⟨_, rfl⟩ | cases h) fun {c p X x} h O => ?_
    unfold chkB at h
    split at h <;> first | (cases h; done) | skip
    rename_i q; cases q
    simp only [Bool.and_eq_true, Bool.not_eq_true'] at h
    obtain ⟨⟨⟨⟨⟨⟨⟨⟨⟨⟨h1, h2⟩, h3⟩, h4⟩, h5⟩, h6⟩, h7⟩, h8⟩, h9⟩, h10⟩, h11⟩ := h
    exact s_par O h1 h2 h3 h4 h5 h6 h7 h8 h9 h10 h11
  | aug i e =>
    refine good_one (fun h => by unfold chkB at h; split at h <;> first | exact ⟨_, rfl⟩ | cases h) fun {c p X x} h O => ?_
    unfold chkB at h
    split at h <;> first | (cases h; done) | skip
    rename_i q; cases q
    simp only [Bool.and_eq_true] at h
    exact s_aug O h.1.1 h.1.2 h.2
  | put i k e =>
    refine good_one (fun h => by unfold chkB at h; split at h <;> first | exact ⟨_, rfl⟩ | cases h) fun {c p X x} h O => ?_
    unfold chkB at h
    split at h <;> first | (cases h; done) | skip
    rename_i q; cases q
    simp only [Bool.and_eq_true, Bool.not_eq_true'] at h
    obtain ⟨⟨⟨⟨h1, h2⟩, h3⟩, h4⟩, h5⟩ := h
    exact s_put O h1 h2 h3 h4 h5
  | app i e =>
    refine good_one (fun h => by unfold chkB at h; split at h <;> first | exact ⟨_, rfl⟩ | cases h) fun {c p X x} h O => ?_
    unfold chkB at h
    split at h <;> first | (cases h; done) | skip
    rename_i q; cases q
    simp only [Bool.and_eq_true] at h
    obtain ⟨⟨⟨⟨⟨h1, h2⟩, h3⟩, h4⟩, h5⟩, h6⟩ := h
    rw [eq_of_beq h4]
    exact s_app O h1 h2 h3 h6 h5
  | ext i e =>
    have no : ∀ {c : Ck} {sc : Scope} {l : List Stmt}, chkB c (.ext i e) sc l = true → False := fun h => by
      unfold chkB at h
      split at h <;> simp at h
    exact ⟨fun h => (no h).elim, fun h => (no h).elim⟩
  | popV j i =>
    have no : ∀ {c : Ck} {sc : Scope} {l : List Stmt}, chkB c (.popV j i) sc l = true → False := fun h => by simp [chkB] at h
    exact ⟨fun h => (no h).elim, fun h => (no h).elim⟩
  | appP i f es1 es2 =>
    have no : ∀ {c : Ck} {sc : Scope} {l : List Stmt}, chkB c (.appP i f es1 es2) sc l = true → False := fun h => by simp [chkB] at h
    exact ⟨fun h => (no h).elim, fun h => (no h).elim⟩
  | clrE e =>
    refine good_one (fun h => by unfold chkB at h; split at h <;> first | exact ⟨_, rfl⟩ | cases h) fun {c p X x} h O => ?_
    unfold chkB at h
    split at h <;> first | (cases h; done) | skip
    rename_i q; cases q
    simp only [Bool.and_eq_true] at h
    obtain ⟨⟨⟨h1, h2⟩, h3⟩, h4⟩ := h
    rw [eq_of_beq h2]
    exact s_clrE O h1 h4 h3
  | tryF y f es j i k =>
    refine good_one (fun h => by unfold chkB at h; split at h <;> first | exact ⟨_, rfl⟩ | cases h) fun {c p X x} h O => ?_
    unfold chkB at h
    split at h <;> first | (cases h; done) | skip
    rename_i q; cases q
    simp only [Bool.and_eq_true, Bool.not_eq_true'] at h
    obtain ⟨⟨⟨⟨⟨⟨⟨⟨⟨⟨h1, h2⟩, h3⟩, h4⟩, h5⟩, h6⟩, h7⟩, h8⟩, h9⟩, h10⟩, h11⟩ := h
    refine s_tryF O h1 h2 h3 h4 (eq_of_beq h5) h6 h7 h8 h9 h10 ?_
    cases y with
    | none =>
      simp only at h11
      split at h11 <;> first | (cases h11; done) | skip
      simp only [Bool.and_eq_true, Bool.not_eq_true'] at h11
      exact ⟨_, _, rfl, h11.1, h11.2⟩
    | some y =>
      simp only [Bool.and_eq_true, Bool.not_eq_true'] at h11
      obtain ⟨h12, h13⟩ := h11
      split at h13 <;> first | (cases h13; done) | skip
      simp only [Bool.and_eq_true, Bool.not_eq_true'] at h13
      exact ⟨h12, _, _, _, _, rfl, h13.1.1.1, h13.1.1.2, h13.1.2, h13.2⟩
  | pop i =>
    refine good_one (fun h => by unfold chkB at h; split at h <;> first | exact ⟨_, rfl⟩ | cases h) fun {c p X x} h O => ?_
    unfold chkB at h
    split at h <;> first | (cases h; done) | skip
    rename_i q; cases q
    simp only [Bool.and_eq_true] at h
    obtain ⟨⟨⟨⟨h1, h2⟩, h3⟩, h4⟩, h5⟩ := h
    rw [eq_of_beq h4]
    exact s_pop O h1 h2 h3 h5
  | clr i =>
    refine good_one (fun h => by unfold chkB at h; split at h <;> first | exact ⟨_, rfl⟩ | cases h) fun {c p X x} h O => ?_
    unfold chkB at h
    split at h <;> first | (cases h; done) | skip
    rename_i q; cases q
    simp only [Bool.and_eq_true] at h
    obtain ⟨⟨⟨⟨h1, h2⟩, h3⟩, h4⟩, h5⟩ := h
    rw [eq_of_beq h4]
    exact s_clr O h1 h2 h3 h5
  | expr e =>
    refine good_one (fun h => by unfold chkB at h; split at h <;> first | exact ⟨_, rfl⟩ | cases h) fun {c p X x} h O => ?_
    unfold chkB at h
    split at h <;> first | (cases h; done) | skip
    rename_i q; cases q
    simp only [Bool.and_eq_true, Bool.not_eq_true'] at h
    exact s_expr O h.1 h.2
  | ite d a b iha ihb =>
    refine good_one (fun h => by unfold chkB at h; split at h <;> first | exact ⟨_, rfl⟩ | cases h) fun {c p X x} h O => ?_
    unfold chkB at h
    split at h <;> first | (cases h; done) | skip
    rename_i q; cases q
    simp only [Bool.and_eq_true] at h
    exact s_ite O h.1.1 (iha.all h.1.2 O) (ihb.all h.2 O)
  | whl d b dead ihb =>
    refine good_one (fun h => by unfold chkB at h; split at h <;> first | exact ⟨_, rfl⟩ | cases h) fun {c p X x} h O => ?_
    unfold chkB at h
    split at h <;> first | (cases h; done) | skip
    rename_i q; cases q
    simp only [Bool.and_eq_true] at h
    exact s_whl O h.1 (ihb.all h.2 O)
  | for_ tup is it b dead ihb =>
    refine good_one (fun h => by unfold chkB at h; split at h <;> first | exact ⟨_, rfl⟩ | cases h) fun {c p X x} h O => ?_
    unfold chkB at h
    split at h <;> first | (cases h; done) | skip
    rename_i q; cases q
    simp only [Bool.and_eq_true] at h
    obtain ⟨⟨⟨⟨h1, h2⟩, h3⟩, h4⟩, h5⟩ := h
    exact s_for O h1 h2 h4 (ihb.all h3 O)
  | ret e =>
    refine good_one (fun h => by unfold chkB at h; split at h <;> first | exact ⟨_, rfl⟩ | cases h) fun {c p X x} h O => ?_
    unfold chkB at h
    split at h <;> first | (cases h; done) | skip
    rename_i q; cases q
    exact s_ret O h
  | retN =>
    refine good_one (fun h => by unfold chkB at h; split at h <;> first | exact ⟨_, rfl⟩ | cases h) fun {c p X x} h O => ?_
    unfold chkB at h
    split at h <;> first | (cases h; done) | skip
    rename_i q; cases q
    exact s_retN
  | raise k =>
    refine good_one (fun h => by unfold chkB at h; split at h <;> first | exact ⟨_, rfl⟩ | cases h) fun {c p X x} h O => ?_
    unfold chkB at h
    split at h <;> first | (cases h; done) | skip
    rename_i q; cases q
    simp only [Bool.and_eq_true] at h
    exact s_raise O h.1 h.2
  | raiseAt k e => exact ⟨fun h => by simp [chkB] at h, fun h => by simp [chkB] at h⟩
  | brk =>
    refine good_one (fun h => by unfold chkB at h; split at h <;> first | exact ⟨_, rfl⟩ | cases h) fun {c p X x} h O => ?_
    unfold chkB at h
    split at h <;> first | (cases h; done) | skip
    rename_i q; cases q
    exact s_brk
  | cont =>
    refine good_one (fun h => by unfold chkB at h; split at h <;> first | exact ⟨_, rfl⟩ | cases h) fun {c p X x} h O => ?_
    unfold chkB at h
    split at h <;> first | (cases h; done) | skip
    rename_i q; cases q
    exact s_cont
  | no =>
    have hw : ∀ {p : Pk} {D : Ends} {σ : St} {H : Hp}, tS p .no D σ H → False := fun ⟨_, _, _, _, _, _, _, w⟩ => w
    exact ⟨fun _ _ => ⟨fun _ _ _ _ _ _ h => (hw h).elim⟩, fun _ _ => ⟨fun _ _ _ _ _ _ h => (hw h).elim⟩⟩
end
end Pu

/-! An __init__ that stores its parameters. -/
namespace Pu
open PySem L2
def notFree : NameKind → Bool
  | .free => false
  | _ => true
def scB (N : List Str) (np : Nat) (sc : Scope) : Bool := sc.kind == .function && !sc.isCoroutine && !sc.isGenerator && decide N.Nodup && decide (np ≤ N.length) && (N.take np).all (fun x => locB sc x) && sc.names.all (fun y => notFree y.2)
theorem scB_of {N : List Str} {np : Nat} {sc : Scope} (h : scB N np sc = true) : FnScope N (N.take np) sc ∧ np ≤ N.length := by
  unfold scB at h
  simp only [Bool.and_eq_true, Bool.not_eq_true', decide_eq_true_eq, List.all_eq_true] at h
  obtain ⟨⟨⟨⟨⟨⟨h1, h2⟩, h3⟩, h4⟩, h5⟩, h6⟩, h7⟩ := h
  refine ⟨⟨eq_of_beq h1, h2, h3, h4, by rw [List.length_take, Nat.min_eq_left h5], fun x hx => locB_of (h6 x hx), fun y hy z => ?_⟩, h5⟩
  have := h7 y hy
  rw [z] at this
  cases this
def nameB (N : List Str) (sc : Scope) (i : Nat) : Expr → Bool
  | .Name x _ => slotB N i x && visB sc x && okN x
  | _ => false
theorem nameB_of {N : List Str} {X : Cx} {i : Nat} {e : Expr} (hN : X.N = N) (h : nameB N X.env.scope i e = true) : PE X e (tVar i) ∧ ∃ n p, e = .Name n p := by
  unfold nameB at h
  split at h
  · simp only [Bool.and_eq_true] at h
    exact ⟨pe_var (by rw [hN]; exact slotB_of h.1.1) (visB_of h.1.2) (okN_of h.2).1 (okN_of h.2).2.1, _, _, rfl⟩
  · cases h
theorem upd_self {H : Hp} {a : Addr} {o : HO} (h : H a = some o) : upd H a o = H := funext fun b => by
  by_cases e : b = a
  · subst e; rw [upd_same, h]
  · rw [upd_ne e]
theorem putF_new {f : Str} {v : V} : ∀ {fs : List (Str × V)}, f ∉ fs.map (·.1) → putF f v fs = fs ++ [(f, v)]
  | [], _ => rfl
  | (g, x) :: r, h => by
    have hg : ¬ g = f := fun e => h (by rw [← e]; exact List.mem_cons_self)
    show (if g = f then (g, v) :: r else (g, x) :: putF f v r) = _
    rw [if_neg hg, putF_new fun z => h (List.mem_cons_of_mem _ z)]
    rfl
def chkOne (N : List Str) (sc : Scope) (i : Nat) (f : Str) : Stmt → Bool
  | .Assign [.Attribute o g _] v _ => g == f && nameB N sc 0 o && nameB N sc i v
  | _ => false
theorem chkOne_of {N : List Str} {sc : Scope} {i : Nat} {f : Str} {st : Stmt} (h : chkOne N sc i f st = true) : ∃ o g ap v pos, st = .Assign [.Attribute o g ap] v pos ∧ (g == f && nameB N sc 0 o && nameB N sc i v) = true := by
  unfold chkOne at h
  split at h
  · exact ⟨_, _, _, _, _, rfl, h⟩
  · cases h
def chkInit (N : List Str) (sc : Scope) : Nat → List Str → List Stmt → Bool
  | _, [], [] => true
  | i, f :: fs, st :: r => chkOne N sc i f st && chkInit N sc (i + 1) fs r
  | _, _, _ => false
def initOk (N : List Str) (ns : List Str) (st : Stmt) : Bool := scB N N.length (defScope st) && N.length == ns.length + 1 && chkInit N (defScope st) 1 ns (defBody st)
theorem init_body {X : Cx} {N : List Str} (hN : X.N = N) : ∀ (fs : List Str) (i : Nat) (body : List Stmt), chkInit N X.env.scope i fs body = true → ∃ t, PSs X body t ∧ ∀ (D : Ends) (σ : St) (H : Hp) (a C dx : Addr) (done : List (Str × V)) (xs : List V),
    σ[0]? = some (some (.ref a)) → H a = some (.ins C dx done) → Cls X.K C → (∀ f ∈ fs, NoAttr X.K C f) → done.length + fs.length < 1000 → (∀ f ∈ fs, f ∉ done.map (·.1)) → fs.Nodup → xs.length = fs.length →
    (∀ j v, xs[j]? = some v → σ[i + j]? = some (some v)) → D.nx σ (upd H a (.ins C dx (done ++ fs.zip xs))) → t D σ H := by
  intro fs
  induction fs with
  | nil =>
    intro i body h
    cases body with
    | cons _ _ => simp [chkInit] at h
    | nil =>
      refine ⟨tNext, pss_nil, fun D σ H a C dx done xs _ h2 _ _ _ _ _ _ _ q => ?_⟩
      have q : D.nx σ (upd H a (.ins C dx (done ++ []))) := q
      rw [List.append_nil, upd_self h2] at q
      exact q
  | cons f fs ih =>
    intro i body h
    cases body with
    | nil => simp [chkInit] at h
    | cons st r =>
      have h : (chkOne N X.env.scope i f st && chkInit N X.env.scope (i + 1) fs r) = true := h
      rw [Bool.and_eq_true] at h
      obtain ⟨h0, h4⟩ := h
      obtain ⟨o, g, ap, v, pos, e, h5⟩ := chkOne_of h0
      clear h0
      subst e
      simp only [Bool.and_eq_true] at h5
      obtain ⟨⟨h1, h2⟩, h3⟩ := h5
      have h1 := eq_of_beq h1
      subst h1
      obtain ⟨p1, _⟩ := nameB_of hN h2
      obtain ⟨p2, n2, q2, e2⟩ := nameB_of hN h3
      subst e2
      obtain ⟨t, ht, hq⟩ := ih (i + 1) r h4
      refine ⟨_, pss_cons (ps_fld p1 p2 rfl) ht, fun D σ H a C dx done xs s0 hH hc hno hl hd nd hx hs q => ?_⟩
      cases xs with
      | nil => cases hx
      | cons x xs =>
        refine ⟨x, hs 0 x rfl, .ref a, s0, a, C, dx, done, rfl, hH, hc, hno _ List.mem_cons_self, by simp at hl; omega, ?_⟩
        have nd' := List.nodup_cons.mp nd
        rw [putF_new (hd _ List.mem_cons_self)]
        refine hq D σ _ a C dx (done ++ [(g, x)]) xs s0 upd_same hc (fun f hf => hno f (List.mem_cons_of_mem _ hf)) (by simp at hl ⊢; omega) (fun f hf => ?_) nd'.2 (by simpa using hx) (fun j v e => ?_) ?_
        · rw [List.map_append, List.mem_append]
          rintro (z | z)
          · exact hd f (List.mem_cons_of_mem _ hf) z
          · have : f = g := by simpa using z
            subst this
            exact nd'.1 hf
        · have := hs (j + 1) v (by simpa using e)
          rw [show i + 1 + j = i + (j + 1) by omega]
          exact this
        · rw [upd_upd, List.append_assoc]
          exact q
theorem init_ok {P : Program} {w : World} {K : PySem.W.Frag} {mg : Str → Option Value} {base : Heap} {CX : CXT} {N ns : List Str} {qual : Str} {st : Stmt} {fa : Addr} {fd : FuncData} (h : initOk N ns st = true) (Ff : L2.Fun K (Str.ofString "__init__") qual st fa fd) :
    FnOk P w K mg base CX 1 fa fd N (spI K ns) := by
  unfold initOk at h
  simp only [Bool.and_eq_true] at h
  obtain ⟨⟨h1, h2⟩, h3⟩ := h
  obtain ⟨S, _⟩ := scB_of h1
  rw [List.take_length] at S
  have hl : N.length = ns.length + 1 := eq_of_beq h2
  obtain ⟨oc, od, kV, doc, pm, an, cdv, ct, osl, rfl, lk, hcd⟩ := Ff.ex
  refine fn_of lk hcd S (fun vs H Q E ⟨a, C, dx, xs, e, _, _, hx, _⟩ => by rw [e, List.length_cons, hx, hl]) fun A outer s H vs Q E hr ⟨a, C, dx, xs, e, hH, hC, hx, hq⟩ => ?_
  subst e
  obtain ⟨t, ht, hw⟩ := init_body (X := cxOf CX P w K mg base N qual (defScope st) fa cdv A outer s H E) rfl ns 1 (defBody st) h3
  refine ⟨t, ht, hw _ _ _ a C dx [] xs rfl hH hC.cls hC.no (by have := hC.sz; simp; omega) (fun _ _ => by simp) hC.nd hx (fun j v e => ?_) hq⟩
  have hj := get_lt e
  unfold L2.start
  rw [List.getElem?_append_left (by simp; omega)]
  simp only [List.map_cons]
  rw [Nat.add_comm, List.getElem?_cons_succ, List.getElem?_map, e]
  rfl
end Pu

/-! Defs, and the law. -/
namespace Pu
open PySem L2
structure Defs where
  names : List String
  isF : String → Bool
  nm : String → String
  st : String → Stmt
  N : String → List Str
  isX : String → Bool
  isC : String → Bool
  isT : String → Bool
  isN : String → Bool

def Defs.ck (Dd : Defs) (f : String) : Ck := ⟨Dd.N f, fun g => Dd.names.contains g && Dd.isF g, Dd.isX, Dd.isC, Dd.isT, Dd.isN⟩
def Defs.ok1 (T : Tab) (Dd : Defs) (f : String) : Bool := match T.fn f with
  | some F => F.ns == (Dd.N f).length && scB (Dd.N f) F.np (defScope (Dd.st f)) && chkB (Dd.ck f) F.body (defScope (Dd.st f)) (defBody (Dd.st f))
  | none => false
def Defs.np (T : Tab) (Dd : Defs) (f : String) : Nat := match T.fn f with
  | some F => F.np
  | none => 0
def Defs.ps (T : Tab) (Dd : Defs) (f : String) : List Str := (Dd.N f).take (Dd.np T f)
/-- a class's making -/
inductive NewF (K : PySem.W.Frag) (C : Addr) (ns : List Str) : Prop
  | ini {N : List Str} {st : Stmt} {qual : Str} {fi : Addr} {fd : FuncData} : initOk N ns st = true → Mk K C fi → Fun K (Str.ofString "__init__") qual st fi fd → (∀ us : List Value, us.length = N.length → bindArgs fd ⟨us, []⟩ = pure (N.zip us)) → NewF K C ns
  | obj : ns = [] → PySem.W.makesIn K C = true → PySem.W.findIn K (.ref C) "__init__" = some (some (.builtin "object.__init__")) → PySem.W.mroIn K C (.type "object") = some true → PySem.W.keepIn K (.ref C) = true → NewF K C ns
/-- what the top has written -/
structure Facts (T : Tab) (Dd : Defs) (K : PySem.W.Frag) (mg : Str → Option Value) (cl : Cl) (ex : String → Option Addr) : Prop where
  fn : ∀ f ∈ Dd.names, Dd.isF f = true → ∃ fa fd, mg (Str.ofString f) = some (.ref fa) ∧ Fun K (Str.ofString (Dd.nm f)) (Str.ofString f) (Dd.st f) fa fd ∧ ∀ us : List Value, us.length = (Dd.ps T f).length → bindArgs fd ⟨us, []⟩ = pure ((Dd.ps T f).zip us)
  new : ∀ k, Dd.isN k = true → ∃ fs C, T.fields k = some fs ∧ mg (Str.ofString k) = some (.ref C) ∧ cl k = some (C, fs.map Str.ofString) ∧ NewF K C (fs.map Str.ofString)
  fld : ∀ k fs, T.fields k = some fs → ∃ C, cl k = some (C, fs.map Str.ofString) ∧ ClK K C (fs.map Str.ofString)
  meth : ∀ k m f, T.mro k m = some f → f ∈ Dd.names ∧ ∃ C ns fa fd, cl k = some (C, ns) ∧ ClK K C ns ∧ Str.ofString m ∉ ns ∧ Meth K C (Str.ofString m) fa ∧ Fun K (Str.ofString (Dd.nm f)) (Str.ofString f) (Dd.st f) fa fd ∧
    ∀ us : List Value, us.length = (Dd.ps T f).length → bindArgs fd ⟨us, []⟩ = pure ((Dd.ps T f).zip us)
  mgB : ∀ b ∈ bAll, mg (Str.ofString b) = none
  glob : ∀ x d, T.glob x = some d → ∃ v u, mg (Str.ofString x) = some u ∧ RelV v u ∧ Rep K cl (fun _ => none) v d
  isC : ∀ k, Dd.isC k = true → ∃ v u, ClsV v u ∧ RelV v u ∧ (mg (Str.ofString k) = some u ∨ (mg (Str.ofString k) = none ∧ bootBuiltins (Str.ofString k) = some u)) ∧
    (∀ e C ns b, cl e = some (C, ns) → T.isx e k = some b → ExcC K C ∧ PySem.W.kitOne K (.ref C) u = some b) ∧
    ∀ e C ns b, cl e = some (C, ns) → T.isi e k = some b → InsK K C ∧ PySem.W.kitOne K (.ref C) u = some b
  tr : ∀ k, Dd.isT k = true → ∃ Ct, mg (Str.ofString k) = some (.ref Ct) ∧ ∀ e C ns b, cl e = some (C, ns) → T.isx e k = some b → PySem.W.exmOne K (.ref C) (.ref Ct) = some b
  exCl : ∀ e C, ex e = some C → ∃ ns, cl e = some (C, ns)
  exc : ∀ k, Dd.isX k = true → ∃ C, ex k = some C ∧ mg (Str.ofString k) = some (.ref C) ∧ PySem.W.excIn K C veMro "ValueError.__new__" = true ∧ PySem.W.keepIn K (.ref C) = true ∧ PySem.W.subIn K (.ref C) (.type "BaseException") = some true ∧ PySem.W.typeIn K (.ref C) = some (.type "type")

section
variable {T : Tab} {Dd : Defs} {P : Program} {w : World} {K : PySem.W.Frag} {mg : Str → Option Value} {base : Heap} {cl : Cl} {ex : String → Option Addr}
noncomputable def pkOf (T : Tab) (K : PySem.W.Frag) (cl : Cl) (ex : String → Option Addr) (n : Nat) (E : XK) : Pk := ⟨K, cl, orcOf T (evFn T n), E, ex⟩
theorem evFn_bor {n : Nat} {f : String} {ds : List D} {d : D} (hb : T.bor f = true) (h : evFn T n f ds = .ok d) : (if T.fresh f = true then d.noL1 else d.noL) = true := by
  cases n with
  | zero => cases h
  | succ n =>
    unfold evFn at h
    unfold Tab.bor at hb
    unfold Tab.fresh
    cases hF : T.fn f with
    | none => rw [hF] at hb; cases hb
    | some F =>
      rw [hF] at h hb
      simp only at h hb ⊢
      split at h <;> first | (cases h; done) | skip
      split at h <;> first | (cases h; done) | skip
      · rename_i fr d' _
        split at h <;> first | (cases h; done) | skip
        rename_i ho
        cases h
        unfold outOk at ho
        rw [hb] at ho
        simp only [Bool.and_eq_true, Bool.not_true, Bool.false_or] at ho
        exact ho.2
      · cases h
        by_cases hfr : F.fresh = true
        · rw [if_pos hfr]; rfl
        · rw [if_neg hfr]; rfl
theorem start_rep {H G : Hp} {F : Fn} {N : List Str} {vs : List V} {ds : List D} {n : Nat} {E : XK} (s : Same G H) (ra : RepA K cl G vs ds) (hl : ds.length = F.np) (hn : F.ns = N.length) (hp : F.np ≤ N.length) :
    StRep (pkOf T K cl ex n E) G H [] G (start0 F ds) (L2.start N vs) H where
  env := by
    have get : ∀ {i : Nat} {fl : Fl} {d : D}, (start0 F ds)[i]? = some (some (fl, d)) → fl = .frz ∧ ds[i]? = some d := fun {i fl d} e => by
      unfold start0 at e
      by_cases hi : i < ds.length
      · rw [List.getElem?_append_left (by simpa using hi), List.getElem?_map] at e
        cases q : ds[i]? with
        | none => rw [q] at e; cases e
        | some y => rw [q] at e; cases e; exact ⟨rfl, rfl⟩
      · rw [List.getElem?_append_right (by simpa using hi), List.getElem?_replicate] at e
        split at e <;> cases e
    refine ⟨s, ?_, fun i fl d e => ?_, fun i j fi fj di dj v _ e1 _ n1 _ _ _ => n1 (get e1).1⟩
    · unfold L2.start start0
      simp only [List.length_append, List.length_map, List.length_replicate]
      rw [ra.length]
      omega
    · obtain ⟨rfl, hd⟩ := get e
      obtain ⟨v, h1, h2⟩ := ra.get hd
      have hv := get_lt h1
      refine ⟨v, ?_, h2⟩
      unfold L2.start
      rw [List.getElem?_append_left (by simpa using hv), List.getElem?_map, h1]
      rfl
  sg := .refl _
  sh := .refl _
  nw := fun _ _ => rfl
  own := fun i fl d a e n1 _ => by
    unfold start0 at e
    by_cases hi : i < ds.length
    · rw [List.getElem?_append_left (by simpa using hi), List.getElem?_map] at e
      cases q : ds[i]? with
      | none => rw [q] at e; cases e
      | some y => rw [q] at e; cases e; exact absurd rfl n1
    · rw [List.getElem?_append_right (by simpa using hi), List.getElem?_replicate] at e
      split at e <;> cases e
  lk := fun _ z => by cases z
theorem Out.to {fr fr' : Bool} {G H G' H' : Hp} {v : V} {d : D} (g : Grow G H G' H') (o : Out K cl fr G' H H' v d) (h : (!fr' || fr || !d.isL) = true) : ∃ G2, Grow G H G2 H' ∧ Out K cl fr' G2 H H' v d := by
  cases fr' with
  | false =>
    obtain ⟨G2, g2, _, r⟩ := o.rep g
    exact ⟨G2, g2, .of r (.inl rfl)⟩
  | true =>
    cases fr with
    | true => exact ⟨G', g, o⟩
    | false =>
      refine ⟨G', g, ?_⟩
      have hd : d.isL = false := by
        cases q : d.isL with
        | false => rfl
        | true => rw [q] at h; cases h
      unfold Out at o ⊢
      rw [if_neg (by simp)] at o
      rw [if_neg (by simp [hd])]
      exact o
theorem defs (hok : ∀ f ∈ Dd.names, Dd.ok1 T f = true) (Fc : Facts T Dd K mg cl ex) : ∀ (n : Nat) (f : String), f ∈ Dd.names → ∀ (fa : Addr) (fd : FuncData), Fun K (Str.ofString (Dd.nm f)) (Str.ofString f) (Dd.st f) fa fd →
    FnOk P w K mg base (L2.CX P w) (n + 2) fa fd (Dd.ps T f) (spF (pkOf T K cl ex n fun _ _ _ => False) f)
  | 0, f, hf, fa, fd, _ => by
    have no : ∀ vs H Q E, spF (pkOf T K cl ex 0 fun _ _ _ => False) f vs H Q E → False := fun vs H Q E ⟨_, _, _, _, w⟩ => w
    exact ⟨fun vs H Q E h => (no _ _ _ _ h).elim, fun A outer s H args us vs Q E _ _ _ _ h => (no _ _ _ _ h).elim⟩
  | n + 1, f, hf, fa, fd, Ff => by
    have ih := defs hok Fc n
    have h1 := hok f hf
    unfold Defs.ok1 at h1
    cases hF : T.fn f with
    | none => rw [hF] at h1; cases h1
    | some F =>
      rw [hF] at h1
      simp only [Bool.and_eq_true] at h1
      obtain ⟨⟨hns, hsc⟩, hch⟩ := h1
      obtain ⟨S, hnp⟩ := scB_of hsc
      have hps : Dd.ps T f = (Dd.N f).take F.np := by unfold Defs.ps Defs.np; rw [hF]
      have hlen : (Dd.ps T f).length = F.np := by rw [hps, List.length_take, Nat.min_eq_left hnp]
      have evc : ∀ ds, evFn T (n + 1) f ds = (if ds.length = F.np then
          match exec (orcOf T (evFn T n)) F.body (start0 F ds) with
          | .ok (_, .ret fr d) => if outOk F fr d = true then .ok d else .stuck
          | .ok (_, .nx) => .ok .non
          | .ok _ => .stuck
          | .exc c v => .exc c v
          | .stuck => .stuck
        else .stuck) := fun ds => by
        rw [evFn, hF] <;> rfl
      have hlenA : ∀ vs H Q E, spF (pkOf T K cl ex (n + 1) fun _ _ _ => False) f vs H Q E → vs.length = (Dd.ps T f).length := fun vs H Q E ⟨G, ds, sg, ra, hw⟩ => by
        have hw : Wp _ (evFn T (n + 1) f ds) _ := hw
        rw [evc] at hw
        by_cases hl : ds.length = F.np
        · rw [ra.length, hl, hlen]
        · rw [if_neg hl] at hw; exact hw.elim
      obtain ⟨oc, od, kV, doc, pm, an, cdv, ct, osl, rfl, lk, hcd⟩ := Ff.ex
      refine fn_of lk hcd (by rw [hps]; exact S) hlenA fun A outer s H vs Q E hr hsp => ?_
      obtain ⟨G, ds, sg, ra, hw⟩ := hsp
      have O : SOk (Dd.ck f) (pkOf T K cl ex n E) (cxOf (L2.CX P w) P w K mg base (Dd.N f) (Str.ofString f) (defScope (Dd.st f)) fa cdv A outer s H E) := {
        K := rfl
        N := rfl
        nd := S.nd
        calm := rfl
        room := hr.units
        mgB := Fc.mgB
        glob := Fc.glob
        call := fun g hg => by
          have hg : (Dd.names.contains g && Dd.isF g) = true := hg
          rw [Bool.and_eq_true] at hg
          have hg' : g ∈ Dd.names := List.contains_iff_mem.mp hg.1
          obtain ⟨ga, gd, e1, e2, e3⟩ := Fc.fn g hg' hg.2
          exact ⟨ga, e1, e2.kp, gd, Dd.ps T g, n + 2, ih g hg' ga gd e2, hr, .all e3⟩
        new := fun k hk => by
          obtain ⟨fs, C, h1, h2, h3, h4⟩ := Fc.new k hk
          obtain ⟨C', h5, h6⟩ := Fc.fld k fs h1
          rw [h3] at h5
          cases h5
          refine ⟨C, fs.map Str.ofString, h2, h3, ?_, h6, fun ds => ?_⟩
          · cases h4 with
            | ini a b c d => exact .ini b (init_ok a c) (hr.mono (by omega)) (.all d)
            | obj a b c d e => exact .obj a b c d e
          · show (match T.fields k with | some fs => if fs.length = ds.length then R.ok (D.obj k ds) else .stuck | none => .stuck) = _ ∨ ((match T.fields k with | some fs => if fs.length = ds.length then R.ok (D.obj k ds) else .stuck | none => .stuck) = _ ∧ _)
            rw [h1]
            by_cases hl : fs.length = ds.length
            · exact .inr ⟨if_pos hl, by simp [hl]⟩
            · exact .inl (if_neg hl)
        fld := fun k f i h => by
          have h : (T.fields k).bind (fun fs => fs.findIdx? (· == f)) = some i := h
          obtain ⟨fs, h1, h2⟩ := Option.bind_eq_some_iff.mp h
          obtain ⟨C, h3, h4⟩ := Fc.fld k fs h1
          refine ⟨C, _, h3, h4, ?_⟩
          obtain ⟨h5, h6, _⟩ := List.findIdx?_eq_some_iff_getElem.mp h2
          have h6 := eq_of_beq h6
          rw [List.getElem?_map, List.getElem?_eq_getElem h5, h6]
          rfl
        meth := fun k m ds => by
          show (match T.mro k m with | some f => if (T.freshM m = true → T.fresh f = true) ∧ (T.borM m = true → T.bor f = true) then evFn T n f ds else .stuck | none => .stuck) = _ ∨ ∃ f C ns fa, (match T.mro k m with | some f => if (T.freshM m = true → T.fresh f = true) ∧ (T.borM m = true → T.bor f = true) then evFn T n f ds else .stuck | none => .stuck) = _ ∧ _
          cases hm : T.mro k m with
          | none => exact .inl rfl
          | some g =>
            by_cases hc : (T.freshM m = true → T.fresh g = true) ∧ (T.borM m = true → T.bor g = true)
            · obtain ⟨hg, C, ns, fa, fd, h1, h2, h3, h4, h5, h6⟩ := Fc.meth k m g hm
              exact .inr ⟨g, C, ns, fa, if_pos hc, hc.1, hc.2, h1, h2, h3, h4, h4.kp, fd, Dd.ps T g, n + 2, ih g hg fa fd h5, hr, .all h6⟩
            · exact .inl (if_neg hc)
        pass := passes_call (takes_of rfl rfl rfl rfl) fun _ _ _ _ h => h
        isC := Fc.isC
        tr := Fc.tr
        exCl := Fc.exCl
        stk := rfl
        frm := rfl
        bor := fun g es d hb he => evFn_bor hb he
        takes := takes_of rfl rfl rfl rfl
        passes := passes_of rfl
        fnT := fun _ => rfl
        kind := S.kind
        exc := fun k hk => by
          obtain ⟨C, e1, e2, e3, e4, e5, e6⟩ := Fc.exc k hk
          exact ⟨C, e1, e3, e2, e4, raises_own e5 e6⟩ }
      refine ⟨_, (goodS F.body).all hch O, G, H, [], G, start0 F ds, ?_, (fun _ z => by cases z), ?_⟩
      · have hw : Wp _ (evFn T (n + 1) f ds) _ := hw
        rw [evc] at hw
        by_cases hl : ds.length = F.np
        · exact start_rep sg ra hl (eq_of_beq hns) hnp
        · rw [if_neg hl] at hw; exact hw.elim
      · have hw : Wp (Pk.W (pkOf T K cl ex n E) H) (evFn T (n + 1) f ds) (fun d => ∀ G' H' v, Grow G H G' H' → Out K cl (T.fresh f) G' H H' v d → Q v H') := hw
        rw [evc] at hw
        by_cases hl : ds.length = F.np
        · rw [if_pos hl] at hw
          have hfr : T.fresh f = F.fresh := by unfold Tab.fresh; rw [hF]
          rw [hfr] at hw
          show WpS _ G H [] _ (exec (orcOf T (evFn T n)) F.body (start0 F ds))
          cases hx : exec (orcOf T (evFn T n)) F.body (start0 F ds) with
          | stuck => rw [hx] at hw; exact hw
          | exc k v => rw [hx] at hw; exact hw
          | ok q =>
            obtain ⟨r', fw⟩ := q
            rw [hx] at hw
            cases fw with
            | nx => exact fun G' σ' H' S' => hw G' H' .non (Grow.ofSt S') (.of .non (.inr rfl))
            | brk => exact hw.elim
            | cont => exact hw.elim
            | ret fr d =>
              intro G' H' v g o
              have hw : Wp _ (if outOk F fr d = true then R.ok d else .stuck) _ := hw
              obtain ⟨ho, hw⟩ := Wp.ite hw
              unfold outOk at ho
              rw [Bool.and_eq_true] at ho
              obtain ⟨G2, g2, o2⟩ := o.to g ho.1
              exact hw G2 H' v g2 o2
        · rw [if_neg hl] at hw; exact hw.elim
end
/-- THE WALK: a law by the evaluator -/
theorem law_walk {l : PySem.W.OpenLaw} {q : Program} {loose : List Str} {XP : (Str → Option Value) → Heap → Prop} {YP : World → Heap → Prop} {d : DefRec} {Kf : Params → PySem.W.Frag} {T : Tab} {Dd : Defs} {x : Str} (n : Nat)
    (hm : l.most = some 63) (hdf : d.params.defaults = []) (hname : d.name = Str.ofString "law") (hr : Room (n + 2) callerA) (hlaw : "law" ∈ Dd.names) (hlF : Dd.isF "law" = true) (hps : Dd.ps T "law" = [x]) (hok : ∀ f ∈ Dd.names, Dd.ok1 T f = true)
    (hev : ∀ ns : List Int, ns.length ≤ 63 → evFn T n "law" [.lst (ns.map .int)] = .ok (.bl true))
    (hY : ∀ (w : World) (h : Heap), YP w h → (Kf w.params).In h)
    (F : ∀ (w : World) (mg : Str → Option Value) (h : Heap), (Kf w.params).In h → h.Ns mainGlobals mg → ∃ cl ex, Facts T Dd (Kf w.params) mg cl ex) :
    PySem.W.WalkO q loose XP YP l.row.toRowW d [] (fun f vs => PySem.call f vs) := by
  refine L2.walk_of (n := 63) (k := n + 2) (x := x) (CX := fun w => L2.CX l.prog w) (sp := fun w => fun vs H Q E => ∃ G, Same G H ∧ ∃ ns : List Int, ns.length ≤ 63 ∧ (∃ a, vs = [.ref a] ∧ SqL (Kf w.params) G a (ns.map V.int)) ∧ ∀ H', Q (.bl true) H')
    hm (by decide) hdf hr hY (fun w mg fa h KX G hmg => ?_) (fun w H a ns h1 h2 h3 => ⟨H, .refl _, ns, h1, ⟨a, rfl, h3⟩, fun _ => rfl⟩) fun w H s e s' ⟨_, _, _, _, _, _, _, _, _, _, _, _, z⟩ => z
  obtain ⟨cl, ex, Fc⟩ := F w mg h KX G
  obtain ⟨fa', fd, e1, e2, e3⟩ := Fc.fn "law" hlaw hlF
  rw [hname, e1] at hmg
  cases hmg
  refine ⟨fd, fun s u => ?_, fun base hb hg => ?_⟩
  · rw [hps] at e3
    exact .of_eq (e3 [u] rfl)
  · have := defs (P := l.prog) (w := w) (base := base) hok Fc n "law" hlaw fa fd e2
    rw [hps] at this
    refine this.imp fun vs H Q E ⟨G, sg, ns, hn, ⟨a, e, sq⟩, hq⟩ => ?_
    subst e
    refine ⟨G, [.lst (ns.map .int)], sg, .cons (.lst sq (RepA.ints ns)) .nil, ?_⟩
    show Wp _ (evFn T n "law" [.lst (ns.map .int)]) _
    rw [hev ns hn]
    intro G' H' v g o
    have hv : v = .bl true := by
      have o : Out _ _ _ _ _ _ _ _ := o
      have := o.repB
      exact this.bl
    subst hv
    exact hq H'
end Pu

/-! Reading the evaluator. -/
namespace Pu
open PySem
def fin (F : Fn) : R (Env × Fw) → R D
  | .ok (_, .ret fr d) => if outOk F fr d = true then .ok d else .stuck
  | .ok (_, .nx) => .ok .non
  | .ok _ => .stuck
  | .exc c v => .exc c v
  | .stuck => .stuck
theorem evFn_eq {T : Tab} {f : String} {F : Fn} (n : Nat) {ds : List D} (h : T.fn f = some F) (hl : ds.length = F.np) : evFn T (n + 1) f ds = fin F (exec (orcOf T (evFn T n)) F.body (start0 F ds)) := by
  rw [evFn, h]
  show (if ds.length = F.np then _ else _) = _
  rw [if_pos hl]
  rfl
theorem seq_ok {o : Orc} {a b : S} {r r' : Env} (h : exec o a r = .ok (r', .nx)) : exec o (.seq a b) r = exec o b r' := by
  show (match exec o a r with
    | .ok (r', .nx) => exec o b r'
    | x => x) = _
  rw [h]

/-! ### sizes -/
def Bits (k : Nat) (a : Int) : Prop := a.natAbs < 2 ^ k
theorem Bits.mono {k m : Nat} {a : Int} (h : Bits k a) (l : k ≤ m) : Bits m a := Nat.lt_of_lt_of_le h (Nat.pow_le_pow_right (by decide) l)
theorem Bits.neg {k : Nat} {a : Int} (h : Bits k a) : Bits k (-a) := by unfold Bits; rw [Int.natAbs_neg]; exact h
theorem Bits.mul {k m : Nat} {a b : Int} (h : Bits k a) (h' : Bits m b) : Bits (k + m) (a * b) := by
  unfold Bits
  rw [Int.natAbs_mul, Nat.pow_add]
  exact Nat.mul_lt_mul'' h h'
theorem Bits.add {k : Nat} {a b : Int} (h : Bits k a) (h' : Bits k b) : Bits (k + 1) (a + b) := by
  unfold Bits at *
  have := Int.natAbs_add_le a b
  rw [Nat.pow_succ]
  omega
theorem Bits.sub {k : Nat} {a b : Int} (h : Bits k a) (h' : Bits k b) : Bits (k + 1) (a - b) := by
  rw [Int.sub_eq_add_neg]; exact h.add h'.neg
theorem Bits.fdiv {k : Nat} {a b : Int} (h : Bits k a) : Bits k (a.fdiv b) := Nat.lt_of_le_of_lt (Int.natAbs_fdiv_le_natAbs a b) h
theorem Bits.abs {k : Nat} {a : Int} (h : Bits k a) : Bits k (if a < 0 then -a else a) := by
  split
  · exact h.neg
  · exact h
theorem Bits.ite {k : Nat} {a b : Int} {c : Prop} [Decidable c] (h : Bits k a) (h' : Bits k b) : Bits k (if c then a else b) := by
  split
  · exact h
  · exact h'
theorem fmod_natAbs_lt (a : Int) {b : Int} (hb : b ≠ 0) : (a.fmod b).natAbs < b.natAbs := by
  rcases Int.lt_or_gt_of_ne hb with h | h
  · have h1 := Int.fmod_nonneg_of_pos (-a) (b := -b) (by omega)
    have h2 := Int.fmod_lt_of_pos (-a) (b := -b) (by omega)
    rw [Int.neg_fmod_neg] at h1 h2
    omega
  · have h1 := Int.fmod_nonneg_of_pos a h
    have h2 := Int.fmod_lt_of_pos a h
    omega
theorem Bits.fmod {k : Nat} {a b : Int} (h : Bits k b) (hb : b ≠ 0) : Bits k (a.fmod b) := Nat.lt_trans (fmod_natAbs_lt a hb) h
theorem log2_lt' {n k : Nat} (h : n < 2 ^ k) (hk : 0 < k) : n.log2 < k := by
  by_cases h0 : n = 0
  · subst h0; simpa using hk
  · exact (Nat.log2_lt h0).mpr h
theorem mulOk_of {k m : Nat} {a b : Int} (h : Bits k a) (h' : Bits m b) (hk : k ≤ 10000000) (hm : m ≤ 10000000) : mulOk a b = true := by
  have h1 := log2_lt' (h.mono (Nat.le_succ k)) (Nat.succ_pos k)
  have h2 := log2_lt' (h'.mono (Nat.le_succ m)) (Nat.succ_pos m)
  unfold mulOk
  rw [decide_eq_true (by omega : a.natAbs.log2 + b.natAbs.log2 < 100000000)]
  rfl
theorem mulOk_l {a b : Int} (h : a.natAbs < 2 ^ 64) : mulOk a b = true := by
  unfold mulOk
  rw [decide_eq_true h, Bool.or_true]
  rfl
theorem mulOk_r {a b : Int} (h : b.natAbs < 2 ^ 64) : mulOk a b = true := by
  unfold mulOk
  rw [decide_eq_true h, Bool.or_true]
theorem divOk_of {k : Nat} {a b : Int} (hb : b ≠ 0) (h : Bits k b) (hk : k < 9000) : divOk a b = true := by
  have h1 := log2_lt' (h.mono (Nat.le_succ k)) (Nat.succ_pos k)
  unfold divOk
  rw [decide_eq_true hb, decide_eq_true (by omega : b.natAbs.log2 < 9000)]
  rfl

/-! ### loops -/
theorem forL_inv {f : Env → D → R (Env × Fw)} (Inv : Nat → Env → Prop) : ∀ (xs : List D) (k : Nat) (r : Env), Inv k r → (∀ i x r, xs[i]? = some x → Inv (k + i) r → ∃ r', f r x = .ok (r', .nx) ∧ Inv (k + i + 1) r') →
    ∃ r', forL f xs r = .ok (r', .nx) ∧ Inv (k + xs.length) r'
  | [], k, r, h, _ => ⟨r, rfl, h⟩
  | x :: xs, k, r, h, hs => by
    obtain ⟨r1, e1, h1⟩ := hs 0 x r rfl h
    obtain ⟨r2, e2, h2⟩ := forL_inv Inv xs (k + 1) r1 h1 fun i y r hy hi => by
      have := hs (i + 1) y r (by simpa using hy) (by rw [show k + (i + 1) = k + 1 + i by omega]; exact hi)
      rw [show k + (i + 1) + 1 = k + 1 + i + 1 by omega] at this
      exact this
    refine ⟨r2, ?_, by rw [List.length_cons, show k + (xs.length + 1) = k + 1 + xs.length by omega]; exact h2⟩
    show (match f r x with
      | .ok (r', .nx) => forL f xs r'
      | .ok (r', .cont) => forL f xs r'
      | .ok (r', .brk) => .ok (r', .nx)
      | .ok (r', .ret k d) => .ok (r', .ret k d)
      | .exc k v => .exc k v
      | .stuck => .stuck) = _
    rw [e1]
    exact e2
theorem rangeL_get {lo : Int} {n i : Nat} {x : D} (h : (rangeL lo n)[i]? = some x) : i < n ∧ x = .int (lo + i) := by
  unfold rangeL at h
  rw [List.getElem?_map] at h
  by_cases hi : i < n
  · rw [List.getElem?_range hi] at h
    exact ⟨hi, (Option.some.inj h).symm⟩
  · rw [List.getElem?_eq_none (by simpa using hi)] at h
    cases h
theorem rangeL_length (lo : Int) (n : Nat) : (rangeL lo n).length = n := by simp [rangeL]
/-! ### statements -/
theorem exec_whl (o : Orc) (c : E) (b : S) (dead : List Nat) (r : Env) : exec o (.whl c b dead) r = (match (do let d ← ev o (frzL r (escB o c)) c; asBl d : R Bool) with
    | .ok false => .ok (frzL r (escB o c), .nx)
    | .ok true => match exec o b (frzL r (escB o c)) with
      | .ok (r', .nx) => exec o (.whl c b dead) (kill r' dead)
      | .ok (r', .cont) => exec o (.whl c b dead) (kill r' dead)
      | .ok (r', .brk) => .ok (frzL (kill r' dead) (escB o c), .nx)
      | .ok (r', .ret f d) => .ok (frzL (kill r' dead) (escB o c), .ret f d)
      | .exc k v => .exc k v
      | .stuck => .stuck
    | .exc k v => .exc k v
    | .stuck => .stuck) := by
  show whileC (whlC o c) (whlB o c b dead) (frzL r (escB o c)) = _
  rw [whileC_eq]
  show (match whlC o c (frzL r (escB o c)) with
    | .ok false => _
    | .ok true => _
    | .exc k v => _
    | .stuck => _) = (match whlC o c (frzL r (escB o c)) with
    | .ok false => _
    | .ok true => _
    | .exc k v => _
    | .stuck => _)
  cases whlC o c (frzL r (escB o c)) with
  | stuck => rfl
  | exc k v => rfl
  | ok k =>
    cases k with
    | false => rfl
    | true =>
      simp only [whlB]
      cases exec o b (frzL r (escB o c)) with
      | stuck => rfl
      | exc k v => rfl
      | ok q =>
        obtain ⟨r', f⟩ := q
        cases f <;> rfl
theorem whl_f {o : Orc} {c : E} {b : S} {dead : List Nat} {r : Env} (h : ev o (frzL r (escB o c)) c = .ok (.bl false)) : exec o (.whl c b dead) r = .ok (frzL r (escB o c), .nx) := by
  rw [exec_whl, h]
  rfl
theorem whl_t {o : Orc} {c : E} {b : S} {dead : List Nat} {r r' : Env} (h : ev o (frzL r (escB o c)) c = .ok (.bl true)) (hb : exec o b (frzL r (escB o c)) = .ok (r', .nx)) : exec o (.whl c b dead) r = exec o (.whl c b dead) (kill r' dead) := by
  rw [exec_whl, h]
  show (match exec o b (frzL r (escB o c)) with
      | .ok (r', .nx) => _
      | .ok (r', .cont) => _
      | .ok (r', .brk) => _
      | .ok (r', .ret f d) => _
      | .exc k v => _
      | .stuck => _) = _
  rw [hb]
theorem exec_for {o : Orc} {tup : Bool} {is : List Nat} {it : E} {b : S} {dead : List Nat} {r : Env} {xs : List D} (h : evI o r it = .ok xs) :
    exec o (.for_ tup is it b dead) r = opn (owns (frzL r (esc o it)) (locks it)) (forL (forB o tup is b dead) xs (lockL (frzL r (esc o it)) (owns (frzL r (esc o it)) (locks it)))) := by
  show (evI o r it >>= fun xs => _) = _
  rw [h]
  rfl
theorem forB_ok {o : Orc} {tup : Bool} {is : List Nat} {b : S} {dead : List Nat} {r r1 r2 : Env} {x : D} (h : bindT r tup is x = .ok r1) (hb : exec o b r1 = .ok (r2, .nx)) : forB o tup is b dead r x = .ok (kill r2 dead, .nx) := by
  show (bindT r tup is x >>= fun r' => _) = _
  rw [h]
  show (match exec o b r1 with
      | .ok (r', f) => (R.ok (kill r' dead, f) : R (Env × Fw))
      | x => x) = _
  rw [hb]

/-! ### the greatest divisor -/
def gcdI (a b : Int) : Int := if h : b = 0 then a else gcdI b (a.fmod b)
termination_by b.natAbs
decreasing_by exact fmod_natAbs_lt a h
theorem gcdI_zero (a : Int) : gcdI a 0 = a := by rw [gcdI, dif_pos rfl]
theorem gcdI_step (a : Int) {b : Int} (h : b ≠ 0) : gcdI a b = gcdI b (a.fmod b) := by rw [gcdI, dif_neg h]
theorem gcdI_ind {P : Int → Int → Prop} (h0 : ∀ a, P a 0) (h1 : ∀ a b, b ≠ 0 → P b (a.fmod b) → P a b) (a b : Int) : P a b := by
  have key : ∀ n : Nat, ∀ a b : Int, b.natAbs ≤ n → P a b := by
    intro n
    induction n with
    | zero =>
      intro a b h
      have : b = 0 := by omega
      rw [this]; exact h0 a
    | succ n ih =>
      intro a b h
      by_cases hb : b = 0
      · rw [hb]; exact h0 a
      · exact h1 a b hb (ih _ _ (by have := fmod_natAbs_lt a hb; omega))
  exact key _ a b (Nat.le_refl _)
theorem gcdI_natAbs (a b : Int) : (gcdI a b).natAbs = Int.gcd a b := by
  refine gcdI_ind (P := fun a b => (gcdI a b).natAbs = Int.gcd a b) (fun a => ?_) (fun a b hb ih => ?_) a b
  · rw [gcdI_zero]; simp
  · rw [gcdI_step a hb, ih]
    have e : a.fmod b = a - b * a.fdiv b := by have := Int.fmod_add_mul_fdiv a b; omega
    rw [e, Int.gcd_comm]
    simp [Int.gcd_sub_mul_right_left]
theorem divOk_lit {a b : Int} (h : (decide (b ≠ 0) && decide (b.natAbs < 2 ^ 64)) = true) : divOk a b = true := by
  simp only [Bool.and_eq_true, decide_eq_true_eq] at h
  exact divOk_of (k := 64) h.1 h.2 (by decide)
theorem Bits.lit {k : Nat} {a : Int} (h : decide (a.natAbs < 2 ^ k) = true) : Bits k a := by
  unfold Bits
  exact of_decide_eq_true h
theorem atI_map {ns : List Int} {i : Int} {j : Nat} (hj : i = (j : Int)) (hl : j < ns.length) : atI (ns.map D.int) i = some (.int ns[j]) := by
  subst hj
  unfold atI ixN
  simp [hl]
theorem cut_map (ns : List Int) (lo hi : Option Int) : cut (ns.map D.int) lo hi = (cut ns lo hi).map D.int := by
  unfold cut
  simp
theorem cut_to {α : Type} (ns : List α) (k : Nat) : cut ns none (some (k : Int)) = ns.take k := by
  unfold cut sIx
  by_cases h : k ≤ ns.length
  · simp [Nat.min_eq_left h]
  · simp [Nat.min_eq_right (Nat.le_of_lt (Nat.lt_of_not_le h)), List.take_of_length_le (Nat.le_of_lt (Nat.lt_of_not_le h))]
end Pu

/-! The evaluator by rewriting: one rule a form, no branch opened too early. -/
namespace Pu
section
variable {o : Orc} {r : Env} {a b c e es i k lo hi it cnd elt : E} {d x y : D} {ds xs : List D} {f m n : String} {T : Tab} {call : String → List D → R D}
/-! expressions -/
def binK (q : Bop) : R D → R D → R D
  | .ok x, .ok y => bop q x y
  | .ok _, e => e
  | e, _ => e
def blK : R Bool → R D
  | .ok k => .ok (.bl k)
  | .exc c v => .exc c v
  | .stuck => .stuck
def cmpK (q : Cop) : R D → R D → R D
  | .ok x, .ok y => blK (cop q x y)
  | .ok _, e => e
  | e, _ => e
def negK : R D → R D
  | .ok (.int i) => .ok (.int (-i))
  | .ok _ => .stuck
  | e => e
def notK : R D → R D
  | .ok (.bl k) => .ok (.bl (!k))
  | .ok _ => .stuck
  | e => e
def isNK (b : Bool) : R D → R D
  | .ok d => .ok (.bl (d.isNon == b))
  | e => e
def andK : R D → R D → R D
  | .ok (.bl true), y => y
  | .ok (.bl false), _ => .ok (.bl false)
  | .ok _, _ => .stuck
  | e, _ => e
def orK : R D → R D → R D
  | .ok (.bl false), y => y
  | .ok (.bl true), _ => .ok (.bl true)
  | .ok _, _ => .stuck
  | e, _ => e
def ixK : R D → R D → R D
  | .ok x, .ok y => itemOf x y
  | .ok _, e => e
  | e, _ => e
def partK (b : Bool) (x : R D) : R (Option Int) := if b = true then .ok none else (do let v ← x; let k ← asInt v; pure (some k))
def slK : R D → R (Option Int) → R (Option Int) → R D := fun x l h => do let x ← x; let l ← l; let h ← h; sliceOf l h x
def consK : R D → R (List D) → R (List D) := fun x xs => do let x ← x; let xs ← xs; pure (x :: xs)
def tupK : R (List D) → R D := fun x => do let ds ← x; if ds.length ≤ lim then pure (.tup ds) else .stuck
def lstK : R (List D) → R D := fun x => do let ds ← x; if ds.length ≤ lim then pure (.lst ds) else .stuck
def callK (o : Orc) (f : String) : R (List D) → R D := fun x => do let ds ← x; o.call f ds
def bltK (f : String) : R (List D) → R D := fun x => do let ds ← x; builtin f ds
def isiK (o : Orc) (c : String) : R D → R D := fun x => do let d ← x; blK (isiB o c d)
@[simp] theorem ev_var {i : Nat} : ev o r (.var i) = getV r i := (rfl)
@[simp] theorem ev_non : ev o r .non = .ok .non := (rfl)
@[simp] theorem ev_bl {b : Bool} : ev o r (.bl b) = .ok (.bl b) := (rfl)
@[simp] theorem ev_int {i : Int} : ev o r (.int i) = .ok (.int i) := (rfl)
@[simp] theorem ev_str : ev o r (.str n) = .ok (.str (codes n)) := (rfl)
@[simp] theorem ev_glob : ev o r (.glob n) = ofO (o.glob n) := (rfl)
@[simp] theorem ev_bin {q : Bop} : ev o r (.bin q a b) = binK q (ev o r a) (ev o r b) := by
  show (ev o r a >>= fun x => ev o r b >>= fun y => bop q x y) = _
  cases ev o r a <;> first | rfl | (cases ev o r b <;> rfl)
@[simp] theorem ev_cmp {q : Cop} : ev o r (.cmp q a b) = cmpK q (ev o r a) (ev o r b) := by
  show (ev o r a >>= fun x => ev o r b >>= fun y => cop q x y >>= fun k => (pure (D.bl k) : R D)) = _
  cases ev o r a <;> first | rfl | skip
  cases ev o r b <;> first | rfl | skip
  rename_i x y
  show (cop q x y >>= fun k => (pure (D.bl k) : R D)) = blK (cop q x y)
  cases cop q x y <;> rfl
@[simp] theorem ev_neg : ev o r (.neg a) = negK (ev o r a) := by
  show (ev o r a >>= fun x => asInt x >>= fun i => (pure (D.int (-i)) : R D)) = _
  cases ev o r a <;> first | rfl | skip
  rename_i d; cases d <;> rfl
@[simp] theorem ev_not : ev o r (.not a) = notK (ev o r a) := by
  show (ev o r a >>= fun x => asBl x >>= fun i => (pure (D.bl (!i)) : R D)) = _
  cases ev o r a <;> first | rfl | skip
  rename_i d; cases d <;> rfl
@[simp] theorem ev_isN : ev o r (.isN a) = isNK true (ev o r a) := by
  show (ev o r a >>= fun x => (pure (D.bl x.isNon) : R D)) = _
  cases ev o r a <;> first | rfl | skip
  rename_i d; cases d <;> rfl
@[simp] theorem ev_notN : ev o r (.notN a) = isNK false (ev o r a) := by
  show (ev o r a >>= fun x => (pure (D.bl (!x.isNon)) : R D)) = _
  cases ev o r a <;> first | rfl | skip
  rename_i d; cases d <;> rfl
@[simp] theorem ev_and : ev o r (.and a b) = andK (ev o r a) (ev o r b) := by
  show (ev o r a >>= fun x => asBl x >>= fun k => if k = true then ev o r b else (pure (D.bl false) : R D)) = _
  cases ev o r a <;> first | rfl | skip
  rename_i d; cases d <;> first | rfl | skip
  rename_i k; cases k <;> rfl
@[simp] theorem ev_or : ev o r (.or a b) = orK (ev o r a) (ev o r b) := by
  show (ev o r a >>= fun x => asBl x >>= fun k => if k = true then (pure (D.bl true) : R D) else ev o r b) = _
  cases ev o r a <;> first | rfl | skip
  rename_i d; cases d <;> first | rfl | skip
  rename_i k; cases k <;> rfl
@[simp] theorem ev_ix : ev o r (.ix a i) = ixK (ev o r a) (ev o r i) := by
  show (ev o r a >>= fun x => ev o r i >>= fun y => itemOf x y) = _
  cases ev o r a <;> first | rfl | (cases ev o r i <;> rfl)
@[simp] theorem ev_sl : ev o r (.sl a lo hi) = slK (ev o r a) (partK lo.isNil (ev o r lo)) (partK hi.isNil (ev o r hi)) := (rfl)
@[simp] theorem ev_tup : ev o r (.tup es) = tupK (evs o r es) := (rfl)
@[simp] theorem ev_lst : ev o r (.lst es) = lstK (evs o r es) := (rfl)
@[simp] theorem ev_call : ev o r (.call f es) = callK o f (evs o r es) := (rfl)
@[simp] theorem ev_blt : ev o r (.blt f es) = bltK f (evs o r es) := (rfl)
@[simp] theorem ev_isi : ev o r (.isi a f) = isiK o f (ev o r a) := by
  show (ev o r a >>= fun x => isiB o f x >>= fun k => (pure (D.bl k) : R D)) = (ev o r a >>= fun x => blK (isiB o f x))
  cases ev o r a <;> first | rfl | skip
  rename_i d
  show (isiB o f d >>= fun k => (pure (D.bl k) : R D)) = blK (isiB o f d)
  cases isiB o f d <;> rfl
@[simp] theorem evs_nil : evs o r .nil = .ok [] := (rfl)
@[simp] theorem evs_cons : evs o r (.cons e es) = consK (ev o r e) (evs o r es) := (rfl)
@[simp] theorem consK_ok : consK (.ok x) (.ok xs) = .ok (x :: xs) := (rfl)
@[simp] theorem tupK_ok : tupK (.ok ds) = if ds.length ≤ lim then .ok (.tup ds) else .stuck := (rfl)
@[simp] theorem lstK_ok : lstK (.ok ds) = if ds.length ≤ lim then .ok (.lst ds) else .stuck := (rfl)
def methK (o : Orc) (m : String) : R D → R (List D) → R D := fun x ds => do let x ← x; let ds ← R.noX ds; methOf o m x ds
def newK (o : Orc) (c : String) : R (List D) → R D := fun ds => do let ds ← ds; o.new c ds
def fldK (o : Orc) (f : String) : R D → R D := fun x => do let x ← x; fieldOf o f x
@[simp] theorem ev_meth {m : String} {es : E} : ev o r (.meth a m es) = methK o m (ev o r a) (evs o r es) := (rfl)
@[simp] theorem ev_new {c : String} {es : E} : ev o r (.new c es) = newK o c (evs o r es) := (rfl)
@[simp] theorem ev_fld {f : String} : ev o r (.fld a f) = fldK o f (ev o r a) := (rfl)
@[simp] theorem methK_ok {m c : String} {fs ds : List D} : methK o m (.ok (.obj c fs)) (.ok ds) = o.meth c m (.obj c fs :: ds) := (rfl)
@[simp] theorem newK_ok {c : String} {ds : List D} : newK o c (.ok ds) = o.new c ds := (rfl)
@[simp] theorem fldK_ok {f : String} {d : D} : fldK o f (.ok d) = fieldOf o f d := (rfl)
@[simp] theorem callK_ok : callK o f (.ok ds) = o.call f ds := (rfl)
@[simp] theorem bltK_ok : bltK f (.ok ds) = builtin f ds := (rfl)
@[simp] theorem isiK_ok : isiK o f (.ok d) = blK (isiB o f d) := (rfl)
@[simp] theorem blK_ok {b : Bool} : blK (.ok b) = .ok (.bl b) := (rfl)
@[simp] theorem partK_t {z : R D} : partK true z = .ok none := (rfl)
@[simp] theorem partK_f {z : Int} : partK false (.ok (.int z)) = .ok (some z) := (rfl)
@[simp] theorem slK_ok {l h : Option Int} : slK (.ok d) (.ok l) (.ok h) = sliceOf l h d := (rfl)
@[simp] theorem sliceOf_lst {l h : Option Int} : sliceOf l h (.lst xs) = .ok (.lst (cut xs l h)) := (rfl)
@[simp] theorem binK_ok {q : Bop} : binK q (.ok x) (.ok y) = bop q x y := (rfl)
@[simp] theorem cmpK_ok {q : Cop} : cmpK q (.ok x) (.ok y) = blK (cop q x y) := (rfl)
@[simp] theorem negK_ok {z : Int} : negK (.ok (.int z)) = .ok (.int (-z)) := (rfl)
@[simp] theorem notK_ok {z : Bool} : notK (.ok (.bl z)) = .ok (.bl (!z)) := (rfl)
@[simp] theorem isNK_ok {z : Bool} : isNK z (.ok d) = .ok (.bl (d.isNon == z)) := (rfl)
@[simp] theorem isNon_non : D.isNon .non = true := (rfl)
@[simp] theorem isNon_int {z : Int} : D.isNon (.int z) = false := (rfl)
@[simp] theorem isNon_tup : D.isNon (.tup xs) = false := (rfl)
@[simp] theorem isNon_lst : D.isNon (.lst xs) = false := (rfl)
@[simp] theorem andK_t {y : R D} : andK (.ok (.bl true)) y = y := (rfl)
@[simp] theorem andK_f {y : R D} : andK (.ok (.bl false)) y = .ok (.bl false) := (rfl)
@[simp] theorem orK_f {y : R D} : orK (.ok (.bl false)) y = y := (rfl)
@[simp] theorem orK_t {y : R D} : orK (.ok (.bl true)) y = .ok (.bl true) := (rfl)
theorem andK_ok {p q : Bool} : andK (.ok (.bl p)) (.ok (.bl q)) = .ok (.bl (p && q)) := by cases p <;> rfl
theorem orK_ok {p q : Bool} : orK (.ok (.bl p)) (.ok (.bl q)) = .ok (.bl (p || q)) := by cases p <;> rfl
@[simp] theorem ixK_ok : ixK (.ok x) (.ok y) = itemOf x y := (rfl)
@[simp] theorem itemOf_lst {z : Int} : itemOf (.lst xs) (.int z) = ofO (atI xs z) := (rfl)
@[simp] theorem itemOf_tup {z : Int} : itemOf (.tup xs) (.int z) = ofO (atI xs z) := (rfl)
@[simp] theorem ofO_some {α : Type} {z : α} : ofO (some z) = .ok z := (rfl)
@[simp] theorem atI_0 {z : D} : atI (z :: xs) 0 = some z := by simp [atI, ixN]
theorem atI_nat {xs : List D} {j : Nat} (h : j < xs.length) : atI xs (j : Int) = xs[j]? := by
  unfold atI ixN
  rw [if_pos (Int.natCast_nonneg j), if_pos (by omega)]
  rfl
@[simp] theorem atI_1 {z w : D} : atI (z :: w :: xs) 1 = some w := atI_nat (j := 1) (by simp)
@[simp] theorem atI_2 {z w v : D} : atI (z :: w :: v :: xs) 2 = some v := atI_nat (j := 2) (by simp)
@[simp] theorem atI_3 {z w v u : D} : atI (z :: w :: v :: u :: xs) 3 = some u := atI_nat (j := 3) (by simp)
/-! names -/
@[simp] theorem getV_0 {fl : Fl} : getV (some (fl, d) :: r) 0 = .ok d := (rfl)
@[simp] theorem getV_s {z : Option (Fl × D)} {j : Nat} : getV (z :: r) (j + 1) = getV r j := (rfl)
@[simp] theorem isOwn_0 {fl : Fl} : isOwn (some (fl, d) :: r) 0 = (match fl with | .own => true | _ => false) := by cases fl <;> rfl
@[simp] theorem isOwn_s {z : Option (Fl × D)} {j : Nat} : isOwn (z :: r) (j + 1) = isOwn r j := (rfl)
@[simp] theorem ownL_0 : ownL (some (.own, .lst xs) :: r) 0 = .ok xs := (rfl)
@[simp] theorem ownL_s {z : Option (Fl × D)} {j : Nat} : ownL (z :: r) (j + 1) = ownL r j := (rfl)
@[simp] theorem frzAt_0 {fl : Fl} : frzAt (some (fl, d) :: r) 0 = some (.frz, d) :: r := (rfl)
@[simp] theorem frzAt_0n : frzAt (none :: r) 0 = none :: r := (rfl)
@[simp] theorem frzAt_s {z : Option (Fl × D)} {j : Nat} : frzAt (z :: r) (j + 1) = z :: frzAt r j := by
  show (match r[j]? with
    | some (some (_, d)) => (z :: r).set (j + 1) (some (.frz, d))
    | _ => z :: r) = _
  unfold frzAt
  cases r[j]? with
  | none => rfl
  | some w => cases w <;> rfl
@[simp] theorem frzL_nil : frzL r [] = r := (rfl)
@[simp] theorem frzL_cons {j : Nat} {l : List Nat} : frzL r (j :: l) = frzL (frzAt r j) l := (rfl)
@[simp] theorem kill_nil : kill r [] = r := (rfl)
@[simp] theorem kill_cons {j : Nat} {l : List Nat} : kill r (j :: l) = kill (r.set j none) l := (rfl)
@[simp] theorem lockAt_0 : lockAt (some (.own, d) :: r) 0 = some (.lock, d) :: r := (rfl)
@[simp] theorem lockAt_0f : lockAt (some (.frz, d) :: r) 0 = some (.frz, d) :: r := (rfl)
@[simp] theorem lockAt_0l : lockAt (some (.lock, d) :: r) 0 = some (.lock, d) :: r := (rfl)
@[simp] theorem lockAt_s {z : Option (Fl × D)} {j : Nat} : lockAt (z :: r) (j + 1) = z :: lockAt r j := by
  show (match r[j]? with
    | some (some (.own, d)) => (z :: r).set (j + 1) (some (.lock, d))
    | _ => z :: r) = _
  unfold lockAt
  cases r[j]? with
  | none => rfl
  | some w => cases w with
    | none => rfl
    | some q => obtain ⟨fl, d⟩ := q; cases fl <;> rfl
@[simp] theorem openAt_0 : openAt (some (.lock, d) :: r) 0 = some (.own, d) :: r := (rfl)
@[simp] theorem openAt_0f : openAt (some (.frz, d) :: r) 0 = some (.frz, d) :: r := (rfl)
@[simp] theorem openAt_s {z : Option (Fl × D)} {j : Nat} : openAt (z :: r) (j + 1) = z :: openAt r j := by
  show (match r[j]? with
    | some (some (.lock, d)) => (z :: r).set (j + 1) (some (.own, d))
    | _ => z :: r) = _
  unfold openAt
  cases r[j]? with
  | none => rfl
  | some w => cases w with
    | none => rfl
    | some q => obtain ⟨fl, d⟩ := q; cases fl <;> rfl
@[simp] theorem lockL_nil : lockL r [] = r := (rfl)
@[simp] theorem lockL_cons {j : Nat} {l : List Nat} : lockL r (j :: l) = lockL (lockAt r j) l := (rfl)
@[simp] theorem openL_nil : openL r [] = r := (rfl)
@[simp] theorem openL_cons {j : Nat} {l : List Nat} : openL r (j :: l) = openL (openAt r j) l := (rfl)
@[simp] theorem owns_nil : owns r [] = [] := (rfl)
@[simp] theorem owns_cons {j : Nat} {l : List Nat} : owns r (j :: l) = if isOwn r j = true then j :: owns r l else owns r l := by
  show List.filter _ _ = _
  rw [List.filter_cons]
  rfl
@[simp] theorem opn_ok {l : List Nat} {w : Fw} : opn l (.ok (r, w)) = .ok (openL r l, w) := (rfl)
@[simp] theorem setAll_nil : setAll r [] [] = r := (rfl)
@[simp] theorem setAll_cons {j : Nat} {l : List Nat} : setAll r (j :: l) (d :: ds) = setAll (r.set j (some (.frz, d))) l ds := (rfl)
@[simp] theorem bindT_one {j : Nat} : bindT r false [j] d = .ok (r.set j (some (.frz, d))) := (rfl)
@[simp] theorem bindT_tup {l : List Nat} : bindT r true l (.tup ds) = if ds.length = l.length then .ok (setAll r l ds) else .stuck := (rfl)
/-! operators -/
@[simp] theorem bop_add {a b : Int} : bop .add (.int a) (.int b) = .ok (.int (a + b)) := (rfl)
@[simp] theorem bop_sub {a b : Int} : bop .sub (.int a) (.int b) = .ok (.int (a - b)) := (rfl)
@[simp] theorem bop_mul {a b : Int} (h : mulOk a b = true) : bop .mul (.int a) (.int b) = .ok (.int (a * b)) := if_pos h
@[simp] theorem bop_fdiv {a b : Int} (h : divOk a b = true) : bop .fdiv (.int a) (.int b) = .ok (.int (a.fdiv b)) := if_pos h
@[simp] theorem bop_mod {a b : Int} (h : b ≠ 0) : bop .mod (.int a) (.int b) = .ok (.int (a.fmod b)) := if_pos h
@[simp] theorem bop_pow {a b : Int} (h : powOk a b = true) : bop .pow (.int a) (.int b) = .ok (.int (a ^ b.toNat)) := if_pos h
@[simp] theorem bop_addL {a b : List D} (h : a.length + b.length ≤ lim) : bop .add (.lst a) (.lst b) = .ok (.lst (a ++ b)) := if_pos h
@[simp] theorem bop_addS {a b : List Nat} (h : a.length + b.length ≤ lim) : bop .add (.str a) (.str b) = .ok (.str (a ++ b)) := if_pos h
@[simp] theorem cop_lt {a b : Int} : cop .lt (.int a) (.int b) = .ok (decide (a < b)) := (rfl)
@[simp] theorem cop_le {a b : Int} : cop .le (.int a) (.int b) = .ok (decide (a ≤ b)) := (rfl)
@[simp] theorem cop_gt {a b : Int} : cop .gt (.int a) (.int b) = .ok (decide (b < a)) := (rfl)
@[simp] theorem cop_ge {a b : Int} : cop .ge (.int a) (.int b) = .ok (decide (b ≤ a)) := (rfl)
@[simp] theorem cop_eqI {a b : Int} : cop .eq (.int a) (.int b) = .ok (decide (a = b)) := (rfl)
@[simp] theorem cop_neI {a b : Int} : cop .ne (.int a) (.int b) = .ok (!decide (a = b)) := (rfl)
@[simp] theorem cop_eqB {a b : Bool} : cop .eq (.bl a) (.bl b) = .ok (a == b) := (rfl)
@[simp] theorem cop_neB {a b : Bool} : cop .ne (.bl a) (.bl b) = .ok (!(a == b)) := (rfl)
theorem cop_eq (h : x.fit 64 = true) (h' : y.fit 64 = true) : cop .eq x y = .ok (D.eqv x y) := if_pos ⟨h, h'⟩
theorem cop_ne (h : x.fit 64 = true) (h' : y.fit 64 = true) : cop .ne x y = .ok (!D.eqv x y) := if_pos ⟨h, h'⟩
@[simp] theorem eqv_int {a b : Int} : D.eqv (.int a) (.int b) = decide (a = b) := (rfl)
@[simp] theorem eqv_bl {a b : Bool} : D.eqv (.bl a) (.bl b) = (a == b) := (rfl)
@[simp] theorem eqv_tup {a b : List D} : D.eqv (.tup a) (.tup b) = D.eqvA a b := by simp [D.eqv]
@[simp] theorem eqv_lst {a b : List D} : D.eqv (.lst a) (.lst b) = D.eqvA a b := by simp [D.eqv]
@[simp] theorem eqvA_nil : D.eqvA [] [] = true := by simp [D.eqvA]
@[simp] theorem eqvA_cons {a b : D} {l m : List D} : D.eqvA (a :: l) (b :: m) = (D.eqv a b && D.eqvA l m) := by simp [D.eqvA]
@[simp] theorem mulOk_litL {n : Nat} {b : Int} (h : decide (n < 18446744073709551616) = true) : mulOk (no_index (@OfNat.ofNat Int n _)) b = true := mulOk_l (of_decide_eq_true h)
@[simp] theorem mulOk_litR {n : Nat} {a : Int} (h : decide (n < 18446744073709551616) = true) : mulOk a (no_index (@OfNat.ofNat Int n _)) = true := mulOk_r (of_decide_eq_true h)
@[simp] theorem divOk_litR {n : Nat} {a : Int} (h : (decide (n ≠ 0) && decide (n < 18446744073709551616)) = true) : divOk a (no_index (@OfNat.ofNat Int n _)) = true := by
  simp only [Bool.and_eq_true, decide_eq_true_eq] at h
  refine divOk_of (k := 64) ?_ h.2 (by decide)
  have := h.1
  show (n : Int) ≠ 0
  omega
example (b : Int) : mulOk 2 b = true := by simp
example (b : Int) : mulOk b 982451653 = true := by simp
example (b : Int) : divOk b 4 = true := by simp
example (b : Int) : divOk b 1 = true := by simp
/-! built-ins -/
@[simp] theorem blt_len : builtin "len" [.lst xs] = .ok (.int xs.length) := (rfl)
@[simp] theorem blt_lenT : builtin "len" [.tup xs] = .ok (.int xs.length) := (rfl)
@[simp] theorem blt_abs {z : Int} : builtin "abs" [.int z] = .ok (.int (if z < 0 then -z else z)) := (rfl)
@[simp] theorem blt_int {z : Int} : builtin "int" [.int z] = .ok (.int z) := (rfl)
@[simp] theorem blt_intB {z : Bool} : builtin "int" [.bl z] = .ok (.int (if z = true then 1 else 0)) := by cases z <;> rfl
@[simp] theorem blt_max {z w : Int} : builtin "max" [.int z, .int w] = .ok (.int (if w > z then w else z)) := (rfl)
@[simp] theorem blt_min {z w : Int} : builtin "min" [.int z, .int w] = .ok (.int (if w < z then w else z)) := (rfl)
@[simp] theorem blt_list : builtin "list" [.lst xs] = .ok (.lst xs) := (rfl)
@[simp] theorem blt_listT : builtin "list" [.tup xs] = .ok (.lst xs) := (rfl)
@[simp] theorem blt_tuple : builtin "tuple" [.lst xs] = .ok (.tup xs) := (rfl)
@[simp] theorem blt_tupleT : builtin "tuple" [.tup xs] = .ok (.tup xs) := (rfl)
@[simp] theorem isi_bool {b : Bool} : isiB o "bool" (.bl b) = .ok true := (rfl)
@[simp] theorem isi_int {z : Int} : isiB o "int" (.int z) = .ok true := (rfl)
@[simp] theorem isi_boolI {z : Int} : isiB o "bool" (.int z) = .ok false := (rfl)
@[simp] theorem isi_tuple : isiB o "tuple" (.tup xs) = .ok true := (rfl)
@[simp] theorem isi_list : isiB o "list" (.lst xs) = .ok true := (rfl)
@[simp] theorem isi_str {z : List Nat} : isiB o "str" (.str z) = .ok true := (rfl)
@[simp] theorem isNil_nil : E.isNil .nil = true := (rfl)
@[simp] theorem isNil_int {z : Int} : E.isNil (.int z) = false := (rfl)
@[simp] theorem isNil_var {z : Nat} : E.isNil (.var z) = false := (rfl)
@[simp] theorem isNil_bin {q : Bop} : E.isNil (.bin q a b) = false := (rfl)
@[simp] theorem isNil_cmp {q : Cop} : E.isNil (.cmp q a b) = false := (rfl)
@[simp] theorem isNil_ix : E.isNil (.ix a b) = false := (rfl)
@[simp] theorem isNil_blt : E.isNil (.blt n a) = false := (rfl)
@[simp] theorem isNil_call : E.isNil (.call n a) = false := (rfl)
/-! what a walk goes over -/
def rngK : R D → R (List D)
  | .ok (.int n) => if rngOk n = true then .ok (rangeL 0 n.toNat) else .stuck
  | .ok _ => .stuck
  | .exc c v => .exc c v
  | .stuck => .stuck
def rng2K : R D → R D → R (List D) := fun x y => do let x ← x; let y ← y; let i ← asInt x; let j ← asInt y; if rngOk i = true ∧ rngOk j = true then pure (rangeL i (j - i).toNat) else .stuck
def seqK : R D → R (List D) := fun x => do let x ← x; items x
@[simp] theorem evI_rng : evI o r (.irng a) = rngK (ev o r a) := by
  show (ev o r a >>= fun x => asInt x >>= fun n => if rngOk n = true then pure (rangeL 0 n.toNat) else .stuck) = _
  cases ev o r a <;> first | rfl | skip
  rename_i d; cases d <;> rfl
@[simp] theorem evI_rng2 : evI o r (.irng2 a b) = rng2K (ev o r a) (ev o r b) := (rfl)
@[simp] theorem evI_seq : evI o r (.iseq a) = seqK (ev o r a) := (rfl)
@[simp] theorem rngK_ok {n : Int} (h : rngOk n = true) : rngK (.ok (.int n)) = .ok (rangeL 0 n.toNat) := if_pos h
@[simp] theorem rng2K_ok {n m : Int} (h : rngOk n = true) (h' : rngOk m = true) : rng2K (.ok (.int n)) (.ok (.int m)) = .ok (rangeL n (m - n).toNat) := if_pos ⟨h, h'⟩
@[simp] theorem seqK_lst : seqK (.ok (.lst xs)) = .ok xs := (rfl)
@[simp] theorem seqK_tup : seqK (.ok (.tup xs)) = .ok xs := (rfl)
/-! defs -/
@[simp] theorem orc_call : (orcOf T call).call = call := (rfl)
@[simp] theorem orc_fresh : (orcOf T call).fresh = T.fresh := (rfl)
@[simp] theorem orc_bor : (orcOf T call).bor = T.bor := (rfl)
@[simp] theorem orc_glob : (orcOf T call).glob = T.glob := (rfl)
@[simp] theorem fin_ret {F : Fn} {fr : Bool} : fin F (.ok (r, .ret fr d)) = if outOk F fr d = true then .ok d else .stuck := (rfl)
@[simp] theorem fin_nx {F : Fn} : fin F (.ok (r, .nx)) = .ok .non := (rfl)
@[simp] theorem fin_exc {F : Fn} : fin F (.exc n d) = .exc n d := (rfl)
def finB (fresh bor : Bool) : R (Env × Fw) → R D
  | .ok (_, .ret fr d) => if ((!fresh || fr || !d.isL) && (!bor || (if fresh = true then d.noL1 else d.noL))) = true then .ok d else .stuck
  | .ok (_, .nx) => .ok .non
  | .ok _ => .stuck
  | .exc c v => .exc c v
  | .stuck => .stuck
theorem fin_eq (F : Fn) (x : R (Env × Fw)) : fin F x = finB F.fresh F.bor x := by
  cases x <;> rfl
theorem go {T : Tab} {f : String} {F : Fn} (h : T.fn f = some F) (n : Nat) (ds : List D) (hl : ds.length = F.np) : evFn T (n + 1) f ds = finB F.fresh F.bor (exec (orcOf T (evFn T n)) F.body (start0 F ds)) := by
  rw [evFn_eq n h hl, fin_eq]
@[simp] theorem finB_ret {p q fr : Bool} : finB p q (.ok (r, .ret fr d)) = if ((!p || fr || !d.isL) && (!q || (if p = true then d.noL1 else d.noL))) = true then .ok d else .stuck := (rfl)
@[simp] theorem finB_nx {p q : Bool} : finB p q (.ok (r, .nx)) = .ok .non := (rfl)
@[simp] theorem finB_exc {p q : Bool} : finB p q (.exc n d) = .exc n d := (rfl)
/-! statements -/
noncomputable def thenS (o : Orc) (b : S) : R (Env × Fw) → R (Env × Fw)
  | .ok (r', .nx) => exec o b r'
  | x => x
noncomputable def iteK (o : Orc) (a b : S) (r : Env) : R D → R (Env × Fw) := fun x => do let d ← x; let k ← asBl d; if k = true then exec o a r else exec o b r
def setK (o : Orc) (r : Env) (i : Nat) (e : E) : R D → R (Env × Fw) := fun x => do let d ← x; pure (setFl o r i e d, .nx)
def retK (r : Env) (fr : Bool) : R D → R (Env × Fw) := fun x => do let d ← x; pure (r, .ret fr d)
def frV (o : Orc) (r : Env) : E → Bool
  | .var i => isOwn r i
  | e => isFresh o e
def unpK (r : Env) (is : List Nat) : R D → R (Env × Fw) := fun x => do let d ← x; let r' ← bindU r is d; pure (r', .nx)
def parK (r : Env) (i j : Nat) : R D → R D → R (Env × Fw) := fun x y => do let x ← x; let y ← y; pure ((r.set i (some (.frz, x))).set j (some (.frz, y)), .nx)
def augK (r : Env) (i : Nat) : R D → R D → R (Env × Fw) := fun x y => do let x ← x; let y ← y; let a ← asInt x; let b ← asInt y; pure (r.set i (some (.frz, .int (a + b))), .nx)
def appK (r : Env) (i : Nat) : R (List D) → R D → R (Env × Fw) := fun xs d => do let xs ← xs; let d ← d; if xs.length < lim then pure (r.set i (some (.own, .lst (xs ++ [d]))), .nx) else .stuck
def putK (r : Env) (i : Nat) : R D → R (List D) → R D → R (Env × Fw) := fun d xs k => do let d ← d; let xs ← xs; let kd ← k; let n ← asInt kd; let j ← ofO (ixN xs.length n); pure (r.set i (some (.own, .lst (xs.set j d))), .nx)
@[simp] theorem x_skip : exec o .skip r = .ok (r, .nx) := (rfl)
@[simp] theorem x_brk : exec o .brk r = .ok (r, .brk) := (rfl)
@[simp] theorem x_cont : exec o .cont r = .ok (r, .cont) := (rfl)
@[simp] theorem x_retN : exec o .retN r = .ok (r, .ret true .non) := (rfl)
@[simp] theorem x_raise : exec o (.raise n) r = .exc n .non := (rfl)
@[simp] theorem x_seq {a b : S} : exec o (.seq a b) r = thenS o b (exec o a r) := (rfl)
@[simp] theorem x_ite {a b : S} : exec o (.ite e a b) r = iteK o a b (frzL r (escB o e)) (ev o r e) := (rfl)
@[simp] theorem x_set {j : Nat} : exec o (.set j e) r = setK o r j e (ev o r e) := (rfl)
@[simp] theorem x_unp {l : List Nat} : exec o (.unp l e) r = unpK (frzL r (esc o e)) l (ev o r e) := (rfl)
@[simp] theorem x_par {j l : Nat} : exec o (.par j l a b) r = parK (frzL r (esc o a ++ esc o b)) j l (ev o r a) (ev o r b) := (rfl)
@[simp] theorem x_aug {j : Nat} : exec o (.aug j e) r = augK (frzL r (esc o e)) j (getV r j) (ev o r e) := (rfl)
@[simp] theorem x_app {j : Nat} : exec o (.app j e) r = appK (frzL r (esc o e)) j (ownL (frzL r (esc o e)) j) (ev o r e) := (rfl)
@[simp] theorem x_put {j : Nat} : exec o (.put j k e) r = putK (frzL r (esc o e ++ esc o k)) j (ev o r e) (ownL (frzL r (esc o e ++ esc o k)) j) (ev o r k) := (rfl)
@[simp] theorem x_expr : exec o (.expr e) r = (do let d ← ev o r e; pure (frzL r (escB o e), .nx)) := (rfl)
@[simp] theorem x_ret : exec o (.ret e) r = retK r (frV o r e) (ev o r e) := by
  cases e <;> first | rfl | (show retK r (isFresh o _ || false) _ = _; rw [Bool.or_false]; rfl)
@[simp] theorem thenS_nx {b : S} : thenS o b (.ok (r, .nx)) = exec o b r := (rfl)
@[simp] theorem thenS_ret {b : S} {fr : Bool} : thenS o b (.ok (r, .ret fr d)) = .ok (r, .ret fr d) := (rfl)
@[simp] theorem thenS_brk {b : S} : thenS o b (.ok (r, .brk)) = .ok (r, .brk) := (rfl)
@[simp] theorem thenS_cont {b : S} : thenS o b (.ok (r, .cont)) = .ok (r, .cont) := (rfl)
@[simp] theorem thenS_exc {b : S} : thenS o b (.exc n d) = .exc n d := (rfl)
@[simp] theorem iteK_t {a b : S} : iteK o a b r (.ok (.bl true)) = exec o a r := (rfl)
@[simp] theorem iteK_f {a b : S} : iteK o a b r (.ok (.bl false)) = exec o b r := (rfl)
@[simp] theorem setK_ok {j : Nat} : setK o r j e (.ok d) = .ok ((frzL r (esc o e)).set j (some (if isFresh o e = true ∧ d.isL = true then .own else .frz, d)), .nx) := (rfl)
@[simp] theorem retK_ok {fr : Bool} : retK r fr (.ok d) = .ok (r, .ret fr d) := (rfl)
@[simp] theorem unpK_ok {l : List Nat} : unpK r l (.ok (.tup ds)) = if ds.length = l.length then .ok (setAll r l ds, .nx) else .stuck := by
  show ((if ds.length = l.length then R.ok (setAll r l ds) else .stuck) >>= fun r' => pure (r', Fw.nx)) = _
  by_cases h : ds.length = l.length
  · rw [if_pos h, if_pos h]; rfl
  · rw [if_neg h, if_neg h]; rfl
@[simp] theorem unpK_okL {l : List Nat} : unpK r l (.ok (.lst ds)) = if ds.length = l.length then .ok (setAll r l ds, .nx) else .stuck := by
  show ((if ds.length = l.length then R.ok (setAll r l ds) else .stuck) >>= fun r' => pure (r', Fw.nx)) = _
  by_cases h : ds.length = l.length
  · rw [if_pos h, if_pos h]; rfl
  · rw [if_neg h, if_neg h]; rfl
def clrEK (o : Orc) (r : Env) (e : E) : R D → R (Env × Fw) := fun x => do let d ← x; if isFresh o e = true ∧ d.isL = true then pure (frzL r (esc o e), .nx) else .stuck
@[simp] theorem x_clrE : exec o (.clrE e) r = clrEK o r e (ev o r e) := (rfl)
@[simp] theorem clrEK_ok : clrEK o r e (.ok d) = if isFresh o e = true ∧ d.isL = true then .ok (frzL r (esc o e), .nx) else .stuck := (rfl)
def tryK (o : Orc) (r : Env) (x : Option Nat) (f : String) (es : E) (j i : Nat) (c : String) : R D → R (Env × Fw)
  | .ok d => match x with
    | some m => .ok (setFl o r m (.call f es) d, .nx)
    | none => .ok (frzL r (esc o (.call f es)), .nx)
  | .exc k v => if v.isNon = true ∧ j < r.length then (match o.isx k c with
    | some true => .ok (((frzL r (esc o (.call f es))).set j none).set i (some (.frz, .exc k .non)), .nx)
    | some false => .exc k v
    | none => .stuck) else .stuck
  | .stuck => .stuck
def noXK (o : Orc) (f : String) : R (List D) → R D
  | .ok ds => o.call f ds
  | _ => .stuck
@[simp] theorem noXK_ok : noXK o f (.ok ds) = o.call f ds := (rfl)
@[simp] theorem x_tryF {x : Option Nat} {j i : Nat} : exec o (.tryF x f es j i n) r = tryK o r x f es j i n (noXK o f (evs o r es)) := by
  show (R.noX (evs o r es) >>= fun ds => _) = _
  cases evs o r es with
  | stuck => rfl
  | exc k v => rfl
  | ok ds =>
    show (match o.call f ds with
      | .ok d => match x with
        | some m => pure (setFl o r m (.call f es) d, .nx)
        | none => pure (frzL r (esc o (.call f es)), .nx)
      | .exc k v => if v.isNon = true ∧ j < r.length then (match o.isx k n with
        | some true => pure (((frzL r (esc o (.call f es))).set j none).set i (some (.frz, .exc k .non)), .nx)
        | some false => .exc k v
        | none => .stuck) else .stuck
      | .stuck => .stuck : R (Env × Fw)) = tryK o r x f es j i n (o.call f ds)
    cases o.call f ds <;> rfl
@[simp] theorem tryK_ok {m j i : Nat} : tryK o r (some m) f es j i n (.ok d) = .ok ((frzL r (esc o (.call f es))).set m (some (if isFresh o (.call f es) = true ∧ d.isL = true then .own else .frz, d)), .nx) := (rfl)
@[simp] theorem tryK_ok0 {j i : Nat} : tryK o r none f es j i n (.ok d) = .ok (frzL r (esc o (.call f es)), .nx) := (rfl)
theorem tryK_exc {x : Option Nat} {j i : Nat} {k : String} (h : o.isx k n = some true) (hj : j < r.length) : tryK o r x f es j i n (.exc k .non) = .ok (((frzL r (esc o (.call f es))).set j none).set i (some (.frz, .exc k .non)), Fw.nx) := by
  show (if D.non.isNon = true ∧ j < r.length then (match o.isx k n with
    | some true => R.ok (((frzL r (esc o (.call f es))).set j none).set i (some (.frz, .exc k .non)), Fw.nx)
    | some false => .exc k .non
    | none => .stuck) else .stuck) = _
  rw [if_pos ⟨rfl, hj⟩, h]
@[simp] theorem isNon_exc {k : String} : D.isNon (.exc k d) = false := (rfl)
@[simp] theorem isL_exc {k : String} : D.isL (.exc k d) = false := (rfl)
@[simp] theorem noL_exc {k : String} : D.noL (.exc k d) = true := by simp [D.noL]
@[simp] theorem noL1_exc {k : String} : D.noL1 (.exc k d) = true := by simp [D.noL1]
theorem meth_to {T : Tab} {call : String → List D → R D} {c m k : String} {ds : List D} (h : T.mro c m = some k) (h1 : T.freshM m = true → T.fresh k = true) (h2 : T.borM m = true → T.bor k = true) : (orcOf T call).meth c m ds = call k ds := by
  show (match T.mro c m with | some k => if (T.freshM m = true → T.fresh k = true) ∧ (T.borM m = true → T.bor k = true) then call k ds else .stuck | none => .stuck) = _
  rw [h]
  exact if_pos ⟨h1, h2⟩
theorem new_to {T : Tab} {call : String → List D → R D} {c : String} {fs : List String} {ds : List D} (h : T.fields c = some fs) (hl : fs.length = ds.length) : (orcOf T call).new c ds = .ok (.obj c ds) := by
  show (match T.fields c with | some fs => if fs.length = ds.length then R.ok (D.obj c ds) else .stuck | none => .stuck) = _
  rw [h]
  exact if_pos hl
@[simp] theorem orc_isx : (orcOf T call).isx = T.isx := (rfl)
def revEK : R D → R D := fun x => do let x ← x; let xs ← revOf x; pure (.lst xs)
@[simp] theorem ev_rev : ev o r (.rev a) = revEK (ev o r a) := (rfl)
@[simp] theorem revEK_ok : revEK (.ok (.lst xs)) = .ok (.lst xs.reverse) := (rfl)
@[simp] theorem parK_ok {j l : Nat} : parK r j l (.ok x) (.ok y) = .ok ((r.set j (some (.frz, x))).set l (some (.frz, y)), .nx) := (rfl)
@[simp] theorem augK_ok {j : Nat} {a b : Int} : augK r j (.ok (.int a)) (.ok (.int b)) = .ok (r.set j (some (.frz, .int (a + b))), .nx) := (rfl)
@[simp] theorem appK_ok {j : Nat} (h : xs.length < lim) : appK r j (.ok xs) (.ok d) = .ok (r.set j (some (.own, .lst (xs ++ [d]))), .nx) := if_pos h
@[simp] theorem isL_lst : D.isL (.lst xs) = true := (rfl)
@[simp] theorem isL_tup : D.isL (.tup xs) = false := (rfl)
@[simp] theorem isL_int {z : Int} : D.isL (.int z) = false := (rfl)
@[simp] theorem isL_bl {z : Bool} : D.isL (.bl z) = false := (rfl)
@[simp] theorem isL_non : D.isL .non = false := (rfl)
@[simp] theorem isL_str {z : List Nat} : D.isL (.str z) = false := (rfl)
@[simp] theorem noL_lst : D.noL (.lst xs) = false := by simp [D.noL]
@[simp] theorem noL_tup : D.noL (.tup xs) = D.noLA xs := by simp [D.noL]
@[simp] theorem noL_int {z : Int} : D.noL (.int z) = true := by simp [D.noL]
@[simp] theorem noL_bl {z : Bool} : D.noL (.bl z) = true := by simp [D.noL]
@[simp] theorem noL_non : D.noL .non = true := by simp [D.noL]
@[simp] theorem noL_str {z : List Nat} : D.noL (.str z) = true := by simp [D.noL]
@[simp] theorem noLA_nil : D.noLA [] = true := by simp [D.noLA]
@[simp] theorem noLA_cons : D.noLA (d :: ds) = (d.noL && D.noLA ds) := by simp [D.noLA]
@[simp] theorem noL1_lst : D.noL1 (.lst xs) = D.noLA xs := (rfl)
@[simp] theorem noL1_tup : D.noL1 (.tup xs) = D.noLA xs := by simp [D.noL1]
@[simp] theorem noL1_int {z : Int} : D.noL1 (.int z) = true := by simp [D.noL1]
@[simp] theorem noL1_bl {z : Bool} : D.noL1 (.bl z) = true := by simp [D.noL1]
@[simp] theorem noL1_non : D.noL1 .non = true := by simp [D.noL1]
@[simp] theorem noL1_str {z : List Nat} : D.noL1 (.str z) = true := by simp [D.noL1]
def forK (f : Env → D → R (Env × Fw)) (xs : List D) : R (Env × Fw) → R (Env × Fw)
  | .ok (r', .nx) => forL f xs r'
  | .ok (r', .cont) => forL f xs r'
  | .ok (r', .brk) => .ok (r', .nx)
  | .ok (r', .ret k d) => .ok (r', .ret k d)
  | .exc k v => .exc k v
  | .stuck => .stuck
@[simp] theorem forL_nil {g : Env → D → R (Env × Fw)} : forL g [] r = .ok (r, .nx) := (rfl)
@[simp] theorem forL_cons {g : Env → D → R (Env × Fw)} : forL g (x :: xs) r = forK g xs (g r x) := (rfl)
@[simp] theorem forK_nx {g : Env → D → R (Env × Fw)} : forK g xs (.ok (r, .nx)) = forL g xs r := (rfl)
@[simp] theorem forK_cont {g : Env → D → R (Env × Fw)} : forK g xs (.ok (r, .cont)) = forL g xs r := (rfl)
@[simp] theorem forK_brk {g : Env → D → R (Env × Fw)} : forK g xs (.ok (r, .brk)) = .ok (r, .nx) := (rfl)
@[simp] theorem forK_ret {g : Env → D → R (Env × Fw)} {fr : Bool} : forK g xs (.ok (r, .ret fr d)) = .ok (r, .ret fr d) := (rfl)
@[simp] theorem locks_lst : locks (.iseq (.lst es)) = [] := (rfl)
@[simp] theorem locks_rng : locks (.irng a) = [] := (rfl)
@[simp] theorem locks_rng2 : locks (.irng2 a b) = [] := (rfl)
@[simp] theorem locks_var {j : Nat} : locks (.iseq (.var j)) = [j] := (rfl)
@[simp] theorem locks_rev {j : Nat} : locks (.irev (.var j)) = [j] := (rfl)
@[simp] theorem locks_sl : locks (.iseq (.sl a lo hi)) = [] := (rfl)
@[simp] theorem locks_call : locks (.iseq (.call n es)) = [] := (rfl)
@[simp] theorem setV_x {j : Nat} : setV r j d = r.set j (some (.frz, d)) := (rfl)
noncomputable def forBK (o : Orc) (b : S) : R Env → R (Env × Fw)
  | .ok r1 => exec o b r1
  | .exc c v => .exc c v
  | .stuck => .stuck
def killK (dead : List Nat) : R (Env × Fw) → R (Env × Fw)
  | .ok (r', f) => .ok (kill r' dead, f)
  | x => x
theorem forB_x {tup : Bool} {is dead : List Nat} {b : S} : forB o tup is b dead r x = killK dead (forBK o b (bindT r tup is x)) := by
  show (bindT r tup is x >>= fun r' => _) = _
  cases bindT r tup is x <;> rfl
@[simp] theorem forBK_ok {b : S} : forBK o b (.ok r) = exec o b r := (rfl)
@[simp] theorem killK_ok {dead : List Nat} {w : Fw} : killK dead (.ok (r, w)) = .ok (kill r dead, w) := (rfl)
theorem lim_val : lim = 16777216 := (rfl)
end
end Pu

/-! The defs that several laws have alike. -/
namespace Pu.Pg
open Pu
def LB_divisor_0 : S := (.par 0 1 (.var 1) (.bin .mod (.var 0) (.var 1)))
def L_divisor_0 : S := (.whl (.cmp .ne (.var 1) (.int 0)) LB_divisor_0 [])
def B_divisor : S := (.seq L_divisor_0 (.ret (.blt "abs" (.cons (.var 0) .nil))))
def F_divisor : Fn := ⟨2, 2, B_divisor, true, true⟩
def B_fraction : S := (.seq (.ite (.cmp .eq (.var 1) (.int 0)) (.raise "NoFraction") .skip) (.seq (.set 2 (.call "divisor" (.cons (.var 0) (.cons (.var 1) .nil)))) (.seq (.ite (.cmp .lt (.var 1) (.int 0)) (.set 2 (.bin .sub (.int 0) (.var 2))) .skip) (.ret (.tup (.cons (.bin .fdiv (.var 0) (.var 2)) (.cons (.bin .fdiv (.var 1) (.var 2)) .nil)))))))
def F_fraction : Fn := ⟨2, 3, B_fraction, true, true⟩
def B_law_cell_at : S := (.seq (.ite (.cmp .lt (.var 1) (.blt "len" (.cons (.var 0) .nil))) (.ret (.ix (.var 0) (.var 1))) .skip) (.ret (.int 0)))
def F_law_cell_at : Fn := ⟨2, 2, B_law_cell_at, true, true⟩
def B_law_whole : S := (.ret (.and (.isi (.var 0) "int") (.not (.isi (.var 0) "bool"))))
def F_law_whole : Fn := ⟨1, 1, B_law_whole, true, true⟩
def LB_law_divisor_2_0 : S := (.seq (.set 2 (.bin .mod (.var 0) (.var 1))) (.seq (.set 0 (.var 1)) (.set 1 (.var 2))))
def L_law_divisor_2_0 : S := (.whl (.cmp .ne (.var 1) (.int 0)) LB_law_divisor_2_0 [2])
def B_law_divisor_2 : S := (.seq L_law_divisor_2_0 (.ret (.blt "abs" (.cons (.var 0) .nil))))
def F_law_divisor_2 : Fn := ⟨2, 3, B_law_divisor_2, true, true⟩
def B_law_is_fraction : S := (.seq (.ite (.or (.not (.isi (.var 0) "tuple")) (.or (.cmp .ne (.blt "len" (.cons (.var 0) .nil)) (.int 2)) (.or (.not (.call "_law_whole" (.cons (.ix (.var 0) (.int 0)) .nil))) (.not (.call "_law_whole" (.cons (.ix (.var 0) (.int 1)) .nil)))))) (.ret (.bl false)) .skip) (.ret (.and (.cmp .gt (.ix (.var 0) (.int 1)) (.int 0)) (.cmp .eq (.call "_law_divisor" (.cons (.ix (.var 0) (.int 0)) (.cons (.ix (.var 0) (.int 1)) .nil))) (.int 1)))))
def F_law_is_fraction : Fn := ⟨1, 1, B_law_is_fraction, true, true⟩
def B_law_number : S := (.seq (.ite (.cmp .eq (.bin .mod (.var 0) (.int 4)) (.int 0)) (.ret (.bin .add (.bin .sub (.bin .mod (.bin .mul (.bin .fdiv (.var 0) (.int 4)) (.int 982451653)) (.bin .sub (.bin .mul (.int 2) (.bin .pow (.int 10) (.int 60))) (.int 1))) (.bin .pow (.int 10) (.int 60))) (.int 1))) .skip) (.seq (.ite (.cmp .eq (.bin .mod (.var 0) (.int 4)) (.int 1)) (.ret (.bin .sub (.bin .mod (.bin .fdiv (.var 0) (.int 4)) (.int 2001)) (.int 1000))) .skip) (.ret (.bin .sub (.bin .mod (.bin .fdiv (.var 0) (.int 4)) (.int 25)) (.int 12)))))
def F_law_number : Fn := ⟨1, 1, B_law_number, true, true⟩
def B_law_kinds : S := (.seq (.set 1 (.lst .nil)) (.seq (.ite (.isi (.var 0) "NoFraction") (.app 1 (.str "NoFraction")) .skip) (.seq (.ite (.isi (.var 0) "NoPurse") (.app 1 (.str "NoPurse")) .skip) (.seq (.ite (.isi (.var 0) "NoClaims") (.app 1 (.str "NoClaims")) .skip) (.seq (.ite (.isi (.var 0) "NoRule") (.app 1 (.str "NoRule")) .skip) (.seq (.ite (.isi (.var 0) "NoPlace") (.app 1 (.str "NoPlace")) .skip) (.seq (.ite (.isi (.var 0) "NoDivision") (.app 1 (.str "NoDivision")) .skip) (.seq (.ite (.not (.isi (.var 0) "ValueError")) (.app 1 (.str "other")) .skip) (.ret (.var 1))))))))))
def F_law_kinds : Fn := ⟨1, 2, B_law_kinds, true, true⟩
def B_plus : S := (.ret (.call "fraction" (.cons (.bin .add (.bin .mul (.ix (.var 0) (.int 0)) (.ix (.var 1) (.int 1))) (.bin .mul (.ix (.var 1) (.int 0)) (.ix (.var 0) (.int 1)))) (.cons (.bin .mul (.ix (.var 0) (.int 1)) (.ix (.var 1) (.int 1))) .nil))))
def F_plus : Fn := ⟨2, 2, B_plus, true, true⟩
def B_minus : S := (.ret (.call "fraction" (.cons (.bin .sub (.bin .mul (.ix (.var 0) (.int 0)) (.ix (.var 1) (.int 1))) (.bin .mul (.ix (.var 1) (.int 0)) (.ix (.var 0) (.int 1)))) (.cons (.bin .mul (.ix (.var 0) (.int 1)) (.ix (.var 1) (.int 1))) .nil))))
def F_minus : Fn := ⟨2, 2, B_minus, true, true⟩
def B_times : S := (.ret (.call "fraction" (.cons (.bin .mul (.ix (.var 0) (.int 0)) (.ix (.var 1) (.int 0))) (.cons (.bin .mul (.ix (.var 0) (.int 1)) (.ix (.var 1) (.int 1))) .nil))))
def F_times : Fn := ⟨2, 2, B_times, true, true⟩
def B_over : S := (.ret (.call "fraction" (.cons (.bin .mul (.ix (.var 0) (.int 0)) (.ix (.var 1) (.int 1))) (.cons (.bin .mul (.ix (.var 0) (.int 1)) (.ix (.var 1) (.int 0))) .nil))))
def F_over : Fn := ⟨2, 2, B_over, true, true⟩
def B_law_lowest_2 : S := (.seq (.ite (.cmp .lt (.var 1) (.int 0)) (.ret (.call "_law_lowest" (.cons (.bin .sub (.int 0) (.var 0)) (.cons (.bin .sub (.int 0) (.var 1)) .nil)))) .skip) (.seq (.ite (.cmp .eq (.var 1) (.int 0)) (.set 1 (.int 1)) .skip) (.seq (.set 2 (.call "_law_divisor" (.cons (.var 0) (.cons (.var 1) .nil)))) (.ret (.tup (.cons (.bin .fdiv (.var 0) (.var 2)) (.cons (.bin .fdiv (.var 1) (.var 2)) .nil)))))))
def F_law_lowest_2 : Fn := ⟨2, 3, B_law_lowest_2, true, true⟩
def B_before : S := (.ret (.cmp .lt (.bin .mul (.ix (.var 0) (.int 0)) (.ix (.var 1) (.int 1))) (.bin .mul (.ix (.var 1) (.int 0)) (.ix (.var 0) (.int 1)))))
def F_before : Fn := ⟨2, 2, B_before, true, true⟩
def B_amid : S := (.seq (.set 3 (.call "over" (.cons (.call "minus" (.cons (.var 2) (.cons (.ix (.var 0) (.int 0)) .nil))) (.cons (.call "minus" (.cons (.ix (.var 1) (.int 0)) (.cons (.ix (.var 0) (.int 0)) .nil))) .nil)))) (.ret (.blt "tuple" (.cons (.lc (.call "plus" (.cons (.var 4) (.cons (.call "times" (.cons (.var 3) (.cons (.call "minus" (.cons (.var 5) (.cons (.var 4) .nil))) .nil))) .nil))) true [4, 5] (.izip (.ix (.var 0) (.int 1)) (.ix (.var 1) (.int 1))) .nil) .nil))))
def F_amid : Fn := ⟨3, 6, B_amid, true, true⟩
def LB_thinned_0 : S := (.seq (.ite (.and (.cmp .gt (.blt "len" (.cons (.var 1) .nil)) (.int 1)) (.cmp .eq (.call "amid" (.cons (.ix (.var 1) (.neg (.int 2))) (.cons (.var 2) (.cons (.ix (.ix (.var 1) (.neg (.int 1))) (.int 0)) .nil)))) (.ix (.ix (.var 1) (.neg (.int 1))) (.int 1)))) (.pop 1) .skip) (.app 1 (.var 2)))
def L_thinned_0 : S := (.for_ false [2] (.iseq (.var 0)) LB_thinned_0 [2])
def B_thinned : S := (.seq (.set 1 (.lst .nil)) (.seq L_thinned_0 (.ret (.var 1))))
def F_thinned : Fn := ⟨1, 3, B_thinned, true, true⟩
def B_law_mixed : S := (.seq (.set 2 (.bin .mod (.bin .add (.bin .add (.bin .mul (.bin .mod (.var 0) (.int 2147483629)) (.int 16807)) (.bin .mul (.int 69621) (.var 1))) (.int 11)) (.int 2147483629))) (.seq (.set 2 (.bin .mod (.bin .add (.bin .add (.bin .mul (.var 2) (.var 2)) (.bin .mul (.int 48271) (.var 1))) (.int 7)) (.int 2147483629))) (.ret (.bin .mod (.bin .mul (.var 2) (.int 69621)) (.int 2147483587)))))
def F_law_mixed : Fn := ⟨2, 3, B_law_mixed, true, true⟩
def LB_law_divisor_0 : S := (.par 0 1 (.var 1) (.bin .mod (.var 0) (.var 1)))
def L_law_divisor_0 : S := (.whl (.cmp .ne (.var 1) (.int 0)) LB_law_divisor_0 [])
def B_law_divisor : S := (.seq L_law_divisor_0 (.ret (.blt "abs" (.cons (.var 0) .nil))))
def F_law_divisor : Fn := ⟨2, 2, B_law_divisor, true, true⟩
def B_law_lowest : S := (.seq (.set 2 (.call "_law_divisor" (.cons (.var 0) (.cons (.var 1) .nil)))) (.ret (.tup (.cons (.bin .fdiv (.var 0) (.var 2)) (.cons (.bin .fdiv (.var 1) (.var 2)) .nil)))))
def F_law_lowest : Fn := ⟨2, 3, B_law_lowest, true, true⟩
def LB_law_steps_0 : S := (.seq (.set 6 (.call "_law_cell_at" (.cons (.var 0) (.cons (.bin .add (.var 1) (.var 5)) .nil)))) (.seq (.set 7 (.ix (.lst (.cons (.int 3) (.cons (.int 10) (.cons (.bin .pow (.int 10) (.int 6)) (.cons (.bin .pow (.int 10) (.int 20)) .nil))))) (.bin .mod (.var 6) (.int 4)))) (.ite (.and (.cmp .gt (.var 5) (.int 0)) (.cmp .eq (.bin .mod (.bin .fdiv (.var 6) (.int 4)) (.int 4)) (.int 1))) (.app 4 (.lc (.bin .mul (.bin .add (.int 1) (.bin .mod (.bin .fdiv (.var 6) (.int 16)) (.int 3))) (.var 10)) false [10] (.iseq (.ix (.var 4) (.neg (.int 1)))) .nil)) (.seq (.set 8 (.lc (.bin .mod (.call "_law_mixed" (.cons (.bin .fdiv (.var 6) (.int 16)) (.cons (.var 9) .nil))) (.var 7)) false [9] (.irng (.var 3)) .nil)) (.seq (.ite (.cmp .gt (.var 7) (.bin .pow (.int 10) (.int 6))) (.set 8 (.lc (.bin .add (.bin .mul (.call "_law_mixed" (.cons (.bin .fdiv (.var 6) (.int 16)) (.cons (.bin .add (.var 9) (.int 8)) .nil))) (.bin .pow (.int 10) (.int 10))) (.ix (.var 8) (.var 9))) false [9] (.irng (.var 3)) .nil)) .skip) (.seq (.ite (.cmp .eq (.blt "sum" (.cons (.var 8) .nil)) (.int 0)) (.put 8 (.bin .mod (.bin .fdiv (.var 6) (.int 32)) (.var 3)) (.int 1)) .skip) (.app 4 (.var 8))))))))
def L_law_steps_0 : S := (.for_ false [5] (.irng (.var 2)) LB_law_steps_0 [5, 6, 7, 8])
def B_law_steps : S := (.seq (.set 4 (.lst .nil)) (.seq L_law_steps_0 (.ret (.var 4))))
def F_law_steps : Fn := ⟨4, 11, B_law_steps, true, false⟩
def LB_law_corners_0 : S := (.seq (.set 3 (.lc (.bin .add (.var 7) (.var 8)) true [7, 8] (.izip (.var 3) (.var 5)) .nil)) (.app 4 (.tup (.cons (.call "_law_lowest" (.cons (.blt "sum" (.cons (.var 3) .nil)) (.cons (.var 2) .nil))) (.cons (.blt "tuple" (.cons (.lc (.call "_law_lowest" (.cons (.var 7) (.cons (.var 2) .nil))) false [7] (.iseq (.var 3)) .nil) .nil)) .nil)))))
def L_law_corners_0 : S := (.for_ false [5] (.iseq (.var 0)) LB_law_corners_0 [5])
def B_law_corners : S := (.seq (.set 3 (.lc (.int 0) false [6] (.irng (.var 1)) .nil)) (.seq (.set 4 (.lst (.cons (.tup (.cons (.tup (.cons (.int 0) (.cons (.int 1) .nil))) (.cons (.blt "tuple" (.cons (.lc (.tup (.cons (.int 0) (.cons (.int 1) .nil))) false [6] (.irng (.var 1)) .nil) .nil)) .nil))) .nil))) (.seq L_law_corners_0 (.ret (.var 4)))))
def F_law_corners : Fn := ⟨3, 9, B_law_corners, true, true⟩
def B_law_along : S := (.seq (.set 2 (.blt "sum" (.cons (.var 0) .nil))) (.seq (.set 3 (.blt "sum" (.cons (.var 1) .nil))) (.ret (.cmp .eq (.lc (.bin .mul (.var 4) (.var 3)) false [4] (.iseq (.var 0)) .nil) (.lc (.bin .mul (.var 4) (.var 2)) false [4] (.iseq (.var 1)) .nil)))))
def F_law_along : Fn := ⟨2, 5, B_law_along, true, true⟩
def LB_law_thin_0 : S := (.seq (.set 3 (.lst .nil)) (.seq (.ite (.cmp .gt (.blt "len" (.cons (.var 1) .nil)) (.int 0)) (.set 3 (.ix (.var 1) (.neg (.int 1)))) .skip) (.ite (.and (.cmp .ne (.var 3) (.lst .nil)) (.call "_law_along" (.cons (.var 3) (.cons (.var 2) .nil)))) (.put 1 (.neg (.int 1)) (.lc (.bin .add (.var 4) (.var 5)) true [4, 5] (.izip (.var 3) (.var 2)) .nil)) (.app 1 (.var 2)))))
def L_law_thin_0 : S := (.for_ false [2] (.iseq (.var 0)) LB_law_thin_0 [2, 3])
def B_law_thin : S := (.seq (.set 1 (.lst .nil)) (.seq L_law_thin_0 (.ret (.var 1))))
def F_law_thin : Fn := ⟨1, 6, B_law_thin, true, false⟩
def LB_law_same_0 : S := (.ite (.not (.call "_law_same" (.cons (.ix (.var 0) (.var 2)) (.cons (.ix (.var 1) (.var 2)) .nil)))) (.ret (.bl false)) .skip)
def L_law_same_0 : S := (.for_ false [2] (.irng (.blt "len" (.cons (.var 1) .nil))) LB_law_same_0 [2])
def B_law_same : S := (.seq (.ite (.or (.isi (.var 1) "tuple") (.isi (.var 1) "list")) (.seq (.ite (.or (.cmp .ne (.isi (.var 0) "tuple") (.isi (.var 1) "tuple")) (.cmp .ne (.isi (.var 0) "list") (.isi (.var 1) "list"))) (.ret (.bl false)) .skip) (.seq (.ite (.cmp .ne (.blt "len" (.cons (.var 0) .nil)) (.blt "len" (.cons (.var 1) .nil))) (.ret (.bl false)) .skip) (.seq L_law_same_0 (.ret (.bl true))))) .skip) (.seq (.ite (.isi (.var 1) "bool") (.ret (.and (.isi (.var 0) "bool") (.cmp .eq (.var 0) (.var 1)))) .skip) (.seq (.ite (.isi (.var 1) "int") (.ret (.and (.isi (.var 0) "int") (.and (.not (.isi (.var 0) "bool")) (.cmp .eq (.var 0) (.var 1))))) .skip) (.seq (.ite (.isi (.var 1) "str") (.ret (.and (.isi (.var 0) "str") (.cmp .eq (.var 0) (.var 1)))) .skip) (.ret (.and (.isN (.var 1)) (.isN (.var 0))))))))
def F_law_same : Fn := ⟨2, 3, B_law_same, true, true⟩
def LB_parts_at_0 : S := (.ite (.not (.call "before" (.cons (.ix (.ix (.var 0) (.var 2)) (.int 0)) (.cons (.var 1) .nil)))) (.ret (.call "amid" (.cons (.ix (.var 0) (.bin .sub (.var 2) (.int 1))) (.cons (.ix (.var 0) (.var 2)) (.cons (.var 1) .nil))))) .skip)
def L_parts_at_0 : S := (.for_ false [2] (.irng2 (.int 1) (.blt "len" (.cons (.var 0) .nil))) LB_parts_at_0 [2])
def B_parts_at : S := (.seq (.ite (.call "before" (.cons (.var 1) (.cons (.glob "NOTHING") .nil))) (.raise "NoPurse") .skip) (.seq L_parts_at_0 (.ret (.ix (.ix (.var 0) (.neg (.int 1))) (.int 1)))))
def F_parts_at : Fn := ⟨2, 3, B_parts_at, true, true⟩
def B_law_less : S := (.ret (.cmp .lt (.bin .mul (.ix (.var 0) (.int 0)) (.ix (.var 1) (.int 1))) (.bin .mul (.ix (.var 1) (.int 0)) (.ix (.var 0) (.int 1)))))
def F_law_less : Fn := ⟨2, 2, B_law_less, true, true⟩
def LB_law_at_1 : S := (.seq (.set 12 (.bin .add (.bin .mul (.bin .mul (.ix (.var 10) (.int 0)) (.ix (.var 11) (.int 1))) (.bin .sub (.var 4) (.var 3))) (.bin .mul (.bin .mul (.ix (.var 11) (.int 0)) (.ix (.var 10) (.int 1))) (.var 3)))) (.app 5 (.call "_law_lowest" (.cons (.var 12) (.cons (.bin .mul (.bin .mul (.ix (.var 10) (.int 1)) (.ix (.var 11) (.int 1))) (.var 4)) .nil)))))
def L_law_at_1 : S := (.for_ true [10, 11] (.izip (.var 7) (.var 9)) LB_law_at_1 [10, 11, 12])
def LB_law_at_0 : S := (.ite (.not (.call "_law_less" (.cons (.ix (.ix (.var 0) (.var 2)) (.int 0)) (.cons (.var 1) .nil)))) (.seq (.unp [6, 7] (.ix (.var 0) (.bin .sub (.var 2) (.int 1)))) (.seq (.unp [8, 9] (.ix (.var 0) (.var 2))) (.seq (.set 3 (.bin .mul (.bin .sub (.bin .mul (.ix (.var 1) (.int 0)) (.ix (.var 6) (.int 1))) (.bin .mul (.ix (.var 6) (.int 0)) (.ix (.var 1) (.int 1)))) (.ix (.var 8) (.int 1)))) (.seq (.set 4 (.bin .mul (.bin .sub (.bin .mul (.ix (.var 8) (.int 0)) (.ix (.var 6) (.int 1))) (.bin .mul (.ix (.var 6) (.int 0)) (.ix (.var 8) (.int 1)))) (.ix (.var 1) (.int 1)))) (.seq (.set 5 (.lst .nil)) (.seq L_law_at_1 (.ret (.blt "tuple" (.cons (.var 5) .nil))))))))) .skip)
def L_law_at_0 : S := (.for_ false [2] (.irng2 (.int 1) (.blt "len" (.cons (.var 0) .nil))) LB_law_at_0 [2, 3, 4, 5, 6, 7, 8, 9, 10, 11, 12])
def B_law_at : S := (.seq L_law_at_0 (.ret (.ix (.ix (.var 0) (.neg (.int 1))) (.int 1))))
def F_law_at : Fn := ⟨2, 13, B_law_at, true, true⟩
def LB_turned_0 : S := (.app 2 (.tup (.cons (.call "minus" (.cons (.ix (.var 1) (.int 0)) (.cons (.var 3) .nil))) (.cons (.blt "tuple" (.cons (.lc (.call "minus" (.cons (.var 5) (.cons (.var 6) .nil))) true [5, 6] (.izip (.ix (.var 1) (.int 1)) (.var 4)) .nil) .nil)) .nil))))
def L_turned_0 : S := (.for_ true [3, 4] (.irev (.var 0)) LB_turned_0 [3, 4])
def B_turned : S := (.seq (.set 1 (.ix (.var 0) (.neg (.int 1)))) (.seq (.set 2 (.lst .nil)) (.seq L_turned_0 (.ret (.var 2)))))
def F_turned : Fn := ⟨1, 7, B_turned, true, true⟩
def LB_behind_0 : S := (.app 3 (.tup (.cons (.call "plus" (.cons (.ix (.var 2) (.int 0)) (.cons (.var 4) .nil))) (.cons (.blt "tuple" (.cons (.lc (.call "plus" (.cons (.var 6) (.cons (.var 7) .nil))) true [6, 7] (.izip (.ix (.var 2) (.int 1)) (.var 5)) .nil) .nil)) .nil))))
def L_behind_0 : S := (.for_ true [4, 5] (.iseq (.sl (.var 1) (.int 1) .nil)) LB_behind_0 [4, 5])
def B_behind : S := (.seq (.set 2 (.ix (.var 0) (.neg (.int 1)))) (.seq (.set 3 (.blt "list" (.cons (.var 0) .nil))) (.seq L_behind_0 (.ret (.call "thinned" (.cons (.var 3) .nil))))))
def F_behind : Fn := ⟨2, 8, B_behind, true, true⟩
def LB_put_in_0 : S := (.set 2 (.bin .add (.var 2) (.int 1)))
def L_put_in_0 : S := (.whl (.and (.cmp .lt (.var 2) (.blt "len" (.cons (.var 0) .nil))) (.call "before" (.cons (.ix (.var 0) (.var 2)) (.cons (.var 1) .nil)))) LB_put_in_0 [])
def B_put_in : S := (.seq (.set 2 (.int 0)) (.seq L_put_in_0 (.seq (.ite (.and (.cmp .lt (.var 2) (.blt "len" (.cons (.var 0) .nil))) (.cmp .eq (.ix (.var 0) (.var 2)) (.var 1))) (.ret (.var 0)) .skip) (.ret (.bin .add (.bin .add (.sl (.var 0) .nil (.var 2)) (.lst (.cons (.var 1) .nil))) (.sl (.var 0) (.var 2) .nil))))))
def F_put_in : Fn := ⟨2, 3, B_put_in, false, false⟩
def LB_purse_of_0 : S := (.set 3 (.bin .add (.var 3) (.int 1)))
def L_purse_of_0 : S := (.whl (.call "before" (.cons (.ix (.ix (.ix (.var 0) (.var 3)) (.int 1)) (.var 1)) (.cons (.var 2) .nil))) LB_purse_of_0 [])
def B_purse_of : S := (.seq (.set 3 (.int 0)) (.seq L_purse_of_0 (.seq (.ite (.cmp .eq (.var 3) (.int 0)) (.ret (.ix (.ix (.var 0) (.int 0)) (.int 0))) .skip) (.seq (.set 4 (.ix (.var 0) (.bin .sub (.var 3) (.int 1)))) (.seq (.set 5 (.call "over" (.cons (.call "minus" (.cons (.var 2) (.cons (.ix (.ix (.var 4) (.int 1)) (.var 1)) .nil))) (.cons (.call "minus" (.cons (.ix (.ix (.ix (.var 0) (.var 3)) (.int 1)) (.var 1)) (.cons (.ix (.ix (.var 4) (.int 1)) (.var 1)) .nil))) .nil)))) (.ret (.call "plus" (.cons (.ix (.var 4) (.int 0)) (.cons (.call "times" (.cons (.var 5) (.cons (.call "minus" (.cons (.ix (.ix (.var 0) (.var 3)) (.int 0)) (.cons (.ix (.var 4) (.int 0)) .nil))) .nil))) .nil)))))))))
def F_purse_of : Fn := ⟨3, 6, B_purse_of, true, true⟩
def LB_within_1 : S := (.set 2 (.call "put_in" (.cons (.var 2) (.cons (.call "purse_of" (.cons (.var 0) (.cons (.var 3) (.cons (.ix (.var 6) (.int 0)) .nil)))) .nil))))
def L_within_1 : S := (.for_ false [6] (.iseq (.ix (.var 1) (.var 3))) LB_within_1 [6])
def LB_within_0 : S := L_within_1
def L_within_0 : S := (.for_ false [3] (.irng (.blt "len" (.cons (.var 1) .nil))) LB_within_0 [3, 6])
def LB_within_3 : S := (.ext 7 (.call "parts_at" (.cons (.var 8) (.cons (.var 9) .nil))))
def L_within_3 : S := (.for_ true [8, 9] (.izip (.var 1) (.call "parts_at" (.cons (.var 0) (.cons (.var 5) .nil)))) LB_within_3 [8, 9])
def LB_within_2 : S := (.seq (.set 7 (.lst .nil)) (.seq L_within_3 (.app 4 (.tup (.cons (.var 5) (.cons (.blt "tuple" (.cons (.var 7) .nil)) .nil))))))
def L_within_2 : S := (.for_ false [5] (.iseq (.var 2)) LB_within_2 [5, 7, 8, 9])
def B_within : S := (.seq (.set 2 (.lc (.ix (.var 6) (.int 0)) false [6] (.iseq (.var 0)) .nil)) (.seq L_within_0 (.seq (.set 4 (.lst .nil)) (.seq L_within_2 (.ret (.call "thinned" (.cons (.var 4) .nil)))))))
def F_within : Fn := ⟨2, 10, B_within, true, true⟩
def LB_law_is_path_0 : S := (.seq (.ite (.or (.not (.isi (.var 2) "tuple")) (.or (.cmp .ne (.blt "len" (.cons (.var 2) .nil)) (.int 2)) (.not (.call "_law_is_fraction" (.cons (.ix (.var 2) (.int 0)) .nil))))) (.ret (.bl false)) .skip) (.seq (.ite (.or (.not (.isi (.ix (.var 2) (.int 1)) "tuple")) (.cmp .ne (.blt "len" (.cons (.ix (.var 2) (.int 1)) .nil)) (.var 1))) (.ret (.bl false)) .skip) (.ite (.not (.blt "all" (.cons (.lc (.call "_law_is_fraction" (.cons (.var 9) .nil)) false [9] (.iseq (.ix (.var 2) (.int 1))) .nil) .nil))) (.ret (.bl false)) .skip)))
def L_law_is_path_0 : S := (.for_ false [2] (.iseq (.var 0)) LB_law_is_path_0 [2])
def LB_law_is_path_2 : S := (.ite (.call "_law_less" (.cons (.var 5) (.cons (.var 4) .nil))) (.ret (.bl false)) .skip)
def L_law_is_path_2 : S := (.for_ true [4, 5] (.izip (.ix (.ix (.var 0) (.bin .sub (.var 3) (.int 1))) (.int 1)) (.ix (.ix (.var 0) (.var 3)) (.int 1))) LB_law_is_path_2 [4, 5])
def LB_law_is_path_1 : S := (.seq (.ite (.not (.call "_law_less" (.cons (.ix (.ix (.var 0) (.bin .sub (.var 3) (.int 1))) (.int 0)) (.cons (.ix (.ix (.var 0) (.var 3)) (.int 0)) .nil)))) (.ret (.bl false)) .skip) (.seq L_law_is_path_2 (.seq (.ite (.not (.call "_law_sums" (.cons (.ix (.var 0) (.var 3)) .nil))) (.ret (.bl false)) .skip) (.ite (.cmp .gt (.var 3) (.int 1)) (.seq (.unp [6, 7, 8] (.sl (.var 0) (.bin .sub (.var 3) (.int 2)) (.bin .add (.var 3) (.int 1)))) (.ite (.cmp .eq (.call "_law_at" (.cons (.lst (.cons (.var 6) (.cons (.var 8) .nil))) (.cons (.ix (.var 7) (.int 0)) .nil))) (.ix (.var 7) (.int 1))) (.ret (.bl false)) .skip)) .skip))))
def L_law_is_path_1 : S := (.for_ false [3] (.irng2 (.int 1) (.blt "len" (.cons (.var 0) .nil))) LB_law_is_path_1 [3, 4, 5, 6, 7, 8])
def B_law_is_path : S := (.seq (.ite (.or (.not (.isi (.var 0) "list")) (.cmp .eq (.blt "len" (.cons (.var 0) .nil)) (.int 0))) (.ret (.bl false)) .skip) (.seq L_law_is_path_0 (.seq (.ite (.cmp .ne (.ix (.var 0) (.int 0)) (.tup (.cons (.tup (.cons (.int 0) (.cons (.int 1) .nil))) (.cons (.blt "tuple" (.cons (.lc (.tup (.cons (.int 0) (.cons (.int 1) .nil))) false [3] (.irng (.var 1)) .nil) .nil)) .nil)))) (.ret (.bl false)) .skip) (.seq L_law_is_path_1 (.ret (.bl true))))))
def F_law_is_path : Fn := ⟨2, 10, B_law_is_path, true, true⟩
def LB_law_sums_0 : S := (.seq (.set 1 (.bin .add (.bin .mul (.var 1) (.ix (.var 3) (.int 1))) (.bin .mul (.ix (.var 3) (.int 0)) (.var 2)))) (.set 2 (.bin .mul (.var 2) (.ix (.var 3) (.int 1)))))
def L_law_sums_0 : S := (.for_ false [3] (.iseq (.ix (.var 0) (.int 1))) LB_law_sums_0 [3])
def B_law_sums : S := (.seq (.set 1 (.int 0)) (.seq (.set 2 (.int 1)) (.seq L_law_sums_0 (.ret (.cmp .eq (.bin .mul (.var 1) (.ix (.ix (.var 0) (.int 0)) (.int 1))) (.bin .mul (.ix (.ix (.var 0) (.int 0)) (.int 0)) (.var 2)))))))
def F_law_sums : Fn := ⟨1, 4, B_law_sums, true, true⟩
def LB_parted_0 : S := (.set 2 (.call "put_in" (.cons (.var 2) (.cons (.ix (.var 3) (.int 0)) .nil))))
def L_parted_0 : S := (.for_ false [3] (.iseq (.var 1)) LB_parted_0 [3])
def LB_parted_2 : S := (.ite (.cmp .ne (.ix (.var 6) (.var 8)) (.ix (.var 7) (.var 8))) (.ret (.tup (.cons (.var 4) (.cons (.var 5) (.cons (.var 8) .nil))))) .skip)
def L_parted_2 : S := (.for_ false [8] (.irng (.blt "len" (.cons (.var 6) .nil))) LB_parted_2 [8])
def LB_parted_1 : S := (.seq (.set 6 (.call "parts_at" (.cons (.var 0) (.cons (.var 5) .nil)))) (.seq (.set 7 (.call "parts_at" (.cons (.var 1) (.cons (.var 5) .nil)))) (.seq L_parted_2 (.set 4 (.var 5)))))
def L_parted_1 : S := (.for_ false [5] (.iseq (.var 2)) LB_parted_1 [5, 6, 7, 8])
def B_parted : S := (.seq (.set 2 (.lc (.ix (.var 3) (.int 0)) false [3] (.iseq (.var 0)) .nil)) (.seq L_parted_0 (.seq (.set 4 (.ix (.var 2) (.int 0))) (.seq L_parted_1 (.ret .non)))))
def F_parted : Fn := ⟨2, 9, B_parted, true, true⟩
def LB_wall_0 : S := .skip
def L_wall_0 : S := (.whl (.bl true) LB_wall_0 [])
def B_wall : S := L_wall_0
def F_wall : Fn := ⟨1, 1, B_wall, true, true⟩
def LB_law_mixed_2_0 : S := (.seq (.set 2 (.bin .mod (.bin .add (.bin .add (.bin .add (.bin .mul (.var 2) (.var 2)) (.bin .mul (.int 48271) (.var 2))) (.var 4)) (.int 1)) (.int 2147483647))) (.app 3 (.var 2)))
def L_law_mixed_2_0 : S := (.for_ false [4] (.irng (.var 1)) LB_law_mixed_2_0 [4])
def B_law_mixed_2 : S := (.seq (.set 2 (.bin .mod (.bin .add (.bin .mul (.bin .mod (.var 0) (.int 2147483647)) (.int 16807)) (.int 11)) (.int 2147483647))) (.seq (.set 3 (.lst .nil)) (.seq L_law_mixed_2_0 (.ret (.var 3)))))
def F_law_mixed_2 : Fn := ⟨2, 5, B_law_mixed_2, true, true⟩
def B_law_portion_2 : S := (.seq (.set 1 (.bin .add (.int 2) (.var 1))) (.seq (.set 0 (.bin .add (.int 1) (.bin .mod (.var 0) (.bin .sub (.var 1) (.int 1))))) (.seq (.set 2 (.call "_law_divisor" (.cons (.var 0) (.cons (.var 1) .nil)))) (.ret (.tup (.cons (.bin .fdiv (.var 0) (.var 2)) (.cons (.bin .fdiv (.var 1) (.var 2)) .nil)))))))
def F_law_portion_2 : Fn := ⟨2, 3, B_law_portion_2, true, true⟩
def B_law_leaf_2 : S := (.seq (.ite (.cmp .eq (.bin .mod (.var 0) (.int 4)) (.int 0)) (.ret (.tup (.cons (.new "Shares" .nil) (.cons (.tup (.cons (.str "shares") .nil)) (.cons (.str "shares") .nil))))) .skip) (.seq (.ite (.cmp .eq (.bin .mod (.var 0) (.int 4)) (.int 1)) (.ret (.tup (.cons (.new "Evenly" .nil) (.cons (.tup (.cons (.str "evenly") .nil)) (.cons (.str "evenly") .nil))))) .skip) (.seq (.ite (.cmp .eq (.bin .mod (.var 0) (.int 4)) (.int 2)) (.ret (.tup (.cons (.new "Losses" .nil) (.cons (.tup (.cons (.str "losses") .nil)) (.cons (.str "losses") .nil))))) .skip) (.ret (.tup (.cons (.new "Halves" .nil) (.cons (.tup (.cons (.str "halves") .nil)) (.cons (.str "halves") .nil))))))))
def F_law_leaf_2 : Fn := ⟨1, 1, B_law_leaf_2, true, true⟩
def B_law_lone : S := (.seq (.ite (.cmp .eq (.bin .mod (.var 0) (.int 2)) (.int 0)) (.ret (.tup (.cons (.new "Other" (.cons (.ix (.var 1) (.int 0)) .nil)) (.cons (.tup (.cons (.str "other") (.cons (.ix (.var 1) (.int 1)) .nil))) (.cons (.bin .add (.bin .add (.str "other(") (.ix (.var 1) (.int 2))) (.str ")")) .nil))))) .skip) (.ret (.tup (.cons (.new "Ranks" (.cons (.ix (.var 1) (.int 0)) .nil)) (.cons (.tup (.cons (.str "ranks") (.cons (.ix (.var 1) (.int 1)) .nil))) (.cons (.bin .add (.bin .add (.str "ranks(") (.ix (.var 1) (.int 2))) (.str ")")) .nil))))))
def F_law_lone : Fn := ⟨2, 2, B_law_lone, true, true⟩
def B_law_pair : S := (.seq (.ite (.cmp .eq (.bin .mod (.var 0) (.int 2)) (.int 0)) (.seq (.set 4 (.bin .add (.bin .add (.bin .add (.bin .add (.str "groups(") (.ix (.var 2) (.int 2))) (.str ", ")) (.ix (.var 3) (.int 2))) (.str ")"))) (.ret (.tup (.cons (.new "Groups" (.cons (.ix (.var 2) (.int 0)) (.cons (.ix (.var 3) (.int 0)) .nil))) (.cons (.tup (.cons (.str "groups") (.cons (.ix (.var 2) (.int 1)) (.cons (.ix (.var 3) (.int 1)) .nil)))) (.cons (.var 4) .nil)))))) .skip) (.seq (.set 4 (.bin .add (.bin .add (.bin .add (.bin .add (.str "upto(") (.blt "str" (.cons (.ix (.var 1) (.int 0)) .nil))) (.str "/")) (.blt "str" (.cons (.ix (.var 1) (.int 1)) .nil))) (.str ", "))) (.seq (.set 4 (.bin .add (.bin .add (.bin .add (.bin .add (.var 4) (.ix (.var 2) (.int 2))) (.str ", ")) (.ix (.var 3) (.int 2))) (.str ")"))) (.ret (.tup (.cons (.new "Upto" (.cons (.var 1) (.cons (.ix (.var 2) (.int 0)) (.cons (.ix (.var 3) (.int 0)) .nil)))) (.cons (.tup (.cons (.str "upto") (.cons (.var 1) (.cons (.ix (.var 2) (.int 1)) (.cons (.ix (.var 3) (.int 1)) .nil))))) (.cons (.var 4) .nil))))))))
def F_law_pair : Fn := ⟨4, 5, B_law_pair, true, true⟩
def LB_law_built_0 : S := (.seq (.set 5 (.call "_law_mixed" (.cons (.var 4) (.cons (.int 4) .nil)))) (.ite (.and (.cmp .eq (.bin .mod (.ix (.var 5) (.int 0)) (.int 4)) (.int 0)) (.cmp .gt (.blt "len" (.cons (.var 2) .nil)) (.int 1))) (.seq (.set 6 (.meth (.var 2) "pop" .nil)) (.seq (.app 2 (.call "_law_pair" (.cons (.ix (.var 5) (.int 1)) (.cons (.call "_law_portion" (.cons (.ix (.var 5) (.int 2)) (.cons (.bin .mod (.ix (.var 5) (.int 3)) (.int 998)) .nil))) (.cons (.meth (.var 2) "pop" .nil) (.cons (.var 6) .nil)))))) (.set 3 (.bin .add (.var 3) (.int 1))))) (.ite (.and (.cmp .lt (.bin .add (.var 3) (.blt "len" (.cons (.var 2) .nil))) (.int 11)) (.cmp .lt (.bin .mod (.ix (.var 5) (.int 0)) (.int 4)) (.int 3))) (.seq (.app 2 (.call "_law_leaf" (.cons (.ix (.var 5) (.int 1)) .nil))) (.set 3 (.bin .add (.var 3) (.int 1)))) (.ite (.cmp .lt (.bin .add (.var 3) (.blt "len" (.cons (.var 2) .nil))) (.int 12)) (.seq (.app 2 (.call "_law_lone" (.cons (.ix (.var 5) (.int 1)) (.cons (.meth (.var 2) "pop" .nil) .nil)))) (.set 3 (.bin .add (.var 3) (.int 1)))) .skip))))
def L_law_built_0 : S := (.for_ false [4] (.iseq (.var 0)) LB_law_built_0 [4, 5, 6])
def LB_law_built_1 : S := (.seq (.set 6 (.meth (.var 2) "pop" .nil)) (.seq (.set 7 (.call "_law_portion" (.cons (.var 1) (.cons (.bin .mod (.bin .fdiv (.var 1) (.int 2)) (.bin .sub (.bin .pow (.int 10) (.int 60)) (.int 2))) .nil)))) (.seq (.ite (.cmp .gt (.blt "len" (.cons (.var 2) .nil)) (.int 1)) (.set 7 (.call "_law_portion" (.cons (.var 1) (.cons (.bin .mod (.bin .fdiv (.var 1) (.int 2)) (.int 998)) .nil)))) .skip) (.app 2 (.call "_law_pair" (.cons (.bin .add (.bin .fdiv (.var 1) (.int 8)) (.blt "len" (.cons (.var 2) .nil))) (.cons (.var 7) (.cons (.meth (.var 2) "pop" .nil) (.cons (.var 6) .nil)))))))))
def L_law_built_1 : S := (.whl (.cmp .gt (.blt "len" (.cons (.var 2) .nil)) (.int 1)) LB_law_built_1 [6, 7])
def B_law_built : S := (.seq (.set 2 (.lst (.cons (.call "_law_leaf" (.cons (.bin .fdiv (.var 1) (.int 4)) .nil)) .nil))) (.seq (.set 3 (.int 1)) (.seq L_law_built_0 (.seq L_law_built_1 (.ret (.ix (.var 2) (.int 0)))))))
def F_law_built : Fn := ⟨2, 8, B_law_built, true, true⟩
def B_Rule_inner_shapes : S := (.ret (.lst .nil))
def F_Rule_inner_shapes : Fn := ⟨1, 1, B_Rule_inner_shapes, true, true⟩
def B_Rule_shape : S := (.ret (.blt "tuple" (.cons (.bin .add (.lst (.cons (.meth (.var 0) "word" .nil) .nil)) (.meth (.var 0) "inner_shapes" .nil)) .nil)))
def F_Rule_shape : Fn := ⟨1, 1, B_Rule_shape, true, true⟩
def B_Rule_text : S := (.ret (.meth (.var 0) "word" .nil))
def F_Rule_text : Fn := ⟨1, 1, B_Rule_text, true, true⟩
def B_Shares_word : S := (.ret (.str "shares"))
def F_Shares_word : Fn := ⟨1, 1, B_Shares_word, true, true⟩
def B_Evenly_word : S := (.ret (.str "evenly"))
def F_Evenly_word : Fn := ⟨1, 1, B_Evenly_word, true, true⟩
def B_Losses_word : S := (.ret (.str "losses"))
def F_Losses_word : Fn := ⟨1, 1, B_Losses_word, true, true⟩
def B_Halves_word : S := (.ret (.str "halves"))
def F_Halves_word : Fn := ⟨1, 1, B_Halves_word, true, true⟩
def B_Lone_inner_shapes : S := (.ret (.lst (.cons (.meth (.fld (.var 0) "inner") "shape" .nil) .nil)))
def F_Lone_inner_shapes : Fn := ⟨1, 1, B_Lone_inner_shapes, true, true⟩
def B_Lone_text : S := (.ret (.bin .add (.bin .add (.bin .add (.meth (.var 0) "word" .nil) (.str "(")) (.meth (.fld (.var 0) "inner") "text" .nil)) (.str ")")))
def F_Lone_text : Fn := ⟨1, 1, B_Lone_text, true, true⟩
def B_Other_word : S := (.ret (.str "other"))
def F_Other_word : Fn := ⟨1, 1, B_Other_word, true, true⟩
def B_Ranks_word : S := (.ret (.str "ranks"))
def F_Ranks_word : Fn := ⟨1, 1, B_Ranks_word, true, true⟩
def B_Groups_word : S := (.ret (.str "groups"))
def F_Groups_word : Fn := ⟨1, 1, B_Groups_word, true, true⟩
def B_Groups_inner_shapes : S := (.ret (.lst (.cons (.meth (.fld (.var 0) "outer") "shape" .nil) (.cons (.meth (.fld (.var 0) "inner") "shape" .nil) .nil))))
def F_Groups_inner_shapes : Fn := ⟨1, 1, B_Groups_inner_shapes, true, true⟩
def B_Groups_text : S := (.ret (.bin .add (.bin .add (.bin .add (.bin .add (.str "groups(") (.meth (.fld (.var 0) "outer") "text" .nil)) (.str ", ")) (.meth (.fld (.var 0) "inner") "text" .nil)) (.str ")")))
def F_Groups_text : Fn := ⟨1, 1, B_Groups_text, true, true⟩
def B_Upto_word : S := (.ret (.str "upto"))
def F_Upto_word : Fn := ⟨1, 1, B_Upto_word, true, true⟩
def B_Upto_inner_shapes : S := (.ret (.lst (.cons (.fld (.var 0) "portion") (.cons (.meth (.fld (.var 0) "first") "shape" .nil) (.cons (.meth (.fld (.var 0) "last") "shape" .nil) .nil)))))
def F_Upto_inner_shapes : Fn := ⟨1, 1, B_Upto_inner_shapes, true, true⟩
def B_Upto_text : S := (.seq (.set 1 (.bin .add (.bin .add (.blt "str" (.cons (.ix (.fld (.var 0) "portion") (.int 0)) .nil)) (.str "/")) (.blt "str" (.cons (.ix (.fld (.var 0) "portion") (.int 1)) .nil)))) (.ret (.bin .add (.bin .add (.bin .add (.bin .add (.bin .add (.bin .add (.str "upto(") (.var 1)) (.str ", ")) (.meth (.fld (.var 0) "first") "text" .nil)) (.str ", ")) (.meth (.fld (.var 0) "last") "text" .nil)) (.str ")"))))
def F_Upto_text : Fn := ⟨1, 2, B_Upto_text, true, true⟩
def LB_alike_0 : S := (.aug 3 (.int 1))
def L_alike_0 : S := (.whl (.and (.cmp .lt (.var 3) (.blt "len" (.cons (.var 2) .nil))) (.and (.cmp .lt (.bin .add (.var 1) (.var 3)) (.blt "len" (.cons (.var 0) .nil))) (.cmp .eq (.ix (.var 0) (.bin .add (.var 1) (.var 3))) (.ix (.var 2) (.var 3))))) LB_alike_0 [])
def B_alike : S := (.seq (.set 3 (.int 0)) (.seq L_alike_0 (.ret (.var 3))))
def F_alike : Fn := ⟨3, 4, B_alike, true, true⟩
def LB_begin_at_0 : S := (.seq (.set 4 (.call "alike" (.cons (.var 0) (.cons (.var 1) (.cons (.var 3) .nil))))) (.seq (.ite (.cmp .eq (.var 4) (.blt "len" (.cons (.var 3) .nil))) (.ret (.var 3)) .skip) (.set 2 (.blt "max" (.cons (.var 2) (.cons (.var 4) .nil))))))
def L_begin_at_0 : S := (.for_ false [3] (.iseq (.bin .add (.glob "LEAVES") (.glob "HEADS"))) LB_begin_at_0 [3, 4])
def B_begin_at : S := (.seq (.set 2 (.int 0)) (.seq L_begin_at_0 (.raiseAt "NoRule" (.bin .add (.var 1) (.var 2)))))
def F_begin_at : Fn := ⟨2, 5, B_begin_at, true, true⟩
def B_leaf : S := (.seq (.ite (.cmp .eq (.var 0) (.str "shares")) (.ret (.new "Shares" .nil)) .skip) (.seq (.ite (.cmp .eq (.var 0) (.str "evenly")) (.ret (.new "Evenly" .nil)) .skip) (.seq (.ite (.cmp .eq (.var 0) (.str "losses")) (.ret (.new "Losses" .nil)) .skip) (.ret (.new "Halves" .nil)))))
def F_leaf : Fn := ⟨1, 1, B_leaf, true, true⟩
def LB_figures_at_0 : S := (.aug 2 (.int 1))
def L_figures_at_0 : S := (.whl (.and (.cmp .lt (.var 2) (.blt "len" (.cons (.var 0) .nil))) (.cmp2 .le .le (.str "0") (.ix (.var 0) (.var 2)) (.str "9"))) LB_figures_at_0 [])
def B_figures_at : S := (.seq (.set 2 (.var 1)) (.seq L_figures_at_0 (.seq (.ite (.or (.cmp .eq (.var 2) (.var 1)) (.cmp .eq (.ix (.var 0) (.var 1)) (.str "0"))) (.raiseAt "NoRule" (.var 1)) .skip) (.ret (.sl (.var 0) (.var 1) (.var 2))))))
def F_figures_at : Fn := ⟨2, 3, B_figures_at, true, true⟩
def B_behind_comma : S := (.seq (.set 2 (.call "alike" (.cons (.var 0) (.cons (.var 1) (.cons (.str ", ") .nil))))) (.seq (.ite (.cmp .lt (.var 2) (.int 2)) (.raiseAt "NoRule" (.bin .add (.var 1) (.var 2))) .skip) (.ret (.bin .add (.var 1) (.int 2)))))
def F_behind_comma : Fn := ⟨2, 3, B_behind_comma, true, true⟩
def B_portion_at : S := (.seq (.set 2 (.call "figures_at" (.cons (.var 0) (.cons (.var 1) .nil)))) (.seq (.set 1 (.bin .add (.var 1) (.blt "len" (.cons (.var 2) .nil)))) (.seq (.ite (.cmp .eq (.call "alike" (.cons (.var 0) (.cons (.var 1) (.cons (.str "/") .nil)))) (.int 0)) (.raiseAt "NoRule" (.var 1)) .skip) (.seq (.set 3 (.call "figures_at" (.cons (.var 0) (.cons (.bin .add (.var 1) (.int 1)) .nil)))) (.seq (.set 1 (.bin .add (.bin .add (.var 1) (.int 1)) (.blt "len" (.cons (.var 3) .nil)))) (.seq (.set 4 (.tup (.cons (.blt "int" (.cons (.var 2) .nil)) (.cons (.blt "int" (.cons (.var 3) .nil)) .nil)))) (.seq (.ite (.or (.cmp .ge (.ix (.var 4) (.int 0)) (.ix (.var 4) (.int 1))) (.cmp .ne (.call "divisor" (.cons (.ix (.var 4) (.int 0)) (.cons (.ix (.var 4) (.int 1)) .nil))) (.int 1))) (.raiseAt "NoRule" (.var 1)) .skip) (.ret (.tup (.cons (.var 4) (.cons (.call "behind_comma" (.cons (.var 0) (.cons (.var 1) .nil))) .nil)))))))))))
def F_portion_at : Fn := ⟨2, 5, B_portion_at, true, true⟩
def B_wanted : S := (.seq (.ite (.or (.cmp .eq (.var 0) (.str "other(")) (.cmp .eq (.var 0) (.str "ranks("))) (.ret (.int 1)) .skip) (.ret (.int 2)))
def F_wanted : Fn := ⟨1, 1, B_wanted, true, true⟩
def B_made_of : S := (.seq (.ite (.cmp .eq (.var 0) (.str "other(")) (.ret (.new "Other" (.cons (.ix (.var 2) (.int 0)) .nil))) .skip) (.seq (.ite (.cmp .eq (.var 0) (.str "ranks(")) (.ret (.new "Ranks" (.cons (.ix (.var 2) (.int 0)) .nil))) .skip) (.seq (.ite (.cmp .eq (.var 0) (.str "groups(")) (.ret (.new "Groups" (.cons (.ix (.var 2) (.int 0)) (.cons (.ix (.var 2) (.int 1)) .nil)))) .skip) (.ret (.new "Upto" (.cons (.var 1) (.cons (.ix (.var 2) (.int 0)) (.cons (.ix (.var 2) (.int 1)) .nil))))))))
def F_made_of : Fn := ⟨3, 3, B_made_of, true, true⟩
def LB_settled_0 : S := (.seq (.unp [4, 5, 6] (.ix (.var 2) (.neg (.int 1)))) (.seq (.app 6 (.var 3)) (.seq (.ite (.cmp .lt (.blt "len" (.cons (.var 6) .nil)) (.call "wanted" (.cons (.var 4) .nil))) (.ret (.tup (.cons (.call "behind_comma" (.cons (.var 0) (.cons (.var 1) .nil))) (.cons .non .nil)))) .skip) (.seq (.ite (.cmp .eq (.call "alike" (.cons (.var 0) (.cons (.var 1) (.cons (.str ")") .nil)))) (.int 0)) (.raiseAt "NoRule" (.var 1)) .skip) (.seq (.pop 2) (.seq (.set 3 (.call "made_of" (.cons (.var 4) (.cons (.var 5) (.cons (.var 6) .nil))))) (.set 1 (.bin .add (.var 1) (.int 1)))))))))
def L_settled_0 : S := (.whl (.cmp .ne (.var 2) (.lst .nil)) LB_settled_0 [4, 5, 6])
def B_settled : S := (.seq L_settled_0 (.seq (.ite (.cmp .lt (.var 1) (.blt "len" (.cons (.var 0) .nil))) (.raiseAt "NoRule" (.var 1)) .skip) (.ret (.tup (.cons (.var 1) (.cons (.var 3) .nil))))))
def F_settled : Fn := ⟨4, 7, B_settled, true, true⟩
def LB_read_0 : S := (.seq (.set 3 (.call "begin_at" (.cons (.var 0) (.cons (.var 2) .nil)))) (.seq (.set 2 (.bin .add (.var 2) (.blt "len" (.cons (.var 3) .nil)))) (.seq (.ite (.cmp .in_ (.var 3) (.glob "HEADS")) (.seq (.set 4 .non) (.seq (.ite (.cmp .eq (.var 3) (.str "upto(")) (.unp [4, 2] (.call "portion_at" (.cons (.var 0) (.cons (.var 2) .nil)))) .skip) (.seq (.app 1 (.tup (.cons (.var 3) (.cons (.var 4) (.cons (.lst .nil) .nil))))) .cont))) .skip) (.seq (.unp [2, 5] (.call "settled" (.cons (.var 0) (.cons (.var 2) (.cons (.var 1) (.cons (.call "leaf" (.cons (.var 3) .nil)) .nil)))))) (.ite (.notN (.var 5)) (.ret (.var 5)) .skip)))))
def L_read_0 : S := (.whl (.bl true) LB_read_0 [3, 4, 5])
def B_read : S := (.seq (.set 1 (.lst .nil)) (.seq (.set 2 (.int 0)) L_read_0))
def F_read : Fn := ⟨1, 6, B_read, true, true⟩
def LB_look_claims_0 : S := (.ite (.cmp .lt (.blt "min" (.cons (.var 1) .nil)) (.int 0)) (.raise "NoClaims") .skip)
def L_look_claims_0 : S := (.for_ false [1] (.iseq (.var 0)) LB_look_claims_0 [1])
def B_look_claims : S := (.seq (.ite (.or (.cmp .lt (.blt "len" (.cons (.var 0) .nil)) (.int 1)) (.cmp .gt (.blt "len" (.cons (.var 0) .nil)) (.glob "MOST"))) (.raise "NoClaims") .skip) L_look_claims_0)
def F_look_claims : Fn := ⟨1, 2, B_look_claims, true, true⟩
def LB_all_of_0 : S := (.set 1 (.call "plus" (.cons (.var 1) (.cons (.var 2) .nil))))
def L_all_of_0 : S := (.for_ false [2] (.iseq (.var 0)) LB_all_of_0 [2])
def B_all_of : S := (.seq (.set 1 (.glob "NOTHING")) (.seq L_all_of_0 (.ret (.var 1))))
def F_all_of : Fn := ⟨1, 3, B_all_of, true, true⟩
def B_lesser : S := (.seq (.ite (.call "before" (.cons (.var 0) (.cons (.var 1) .nil))) (.ret (.var 0)) .skip) (.ret (.var 1)))
def F_lesser : Fn := ⟨2, 2, B_lesser, true, true⟩
def LB_risen_0 : S := (.set 2 (.bin .add (.var 2) (.int 1)))
def L_risen_0 : S := (.whl (.and (.cmp .lt (.var 2) (.blt "len" (.cons (.var 0) .nil))) (.call "before" (.cons (.ix (.var 0) (.var 2)) (.cons (.var 1) .nil)))) LB_risen_0 [])
def B_risen : S := (.seq (.set 2 (.int 0)) (.seq L_risen_0 (.seq (.ite (.and (.cmp .lt (.var 2) (.blt "len" (.cons (.var 0) .nil))) (.cmp .eq (.ix (.var 0) (.var 2)) (.var 1))) (.ret (.var 0)) .skip) (.ret (.bin .add (.bin .add (.sl (.var 0) .nil (.var 2)) (.lst (.cons (.var 1) .nil))) (.sl (.var 0) (.var 2) .nil))))))
def F_risen : Fn := ⟨2, 3, B_risen, false, false⟩
def B_begin : S := (.ret (.tup (.cons (.glob "NOTHING") (.cons (.blt "tuple" (.cons (.lc (.glob "NOTHING") false [1] (.irng (.var 0)) .nil) .nil)) .nil))))
def F_begin : Fn := ⟨1, 2, B_begin, true, true⟩
def B_cut : S := (.ret (.lc (.tup (.cons (.call "times" (.cons (.var 2) (.cons (.var 1) .nil))) (.cons (.var 3) (.cons (.var 4) .nil)))) true [2, 3, 4] (.iseq (.var 0)) .nil))
def F_cut : Fn := ⟨2, 5, B_cut, true, true⟩
def LB_placed_1 : S := (.put 6 (.var 7) (.var 8))
def L_placed_1 : S := (.for_ true [7, 8] (.izip (.var 1) (.var 5)) LB_placed_1 [7, 8])
def LB_placed_0 : S := (.seq (.set 6 (.lc (.glob "NOTHING") false [9] (.irng (.var 2)) .nil)) (.seq L_placed_1 (.app 3 (.tup (.cons (.var 4) (.cons (.blt "tuple" (.cons (.var 6) .nil)) .nil))))))
def L_placed_0 : S := (.for_ true [4, 5] (.iseq (.var 0)) LB_placed_0 [4, 5, 6, 7, 8])
def B_placed : S := (.seq (.set 3 (.lst .nil)) (.seq L_placed_0 (.ret (.var 3))))
def F_placed : Fn := ⟨3, 10, B_placed, true, true⟩
def B_law_labels : S := (.seq (.ite (.cmp .eq (.bin .mod (.var 0) (.int 5)) (.int 0)) (.ret (.lst (.cons (.int 7) (.cons (.int 10) (.cons (.int 2) .nil))))) .skip) (.seq (.ite (.cmp .eq (.bin .mod (.var 0) (.int 5)) (.int 1)) (.ret (.lst (.cons (.bin .add (.bin .pow (.int 10) (.int 40)) (.int 5)) (.cons (.int 9) (.cons (.int 30) .nil))))) .skip) (.seq (.ite (.cmp .eq (.bin .mod (.var 0) (.int 5)) (.int 2)) (.ret (.lst (.cons (.int 2024) (.cons (.bin .pow (.int 10) (.int 20)) (.cons (.int 100) .nil))))) .skip) (.ret (.lst (.cons (.int 0) (.cons (.int 1) (.cons (.int 2) .nil))))))))
def F_law_labels : Fn := ⟨1, 1, B_law_labels, true, true⟩
def LB_law_claims_0 : S := (.seq (.set 9 (.call "_law_cell_at" (.cons (.var 0) (.cons (.bin .add (.var 1) (.var 8)) .nil)))) (.seq (.set 10 (.bin .mod (.bin .fdiv (.var 9) (.int 9)) (.var 3))) (.seq (.ite (.cmp .eq (.bin .mod (.var 9) (.int 4)) (.int 1)) (.set 10 (.bin .mod (.bin .fdiv (.var 9) (.int 9)) (.int 5))) .skip) (.seq (.ite (.and (.cmp .eq (.bin .mod (.var 9) (.int 4)) (.int 2)) (.cmp .gt (.var 8) (.int 0))) (.set 10 (.ix (.ix (.var 7) (.bin .mod (.bin .fdiv (.var 9) (.int 9)) (.var 8))) (.int 0))) .skip) (.app 7 (.tup (.cons (.var 10) (.cons (.ix (.var 5) (.bin .mod (.call "_law_mixed" (.cons (.var 9) (.cons (.int 1) .nil))) (.int 3))) (.cons (.ix (.var 6) (.bin .mod (.call "_law_mixed" (.cons (.var 9) (.cons (.int 2) .nil))) (.int 3))) .nil)))))))))
def L_law_claims_0 : S := (.for_ false [8] (.irng (.var 2)) LB_law_claims_0 [8, 9, 10])
def B_law_claims : S := (.seq (.set 4 (.call "_law_mixed" (.cons (.call "_law_cell_at" (.cons (.var 0) (.cons (.var 1) .nil))) (.cons (.int 3) .nil)))) (.seq (.set 5 (.call "_law_labels" (.cons (.var 4) .nil))) (.seq (.set 6 (.call "_law_labels" (.cons (.bin .fdiv (.var 4) (.int 5)) .nil))) (.seq (.set 7 (.lst .nil)) (.seq L_law_claims_0 (.ret (.var 7)))))))
def F_law_claims : Fn := ⟨4, 11, B_law_claims, true, true⟩
def LB_law_even_0 : S := (.ite (.or (.cmp .lt (.var 4) (.int 0)) (.or (.cmp .gt (.var 4) (.var 3)) (.and (.cmp .lt (.var 4) (.var 3)) (.cmp .ne (.var 4) (.var 2))))) (.ret (.bl false)) .skip)
def L_law_even_0 : S := (.for_ true [3, 4] (.izip (.var 0) (.var 1)) LB_law_even_0 [3, 4])
def B_law_even : S := (.seq (.set 2 (.blt "max" (.cons (.bin .add (.lst (.cons (.int 0) .nil)) (.var 1)) .nil))) (.seq L_law_even_0 (.ret (.bl true))))
def F_law_even : Fn := ⟨2, 5, B_law_even, true, true⟩
def LB_law_fits_0 : S := (.ite (.or (.cmp .lt (.var 7) (.int 0)) (.cmp .gt (.var 7) (.var 6))) (.ret (.bl false)) .skip)
def L_law_fits_0 : S := (.for_ true [6, 7] (.izip (.var 3) (.var 2)) LB_law_fits_0 [])
def B_law_fits : S := (.seq (.set 3 (.lc (.ix (.var 8) (.int 0)) false [8] (.iseq (.var 1)) .nil)) (.seq (.set 4 (.blt "sum" (.cons (.var 3) .nil))) (.seq (.set 5 (.blt "sum" (.cons (.var 2) .nil))) (.seq L_law_fits_0 (.seq (.ite (.cmp .eq (.ix (.var 0) (.int 0)) (.str "shares")) (.ret (.cmp .eq (.lc (.bin .mul (.var 7) (.var 4)) false [7] (.iseq (.var 2)) .nil) (.lc (.bin .mul (.var 6) (.var 5)) false [6] (.iseq (.var 3)) .nil))) .skip) (.seq (.ite (.cmp .eq (.ix (.var 0) (.int 0)) (.str "evenly")) (.ret (.call "_law_even" (.cons (.var 3) (.cons (.var 2) .nil)))) .skip) (.seq (.ite (.cmp .eq (.ix (.var 0) (.int 0)) (.str "losses")) (.ret (.call "_law_even" (.cons (.var 3) (.cons (.lc (.bin .sub (.var 6) (.var 7)) true [6, 7] (.izip (.var 3) (.var 2)) .nil) .nil)))) .skip) (.seq (.ite (.cmp .eq (.ix (.var 0) (.int 0)) (.str "halves")) (.ret (.call "_law_fits" (.cons (.tup (.cons (.str "upto") (.cons (.tup (.cons (.int 1) (.cons (.int 2) .nil))) (.cons (.tup (.cons (.str "evenly") .nil)) (.cons (.tup (.cons (.str "losses") .nil)) .nil))))) (.cons (.var 1) (.cons (.var 2) .nil))))) .skip) (.seq (.ite (.cmp .eq (.ix (.var 0) (.int 0)) (.str "other")) (.ret (.call "_law_fits" (.cons (.ix (.var 0) (.int 1)) (.cons (.var 1) (.cons (.lc (.bin .sub (.var 6) (.var 7)) true [6, 7] (.izip (.var 3) (.var 2)) .nil) .nil))))) .skip) (.seq (.ite (.cmp .eq (.ix (.var 0) (.int 0)) (.str "ranks")) (.ret (.call "_law_ranks_fit" (.cons (.ix (.var 0) (.int 1)) (.cons (.var 1) (.cons (.var 2) .nil))))) .skip) (.seq (.ite (.cmp .eq (.ix (.var 0) (.int 0)) (.str "groups")) (.ret (.call "_law_groups_fit" (.cons (.var 0) (.cons (.var 1) (.cons (.var 2) .nil))))) .skip) (.ret (.call "_law_upto_fit" (.cons (.var 0) (.cons (.var 1) (.cons (.var 2) .nil))))))))))))))))
def F_law_fits : Fn := ⟨3, 9, B_law_fits, true, true⟩
def B_law_upto_fit : S := (.seq (.unp [6, 7] (.ix (.var 0) (.int 1))) (.seq (.set 3 (.lc (.bin .mul (.var 7) (.var 8)) false [8] (.iseq (.var 2)) .nil)) (.seq (.set 4 (.lc (.tup (.cons (.bin .mul (.var 6) (.ix (.var 9) (.int 0))) (.cons (.ix (.var 9) (.int 1)) (.cons (.ix (.var 9) (.int 2)) .nil)))) false [9] (.iseq (.var 1)) .nil)) (.seq (.ite (.cmp .le (.blt "sum" (.cons (.var 3) .nil)) (.blt "sum" (.cons (.lc (.ix (.var 9) (.int 0)) false [9] (.iseq (.var 4)) .nil) .nil))) (.ret (.call "_law_fits" (.cons (.ix (.var 0) (.int 2)) (.cons (.var 4) (.cons (.var 3) .nil))))) .skip) (.seq (.set 5 (.lc (.tup (.cons (.bin .mul (.bin .sub (.var 7) (.var 6)) (.ix (.var 9) (.int 0))) (.cons (.ix (.var 9) (.int 1)) (.cons (.ix (.var 9) (.int 2)) .nil)))) false [9] (.iseq (.var 1)) .nil)) (.ret (.call "_law_fits" (.cons (.ix (.var 0) (.int 3)) (.cons (.var 5) (.cons (.lc (.bin .sub (.var 8) (.ix (.var 9) (.int 0))) true [8, 9] (.izip (.var 3) (.var 4)) .nil) .nil))))))))))
def F_law_upto_fit : Fn := ⟨3, 10, B_law_upto_fit, true, true⟩
def LB_law_ranks_fit_0 : S := (.seq (.set 5 (.lc (.var 7) false [7] (.irng (.blt "len" (.cons (.var 1) .nil))) (.cmp .eq (.ix (.ix (.var 1) (.var 7)) (.int 1)) (.var 4)))) (.seq (.set 6 (.lc (.ix (.var 2) (.var 7)) false [7] (.iseq (.var 5)) .nil)) (.seq (.ite (.and (.not (.var 3)) (.cmp .gt (.blt "max" (.cons (.var 6) .nil)) (.int 0))) (.ret (.bl false)) .skip) (.seq (.ite (.not (.call "_law_fits" (.cons (.var 0) (.cons (.lc (.ix (.var 1) (.var 7)) false [7] (.iseq (.var 5)) .nil) (.cons (.var 6) .nil))))) (.ret (.bl false)) .skip) (.set 3 (.and (.var 3) (.cmp .eq (.var 6) (.lc (.ix (.ix (.var 1) (.var 7)) (.int 0)) false [7] (.iseq (.var 5)) .nil))))))))
def L_law_ranks_fit_0 : S := (.for_ false [4] (.iseq (.sset (.lc (.ix (.var 8) (.int 1)) false [8] (.iseq (.var 1)) .nil))) LB_law_ranks_fit_0 [4, 5, 6])
def B_law_ranks_fit : S := (.seq (.set 3 (.bl true)) (.seq L_law_ranks_fit_0 (.ret (.bl true))))
def F_law_ranks_fit : Fn := ⟨3, 9, B_law_ranks_fit, true, true⟩
def LB_law_groups_fit_0 : S := (.seq (.set 6 (.lc (.var 8) false [8] (.irng (.blt "len" (.cons (.var 1) .nil))) (.cmp .eq (.ix (.ix (.var 1) (.var 8)) (.int 2)) (.var 5)))) (.seq (.set 7 (.lc (.ix (.var 1) (.var 8)) false [8] (.iseq (.var 6)) .nil)) (.seq (.app 3 (.tup (.cons (.blt "sum" (.cons (.lc (.ix (.var 9) (.int 0)) false [9] (.iseq (.var 7)) .nil) .nil)) (.cons (.blt "min" (.cons (.lc (.ix (.var 9) (.int 1)) false [9] (.iseq (.var 7)) .nil) .nil)) (.cons (.var 5) .nil))))) (.seq (.app 4 (.blt "sum" (.cons (.lc (.ix (.var 2) (.var 8)) false [8] (.iseq (.var 6)) .nil) .nil))) (.ite (.not (.call "_law_fits" (.cons (.ix (.var 0) (.int 2)) (.cons (.var 7) (.cons (.lc (.ix (.var 2) (.var 8)) false [8] (.iseq (.var 6)) .nil) .nil))))) (.ret (.bl false)) .skip)))))
def L_law_groups_fit_0 : S := (.for_ false [5] (.iseq (.sset (.lc (.ix (.var 9) (.int 2)) false [9] (.iseq (.var 1)) .nil))) LB_law_groups_fit_0 [5, 6, 7])
def B_law_groups_fit : S := (.seq (.set 3 (.lst .nil)) (.seq (.set 4 (.lst .nil)) (.seq L_law_groups_fit_0 (.ret (.call "_law_fits" (.cons (.ix (.var 0) (.int 1)) (.cons (.var 3) (.cons (.var 4) .nil))))))))
def F_law_groups_fit : Fn := ⟨3, 10, B_law_groups_fit, true, true⟩
def LB_law_right_0 : S := (.seq (.ite (.not (.call "_law_is_fraction" (.cons (.var 5) .nil))) (.ret (.bl false)) .skip) (.set 4 (.bin .mul (.bin .fdiv (.var 4) (.call "_law_divisor" (.cons (.var 4) (.cons (.ix (.var 5) (.int 1)) .nil)))) (.ix (.var 5) (.int 1)))))
def L_law_right_0 : S := (.for_ false [5] (.iseq (.var 3)) LB_law_right_0 [])
def B_law_right : S := (.seq (.ite (.or (.not (.isi (.var 3) "tuple")) (.cmp .ne (.blt "len" (.cons (.var 3) .nil)) (.blt "len" (.cons (.var 1) .nil)))) (.ret (.bl false)) .skip) (.seq (.set 4 (.ix (.var 2) (.int 1))) (.seq L_law_right_0 (.seq (.set 6 (.lc (.bin .mul (.ix (.var 5) (.int 0)) (.bin .fdiv (.var 4) (.ix (.var 5) (.int 1)))) false [5] (.iseq (.var 3)) .nil)) (.seq (.set 7 (.blt "min" (.cons (.bin .mul (.ix (.var 2) (.int 0)) (.bin .fdiv (.var 4) (.ix (.var 2) (.int 1)))) (.cons (.bin .mul (.var 4) (.blt "sum" (.cons (.lc (.ix (.var 8) (.int 0)) false [8] (.iseq (.var 1)) .nil) .nil))) .nil)))) (.seq (.ite (.cmp .ne (.blt "sum" (.cons (.var 6) .nil)) (.var 7)) (.ret (.bl false)) .skip) (.ret (.call "_law_fits" (.cons (.var 0) (.cons (.lc (.tup (.cons (.bin .mul (.var 4) (.ix (.var 8) (.int 0))) (.cons (.ix (.var 8) (.int 1)) (.cons (.ix (.var 8) (.int 2)) .nil)))) false [8] (.iseq (.var 1)) .nil) (.cons (.var 6) .nil)))))))))))
def F_law_right : Fn := ⟨4, 9, B_law_right, true, true⟩
def B_law_rule : S := (.seq (.ite (.cmp .eq (.ix (.var 0) (.int 0)) (.str "shares")) (.ret (.new "Shares" .nil)) .skip) (.seq (.ite (.cmp .eq (.ix (.var 0) (.int 0)) (.str "evenly")) (.ret (.new "Evenly" .nil)) .skip) (.seq (.ite (.cmp .eq (.ix (.var 0) (.int 0)) (.str "losses")) (.ret (.new "Losses" .nil)) .skip) (.seq (.ite (.cmp .eq (.ix (.var 0) (.int 0)) (.str "halves")) (.ret (.new "Halves" .nil)) .skip) (.seq (.ite (.cmp .eq (.ix (.var 0) (.int 0)) (.str "other")) (.ret (.new "Other" (.cons (.call "_law_rule" (.cons (.ix (.var 0) (.int 1)) .nil)) .nil))) .skip) (.seq (.ite (.cmp .eq (.ix (.var 0) (.int 0)) (.str "ranks")) (.ret (.new "Ranks" (.cons (.call "_law_rule" (.cons (.ix (.var 0) (.int 1)) .nil)) .nil))) .skip) (.seq (.ite (.cmp .eq (.ix (.var 0) (.int 0)) (.str "groups")) (.ret (.new "Groups" (.cons (.call "_law_rule" (.cons (.ix (.var 0) (.int 1)) .nil)) (.cons (.call "_law_rule" (.cons (.ix (.var 0) (.int 2)) .nil)) .nil)))) .skip) (.ret (.new "Upto" (.cons (.ix (.var 0) (.int 1)) (.cons (.call "_law_rule" (.cons (.ix (.var 0) (.int 2)) .nil)) (.cons (.call "_law_rule" (.cons (.ix (.var 0) (.int 3)) .nil)) .nil))))))))))))
def F_law_rule : Fn := ⟨1, 1, B_law_rule, true, true⟩
def B_law_purse : S := (.seq (.set 2 (.bin .mod (.var 1) (.int 5))) (.seq (.set 3 (.bin .fdiv (.var 1) (.int 5))) (.seq (.ite (.cmp .eq (.var 2) (.int 0)) (.ret (.tup (.cons (.bin .mod (.var 3) (.bin .add (.var 0) (.int 3))) (.cons (.int 1) .nil)))) .skip) (.seq (.ite (.cmp .eq (.var 2) (.int 1)) (.ret (.call "_law_lowest" (.cons (.var 0) (.cons (.int 2) .nil)))) .skip) (.seq (.ite (.cmp .eq (.var 2) (.int 2)) (.ret (.call "_law_lowest" (.cons (.bin .mod (.var 3) (.bin .add (.bin .mul (.int 2) (.var 0)) (.int 5))) (.cons (.int 2) .nil)))) .skip) (.seq (.ite (.cmp .eq (.var 2) (.int 3)) (.ret (.call "_law_lowest" (.cons (.bin .mul (.var 0) (.bin .mod (.var 3) (.int 1009))) (.cons (.int 1009) .nil)))) .skip) (.ret (.call "_law_lowest" (.cons (.bin .mod (.var 3) (.bin .mul (.bin .add (.var 0) (.int 1)) (.bin .pow (.int 10) (.int 12)))) (.cons (.bin .pow (.int 10) (.int 12)) .nil))))))))))
def F_law_purse : Fn := ⟨2, 4, B_law_purse, true, true⟩
def B_Rule_path : S := (.seq (.expr (.call "look_claims" (.cons (.var 1) .nil))) (.ret (.meth (.var 0) "divided" (.cons (.lc (.tup (.cons (.tup (.cons (.var 2) (.cons (.int 1) .nil))) (.cons (.var 3) (.cons (.var 4) .nil)))) true [2, 3, 4] (.iseq (.var 1)) .nil) .nil))))
def F_Rule_path : Fn := ⟨2, 5, B_Rule_path, true, true⟩
def B_Rule_parts : S := (.ret (.call "parts_at" (.cons (.meth (.var 0) "path" (.cons (.var 1) .nil)) (.cons (.var 2) .nil))))
def F_Rule_parts : Fn := ⟨3, 3, B_Rule_parts, true, true⟩
def B_Shares_divided : S := (.seq (.set 2 (.lc (.ix (.var 3) (.int 0)) false [3] (.iseq (.var 1)) .nil)) (.seq (.ite (.cmp .eq (.call "all_of" (.cons (.var 2) .nil)) (.glob "NOTHING")) (.ret (.lst (.cons (.call "begin" (.cons (.blt "len" (.cons (.var 1) .nil)) .nil)) .nil))) .skip) (.ret (.lst (.cons (.call "begin" (.cons (.blt "len" (.cons (.var 1) .nil)) .nil)) (.cons (.tup (.cons (.call "all_of" (.cons (.var 2) .nil)) (.cons (.blt "tuple" (.cons (.var 2) .nil)) .nil))) .nil))))))
def F_Shares_divided : Fn := ⟨2, 4, B_Shares_divided, true, true⟩
def LB_Evenly_divided_0 : S := (.set 2 (.call "risen" (.cons (.var 2) (.cons (.ix (.var 3) (.int 0)) .nil))))
def L_Evenly_divided_0 : S := (.for_ false [3] (.iseq (.var 1)) LB_Evenly_divided_0 [])
def LB_Evenly_divided_1 : S := (.ite (.cmp .ne (.var 5) (.glob "NOTHING")) (.seq (.set 6 (.lc (.call "lesser" (.cons (.ix (.var 3) (.int 0)) (.cons (.var 5) .nil))) false [3] (.iseq (.var 1)) .nil)) (.app 4 (.tup (.cons (.call "all_of" (.cons (.var 6) .nil)) (.cons (.blt "tuple" (.cons (.var 6) .nil)) .nil))))) .skip)
def L_Evenly_divided_1 : S := (.for_ false [5] (.iseq (.var 2)) LB_Evenly_divided_1 [5, 6])
def B_Evenly_divided : S := (.seq (.set 2 (.lst .nil)) (.seq L_Evenly_divided_0 (.seq (.set 4 (.lst (.cons (.call "begin" (.cons (.blt "len" (.cons (.var 1) .nil)) .nil)) .nil))) (.seq L_Evenly_divided_1 (.ret (.var 4))))))
def F_Evenly_divided : Fn := ⟨2, 7, B_Evenly_divided, true, true⟩
def B_Losses_divided : S := (.ret (.call "turned" (.cons (.meth (.new "Evenly" .nil) "divided" (.cons (.var 1) .nil)) .nil)))
def F_Losses_divided : Fn := ⟨2, 2, B_Losses_divided, true, true⟩
def B_Halves_divided : S := (.seq (.set 2 (.call "cut" (.cons (.var 1) (.cons (.glob "HALF") .nil)))) (.ret (.call "behind" (.cons (.meth (.new "Evenly" .nil) "divided" (.cons (.var 2) .nil)) (.cons (.meth (.new "Losses" .nil) "divided" (.cons (.var 2) .nil)) .nil)))))
def F_Halves_divided : Fn := ⟨2, 3, B_Halves_divided, true, true⟩
def B_Other_divided : S := (.ret (.call "turned" (.cons (.meth (.fld (.var 0) "inner") "divided" (.cons (.var 1) .nil)) .nil)))
def F_Other_divided : Fn := ⟨2, 2, B_Other_divided, true, true⟩
def LB_Ranks_divided_0 : S := (.seq (.set 4 (.lc (.var 6) false [6] (.irng (.blt "len" (.cons (.var 1) .nil))) (.cmp .eq (.ix (.ix (.var 1) (.var 6)) (.int 1)) (.var 3)))) (.seq (.set 5 (.meth (.fld (.var 0) "inner") "divided" (.cons (.lc (.ix (.var 1) (.var 6)) false [6] (.iseq (.var 4)) .nil) .nil))) (.set 2 (.call "behind" (.cons (.var 2) (.cons (.call "placed" (.cons (.var 5) (.cons (.var 4) (.cons (.blt "len" (.cons (.var 1) .nil)) .nil)))) .nil))))))
def L_Ranks_divided_0 : S := (.for_ false [3] (.iseq (.sset (.lc (.ix (.var 7) (.int 1)) false [7] (.iseq (.var 1)) .nil))) LB_Ranks_divided_0 [3, 4, 5])
def B_Ranks_divided : S := (.seq (.set 2 (.lst (.cons (.call "begin" (.cons (.blt "len" (.cons (.var 1) .nil)) .nil)) .nil))) (.seq L_Ranks_divided_0 (.ret (.var 2))))
def F_Ranks_divided : Fn := ⟨2, 8, B_Ranks_divided, true, true⟩
def LB_Groups_divided_0 : S := (.seq (.set 6 (.lc (.var 8) false [8] (.irng (.blt "len" (.cons (.var 1) .nil))) (.cmp .eq (.ix (.ix (.var 1) (.var 8)) (.int 2)) (.var 5)))) (.seq (.set 7 (.lc (.ix (.var 1) (.var 8)) false [8] (.iseq (.var 6)) .nil)) (.seq (.app 2 (.tup (.cons (.call "all_of" (.cons (.lc (.ix (.var 9) (.int 0)) false [9] (.iseq (.var 7)) .nil) .nil)) (.cons (.blt "min" (.cons (.lc (.ix (.var 9) (.int 1)) false [9] (.iseq (.var 7)) .nil) .nil)) (.cons (.var 5) .nil))))) (.seq (.app 3 (.meth (.fld (.var 0) "inner") "divided" (.cons (.var 7) .nil))) (.ext 4 (.var 6))))))
def L_Groups_divided_0 : S := (.for_ false [5] (.iseq (.sset (.lc (.ix (.var 9) (.int 2)) false [9] (.iseq (.var 1)) .nil))) LB_Groups_divided_0 [5, 6, 7])
def B_Groups_divided : S := (.seq (.set 2 (.lst .nil)) (.seq (.set 3 (.lst .nil)) (.seq (.set 4 (.lst .nil)) (.seq L_Groups_divided_0 (.ret (.call "placed" (.cons (.call "within" (.cons (.meth (.fld (.var 0) "outer") "divided" (.cons (.var 2) .nil)) (.cons (.var 3) .nil))) (.cons (.var 4) (.cons (.blt "len" (.cons (.var 1) .nil)) .nil)))))))))
def F_Groups_divided : Fn := ⟨2, 10, B_Groups_divided, true, true⟩
def B_Upto_divided : S := (.seq (.set 2 (.call "minus" (.cons (.tup (.cons (.int 1) (.cons (.int 1) .nil))) (.cons (.fld (.var 0) "portion") .nil)))) (.ret (.call "behind" (.cons (.meth (.fld (.var 0) "first") "divided" (.cons (.call "cut" (.cons (.var 1) (.cons (.fld (.var 0) "portion") .nil))) .nil)) (.cons (.meth (.fld (.var 0) "last") "divided" (.cons (.call "cut" (.cons (.var 1) (.cons (.var 2) .nil))) .nil)) .nil)))))
def F_Upto_divided : Fn := ⟨2, 3, B_Upto_divided, true, true⟩
def B_law_portion : S := (.seq (.set 1 (.bin .mod (.var 0) (.bin .pow (.int 10) (.int 9)))) (.seq (.ite (.cmp .eq (.bin .mod (.var 1) (.int 3)) (.int 0)) (.ret (.tup (.cons (.int 1) (.cons (.bin .add (.int 2) (.bin .mod (.bin .fdiv (.var 1) (.int 3)) (.int 60))) .nil)))) .skip) (.seq (.ite (.cmp .eq (.bin .mod (.var 1) (.int 3)) (.int 1)) (.ret (.tup (.cons (.bin .add (.int 1) (.bin .mod (.bin .fdiv (.var 1) (.int 3)) (.int 60))) (.cons (.int 61) .nil)))) .skip) (.ret (.tup (.cons (.bin .add (.int 1) (.bin .mod (.bin .fdiv (.var 1) (.int 3)) (.int 60))) (.cons (.bin .add (.int 2) (.bin .mod (.bin .fdiv (.var 1) (.int 3)) (.int 60))) .nil)))))))
def F_law_portion : Fn := ⟨1, 2, B_law_portion, true, true⟩
def B_law_labels_2 : S := (.seq (.ite (.cmp .eq (.bin .mod (.var 0) (.int 5)) (.int 0)) (.ret (.lst (.cons (.int 7) (.cons (.int 10) (.cons (.int 2) .nil))))) .skip) (.seq (.ite (.cmp .eq (.bin .mod (.var 0) (.int 5)) (.int 1)) (.ret (.lst (.cons (.bin .add (.bin .pow (.int 10) (.int 40)) (.int 5)) (.cons (.int 9) (.cons (.int 30) .nil))))) .skip) (.seq (.ite (.cmp .eq (.bin .mod (.var 0) (.int 5)) (.int 2)) (.ret (.lst (.cons (.int 2024) (.cons (.bin .pow (.int 10) (.int 20)) (.cons (.int 100) .nil))))) .skip) (.seq (.ite (.cmp .eq (.bin .mod (.var 0) (.int 5)) (.int 3)) (.ret (.lst (.cons (.int 6) (.cons (.int 3) (.cons (.int 12) (.cons (.int 0) (.cons (.int 9) (.cons (.int 100) (.cons (.int 5) (.cons (.int 1) .nil)))))))))) .skip) (.ret (.lst (.cons (.int 0) (.cons (.int 1) (.cons (.int 2) .nil)))))))))
def F_law_labels_2 : Fn := ⟨1, 1, B_law_labels_2, true, true⟩
def LB_law_claims_2_0 : S := (.seq (.set 9 (.call "_law_cell_at" (.cons (.var 0) (.cons (.bin .add (.var 1) (.var 8)) .nil)))) (.seq (.set 10 (.bin .mod (.bin .fdiv (.var 9) (.int 9)) (.var 3))) (.seq (.ite (.cmp .eq (.bin .mod (.var 9) (.int 4)) (.int 1)) (.set 10 (.bin .mod (.bin .fdiv (.var 9) (.int 9)) (.int 5))) .skip) (.seq (.ite (.and (.cmp .eq (.bin .mod (.var 9) (.int 4)) (.int 2)) (.cmp .gt (.var 8) (.int 0))) (.set 10 (.ix (.ix (.var 7) (.bin .mod (.bin .fdiv (.var 9) (.int 9)) (.var 8))) (.int 0))) .skip) (.seq (.set 11 (.ix (.var 5) (.bin .mod (.call "_law_mixed" (.cons (.var 9) (.cons (.int 1) .nil))) (.blt "len" (.cons (.var 5) .nil))))) (.app 7 (.tup (.cons (.var 10) (.cons (.var 11) (.cons (.ix (.var 6) (.bin .mod (.call "_law_mixed" (.cons (.var 9) (.cons (.int 2) .nil))) (.blt "len" (.cons (.var 6) .nil)))) .nil))))))))))
def L_law_claims_2_0 : S := (.for_ false [8] (.irng (.var 2)) LB_law_claims_2_0 [8, 9, 10, 11])
def B_law_claims_2 : S := (.seq (.set 4 (.call "_law_mixed" (.cons (.call "_law_cell_at" (.cons (.var 0) (.cons (.var 1) .nil))) (.cons (.int 3) .nil)))) (.seq (.set 5 (.call "_law_labels" (.cons (.var 4) .nil))) (.seq (.set 6 (.call "_law_labels" (.cons (.bin .fdiv (.var 4) (.int 5)) .nil))) (.seq (.set 7 (.lst .nil)) (.seq L_law_claims_2_0 (.ret (.var 7)))))))
def F_law_claims_2 : Fn := ⟨4, 12, B_law_claims_2, true, true⟩
def B_law_leaf : S := (.ret (.ix (.lst (.cons (.tup (.cons (.str "shares") .nil)) (.cons (.tup (.cons (.str "evenly") .nil)) (.cons (.tup (.cons (.str "losses") .nil)) (.cons (.tup (.cons (.str "halves") .nil)) .nil))))) (.bin .mod (.var 0) (.int 4))))
def F_law_leaf : Fn := ⟨1, 1, B_law_leaf, true, true⟩
def LB_law_shape_0 : S := (.seq (.set 4 (.bin .mod (.bin .fdiv (.var 3) (.int 7)) (.bin .pow (.int 10) (.int 9)))) (.seq (.set 5 (.bin .mod (.var 3) (.int 7))) (.ite (.and (.cmp .eq (.var 5) (.int 3)) (.cmp .gt (.blt "len" (.cons (.var 2) .nil)) (.int 0))) (.set 2 (.bin .add (.sl (.var 2) .nil (.neg (.int 1))) (.lst (.cons (.tup (.cons (.str "other") (.cons (.ix (.var 2) (.neg (.int 1))) .nil))) .nil)))) (.ite (.and (.cmp .eq (.var 5) (.int 4)) (.cmp .gt (.blt "len" (.cons (.var 2) .nil)) (.int 0))) (.set 2 (.bin .add (.sl (.var 2) .nil (.neg (.int 1))) (.lst (.cons (.tup (.cons (.str "ranks") (.cons (.ix (.var 2) (.neg (.int 1))) .nil))) .nil)))) (.ite (.and (.cmp .eq (.var 5) (.int 5)) (.and (.cmp .gt (.blt "len" (.cons (.var 2) .nil)) (.int 1)) (.var 1))) (.set 2 (.bin .add (.sl (.var 2) .nil (.neg (.int 2))) (.lst (.cons (.tup (.cons (.str "groups") (.cons (.ix (.var 2) (.neg (.int 2))) (.cons (.ix (.var 2) (.neg (.int 1))) .nil)))) .nil)))) (.ite (.and (.cmp .gt (.var 5) (.int 4)) (.cmp .gt (.blt "len" (.cons (.var 2) .nil)) (.int 1))) (.set 2 (.bin .add (.sl (.var 2) .nil (.neg (.int 2))) (.lst (.cons (.tup (.cons (.str "upto") (.cons (.call "_law_portion" (.cons (.var 4) .nil)) (.cons (.ix (.var 2) (.neg (.int 2))) (.cons (.ix (.var 2) (.neg (.int 1))) .nil))))) .nil)))) (.app 2 (.call "_law_leaf" (.cons (.var 4) .nil)))))))))
def L_law_shape_0 : S := (.for_ false [3] (.iseq (.var 0)) LB_law_shape_0 [3, 4, 5])
def LB_law_shape_1 : S := (.set 2 (.bin .add (.sl (.var 2) .nil (.neg (.int 2))) (.lst (.cons (.tup (.cons (.str "upto") (.cons (.tup (.cons (.int 1) (.cons (.bin .add (.int 1) (.blt "len" (.cons (.var 2) .nil))) .nil))) (.cons (.ix (.var 2) (.neg (.int 2))) (.cons (.ix (.var 2) (.neg (.int 1))) .nil))))) .nil))))
def L_law_shape_1 : S := (.whl (.cmp .gt (.blt "len" (.cons (.var 2) .nil)) (.int 1)) LB_law_shape_1 [])
def B_law_shape : S := (.seq (.set 2 (.lst .nil)) (.seq L_law_shape_0 (.seq (.ite (.cmp .eq (.blt "len" (.cons (.var 2) .nil)) (.int 0)) (.ret (.tup (.cons (.str "halves") .nil))) .skip) (.seq L_law_shape_1 (.ret (.ix (.var 2) (.int 0)))))))
def F_law_shape : Fn := ⟨2, 6, B_law_shape, true, true⟩
def LB_look_division_0 : S := (.ite (.or (.call "before" (.cons (.var 3) (.cons (.glob "NOTHING") .nil))) (.call "before" (.cons (.tup (.cons (.ix (.var 2) (.int 0)) (.cons (.int 1) .nil))) (.cons (.var 3) .nil)))) (.raise "NoDivision") .skip)
def L_look_division_0 : S := (.for_ true [2, 3] (.izip (.var 0) (.var 1)) LB_look_division_0 [2, 3])
def B_look_division : S := (.seq (.ite (.cmp .ne (.blt "len" (.cons (.var 1) .nil)) (.blt "len" (.cons (.var 0) .nil))) (.raise "NoDivision") .skip) L_look_division_0)
def F_look_division : Fn := ⟨2, 4, B_look_division, true, true⟩
def LB_pair_off_1 : S := (.seq (.set 5 (.meth (.var 0) "parts" (.cons (.lst (.cons (.ix (.var 1) (.var 3)) (.cons (.ix (.var 1) (.var 4)) .nil))) (.cons (.call "plus" (.cons (.ix (.var 2) (.var 3)) (.cons (.ix (.var 2) (.var 4)) .nil))) .nil)))) (.ite (.cmp .ne (.var 5) (.tup (.cons (.ix (.var 2) (.var 3)) (.cons (.ix (.var 2) (.var 4)) .nil)))) (.ret (.tup (.cons (.var 3) (.cons (.var 4) (.cons (.ix (.var 5) (.int 0)) (.cons (.ix (.var 5) (.int 1)) .nil)))))) .skip))
def L_pair_off_1 : S := (.for_ false [4] (.irng2 (.bin .add (.var 3) (.int 1)) (.blt "len" (.cons (.var 1) .nil))) LB_pair_off_1 [4, 5])
def LB_pair_off_0 : S := L_pair_off_1
def L_pair_off_0 : S := (.for_ false [3] (.irng (.blt "len" (.cons (.var 1) .nil))) LB_pair_off_0 [3, 4, 5])
def B_pair_off : S := (.seq (.expr (.call "look_claims" (.cons (.var 1) .nil))) (.seq (.expr (.call "look_division" (.cons (.var 1) (.cons (.var 2) .nil)))) (.seq L_pair_off_0 (.ret .non))))
def F_pair_off : Fn := ⟨3, 6, B_pair_off, true, true⟩
def B_law_moved : S := (.seq (.set 3 (.bin .mod (.var 2) (.bin .pow (.int 10) (.int 9)))) (.seq (.set 4 (.bin .mod (.var 3) (.blt "len" (.cons (.var 0) .nil)))) (.seq (.set 5 (.bin .mod (.bin .add (.bin .add (.var 4) (.int 1)) (.bin .mod (.bin .fdiv (.var 3) (.int 8)) (.bin .sub (.blt "len" (.cons (.var 0) .nil)) (.int 1)))) (.blt "len" (.cons (.var 0) .nil)))) (.seq (.set 6 (.call "_law_lowest" (.cons (.bin .sub (.bin .mul (.ix (.ix (.var 0) (.var 5)) (.int 0)) (.ix (.ix (.var 1) (.var 5)) (.int 1))) (.ix (.ix (.var 1) (.var 5)) (.int 0))) (.cons (.ix (.ix (.var 1) (.var 5)) (.int 1)) .nil)))) (.seq (.set 7 (.ix (.var 1) (.var 4))) (.seq (.ite (.cmp .lt (.bin .mul (.ix (.var 6) (.int 0)) (.ix (.var 7) (.int 1))) (.bin .mul (.ix (.var 7) (.int 0)) (.ix (.var 6) (.int 1)))) (.set 7 (.var 6)) .skip) (.seq (.set 7 (.call "_law_lowest" (.cons (.bin .mul (.ix (.var 7) (.int 0)) (.bin .add (.int 1) (.bin .mod (.bin .fdiv (.var 3) (.int 56)) (.int 3)))) (.cons (.bin .mul (.ix (.var 7) (.int 1)) (.int 3)) .nil)))) (.seq (.set 8 (.blt "list" (.cons (.var 1) .nil))) (.seq (.put 8 (.var 4) (.call "_law_lowest" (.cons (.bin .sub (.bin .mul (.ix (.ix (.var 1) (.var 4)) (.int 0)) (.ix (.var 7) (.int 1))) (.bin .mul (.ix (.var 7) (.int 0)) (.ix (.ix (.var 1) (.var 4)) (.int 1)))) (.cons (.bin .mul (.ix (.ix (.var 1) (.var 4)) (.int 1)) (.ix (.var 7) (.int 1))) .nil)))) (.seq (.put 8 (.var 5) (.call "_law_lowest" (.cons (.bin .add (.bin .mul (.ix (.ix (.var 1) (.var 5)) (.int 0)) (.ix (.var 7) (.int 1))) (.bin .mul (.ix (.var 7) (.int 0)) (.ix (.ix (.var 1) (.var 5)) (.int 1)))) (.cons (.bin .mul (.ix (.ix (.var 1) (.var 5)) (.int 1)) (.ix (.var 7) (.int 1))) .nil)))) (.ret (.var 8))))))))))))
def F_law_moved : Fn := ⟨3, 9, B_law_moved, true, true⟩
def B_law_two_right : S := (.seq (.set 5 (.lst (.cons (.ix (.var 2) (.var 3)) (.cons (.ix (.var 2) (.var 4)) .nil)))) (.seq (.set 6 (.bin .mul (.bin .fdiv (.ix (.ix (.var 5) (.int 0)) (.int 1)) (.call "_law_divisor" (.cons (.ix (.ix (.var 5) (.int 0)) (.int 1)) (.cons (.ix (.ix (.var 5) (.int 1)) (.int 1)) .nil)))) (.ix (.ix (.var 5) (.int 1)) (.int 1)))) (.seq (.set 7 (.lc (.bin .mul (.ix (.var 9) (.int 0)) (.bin .fdiv (.var 6) (.ix (.var 9) (.int 1)))) false [9] (.iseq (.var 5)) .nil)) (.seq (.set 8 (.lc (.tup (.cons (.bin .mul (.var 6) (.ix (.ix (.var 1) (.var 10)) (.int 0))) (.cons (.ix (.ix (.var 1) (.var 10)) (.int 1)) (.cons (.ix (.ix (.var 1) (.var 10)) (.int 2)) .nil)))) false [10] (.iseq (.tup (.cons (.var 3) (.cons (.var 4) .nil)))) .nil)) (.ret (.call "_law_fits" (.cons (.var 0) (.cons (.var 8) (.cons (.var 7) .nil)))))))))
def F_law_two_right : Fn := ⟨5, 11, B_law_two_right, true, true⟩
def LB_law_pair_2_1 : S := (.ite (.not (.call "_law_two_right" (.cons (.var 0) (.cons (.var 1) (.cons (.var 2) (.cons (.var 5) (.cons (.var 8) .nil))))))) (.app 4 (.tup (.cons (.var 5) (.cons (.var 8) .nil)))) .skip)
def L_law_pair_2_1 : S := (.for_ false [8] (.irng2 (.bin .add (.var 5) (.int 1)) (.blt "len" (.cons (.var 1) .nil))) LB_law_pair_2_1 [8])
def LB_law_pair_2_0 : S := L_law_pair_2_1
def L_law_pair_2_0 : S := (.for_ false [5] (.irng (.blt "len" (.cons (.var 1) .nil))) LB_law_pair_2_0 [5, 8])
def B_law_pair_2 : S := (.seq (.set 4 (.lst .nil)) (.seq L_law_pair_2_0 (.seq (.ite (.isN (.var 3)) (.ret (.cmp .eq (.blt "len" (.cons (.var 4) .nil)) (.int 0))) .skip) (.seq (.ite (.or (.not (.isi (.var 3) "tuple")) (.or (.cmp .ne (.blt "len" (.cons (.var 3) .nil)) (.int 4)) (.cmp .eq (.blt "len" (.cons (.var 4) .nil)) (.int 0)))) (.ret (.bl false)) .skip) (.seq (.unp [5, 8, 9, 10] (.var 3)) (.seq (.ite (.or (.not (.call "_law_whole" (.cons (.var 5) .nil))) (.or (.not (.call "_law_whole" (.cons (.var 8) .nil))) (.cmp .ne (.tup (.cons (.var 5) (.cons (.var 8) .nil))) (.ix (.var 4) (.int 0))))) (.ret (.bl false)) .skip) (.seq (.set 6 (.bin .add (.bin .mul (.ix (.ix (.var 2) (.var 5)) (.int 0)) (.ix (.ix (.var 2) (.var 8)) (.int 1))) (.bin .mul (.ix (.ix (.var 2) (.var 8)) (.int 0)) (.ix (.ix (.var 2) (.var 5)) (.int 1))))) (.seq (.set 7 (.call "_law_lowest" (.cons (.var 6) (.cons (.bin .mul (.ix (.ix (.var 2) (.var 5)) (.int 1)) (.ix (.ix (.var 2) (.var 8)) (.int 1))) .nil)))) (.ret (.call "_law_right" (.cons (.var 0) (.cons (.lst (.cons (.ix (.var 1) (.var 5)) (.cons (.ix (.var 1) (.var 8)) .nil))) (.cons (.var 7) (.cons (.tup (.cons (.var 9) (.cons (.var 10) .nil))) .nil))))))))))))))
def F_law_pair_2 : Fn := ⟨4, 11, B_law_pair_2, true, true⟩
def B_law_text : S := (.seq (.ite (.cmp .eq (.blt "len" (.cons (.var 0) .nil)) (.int 1)) (.ret (.ix (.var 0) (.int 0))) .skip) (.seq (.ite (.cmp .eq (.ix (.var 0) (.int 0)) (.str "upto")) (.seq (.set 1 (.bin .add (.bin .add (.blt "str" (.cons (.ix (.ix (.var 0) (.int 1)) (.int 0)) .nil)) (.str "/")) (.blt "str" (.cons (.ix (.ix (.var 0) (.int 1)) (.int 1)) .nil)))) (.seq (.set 2 (.bin .add (.bin .add (.call "_law_text" (.cons (.ix (.var 0) (.int 2)) .nil)) (.str ", ")) (.call "_law_text" (.cons (.ix (.var 0) (.int 3)) .nil)))) (.ret (.bin .add (.bin .add (.bin .add (.bin .add (.str "upto(") (.var 1)) (.str ", ")) (.var 2)) (.str ")"))))) .skip) (.ret (.bin .add (.bin .add (.bin .add (.ix (.var 0) (.int 0)) (.str "(")) (.smeth "join" (.str ", ") (.cons (.lc (.call "_law_text" (.cons (.var 3) .nil)) false [3] (.iseq (.sl (.var 0) (.int 1) .nil)) .nil) .nil))) (.str ")")))))
def F_law_text : Fn := ⟨1, 4, B_law_text, true, true⟩
end Pu.Pg


/-! Fractions. -/
namespace Pu
theorem fr_of {T : Tab} {f : String} {F : Fn} (h : T.fn f = some F) : T.fresh f = F.fresh := by unfold Tab.fresh; rw [h]
theorem br_of {T : Tab} {f : String} {F : Fn} (h : T.fn f = some F) : T.bor f = F.bor := by unfold Tab.bor; rw [h]
/-- a fraction as the program has it -/
def fr (x : Rat) : D := .tup [.int x.num, .int x.den]
def SzR (k : Nat) (x : Rat) : Prop := Bits k x.num ∧ Bits k (x.den : Int)
theorem SzR.mono {k m : Nat} {x : Rat} (h : SzR k x) (l : k ≤ m) : SzR m x := ⟨h.1.mono l, h.2.mono l⟩
theorem fr_fit (x : Rat) : (fr x).fit 64 = true := by simp [fr, D.fit, D.fitA]
theorem fr_eqv (x y : Rat) : D.eqv (fr x) (fr y) = decide (x = y) := by
  unfold fr
  by_cases h : x = y
  · subst h; simp
  · rw [decide_eq_false h]
    simp only [eqv_tup, eqvA_cons, eqv_int, eqvA_nil, Bool.and_true]
    by_cases h1 : x.num = y.num
    · by_cases h2 : x.den = y.den
      · exact absurd (Rat.ext h1 h2) h
      · rw [decide_eq_false (fun z : (x.den : Int) = y.den => h2 (by omega)), Bool.and_false]
    · rw [decide_eq_false h1, Bool.false_and]
theorem fr_eq (x y : Rat) : cop .eq (fr x) (fr y) = .ok (decide (x = y)) := by rw [cop_eq (fr_fit x) (fr_fit y), fr_eqv]
theorem fr_ne (x y : Rat) : cop .ne (fr x) (fr y) = .ok (!decide (x = y)) := by rw [cop_ne (fr_fit x) (fr_fit y), fr_eqv]
theorem fr_noL (x : Rat) : (fr x).noL = true := by simp [fr]
theorem fr_noL1 (x : Rat) : (fr x).noL1 = true := by simp [fr]
theorem fr_isL (x : Rat) : (fr x).isL = false := (rfl)

@[simp] theorem item_fr0 (x : Rat) : itemOf (fr x) (.int 0) = .ok (.int x.num) := by simp [fr]
@[simp] theorem item_fr1 (x : Rat) : itemOf (fr x) (.int 1) = .ok (.int x.den) := by simp [fr]
theorem atI_mapf {α : Type} {l : List α} (f : α → D) {i : Int} {j : Nat} (hj : i = (j : Int)) (h : j < l.length) : atI (l.map f) i = some (f l[j]) := by
  subst hj
  rw [atI_nat (by simpa using h), List.getElem?_map, List.getElem?_eq_getElem h]
  rfl
theorem fr_int (z : Int) : fr (z : Rat) = .tup [.int z, .int 1] := by simp [fr]
theorem rngOk_in {i : Int} (h1 : -4611686018427387904 ≤ i) (h2 : i < 4611686018427387904) : rngOk i = true := by
  unfold rngOk
  simp only [Bool.and_eq_true, decide_eq_true_eq]
  omega
/-! ### lowest terms -/
theorem low_num (t : Int) {b : Int} (hb : b ≠ 0) : t.fdiv (if b < 0 then -(Int.gcd t b : Int) else Int.gcd t b) = (Rat.divInt t b).num := by
  rw [Rat.num_divInt, Int.gcd_comm b t]
  rcases Int.lt_or_gt_of_ne hb with h | h
  · rw [if_pos h, Int.sign_eq_neg_one_of_neg h]
    have := Int.neg_fdiv_neg (-t) (Int.gcd t b : Int)
    rw [Int.neg_neg] at this
    rw [this, Int.fdiv_eq_ediv_of_nonneg _ (Int.natCast_nonneg _)]
    congr 1
    omega
  · rw [if_neg (by omega), Int.sign_eq_one_of_pos h, Int.one_mul, Int.fdiv_eq_ediv_of_nonneg _ (Int.natCast_nonneg _)]
theorem low_den (t : Int) {b : Int} (hb : b ≠ 0) : b.fdiv (if b < 0 then -(Int.gcd t b : Int) else Int.gcd t b) = ((Rat.divInt t b).den : Int) := by
  rw [Rat.den_divInt, if_neg hb, Int.gcd_comm b t]
  rcases Int.lt_or_gt_of_ne hb with h | h
  · rw [if_pos h]
    have := Int.neg_fdiv_neg (-b) (Int.gcd t b : Int)
    rw [Int.neg_neg] at this
    rw [this, Int.fdiv_eq_ediv_of_nonneg _ (Int.natCast_nonneg _), Int.natCast_ediv]
    congr 1
    omega
  · rw [if_neg (by omega), Int.fdiv_eq_ediv_of_nonneg _ (Int.natCast_nonneg _), Int.natCast_ediv]
    congr 1
    omega
theorem gcd_ne {t b : Int} (hb : b ≠ 0) : (Int.gcd t b : Int) ≠ 0 := by
  have := Int.gcd_pos_of_ne_zero_right t hb
  omega
theorem gcd_bits {k : Nat} {t b : Int} (hb : b ≠ 0) (h : Bits k b) : Bits k (Int.gcd t b : Int) := Nat.lt_of_le_of_lt (by
  have := Int.gcd_le_natAbs_right t hb
  simpa using this) h
theorem szR_divInt {k : Nat} {t b : Int} (hb : b ≠ 0) (h1 : Bits k t) (h2 : Bits k b) : SzR k (Rat.divInt t b) := by
  rw [SzR, ← low_num t hb, ← low_den t hb]
  exact ⟨h1.fdiv, h2.fdiv⟩
theorem SzR.lit {k : Nat} {x : Rat} (h : (decide (x.num.natAbs < 2 ^ k) && decide (x.den < 2 ^ k)) = true) : SzR k x := by
  simp only [Bool.and_eq_true, decide_eq_true_eq] at h
  exact ⟨h.1, by unfold Bits; simpa using h.2⟩
theorem den_ne (x : Rat) : (x.den : Int) ≠ 0 := by
  have := x.den_nz
  omega
theorem num_ne {x : Rat} (h : x ≠ 0) : x.num ≠ 0 := fun e => h (Rat.num_eq_zero.mp e)
theorem add_divInt (x y : Rat) : Rat.divInt (x.num * y.den + y.num * x.den) (x.den * y.den) = x + y := by
  have := Rat.divInt_add_divInt x.num y.num (den_ne x) (den_ne y)
  rw [Rat.num_divInt_den, Rat.num_divInt_den] at this
  exact this.symm
theorem sub_divInt (x y : Rat) : Rat.divInt (x.num * y.den - y.num * x.den) (x.den * y.den) = x - y := by
  have := Rat.divInt_sub_divInt x.num y.num (den_ne x) (den_ne y)
  rw [Rat.num_divInt_den, Rat.num_divInt_den] at this
  exact this.symm
theorem mul_divInt (x y : Rat) : Rat.divInt (x.num * y.num) (x.den * y.den) = x * y := by
  have := Rat.divInt_mul_divInt x.num y.num (d₁ := x.den) (d₂ := y.den)
  rw [Rat.num_divInt_den, Rat.num_divInt_den] at this
  exact this.symm
theorem div_divInt (x y : Rat) : Rat.divInt (x.num * y.den) (x.den * y.num) = x / y := by
  have hx := Rat.num_divInt_den x
  have hy := Rat.num_divInt_den y
  rw [Rat.divInt_eq_div] at hx hy ⊢
  rw [Rat.intCast_mul, Rat.intCast_mul]
  have : (x.num : Rat) / ((x.den : Int) : Rat) / ((y.num : Rat) / ((y.den : Int) : Rat)) = x / y := by rw [hx, hy]
  rw [← this]
  have h1 : ((x.den : Int) : Rat) ≠ 0 := by simpa using x.den_nz
  have h2 : ((y.den : Int) : Rat) ≠ 0 := by simpa using y.den_nz
  by_cases h3 : ((y.num : Int) : Rat) = 0
  · rw [h3]; grind
  · grind
theorem SzR.add {k m : Nat} {x y : Rat} (h : SzR k x) (h' : SzR m y) : SzR (k + m + 1) (x + y) := by
  rw [← add_divInt]
  exact szR_divInt (Int.mul_ne_zero (den_ne x) (den_ne y)) ((h.1.mul h'.2).add ((h'.1.mul h.2).mono (by omega))) ((h.2.mul h'.2).mono (by omega))
theorem SzR.sub {k m : Nat} {x y : Rat} (h : SzR k x) (h' : SzR m y) : SzR (k + m + 1) (x - y) := by
  rw [← sub_divInt]
  exact szR_divInt (Int.mul_ne_zero (den_ne x) (den_ne y)) ((h.1.mul h'.2).sub ((h'.1.mul h.2).mono (by omega))) ((h.2.mul h'.2).mono (by omega))
theorem SzR.mul {k m : Nat} {x y : Rat} (h : SzR k x) (h' : SzR m y) : SzR (k + m) (x * y) := by
  rw [← mul_divInt]
  exact szR_divInt (Int.mul_ne_zero (den_ne x) (den_ne y)) (h.1.mul h'.1) (h.2.mul h'.2)
theorem SzR.div {k m : Nat} {x y : Rat} (h : SzR k x) (h' : SzR m y) (hy : y ≠ 0) : SzR (k + m) (x / y) := by
  rw [← div_divInt]
  exact szR_divInt (Int.mul_ne_zero (den_ne x) (num_ne hy)) (h.1.mul h'.2) (h.2.mul h'.1)

/-! ### the program's fractions -/
section
variable {T : Tab}
theorem pdiv_loop (o : Orc) (a b : Int) : exec o Pg.L_divisor_0 [some (.frz, .int a), some (.frz, .int b)] = .ok ([some (.frz, .int (gcdI a b)), some (.frz, .int 0)], .nx) := by
  refine gcdI_ind (P := fun a b => exec o Pg.L_divisor_0 [some (.frz, .int a), some (.frz, .int b)] = .ok ([some (.frz, .int (gcdI a b)), some (.frz, .int 0)], .nx)) (fun a => ?_) (fun a b hb ih => ?_) a b
  · rw [gcdI_zero]
    exact whl_f (by simp [esc, escB, notVar, esc.escBs, isFresh, frV, lim_val, powOk])
  · rw [gcdI_step a hb, ← ih]
    exact whl_t (by simp [esc, escB, notVar, esc.escBs, isFresh, frV, lim_val, powOk, hb]) (r' := [some (.frz, .int b), some (.frz, .int (a.fmod b))]) (by simp [esc, escB, notVar, esc.escBs, isFresh, frV, lim_val, powOk, Pg.LB_divisor_0, hb])
theorem abs_gcd (a b : Int) : (if gcdI a b < 0 then -gcdI a b else gcdI a b) = (Int.gcd a b : Int) := by
  rw [← gcdI_natAbs]
  omega
theorem divisor_eq (h : T.fn "divisor" = some Pg.F_divisor) (n : Nat) (a b : Int) : evFn T (n + 1) "divisor" [.int a, .int b] = .ok (.int (Int.gcd a b)) := by
  rw [go h n _ rfl]
  simp [esc, escB, notVar, esc.escBs, isFresh, frV, lim_val, powOk, Pg.F_divisor, Pg.B_divisor, start0, pdiv_loop, abs_gcd]
structure HasFrac (T : Tab) : Prop where
  divisor : T.fn "divisor" = some Pg.F_divisor
  fraction : T.fn "fraction" = some Pg.F_fraction
theorem fraction_eq (h : HasFrac T) (n : Nat) {t b : Int} (hb : b ≠ 0) (bt : Bits 8000 t) (bb : Bits 8000 b) : evFn T (n + 2) "fraction" [.int t, .int b] = .ok (fr (Rat.divInt t b)) := by
  have e0 := divisor_eq h.divisor n t b
  have b1 := br_of h.divisor
  have b2 := fr_of h.divisor
  have n1 := low_num t hb
  have n2 := low_den t hb
  rw [go h.fraction (n + 1) _ rfl]
  by_cases hn : b < 0
  · rw [if_pos hn] at n1 n2
    have d1 : divOk t (-(Int.gcd t b : Int)) = true := divOk_of (by have := gcd_ne (t := t) hb; omega) (gcd_bits hb bb).neg (by decide)
    have d2 : divOk b (-(Int.gcd t b : Int)) = true := divOk_of (by have := gcd_ne (t := t) hb; omega) (gcd_bits hb bb).neg (by decide)
    simp [esc, escB, notVar, esc.escBs, isFresh, frV, lim_val, powOk, Pg.F_fraction, Pg.B_fraction, start0, hb, hn, e0, b1, b2, Pg.F_divisor, d1, d2, n1, n2, fr]
  · rw [if_neg hn] at n1 n2
    have d1 : divOk t (Int.gcd t b : Int) = true := divOk_of (gcd_ne hb) (gcd_bits hb bb) (by decide)
    have d2 : divOk b (Int.gcd t b : Int) = true := divOk_of (gcd_ne hb) (gcd_bits hb bb) (by decide)
    simp [esc, escB, notVar, esc.escBs, isFresh, frV, lim_val, powOk, Pg.F_fraction, Pg.B_fraction, start0, hb, hn, e0, b1, b2, Pg.F_divisor, d1, d2, n1, n2, fr]
theorem plus_eq (h : HasFrac T) (hp : T.fn "plus" = some Pg.F_plus) (n : Nat) {x y : Rat} {k m : Nat} (hx : SzR k x) (hy : SzR m y) (hk : k + m < 7999) : evFn T (n + 3) "plus" [fr x, fr y] = .ok (fr (x + y)) := by
  have m1 : mulOk x.num y.den = true := mulOk_of hx.1 hy.2 (by omega) (by omega)
  have m2 : mulOk y.num x.den = true := mulOk_of hy.1 hx.2 (by omega) (by omega)
  have m3 : mulOk x.den y.den = true := mulOk_of hx.2 hy.2 (by omega) (by omega)
  have e := fraction_eq h n (t := x.num * y.den + y.num * x.den) (Int.mul_ne_zero (den_ne x) (den_ne y)) (((hx.1.mul hy.2).add ((hy.1.mul hx.2).mono (by omega))).mono (by omega)) ((hx.2.mul hy.2).mono (by omega))
  rw [add_divInt] at e
  rw [go hp (n + 2) _ rfl]
  simp [esc, escB, notVar, esc.escBs, isFresh, frV, lim_val, powOk, Pg.F_plus, Pg.B_plus, start0, fr, m1, m2, m3, e]
theorem minus_eq (h : HasFrac T) (hp : T.fn "minus" = some Pg.F_minus) (n : Nat) {x y : Rat} {k m : Nat} (hx : SzR k x) (hy : SzR m y) (hk : k + m < 7999) : evFn T (n + 3) "minus" [fr x, fr y] = .ok (fr (x - y)) := by
  have m1 : mulOk x.num y.den = true := mulOk_of hx.1 hy.2 (by omega) (by omega)
  have m2 : mulOk y.num x.den = true := mulOk_of hy.1 hx.2 (by omega) (by omega)
  have m3 : mulOk x.den y.den = true := mulOk_of hx.2 hy.2 (by omega) (by omega)
  have e := fraction_eq h n (t := x.num * y.den - y.num * x.den) (Int.mul_ne_zero (den_ne x) (den_ne y)) (((hx.1.mul hy.2).sub ((hy.1.mul hx.2).mono (by omega))).mono (by omega)) ((hx.2.mul hy.2).mono (by omega))
  rw [sub_divInt] at e
  rw [go hp (n + 2) _ rfl]
  simp [esc, escB, notVar, esc.escBs, isFresh, frV, lim_val, powOk, Pg.F_minus, Pg.B_minus, start0, fr, m1, m2, m3, e]
theorem times_eq (h : HasFrac T) (hp : T.fn "times" = some Pg.F_times) (n : Nat) {x y : Rat} {k m : Nat} (hx : SzR k x) (hy : SzR m y) (hk : k + m < 7999) : evFn T (n + 3) "times" [fr x, fr y] = .ok (fr (x * y)) := by
  have m1 : mulOk x.num y.num = true := mulOk_of hx.1 hy.1 (by omega) (by omega)
  have m3 : mulOk x.den y.den = true := mulOk_of hx.2 hy.2 (by omega) (by omega)
  have e := fraction_eq h n (t := x.num * y.num) (Int.mul_ne_zero (den_ne x) (den_ne y)) ((hx.1.mul hy.1).mono (by omega)) ((hx.2.mul hy.2).mono (by omega))
  rw [mul_divInt] at e
  rw [go hp (n + 2) _ rfl]
  simp [esc, escB, notVar, esc.escBs, isFresh, frV, lim_val, powOk, Pg.F_times, Pg.B_times, start0, fr, m1, m3, e]
theorem over_eq (h : HasFrac T) (hp : T.fn "over" = some Pg.F_over) (n : Nat) {x y : Rat} {k m : Nat} (hx : SzR k x) (hy : SzR m y) (hy0 : y ≠ 0) (hk : k + m < 7999) : evFn T (n + 3) "over" [fr x, fr y] = .ok (fr (x / y)) := by
  have m1 : mulOk x.num y.den = true := mulOk_of hx.1 hy.2 (by omega) (by omega)
  have m3 : mulOk x.den y.num = true := mulOk_of hx.2 hy.1 (by omega) (by omega)
  have e := fraction_eq h n (t := x.num * y.den) (Int.mul_ne_zero (den_ne x) (num_ne hy0)) ((hx.1.mul hy.2).mono (by omega)) ((hx.2.mul hy.1).mono (by omega))
  rw [div_divInt] at e
  rw [go hp (n + 2) _ rfl]
  simp [esc, escB, notVar, esc.escBs, isFresh, frV, lim_val, powOk, Pg.F_over, Pg.B_over, start0, fr, m1, m3, e]
theorem before_eq (hp : T.fn "before" = some Pg.F_before) (n : Nat) {x y : Rat} {k m : Nat} (hx : SzR k x) (hy : SzR m y) (hk : k + m < 7999) : evFn T (n + 1) "before" [fr x, fr y] = .ok (.bl (decide (x < y))) := by
  have m1 : mulOk x.num y.den = true := mulOk_of hx.1 hy.2 (by omega) (by omega)
  have m2 : mulOk y.num x.den = true := mulOk_of hy.1 hx.2 (by omega) (by omega)
  rw [go hp n _ rfl]
  simp [esc, escB, notVar, esc.escBs, isFresh, frV, lim_val, powOk, Pg.F_before, Pg.B_before, start0, fr, m1, m2, Rat.lt_iff]
end
end Pu

/-! What several laws have of their own. -/
namespace Pu
section
variable {T : Tab}
theorem ldiv_loop (o : Orc) (a b : Int) : exec o Pg.L_law_divisor_0 [some (.frz, .int a), some (.frz, .int b)] = .ok ([some (.frz, .int (gcdI a b)), some (.frz, .int 0)], .nx) := pdiv_loop o a b
theorem ldiv2_loop (o : Orc) (a b : Int) : exec o Pg.L_law_divisor_2_0 [some (.frz, .int a), some (.frz, .int b), none] = .ok ([some (.frz, .int (gcdI a b)), some (.frz, .int 0), none], .nx) := by
  refine gcdI_ind (P := fun a b => exec o Pg.L_law_divisor_2_0 [some (.frz, .int a), some (.frz, .int b), none] = .ok ([some (.frz, .int (gcdI a b)), some (.frz, .int 0), none], .nx)) (fun a => ?_) (fun a b hb ih => ?_) a b
  · rw [gcdI_zero]
    exact whl_f (by simp [esc, escB, notVar, esc.escBs, isFresh, frV, lim_val, powOk])
  · rw [gcdI_step a hb, ← ih]
    exact whl_t (by simp [esc, escB, notVar, esc.escBs, isFresh, frV, lim_val, powOk, hb]) (r' := [some (.frz, .int b), some (.frz, .int (a.fmod b)), some (.frz, .int (a.fmod b))]) (by simp [esc, escB, notVar, esc.escBs, isFresh, frV, lim_val, powOk, Pg.LB_law_divisor_2_0, hb])
theorem law_divisor_eq (h : T.fn "_law_divisor" = some Pg.F_law_divisor) (n : Nat) (a b : Int) : evFn T (n + 1) "_law_divisor" [.int a, .int b] = .ok (.int (Int.gcd a b)) := by
  rw [go h n _ rfl]
  simp [esc, escB, notVar, esc.escBs, isFresh, frV, lim_val, powOk, Pg.F_law_divisor, Pg.B_law_divisor, start0, ldiv_loop, abs_gcd]
theorem law_divisor2_eq (h : T.fn "_law_divisor" = some Pg.F_law_divisor_2) (n : Nat) (a b : Int) : evFn T (n + 1) "_law_divisor" [.int a, .int b] = .ok (.int (Int.gcd a b)) := by
  rw [go h n _ rfl]
  simp [esc, escB, notVar, esc.escBs, isFresh, frV, lim_val, powOk, Pg.F_law_divisor_2, Pg.B_law_divisor_2, start0, ldiv2_loop, abs_gcd]
theorem law_lowest_eq (h0 : T.fn "_law_divisor" = some Pg.F_law_divisor) (h : T.fn "_law_lowest" = some Pg.F_law_lowest) (n : Nat) {t b : Int} (hb : 0 < b) (bb : Bits 8000 b) : evFn T (n + 2) "_law_lowest" [.int t, .int b] = .ok (fr (Rat.divInt t b)) := by
  have hb' : b ≠ 0 := by omega
  have n1 := low_num t hb'
  have n2 := low_den t hb'
  rw [if_neg (by omega)] at n1 n2
  have e0 := law_divisor_eq h0 n t b
  have b1 := br_of h0
  have b2 := fr_of h0
  have d1 : divOk t (Int.gcd t b : Int) = true := divOk_of (gcd_ne hb') (gcd_bits hb' bb) (by decide)
  have d2 : divOk b (Int.gcd t b : Int) = true := divOk_of (gcd_ne hb') (gcd_bits hb' bb) (by decide)
  rw [go h (n + 1) _ rfl]
  simp [esc, escB, notVar, esc.escBs, isFresh, frV, lim_val, powOk, Pg.F_law_lowest, Pg.B_law_lowest, start0, e0, b1, b2, Pg.F_law_divisor, d1, d2, n1, n2, fr]
theorem law_lowest2_eq (h0 : T.fn "_law_divisor" = some Pg.F_law_divisor_2) (h : T.fn "_law_lowest" = some Pg.F_law_lowest_2) (n : Nat) {t b : Int} (hb : 0 < b) (bb : Bits 8000 b) : evFn T (n + 2) "_law_lowest" [.int t, .int b] = .ok (fr (Rat.divInt t b)) := by
  have hb' : b ≠ 0 := by omega
  have hn : ¬ b < 0 := by omega
  have n1 := low_num t hb'
  have n2 := low_den t hb'
  rw [if_neg (by omega)] at n1 n2
  have e0 := law_divisor2_eq h0 n t b
  have b1 := br_of h0
  have b2 := fr_of h0
  have d1 : divOk t (Int.gcd t b : Int) = true := divOk_of (gcd_ne hb') (gcd_bits hb' bb) (by decide)
  have d2 : divOk b (Int.gcd t b : Int) = true := divOk_of (gcd_ne hb') (gcd_bits hb' bb) (by decide)
  rw [go h (n + 1) _ rfl]
  simp [esc, escB, notVar, esc.escBs, isFresh, frV, lim_val, powOk, Pg.F_law_lowest_2, Pg.B_law_lowest_2, start0, e0, b1, b2, Pg.F_law_divisor_2, d1, d2, n1, n2, fr, hb', hn]
end
end Pu

/-! Comprehensions and walks over lists. -/
namespace Pu
section
variable {o : Orc} {r : Env} {T : Tab}
theorem mapR_map {α : Type} {f : D → R (Option D)} {u g : α → D} : ∀ {l : List α}, (∀ a ∈ l, f (u a) = .ok (some (g a))) → mapR f (l.map u) = .ok (l.map g)
  | [], _ => rfl
  | a :: l, h => by
    have h1 := h a List.mem_cons_self
    have h2 := mapR_map (l := l) fun b hb => h b (List.mem_cons_of_mem _ hb)
    show (f (u a) >>= _) = _
    rw [h1]
    show (mapR f (l.map u) >>= fun ys => pure (g a :: ys)) = _
    rw [h2]
    rfl
/-- [elt for .. in it] -/
theorem lc_ok {α : Type} {elt it : E} {tup : Bool} {is : List Nat} {l : List α} (u g : α → D) (h : evI o r it = .ok (l.map u)) (hl : l.length ≤ lim) (hb : ∀ a ∈ l, ∃ r', bindT r tup is (u a) = .ok r' ∧ ev o r' elt = .ok (g a)) :
    ev o r (.lc elt tup is it .nil) = .ok (.lst (l.map g)) := by
  have hm : mapR (fun x => do
      let r' ← bindT r tup is x
      let k ← (if E.nil.isNil = true then pure true else do let c ← ev o r' .nil; asBl c)
      if k = true then do let y ← ev o r' elt; pure (some y) else pure none) (l.map u) = .ok (l.map g) := mapR_map fun a ha => by
    obtain ⟨r', h1, h2⟩ := hb a ha
    rw [h1]
    show (ev o r' elt >>= fun y => pure (some y)) = _
    rw [h2]
    rfl
  show (evI o r it >>= fun xs => R.noX (mapR (fun x => do
      let r' ← bindT r tup is x
      let k ← (if E.nil.isNil = true then pure true else do let c ← ev o r' .nil; asBl c)
      if k = true then do let y ← ev o r' elt; pure (some y) else pure none) xs) >>= fun ys => if ys.length ≤ lim then (pure (D.lst ys) : R D) else .stuck) = _
  rw [h]
  show (R.noX (mapR _ (l.map u)) >>= _) = _
  rw [hm]
  show (if (l.map g).length ≤ lim then R.ok (D.lst (l.map g)) else .stuck) = _
  rw [if_pos (by simpa using hl)]
def zipK : R D → R D → R (List D) := fun x y => do let x ← x; let y ← y; zipOf x y
def revK : R D → R (List D) := fun x => do let x ← x; revOf x
@[simp] theorem evI_zip {a b : E} : evI o r (.izip a b) = zipK (ev o r a) (ev o r b) := (rfl)
@[simp] theorem evI_rev {a : E} : evI o r (.irev a) = revK (ev o r a) := (rfl)
@[simp] theorem zipK_lst {xs ys : List D} : zipK (.ok (.lst xs)) (.ok (.lst ys)) = .ok (zipP xs ys) := (rfl)
@[simp] theorem zipK_tup {xs ys : List D} : zipK (.ok (.tup xs)) (.ok (.tup ys)) = .ok (zipP xs ys) := (rfl)
@[simp] theorem revK_lst {xs : List D} : revK (.ok (.lst xs)) = .ok xs.reverse := (rfl)
theorem zipP_map {α β : Type} {l : List α} {m : List β} (f : α → D) (g : β → D) : zipP (l.map f) (m.map g) = (l.zip m).map fun p => .tup [f p.1, g p.2] := by
  unfold zipP
  rw [List.zip_map]
  simp [List.map_map]
theorem rangeL_map (lo : Int) (n : Nat) : rangeL lo n = (List.range n).map fun (i : Nat) => .int (lo + i) := rfl
def popK (r : Env) (i : Nat) : R (List D) → R (Env × Fw) := fun x => do let xs ← x; if xs = [] then .stuck else pure (r.set i (some (.own, .lst xs.dropLast)), .nx)
def clrK (r : Env) (i : Nat) : R (List D) → R (Env × Fw) := fun x => do let xs ← x; pure (r.set i (some (.own, .lst [])), .nx)
@[simp] theorem x_pop {j : Nat} : exec o (.pop j) r = popK r j (ownL r j) := (rfl)
@[simp] theorem x_clr {j : Nat} : exec o (.clr j) r = clrK r j (ownL r j) := (rfl)
@[simp] theorem popK_ok {j : Nat} {xs : List D} (h : xs ≠ []) : popK r j (.ok xs) = .ok (r.set j (some (.own, .lst xs.dropLast)), .nx) := if_neg h
@[simp] theorem clrK_ok {j : Nat} {xs : List D} : clrK r j (.ok xs) = .ok (r.set j (some (.own, .lst [])), .nx) := (rfl)
@[simp] theorem putK_ok {j : Nat} {xs : List D} {d : D} {z : Int} {m : Nat} (h : ixN xs.length z = some m) : putK r j (.ok d) (.ok xs) (.ok (.int z)) = .ok (r.set j (some (.own, .lst (xs.set m d))), .nx) := by
  show (ofO (ixN xs.length z) >>= fun j' => pure (r.set j (some (.own, .lst (xs.set j' d))), Fw.nx)) = _
  rw [h]
  rfl
theorem atI_last {xs : List D} {y : D} : atI (xs ++ [y]) (-1) = some y := by
  unfold atI ixN
  rw [if_neg (by decide), if_pos (by simp; omega)]
  have : (-1 + ((xs ++ [y]).length : Int)).toNat = xs.length := by
    rw [List.length_append, List.length_singleton]
    omega
  rw [this]
  simp
theorem atI_last2 {xs : List D} {x y : D} : atI (xs ++ [x, y]) (-2) = some x := by
  unfold atI ixN
  rw [if_neg (by decide), if_pos (by simp; omega)]
  have : (-2 + ((xs ++ [x, y]).length : Int)).toNat = xs.length := by
    rw [List.length_append]
    show (-2 + ((xs.length + 2 : Nat) : Int)).toNat = _
    omega
  rw [this]
  simp
theorem atI_last1 {xs : List D} {x y : D} : atI (xs ++ [x, y]) (-1) = some y := by
  have := atI_last (xs := xs ++ [x]) (y := y)
  rwa [List.append_assoc] at this
theorem intsOf_map : ∀ l : List Int, intsOf (l.map .int) = some l
  | [] => rfl
  | i :: l => by
    show (intsOf (l.map .int)).map (i :: ·) = _
    rw [intsOf_map l]
    rfl
@[simp] theorem blt_sum (l : List Int) : builtin "sum" [.lst (l.map .int)] = .ok (.int l.sum) := by
  show (do let ns ← ofO (intsOf (l.map .int)); pure (D.int ns.sum) : R D) = _
  rw [intsOf_map]
  rfl
/-- the cell at a place, or 0 -/
def cellAt (ns : List Int) (k : Nat) : Int := (ns[k]?).getD 0
theorem cell_at_eq (h : T.fn "_law_cell_at" = some Pg.F_law_cell_at) (n : Nat) (ns : List Int) (i : Int) (k : Nat) (hi : i = (k : Int)) : evFn T (n + 1) "_law_cell_at" [.lst (ns.map .int), .int i] = .ok (.int (cellAt ns k)) := by
  subst hi
  rw [go h n _ rfl]
  unfold cellAt
  by_cases hk : k < ns.length
  · have i1 := atI_mapf D.int (l := ns) (i := (k : Int)) rfl hk
    simp [esc, escB, notVar, esc.escBs, isFresh, frV, lim_val, powOk, Pg.F_law_cell_at, Pg.B_law_cell_at, start0, hk, i1]
  · simp [esc, escB, notVar, esc.escBs, isFresh, frV, lim_val, powOk, Pg.F_law_cell_at, Pg.B_law_cell_at, start0, hk]
end
end Pu

/-! Paths: plain mathematics. -/
namespace Pu
abbrev Cor := Rat × List Rat
def amidR (low high : Cor) (x : Rat) : List Rat := (low.2.zip high.2).map fun p => p.1 + (x - low.1) / (high.1 - low.1) * (p.2 - p.1)
/-- the corners told so far, the last first -/
def stepT (acc : List Cor) (c : Cor) : List Cor := match acc with
  | b :: a :: rest => if amidR a c b.1 = b.2 then c :: a :: rest else c :: b :: a :: rest
  | acc => c :: acc
def thinA (acc : List Cor) (p : List Cor) : List Cor := p.foldl stepT acc
def thinR (p : List Cor) : List Cor := (thinA [] p).reverse
theorem stepT_sub {acc : List Cor} {c x : Cor} (h : x ∈ stepT acc c) : x = c ∨ x ∈ acc := by
  unfold stepT at h
  split at h
  · split at h
    · simp only [List.mem_cons] at h ⊢
      rcases h with h | h | h
      · exact .inl h
      · exact .inr (.inr (.inl h))
      · exact .inr (.inr (.inr h))
    · simpa using h
  · simpa using h
theorem thinA_sub : ∀ {p : List Cor} {acc : List Cor} {x : Cor}, x ∈ thinA acc p → x ∈ acc ∨ x ∈ p
  | [], acc, x, h => .inl h
  | c :: p, acc, x, h => by
    rcases thinA_sub (p := p) (acc := stepT acc c) h with h | h
    · rcases stepT_sub h with h | h
      · exact .inr (by rw [h]; exact List.mem_cons_self)
      · exact .inl h
    · exact .inr (List.mem_cons_of_mem _ h)

/-! rows of whole numbers -/
def vadd (a b : List Int) : List Int := (a.zip b).map fun p => p.1 + p.2
theorem vadd_length (a b : List Int) : (vadd a b).length = min a.length b.length := by simp [vadd]
@[simp] theorem vadd_nil_l (b : List Int) : vadd [] b = [] := rfl
@[simp] theorem vadd_cons (x y : Int) (a b : List Int) : vadd (x :: a) (y :: b) = (x + y) :: vadd a b := rfl
theorem vadd_assoc : ∀ (a b c : List Int), vadd (vadd a b) c = vadd a (vadd b c)
  | [], _, _ => rfl
  | _ :: _, [], _ => rfl
  | x :: a, y :: b, [] => by simp [vadd]
  | x :: a, y :: b, z :: c => by rw [vadd_cons, vadd_cons, vadd_cons, vadd_cons, vadd_assoc a b c, Int.add_assoc]
theorem vadd_sum : ∀ (a b : List Int), a.length = b.length → (vadd a b).sum = a.sum + b.sum
  | [], [], _ => rfl
  | [], _ :: _, h => by cases h
  | _ :: _, [], h => by cases h
  | x :: a, y :: b, h => by
    rw [vadd_cons, List.sum_cons, List.sum_cons, List.sum_cons, vadd_sum a b (by simpa using h)]
    omega
/-- two steps the same way -/
def alongB (l s : List Int) : Bool := decide (l.map (· * s.sum) = s.map (· * l.sum))
def stepS (acc : List (List Int)) (s : List Int) : List (List Int) := match acc with
  | l :: rest => if l ≠ [] ∧ alongB l s = true then vadd l s :: rest else s :: l :: rest
  | [] => [s]
def thinSA (acc : List (List Int)) (p : List (List Int)) : List (List Int) := p.foldl stepS acc
def thinS (p : List (List Int)) : List (List Int) := (thinSA [] p).reverse
/-- the corner of a place -/
def cor (b : Int) (h : List Int) : Cor := (Rat.divInt h.sum b, h.map fun x => Rat.divInt x b)
def zeros (k : Nat) : List Int := List.replicate k 0
def pts (h : List Int) : List (List Int) → List (List Int)
  | [] => []
  | s :: r => vadd h s :: pts (vadd h s) r
def cornersR (k : Nat) (b : Int) (steps : List (List Int)) : List Cor := (zeros k :: pts (zeros k) steps).map (cor b)
/-- the steps from behind -/
def vs (k : Nat) : List (List Int) → List Int
  | [] => zeros k
  | l :: rest => vadd (vs k rest) l
def rpts (k : Nat) : List (List Int) → List (List Int)
  | [] => [zeros k]
  | l :: rest => vs k (l :: rest) :: rpts k rest
theorem rpts_cons (k : Nat) (acc : List (List Int)) : ∃ t, rpts k acc = vs k acc :: t := by cases acc <;> exact ⟨_, rfl⟩
/-- a step as it is drawn: all parts there, none below 0, not all 0 -/
structure StepOk (k : Nat) (s : List Int) : Prop where
  len : s.length = k
  pos : 0 < s.sum
theorem StepOk.vadd {k : Nat} {a b : List Int} (h : StepOk k a) (h' : StepOk k b) : StepOk k (vadd a b) :=
  ⟨by rw [vadd_length, h.len, h'.len, Nat.min_self], by rw [vadd_sum a b (by rw [h.len, h'.len])]; have := h.pos; have := h'.pos; omega⟩
theorem vs_length {k : Nat} {acc : List (List Int)} (h : ∀ s ∈ acc, StepOk k s) : (vs k acc).length = k := by
  induction acc with
  | nil => simp [vs, zeros]
  | cons l rest ih =>
    show (Pu.vadd (vs k rest) l).length = k
    rw [vadd_length, ih fun s hs => h s (List.mem_cons_of_mem _ hs), (h l List.mem_cons_self).len, Nat.min_self]
theorem div_sub (x y b : Int) : Rat.divInt x b - Rat.divInt y b = Rat.divInt (x - y) b := by
  simp only [Rat.divInt_eq_div, Rat.intCast_sub]
  grind
theorem amid_rows {b : Int} (hb : 0 < b) {L S : Int} (hL : 0 < L) (hS : 0 < S) : ∀ {A l s : List Int}, A.length = l.length → l.length = s.length →
    (((A.map fun x => Rat.divInt x b).zip ((vadd (vadd A l) s).map fun x => Rat.divInt x b)).map (fun p => p.1 + ((L : Rat) / ((L : Rat) + (S : Rat))) * (p.2 - p.1)) = (vadd A l).map (fun x => Rat.divInt x b) ↔ l.map (· * S) = s.map (· * L))
  | [], [], [], _, _ => by simp
  | [], _ :: _, _, h, _ => by cases h
  | _ :: _, [], _, h, _ => by cases h
  | _, [], _ :: _, _, h => by cases h
  | _, _ :: _, [], _, h => by cases h
  | a :: A, x :: l, y :: s, h1, h2 => by
    have ih := amid_rows hb hL hS (A := A) (l := l) (s := s) (by simpa using h1) (by simpa using h2)
    simp only [vadd_cons, List.map_cons, List.zip_cons_cons, List.cons.injEq]
    rw [ih]
    refine and_congr ?_ Iff.rfl
    have hb' : (b : Rat) ≠ 0 := by simp; omega
    have hL' : (0 : Rat) < (L : Rat) := Rat.intCast_pos.mpr hL
    have hS' : (0 : Rat) < (S : Rat) := Rat.intCast_pos.mpr hS
    have hne : (L : Rat) + (S : Rat) ≠ 0 := by grind
    simp only [Rat.divInt_eq_div, Rat.intCast_add]
    constructor
    · intro e
      have : ((x * S : Int) : Rat) = ((y * L : Int) : Rat) := by
        simp only [Rat.intCast_mul]
        grind
      exact Rat.intCast_inj.mp this
    · intro e
      have : ((x * S : Int) : Rat) = ((y * L : Int) : Rat) := by rw [e]
      simp only [Rat.intCast_mul] at this
      grind
theorem amid_along {b : Int} (hb : 0 < b) {k : Nat} {A l s : List Int} (hA : A.length = k) (hl : StepOk k l) (hs : StepOk k s) :
    amidR (cor b A) (cor b (vadd (vadd A l) s)) (cor b (vadd A l)).1 = (cor b (vadd A l)).2 ↔ alongB l s = true := by
  have e1 : (vadd A l).sum = A.sum + l.sum := vadd_sum _ _ (by rw [hA, hl.len])
  have e2 : (vadd (vadd A l) s).sum = A.sum + l.sum + s.sum := by rw [vadd_sum _ _ (by rw [vadd_length, hA, hl.len, hs.len, Nat.min_self]), e1]
  have hsh : ((cor b (vadd A l)).1 - (cor b A).1) / ((cor b (vadd (vadd A l) s)).1 - (cor b A).1) = (l.sum : Rat) / ((l.sum : Rat) + (s.sum : Rat)) := by
    unfold cor
    rw [div_sub, div_sub, e1, e2, show A.sum + l.sum - A.sum = l.sum by omega, show A.sum + l.sum + s.sum - A.sum = l.sum + s.sum by omega]
    simp only [Rat.divInt_eq_div, Rat.intCast_add]
    have hb' : (b : Rat) ≠ 0 := by simp; omega
    have h1 : (0 : Rat) < (l.sum : Rat) := Rat.intCast_pos.mpr hl.pos
    have h2 : (0 : Rat) < (s.sum : Rat) := Rat.intCast_pos.mpr hs.pos
    have hne : (l.sum : Rat) + (s.sum : Rat) ≠ 0 := by grind
    grind
  unfold amidR
  rw [hsh]
  unfold alongB
  rw [decide_eq_true_eq]
  exact amid_rows hb hl.pos hs.pos (by rw [hA, hl.len]) (by rw [hl.len, hs.len])
theorem stepS_ok {k : Nat} {acc : List (List Int)} {s : List Int} (h : ∀ s ∈ acc, StepOk k s) (hs : StepOk k s) : ∀ x ∈ stepS acc s, StepOk k x := by
  intro x hx
  unfold stepS at hx
  split at hx
  · rename_i l rest
    split at hx
    · rcases List.mem_cons.mp hx with rfl | hx
      · exact (h l List.mem_cons_self).vadd hs
      · exact h x (List.mem_cons_of_mem _ hx)
    · rcases List.mem_cons.mp hx with rfl | hx
      · exact hs
      · exact h x hx
  · rcases List.mem_cons.mp hx with rfl | hx
    · exact hs
    · cases hx
theorem vs_stepS (k : Nat) (acc : List (List Int)) (s : List Int) : vs k (stepS acc s) = vadd (vs k acc) s := by
  cases acc with
  | nil => rfl
  | cons l rest =>
    show vs k (if l ≠ [] ∧ alongB l s = true then vadd l s :: rest else s :: l :: rest) = _
    by_cases hc : l ≠ [] ∧ alongB l s = true
    · rw [if_pos hc]
      show vadd (vs k rest) (vadd l s) = vadd (vadd (vs k rest) l) s
      rw [vadd_assoc]
    · rw [if_neg hc]
      rfl
theorem step_thin {b : Int} (hb : 0 < b) {k : Nat} (hk : 0 < k) {acc : List (List Int)} {s : List Int} (h : ∀ s ∈ acc, StepOk k s) (hs : StepOk k s) :
    stepT ((rpts k acc).map (cor b)) (cor b (vadd (vs k acc) s)) = (rpts k (stepS acc s)).map (cor b) := by
  cases acc with
  | nil => rfl
  | cons l rest =>
    obtain ⟨t, ht⟩ := rpts_cons k rest
    have hl := h l List.mem_cons_self
    have hr : ∀ s ∈ rest, StepOk k s := fun s hs => h s (List.mem_cons_of_mem _ hs)
    have hA := vs_length hr
    have key := amid_along hb hA hl hs
    have hne : l ≠ [] := fun e => by have := hl.len; rw [e] at this; simp at this; omega
    show stepT ((vadd (vs k rest) l :: rpts k rest).map (cor b)) (cor b (vadd (vadd (vs k rest) l) s)) = _
    rw [ht]
    show (if amidR (cor b (vs k rest)) (cor b (vadd (vadd (vs k rest) l) s)) (cor b (vadd (vs k rest) l)).1 = (cor b (vadd (vs k rest) l)).2 then _ else _) = _
    unfold stepS
    by_cases hc : alongB l s = true
    · rw [if_pos (key.mpr hc)]
      simp only [hne, hc, ne_eq, not_false_eq_true, and_self, if_true]
      show cor b (vadd (vadd (vs k rest) l) s) :: cor b (vs k rest) :: t.map (cor b) = (vadd (vs k rest) (vadd l s) :: rpts k rest).map (cor b)
      rw [ht, vadd_assoc]
      rfl
    · rw [if_neg (fun z => hc (key.mp z))]
      simp only [hc, Bool.false_eq_true, and_false, if_false]
      show _ = (vadd (vadd (vs k rest) l) s :: vadd (vs k rest) l :: rpts k rest).map (cor b)
      rw [ht]
      rfl
theorem thin_acc {b : Int} (hb : 0 < b) {k : Nat} (hk : 0 < k) : ∀ (p acc : List (List Int)), (∀ s ∈ acc, StepOk k s) → (∀ s ∈ p, StepOk k s) →
    thinA ((rpts k acc).map (cor b)) ((pts (vs k acc) p).map (cor b)) = (rpts k (thinSA acc p)).map (cor b)
  | [], _, _, _ => rfl
  | s :: p, acc, h, hp => by
    show thinA (stepT ((rpts k acc).map (cor b)) (cor b (vadd (vs k acc) s))) ((pts (vadd (vs k acc) s) p).map (cor b)) = (rpts k (thinSA (stepS acc s) p)).map (cor b)
    rw [step_thin hb hk h (hp s List.mem_cons_self), ← vs_stepS]
    exact thin_acc hb hk p (stepS acc s) (stepS_ok h (hp s List.mem_cons_self)) fun x hx => hp x (List.mem_cons_of_mem _ hx)
theorem pts_snoc : ∀ (h : List Int) (p : List (List Int)) (s : List Int), pts h (p ++ [s]) = pts h p ++ [vadd (p.foldl vadd h) s]
  | _, [], _ => rfl
  | h, x :: p, s => by
    show vadd h x :: pts (vadd h x) (p ++ [s]) = _
    rw [pts_snoc]
    rfl
theorem fold_rev (k : Nat) : ∀ acc : List (List Int), acc.reverse.foldl vadd (zeros k) = vs k acc
  | [] => rfl
  | l :: rest => by
    rw [List.reverse_cons, List.foldl_append, fold_rev k rest]
    rfl
theorem rpts_rev (k : Nat) : ∀ acc : List (List Int), (rpts k acc).reverse = zeros k :: pts (zeros k) acc.reverse
  | [] => rfl
  | l :: rest => by
    rw [List.reverse_cons, pts_snoc, fold_rev]
    show (vs k (l :: rest) :: rpts k rest).reverse = _
    rw [List.reverse_cons, rpts_rev k rest]
    rfl
/-- thinning a path is thinning its steps -/
theorem thin_corners {b : Int} (hb : 0 < b) {k : Nat} (hk : 0 < k) {p : List (List Int)} (hp : ∀ s ∈ p, StepOk k s) : thinR (cornersR k b p) = cornersR k b (thinS p) := by
  unfold thinR cornersR thinS
  have h := thin_acc hb hk p [] (fun _ z => by cases z) hp
  have e : thinA [] ((zeros k :: pts (zeros k) p).map (cor b)) = thinA ((rpts k []).map (cor b)) ((pts (vs k []) p).map (cor b)) := rfl
  rw [e, h, ← List.map_reverse, rpts_rev]
end Pu

/-! Paths in the evaluator. -/
namespace Pu
def corD (c : Cor) : D := .tup [fr c.1, .tup (c.2.map fr)]
def pathD (p : List Cor) : D := .lst (p.map corD)
def rowD (l : List Int) : D := .lst (l.map .int)
def rowsD (p : List (List Int)) : D := .lst (p.map rowD)
theorem noLA_map {α : Type} {f : α → D} : ∀ {l : List α}, (∀ a ∈ l, (f a).noL = true) → D.noLA (l.map f) = true
  | [], _ => by simp
  | a :: l, h => by
    rw [List.map_cons, noLA_cons, h a List.mem_cons_self, noLA_map fun b hb => h b (List.mem_cons_of_mem _ hb)]
    rfl
theorem fitA_map {α : Type} {f : α → D} {n : Nat} : ∀ {l : List α}, (∀ a ∈ l, (f a).fit n = true) → D.fitA n (l.map f) = true
  | [], _ => by simp [D.fitA]
  | a :: l, h => by
    rw [List.map_cons]
    unfold D.fitA
    rw [h a List.mem_cons_self, fitA_map fun b hb => h b (List.mem_cons_of_mem _ hb)]
    rfl
theorem eqvA_map {α : Type} [DecidableEq α] {f : α → D} (hf : ∀ a b, D.eqv (f a) (f b) = decide (a = b)) : ∀ {l m : List α}, D.eqvA (l.map f) (m.map f) = decide (l = m)
  | [], [] => by simp
  | [], _ :: _ => by simp [D.eqvA]
  | _ :: _, [] => by simp [D.eqvA]
  | a :: l, b :: m => by
    rw [List.map_cons, List.map_cons, eqvA_cons, hf, eqvA_map hf]
    simp only [List.cons.injEq, Bool.decide_and]
theorem cor_noL (c : Cor) : (corD c).noL = true := by
  unfold corD
  simp [fr_noL, noLA_map fun a _ => fr_noL a]
theorem cor_isL (c : Cor) : (corD c).isL = false := (rfl)
@[simp] theorem item_cor0 (c : Cor) : itemOf (corD c) (.int 0) = .ok (fr c.1) := by simp [corD]
@[simp] theorem item_cor1 (c : Cor) : itemOf (corD c) (.int 1) = .ok (.tup (c.2.map fr)) := by simp [corD]
theorem frs_fit {n : Nat} (l : List Rat) : (D.tup (l.map fr)).fit (n + 2) = true := by
  simp only [D.fit]
  exact fitA_map fun a _ => by simp [fr, D.fit, D.fitA]
theorem cor_fit {n : Nat} (c : Cor) : (corD c).fit (n + 3) = true := by
  have := frs_fit (n := n) c.2
  simp [corD, D.fit, D.fitA, fr] at this ⊢
  exact this
theorem frs_eqv (l m : List Rat) : D.eqv (.tup (l.map fr)) (.tup (m.map fr)) = decide (l = m) := by rw [eqv_tup, eqvA_map fr_eqv]
theorem cor_eqv (c d : Cor) : D.eqv (corD c) (corD d) = decide (c = d) := by
  obtain ⟨a, b⟩ := c
  obtain ⟨a', b'⟩ := d
  unfold corD
  rw [eqv_tup, eqvA_cons, eqvA_cons, eqvA_nil, fr_eqv, frs_eqv, Bool.and_true]
  simp only [Prod.mk.injEq, Bool.decide_and]
theorem path_fit (p : List Cor) : (pathD p).fit 64 = true := by
  unfold pathD
  simp only [D.fit]
  exact fitA_map fun a _ => cor_fit a
theorem path_eqv (p q : List Cor) : D.eqv (pathD p) (pathD q) = decide (p = q) := by
  unfold pathD
  rw [eqv_lst, eqvA_map cor_eqv]
theorem path_eq (p q : List Cor) : cop .eq (pathD p) (pathD q) = .ok (decide (p = q)) := by rw [cop_eq (path_fit p) (path_fit q), path_eqv]
theorem path_ne (p q : List Cor) : cop .ne (pathD p) (pathD q) = .ok (!decide (p = q)) := by rw [cop_ne (path_fit p) (path_fit q), path_eqv]
def SzC (k : Nat) (c : Cor) : Prop := SzR k c.1 ∧ ∀ x ∈ c.2, SzR k x
section
variable {T : Tab}
structure HasPath (T : Tab) : Prop extends HasFrac T where
  plus : T.fn "plus" = some Pg.F_plus
  minus : T.fn "minus" = some Pg.F_minus
  times : T.fn "times" = some Pg.F_times
  over : T.fn "over" = some Pg.F_over
  amid : T.fn "amid" = some Pg.F_amid
theorem amid_eq (h : HasPath T) (n : Nat) {low high : Cor} {x : Rat} {k : Nat} (hk : k < 1000) (hl : SzC k low) (hh : SzC k high) (hx : SzR k x) (hne : high.1 ≠ low.1) (hlen : low.2.length ≤ lim) :
    evFn T (n + 4) "amid" [corD low, corD high, fr x] = .ok (.tup ((amidR low high x).map fr)) := by
  have e1 := minus_eq h.toHasFrac h.minus n hx hl.1 (by omega)
  have e2 := minus_eq h.toHasFrac h.minus n hh.1 hl.1 (by omega)
  have hne' : high.1 - low.1 ≠ 0 := fun z => hne (by grind)
  have e3 := over_eq h.toHasFrac h.over n (hx.sub hl.1) (hh.1.sub hl.1) hne' (by omega)
  have hs := (hx.sub hl.1).div (hh.1.sub hl.1) hne'
  have lc : ev (orcOf T (evFn T (n + 3))) [some (.frz, corD low), some (.frz, corD high), some (.frz, fr x), some (.frz, fr ((x - low.1) / (high.1 - low.1))), none, none]
      (.lc (.call "plus" (.cons (.var 4) (.cons (.call "times" (.cons (.var 3) (.cons (.call "minus" (.cons (.var 5) (.cons (.var 4) .nil))) .nil))) .nil))) true [4, 5] (.izip (.ix (.var 0) (.int 1)) (.ix (.var 1) (.int 1))) .nil) = .ok (.lst ((amidR low high x).map fr)) := by
    unfold amidR
    rw [List.map_map]
    refine lc_ok (l := low.2.zip high.2) (fun p => .tup [fr p.1, fr p.2]) _ (by simp [zipP_map]) (by rw [List.length_zip]; omega) fun p hp => ?_
    have h1 : SzR k p.1 := hl.2 _ (List.of_mem_zip hp).1
    have h2 : SzR k p.2 := hh.2 _ (List.of_mem_zip hp).2
    have f1 := minus_eq h.toHasFrac h.minus n h2 h1 (by omega)
    have f2 := times_eq h.toHasFrac h.times n hs (h2.sub h1) (by omega)
    have f3 := plus_eq h.toHasFrac h.plus n h1 (hs.mul (h2.sub h1)) (by omega)
    exact ⟨_, rfl, by simp [f1, f2, f3]⟩
  have b1 := br_of h.over
  have b2 := br_of h.minus
  rw [go h.amid (n + 3) _ rfl]
  simp [esc, escB, notVar, esc.escBs, isFresh, frV, lim_val, powOk, Pg.F_amid, Pg.B_amid, start0, e1, e2, e3, lc, b1, b2, Pg.F_over, Pg.F_minus, fr_isL, noLA_map fun a (_ : a ∈ amidR low high x) => fr_noL a]
theorem frs_eq (l m : List Rat) : cop .eq (.tup (l.map fr)) (.tup (m.map fr)) = .ok (decide (l = m)) := by rw [cop_eq (frs_fit l) (frs_fit m), frs_eqv]
structure HasThin (T : Tab) : Prop extends HasPath T where
  thinned : T.fn "thinned" = some Pg.F_thinned
theorem thin_turn (h : HasThin T) (n : Nat) {acc : List Cor} {c : Cor} {k : Nat} (hk : k < 1000) (hc : SzC k c) (ha : ∀ a ∈ acc, SzC k a ∧ a.1 ≠ c.1 ∧ a.2.length ≤ lim) (hlen : acc.length < lim) (s : D) :
    forB (orcOf T (evFn T (n + 4))) false [2] Pg.LB_thinned_0 [2] [some (.frz, s), some (.own, .lst (acc.reverse.map corD)), none] (corD c) = .ok ([some (.frz, s), some (.own, .lst ((stepT acc c).reverse.map corD)), none], .nx) := by
  have hb := br_of h.amid
  rw [forB_x]
  match acc, ha, hlen with
  | [], _, _ => simp [esc, escB, notVar, esc.escBs, isFresh, frV, lim_val, powOk, Pg.LB_thinned_0, hb, Pg.F_amid, stepT]
  | [b], _, _ => simp [esc, escB, notVar, esc.escBs, isFresh, frV, lim_val, powOk, Pg.LB_thinned_0, hb, Pg.F_amid, stepT]
  | b :: a :: rest, ha, hlen =>
    have h1 := ha b (by simp)
    have h2 := ha a (by simp)
    have e := amid_eq h.toHasPath n hk h2.1 hc h1.1.1 (fun z => h2.2.1 z.symm) h2.2.2
    have hl : ((b :: a :: rest).reverse.map corD) = (rest.map corD).reverse ++ [corD a, corD b] := by simp
    have i1 := atI_last1 (xs := (rest.map corD).reverse) (x := corD a) (y := corD b)
    have i2 := atI_last2 (xs := (rest.map corD).reverse) (x := corD a) (y := corD b)
    have hdl : ((rest.map corD).reverse ++ [corD a, corD b]).dropLast = (rest.map corD).reverse ++ [corD a] := by
      rw [show (rest.map corD).reverse ++ [corD a, corD b] = ((rest.map corD).reverse ++ [corD a]) ++ [corD b] by simp, List.dropLast_concat]
    have hlen' : rest.length + 2 < lim := by simpa using hlen
    unfold lim at hlen'
    rw [hl]
    have hgt : (1 : Int) < (rest.length : Int) + 2 := by omega
    have hst : stepT (b :: a :: rest) c = if amidR a c b.1 = b.2 then c :: a :: rest else c :: b :: a :: rest := rfl
    by_cases hc' : amidR a c b.1 = b.2
    · have hs : (stepT (b :: a :: rest) c).reverse.map corD = (rest.map corD).reverse ++ [corD a, corD c] := by
        rw [hst, if_pos hc']
        simp
      rw [hs]
      have : rest.length + 1 < 16777216 := by omega
      simp [esc, escB, notVar, esc.escBs, isFresh, frV, lim_val, powOk, Pg.LB_thinned_0, hb, Pg.F_amid, i1, i2, e, frs_eq, hc', hgt, hdl, this]
    · have hs : (stepT (b :: a :: rest) c).reverse.map corD = (rest.map corD).reverse ++ [corD a, corD b, corD c] := by
        rw [hst, if_neg hc']
        simp
      rw [hs]
      simp [esc, escB, notVar, esc.escBs, isFresh, frV, lim_val, powOk, Pg.LB_thinned_0, hb, Pg.F_amid, i1, i2, e, frs_eq, hc', hgt, hlen']
theorem stepT_length (acc : List Cor) (c : Cor) : (stepT acc c).length ≤ acc.length + 1 := by
  unfold stepT
  split
  · split <;> simp
  · simp
theorem thinA_length : ∀ (p acc : List Cor), (thinA acc p).length ≤ acc.length + p.length
  | [], _ => Nat.le_refl _
  | c :: p, acc => by
    have h1 := thinA_length p (stepT acc c)
    have h2 := stepT_length acc c
    show (thinA (stepT acc c) p).length ≤ _
    rw [List.length_cons]
    omega
theorem thinned_eq (h : HasThin T) (n : Nat) {p : List Cor} {k : Nat} (hk : k < 1000) (hs : ∀ c ∈ p, SzC k c ∧ c.2.length ≤ lim) (hp : p.Pairwise fun a b => a.1 ≠ b.1) (hl : p.length < lim) :
    evFn T (n + 5) "thinned" [pathD p] = .ok (pathD (thinR p)) := by
  obtain ⟨r', e, he⟩ := forL_inv (f := forB (orcOf T (evFn T (n + 4))) false [2] Pg.LB_thinned_0 [2]) (fun i r => r = [some (.frz, pathD p), some (.own, .lst ((thinA [] (p.take i)).reverse.map corD)), none])
    (p.map corD) 0 [some (.frz, pathD p), some (.own, .lst []), none] rfl (fun i x r hx hr => by
      rw [Nat.zero_add] at hr ⊢
      subst hr
      rw [List.getElem?_map] at hx
      obtain ⟨c, hc, rfl⟩ := Option.map_eq_some_iff.mp hx
      obtain ⟨hi, rfl⟩ := List.getElem?_eq_some_iff.mp hc
      refine ⟨_, thin_turn h n hk (hs _ (List.getElem_mem hi)).1 (fun a ha => ?_) ?_ _, ?_⟩
      · rcases thinA_sub ha with z | z
        · cases z
        · obtain ⟨j, hj, rfl⟩ := List.getElem_of_mem z
          have hj' : j < i := by simp at hj; omega
          rw [List.getElem_take]
          exact ⟨(hs _ (List.getElem_mem _)).1, List.pairwise_iff_getElem.mp hp j i (by omega) hi hj', (hs _ (List.getElem_mem _)).2⟩
      · have := thinA_length (p.take i) []
        simp at this
        omega
      · rw [List.take_succ_eq_append_getElem hi]
        unfold thinA
        rw [List.foldl_append]
        rfl)
  rw [Nat.zero_add, List.length_map, List.take_length] at he
  subst he
  have e2 : exec (orcOf T (evFn T (n + 4))) Pg.L_thinned_0 [some (.frz, pathD p), some (.own, .lst []), none] = .ok ([some (.frz, pathD p), some (.own, .lst ((thinA [] p).reverse.map corD)), none], .nx) := by
    unfold Pg.L_thinned_0
    rw [exec_for (xs := p.map corD) (by simp [esc, escB, notVar, esc.escBs, isFresh, frV, lim_val, powOk, pathD])]
    simp [esc, escB, notVar, esc.escBs, isFresh, frV, lim_val, powOk]
    rw [e]
    simp
  have hn : D.noLA ((thinA [] p).reverse.map corD) = true := noLA_map fun a _ => cor_noL a
  simp only [pathD, List.map_reverse] at e2 hn
  rw [go h.thinned (n + 4) _ rfl]
  simp [esc, escB, notVar, esc.escBs, isFresh, frV, lim_val, powOk, Pg.F_thinned, Pg.B_thinned, start0, e2, hn, pathD, thinR]
theorem row_fit {n : Nat} (l : List Int) : (rowD l).fit (n + 1) = true := by
  simp only [rowD, D.fit]
  exact fitA_map fun a _ => by simp [D.fit]
theorem row_eqv (l m : List Int) : D.eqv (rowD l) (rowD m) = decide (l = m) := by
  unfold rowD
  rw [eqv_lst, eqvA_map fun a b => rfl]
theorem row_eq (l m : List Int) : cop .eq (.lst (l.map .int)) (.lst (m.map .int)) = .ok (decide (l = m)) := by
  have := cop_eq (row_fit (n := 63) l) (row_fit (n := 63) m)
  rw [row_eqv] at this
  exact this
theorem row_ne (l m : List Int) : cop .ne (.lst (l.map .int)) (.lst (m.map .int)) = .ok (!decide (l = m)) := by
  have := cop_ne (row_fit (n := 63) l) (row_fit (n := 63) m)
  rw [row_eqv] at this
  exact this
/-- small whole numbers all over -/
def SzI (k : Nat) (l : List Int) : Prop := ∀ x ∈ l, Bits k x
theorem sum_bits {k : Nat} : ∀ {l : List Int}, SzI k l → l.sum.natAbs ≤ l.length * 2 ^ k
  | [], _ => by simp
  | x :: l, h => by
    have h1 := sum_bits (l := l) fun y hy => h y (List.mem_cons_of_mem _ hy)
    have h2 := h x List.mem_cons_self
    unfold Bits at h2
    have h3 := Int.natAbs_add_le x l.sum
    rw [List.sum_cons, List.length_cons, Nat.add_mul, Nat.one_mul]
    omega
theorem sum_bits8 {k : Nat} {l : List Int} (h : SzI k l) (hl : l.length ≤ 8) : Bits (k + 4) l.sum := by
  have h1 := sum_bits h
  have h2 : l.length * 2 ^ k ≤ 8 * 2 ^ k := Nat.mul_le_mul_right _ hl
  have h3 : 0 < 2 ^ k := Nat.pow_pos (by decide)
  unfold Bits
  rw [Nat.pow_add]
  omega
theorem along_eq (h : T.fn "_law_along" = some Pg.F_law_along) (n : Nat) {l s : List Int} {k : Nat} (hk : k < 1000) (hl : SzI k l) (hs : SzI k s) (ll : l.length ≤ 8) (ls : s.length ≤ 8) :
    evFn T (n + 1) "_law_along" [rowD l, rowD s] = .ok (.bl (alongB l s)) := by
  have bl := sum_bits8 hl ll
  have bs := sum_bits8 hs ls
  have lc1 : ev (orcOf T (evFn T n)) [some (.frz, .lst (l.map .int)), some (.frz, .lst (s.map .int)), some (.frz, .int l.sum), some (.frz, .int s.sum), none] (.lc (.bin .mul (.var 4) (.var 3)) false [4] (.iseq (.var 0)) .nil) = .ok (.lst ((l.map (· * s.sum)).map .int)) := by
    rw [List.map_map]
    refine lc_ok (l := l) D.int _ (by simp) (by unfold lim; omega) fun x hx => ?_
    have m : mulOk x s.sum = true := mulOk_of (hl x hx) bs (by omega) (by omega)
    exact ⟨_, rfl, by simp [m]⟩
  have lc2 : ev (orcOf T (evFn T n)) [some (.frz, .lst (l.map .int)), some (.frz, .lst (s.map .int)), some (.frz, .int l.sum), some (.frz, .int s.sum), none] (.lc (.bin .mul (.var 4) (.var 2)) false [4] (.iseq (.var 1)) .nil) = .ok (.lst ((s.map (· * l.sum)).map .int)) := by
    rw [List.map_map]
    refine lc_ok (l := s) D.int _ (by simp) (by unfold lim; omega) fun x hx => ?_
    have m : mulOk x l.sum = true := mulOk_of (hs x hx) bl (by omega) (by omega)
    exact ⟨_, rfl, by simp [m]⟩
  rw [go h n _ rfl]
  unfold rowD alongB
  have re := row_eq (l.map (· * s.sum)) (s.map (· * l.sum))
  simp only [List.map_map] at lc1 lc2 re
  simp [esc, escB, notVar, esc.escBs, isFresh, frV, lim_val, powOk, Pg.F_law_along, Pg.B_law_along, start0, lc1, lc2, re]
end
end Pu

/-! The laws' own paths. -/
namespace Pu
section
variable {T : Tab}
@[simp] theorem zipK_row (l s : List Int) : zipK (.ok (rowD l)) (.ok (rowD s)) = .ok ((l.zip s).map fun p => .tup [.int p.1, .int p.2]) := by
  show R.ok (zipP (l.map .int) (s.map .int)) = _
  rw [zipP_map]
theorem row_ne0 (l : List Int) : cop .ne (rowD l) (.lst []) = .ok (!decide (l = [])) := row_ne l []
theorem nil_ne0 : cop .ne (.lst []) (.lst []) = .ok false := row_ne [] []
structure HasLThin (T : Tab) : Prop where
  along : T.fn "_law_along" = some Pg.F_law_along
  thin : T.fn "_law_thin" = some Pg.F_law_thin
theorem vadd_lc {o : Orc} (l s : List Int) (ll : l.length ≤ 8) (a b c d : Option (Fl × D)) (f g : Fl) (x : D) (hx : a = some (f, x)) : ev o [a, b, some (.frz, rowD s), some (g, rowD l), none, none] (.lc (.bin .add (.var 4) (.var 5)) true [4, 5] (.izip (.var 3) (.var 2)) .nil) = .ok (rowD (vadd l s)) := by
  unfold vadd rowD
  rw [List.map_map]
  refine lc_ok (l := l.zip s) (fun p => .tup [.int p.1, .int p.2]) _ ?_ (by rw [List.length_zip]; unfold lim; omega) fun p hp => ⟨_, rfl, by simp⟩
  have := zipK_row l s
  unfold rowD at this
  simp [this]
theorem lthin_turn (h : HasLThin T) (n : Nat) {acc : List (List Int)} {s : List Int} {k : Nat} (hk : k < 1000) (ha : ∀ x ∈ acc, SzI k x ∧ x.length ≤ 8) (hs : SzI k s ∧ s.length ≤ 8) (hlen : acc.length < lim) (P : D) :
    forB (orcOf T (evFn T (n + 1))) false [2] Pg.LB_law_thin_0 [2, 3] [some (.frz, P), some (.own, .lst (acc.reverse.map rowD)), none, none, none, none] (rowD s) =
      .ok ([some (.frz, P), some (.own, .lst ((stepS acc s).reverse.map rowD)), none, none, none, none], .nx) := by
  have hb := br_of h.along
  rw [forB_x]
  match acc, ha, hlen with
  | [], _, _ => simp [esc, escB, notVar, esc.escBs, isFresh, frV, lim_val, powOk, Pg.LB_law_thin_0, hb, Pg.F_law_along, stepS, nil_ne0]
  | l :: rest, ha, hlen =>
    have hl := ha l (by simp)
    have e := along_eq h.along n hk hl.1 hs.1 hl.2 hs.2
    have hr : ((l :: rest).reverse.map rowD) = (rest.map rowD).reverse ++ [rowD l] := by simp
    have i1 := atI_last (xs := (rest.map rowD).reverse) (y := rowD l)
    have hlen' : rest.length + 1 < lim := by simpa using hlen
    unfold lim at hlen'
    have hgt : (0 : Int) < (rest.length : Int) + 1 := by omega
    have hst : stepS (l :: rest) s = if l ≠ [] ∧ alongB l s = true then vadd l s :: rest else s :: l :: rest := rfl
    have hix : ixN (rest.length + 1) (-1) = some rest.length := by
      unfold ixN
      rw [if_neg (by decide), if_pos (by omega)]
      congr 1
      omega
    have hset : ((rest.map rowD).reverse ++ [rowD l]).set rest.length (rowD (vadd l s)) = (rest.map rowD).reverse ++ [rowD (vadd l s)] := by
      rw [List.set_append_right _ _ (by simp)]
      simp
    rw [hr]
    by_cases hc : l ≠ [] ∧ alongB l s = true
    · have h1 : (stepS (l :: rest) s).reverse.map rowD = (rest.map rowD).reverse ++ [rowD (vadd l s)] := by
        rw [hst, if_pos hc]
        simp
      rw [h1]
      have lc := fun (a b : Option (Fl × D)) (f : Fl) (x : D) (hx : a = some (f, x)) => vadd_lc (o := orcOf T (evFn T (n + 1))) l s hl.2 a b none none f .frz x hx
      have lc' := lc (some (.frz, P)) (some (.own, .lst ((rest.map rowD).reverse ++ [rowD l]))) .frz P rfl
      simp [esc, escB, notVar, esc.escBs, isFresh, frV, lim_val, powOk, Pg.LB_law_thin_0, hb, Pg.F_law_along, i1, e, row_ne0, hc.1, hc.2, hgt, lc', hix, hset]
    · have h1 : (stepS (l :: rest) s).reverse.map rowD = (rest.map rowD).reverse ++ [rowD l, rowD s] := by
        rw [hst, if_neg hc]
        simp
      rw [h1]
      by_cases hl0 : l = []
      · subst hl0
        simp [esc, escB, notVar, esc.escBs, isFresh, frV, lim_val, powOk, Pg.LB_law_thin_0, hb, Pg.F_law_along, i1, e, row_ne0, hgt, hlen']
      · have hal : alongB l s = false := by
          cases q : alongB l s with
          | false => rfl
          | true => exact absurd ⟨hl0, q⟩ hc
        simp [esc, escB, notVar, esc.escBs, isFresh, frV, lim_val, powOk, Pg.LB_law_thin_0, hb, Pg.F_law_along, i1, e, row_ne0, hl0, hal, hgt, hlen']
def SzB (m : Nat) (l : List Int) : Prop := ∀ x ∈ l, x.natAbs ≤ m
theorem vadd_mem {a b : List Int} {x : Int} (h : x ∈ vadd a b) : ∃ y ∈ a, ∃ z ∈ b, x = y + z := by
  unfold vadd at h
  obtain ⟨p, hp, rfl⟩ := List.mem_map.mp h
  exact ⟨p.1, (List.of_mem_zip hp).1, p.2, (List.of_mem_zip hp).2, rfl⟩
theorem SzB.vadd {m k : Nat} {a b : List Int} (h : SzB m a) (h' : SzB k b) : SzB (m + k) (vadd a b) := fun x hx => by
  obtain ⟨y, hy, z, hz, rfl⟩ := vadd_mem hx
  have := h y hy
  have := h' z hz
  have := Int.natAbs_add_le y z
  omega
theorem SzB.mono {m k : Nat} {a : List Int} (h : SzB m a) (l : m ≤ k) : SzB k a := fun x hx => Nat.le_trans (h x hx) l
theorem stepS_mem {acc : List (List Int)} {s x : List Int} (h : x ∈ stepS acc s) : x = s ∨ x ∈ acc ∨ ∃ l ∈ acc, x = vadd l s := by
  unfold stepS at h
  split at h
  · rename_i l rest
    split at h
    · rcases List.mem_cons.mp h with rfl | h
      · exact .inr (.inr ⟨l, List.mem_cons_self, rfl⟩)
      · exact .inr (.inl (List.mem_cons_of_mem _ h))
    · rcases List.mem_cons.mp h with rfl | h
      · exact .inl rfl
      · exact .inr (.inl h)
  · rcases List.mem_cons.mp h with rfl | h
    · exact .inl rfl
    · cases h
/-- a row's bound behind i steps -/
theorem thinSA_sz {b : Nat} : ∀ (p acc : List (List Int)) (i : Nat), (∀ x ∈ acc, SzB (i * b) x ∧ x.length ≤ 8) → (∀ x ∈ p, SzB b x ∧ x.length ≤ 8) → ∀ x ∈ thinSA acc p, SzB ((i + p.length) * b) x ∧ x.length ≤ 8
  | [], acc, i, h, _ => h
  | s :: p, acc, i, h, hp => by
    have hs := hp s List.mem_cons_self
    have h2 := thinSA_sz p (stepS acc s) (i + 1) (fun x hx => by
      rcases stepS_mem hx with rfl | hx | ⟨l, hl, rfl⟩
      · exact ⟨hs.1.mono (by rw [Nat.add_mul]; omega), hs.2⟩
      · exact ⟨(h x hx).1.mono (by rw [Nat.add_mul]; omega), (h x hx).2⟩
      · refine ⟨((h l hl).1.vadd hs.1).mono (by rw [Nat.add_mul]; omega), ?_⟩
        rw [vadd_length]
        have := (h l hl).2
        omega) fun x hx => hp x (List.mem_cons_of_mem _ hx)
    rw [show i + (s :: p).length = i + 1 + p.length by rw [List.length_cons]; omega]
    exact h2
theorem stepS_length (acc : List (List Int)) (s : List Int) : (stepS acc s).length ≤ acc.length + 1 := by
  unfold stepS
  split
  · split <;> simp
  · simp
theorem thinSA_length : ∀ (p acc : List (List Int)), (thinSA acc p).length ≤ acc.length + p.length
  | [], _ => Nat.le_refl _
  | c :: p, acc => by
    have h1 := thinSA_length p (stepS acc c)
    have h2 := stepS_length acc c
    show (thinSA (stepS acc c) p).length ≤ _
    rw [List.length_cons]
    omega
theorem law_thin_eq (h : HasLThin T) (n : Nat) {p : List (List Int)} {k : Nat} (hk : k < 900) (hp : ∀ x ∈ p, SzB (2 ^ k) x ∧ x.length ≤ 8) (hl : p.length ≤ 64) : evFn T (n + 2) "_law_thin" [rowsD p] = .ok (rowsD (thinS p)) := by
  obtain ⟨r', e, he⟩ := forL_inv (f := forB (orcOf T (evFn T (n + 1))) false [2] Pg.LB_law_thin_0 [2, 3]) (fun i r => r = [some (.frz, rowsD p), some (.own, .lst ((thinSA [] (p.take i)).reverse.map rowD)), none, none, none, none])
    (p.map rowD) 0 [some (.frz, rowsD p), some (.own, .lst []), none, none, none, none] rfl (fun i x r hx hr => by
      rw [Nat.zero_add] at hr ⊢
      subst hr
      rw [List.getElem?_map] at hx
      obtain ⟨c, hc, rfl⟩ := Option.map_eq_some_iff.mp hx
      obtain ⟨hi, rfl⟩ := List.getElem?_eq_some_iff.mp hc
      have big : ∀ {m : Nat} {x : List Int}, m ≤ 64 → SzB (m * 2 ^ k) x → SzI (k + 7) x := fun {m x} hm hx y hy => by
        have h1 := hx y hy
        have h2 : m * 2 ^ k ≤ 64 * 2 ^ k := Nat.mul_le_mul_right _ hm
        have h3 : 0 < 2 ^ k := Nat.pow_pos (by decide)
        unfold Bits
        rw [Nat.pow_add]
        omega
      have hpi := hp _ (List.getElem_mem hi)
      refine ⟨_, lthin_turn h n (k := k + 7) (by omega) (fun x hx => ?_) ⟨big (m := 1) (by decide) (hpi.1.mono (by omega)), hpi.2⟩ ?_ _, ?_⟩
      · have := thinSA_sz (b := 2 ^ k) (p.take i) [] 0 (fun _ z => by cases z) (fun y hy => hp y (List.mem_of_mem_take hy)) x hx
        refine ⟨big (m := 0 + (p.take i).length) (by simp; omega) this.1, this.2⟩
      · have := thinSA_length (p.take i) []
        simp at this
        unfold lim
        omega
      · rw [List.take_succ_eq_append_getElem hi]
        unfold thinSA
        rw [List.foldl_append]
        rfl)
  rw [Nat.zero_add, List.length_map, List.take_length] at he
  subst he
  have e2 : exec (orcOf T (evFn T (n + 1))) Pg.L_law_thin_0 [some (.frz, rowsD p), some (.own, .lst []), none, none, none, none] = .ok ([some (.frz, rowsD p), some (.own, .lst ((thinSA [] p).reverse.map rowD)), none, none, none, none], .nx) := by
    unfold Pg.L_law_thin_0
    rw [exec_for (xs := p.map rowD) (by simp [esc, escB, notVar, esc.escBs, isFresh, frV, lim_val, powOk, rowsD])]
    simp [esc, escB, notVar, esc.escBs, isFresh, frV, lim_val, powOk]
    rw [e]
    simp
  simp only [rowsD, List.map_reverse] at e2
  rw [go h.thin (n + 1) _ rfl]
  simp [esc, escB, notVar, esc.escBs, isFresh, frV, lim_val, powOk, Pg.F_law_thin, Pg.B_law_thin, start0, e2, rowsD, thinS]
/-! mixed numbers -/
def mix1 (c j : Int) : Int := (c.fmod 2147483629 * 16807 + 69621 * j + 11).fmod 2147483629
def mix2 (c j : Int) : Int := (mix1 c j * mix1 c j + 48271 * j + 7).fmod 2147483629
def mixed (c j : Int) : Int := (mix2 c j * 69621).fmod 2147483587
theorem mixed_lo (c j : Int) : 0 ≤ mixed c j := Int.fmod_nonneg_of_pos _ (by decide)
theorem mixed_hi (c j : Int) : mixed c j < 2147483587 := Int.fmod_lt_of_pos _ (by decide)
theorem mixed_eq (h : T.fn "_law_mixed" = some Pg.F_law_mixed) (n : Nat) (c j : Int) : evFn T (n + 1) "_law_mixed" [.int c, .int j] = .ok (.int (mixed c j)) := by
  have b1 : Bits 32 (mix1 c j) := Bits.fmod (.lit (by decide)) (by decide)
  have m : mulOk (mix1 c j) (mix1 c j) = true := mulOk_of b1 b1 (by decide) (by decide)
  rw [go h n _ rfl]
  unfold mixed mix2
  unfold mix1 at *
  simp [esc, escB, notVar, esc.escBs, isFresh, frV, lim_val, powOk, Pg.F_law_mixed, Pg.B_law_mixed, start0, m]
end
end Pu

/-! The laws' corners; data alike. -/
namespace Pu
section
variable {T : Tab}
theorem row_isL (l : List Int) : (rowD l).isL = true := (rfl)
@[simp] theorem blt_sum_row (l : List Int) : builtin "sum" [rowD l] = .ok (.int l.sum) := blt_sum l
@[simp] theorem seqK_row (l : List Int) : seqK (.ok (rowD l)) = .ok (l.map .int) := (rfl)
structure HasCorn (T : Tab) : Prop where
  div : T.fn "_law_divisor" = some Pg.F_law_divisor
  low : T.fn "_law_lowest" = some Pg.F_law_lowest
  corn : T.fn "_law_corners" = some Pg.F_law_corners
theorem corn_turn (h : HasCorn T) (n : Nat) {b : Int} (hb : 0 < b) (bb : Bits 100 b) (S K : D) (hh s : List Int) (hl : hh.length ≤ 8) (cs : List Cor) (hc : cs.length < lim) :
    forB (orcOf T (evFn T (n + 2))) false [5] Pg.LB_law_corners_0 [5] [some (.frz, S), some (.frz, K), some (.frz, .int b), some (.own, rowD hh), some (.own, .lst (cs.map corD)), none, none, none, none] (rowD s) =
      .ok ([some (.frz, S), some (.frz, K), some (.frz, .int b), some (.own, rowD (vadd hh s)), some (.own, .lst ((cs ++ [cor b (vadd hh s)]).map corD)), none, none, none, none], .nx) := by
  have hv : (vadd hh s).length ≤ 8 := by rw [vadd_length]; omega
  have lc1 : ev (orcOf T (evFn T (n + 2))) [some (.frz, S), some (.frz, K), some (.frz, .int b), some (.own, rowD hh), some (.own, .lst (cs.map corD)), some (.frz, rowD s), none, none, none] (.lc (.bin .add (.var 7) (.var 8)) true [7, 8] (.izip (.var 3) (.var 5)) .nil) = .ok (rowD (vadd hh s)) := by
    have := lc_ok (o := orcOf T (evFn T (n + 2))) (r := [some (.frz, S), some (.frz, K), some (.frz, .int b), some (.own, rowD hh), some (.own, .lst (cs.map corD)), some (.frz, rowD s), none, none, none]) (elt := .bin .add (.var 7) (.var 8)) (it := .izip (.var 3) (.var 5)) (tup := true) (is := [7, 8]) (l := hh.zip s) (fun p => .tup [.int p.1, .int p.2]) (fun p => .int (p.1 + p.2)) (by simp) (by rw [List.length_zip]; unfold lim; omega) fun p hp => ⟨_, rfl, by simp⟩
    rw [this]
    unfold rowD vadd
    rw [List.map_map]
    rfl
  have low : ∀ t : Int, evFn T (n + 2) "_law_lowest" [.int t, .int b] = .ok (fr (Rat.divInt t b)) := fun t => law_lowest_eq h.div h.low n hb (bb.mono (by decide))
  have lc2 : ev (orcOf T (evFn T (n + 2))) [some (.frz, S), some (.frz, K), some (.frz, .int b), some (.own, rowD (vadd hh s)), some (.own, .lst (cs.map corD)), some (.frz, rowD s), none, none, none] (.lc (.call "_law_lowest" (.cons (.var 7) (.cons (.var 2) .nil))) false [7] (.iseq (.var 3)) .nil) = .ok (.lst ((cor b (vadd hh s)).2.map fr)) := by
    unfold cor
    rw [List.map_map]
    exact lc_ok (l := vadd hh s) D.int _ (by simp) (by unfold lim; omega) fun x hx => ⟨_, rfl, by simp [low x]⟩
  have hb2 := br_of h.low
  have hcd : D.tup [fr (Rat.divInt (vadd hh s).sum b), .tup ((cor b (vadd hh s)).2.map fr)] = corD (cor b (vadd hh s)) := rfl
  unfold lim at hc
  rw [forB_x]
  simp [esc, escB, notVar, esc.escBs, isFresh, frV, lim_val, powOk, Pg.LB_law_corners_0, lc1, row_isL, low, lc2, hb2, Pg.F_law_lowest, hcd, hc]
theorem zeros_sum (k : Nat) : (zeros k).sum = 0 := by
  induction k with
  | zero => rfl
  | succ k ih =>
    show (0 :: zeros k).sum = 0
    rw [List.sum_cons, ih]
    rfl
theorem cor_zero (k : Nat) {b : Int} (hb : b ≠ 0) : corD (cor b (zeros k)) = .tup [.tup [.int 0, .int 1], .tup ((List.range k).map fun _ => .tup [.int 0, .int 1])] := by
  have z : Rat.divInt 0 b = 0 := by simp [Rat.divInt_eq_div]; grind
  unfold corD cor
  rw [zeros_sum, z]
  simp only [zeros, List.map_replicate, z]
  rw [List.map_const']
  simp only [List.length_range]
  rfl
theorem foldl_length : ∀ (p : List (List Int)) (h : List Int), h.length ≤ 8 → (p.foldl vadd h).length ≤ 8
  | [], _, hl => hl
  | s :: p, h, hl => foldl_length p (vadd h s) (by rw [vadd_length]; omega)
theorem pts_length : ∀ (p : List (List Int)) (h : List Int), (pts h p).length = p.length
  | [], _ => rfl
  | s :: p, h => by
    show (vadd h s :: pts (vadd h s) p).length = _
    rw [List.length_cons, pts_length p, List.length_cons]
theorem corners_eq (h : HasCorn T) (n : Nat) {b : Int} (hb : 0 < b) (bb : Bits 100 b) {k : Nat} (hk : k ≤ 8) {p : List (List Int)} (hp : p.length ≤ 100) : evFn T (n + 3) "_law_corners" [rowsD p, .int k, .int b] = .ok (pathD (cornersR k b p)) := by
  obtain ⟨r', e, he⟩ := forL_inv (f := forB (orcOf T (evFn T (n + 2))) false [5] Pg.LB_law_corners_0 [5]) (fun i r => r = [some (.frz, rowsD p), some (.frz, .int k), some (.frz, .int b), some (.own, rowD ((p.take i).foldl vadd (zeros k))), some (.own, .lst ((cornersR k b (p.take i)).map corD)), none, none, none, none])
    (p.map rowD) 0 [some (.frz, rowsD p), some (.frz, .int k), some (.frz, .int b), some (.own, rowD (zeros k)), some (.own, .lst [corD (cor b (zeros k))]), none, none, none, none] rfl (fun i x r hx hr => by
      rw [Nat.zero_add] at hr ⊢
      subst hr
      rw [List.getElem?_map] at hx
      obtain ⟨c, hc, rfl⟩ := Option.map_eq_some_iff.mp hx
      obtain ⟨hi, rfl⟩ := List.getElem?_eq_some_iff.mp hc
      refine ⟨_, corn_turn h n hb bb _ _ _ _ (foldl_length _ _ (by simp [zeros]; omega)) _ ?_, ?_⟩
      · simp only [cornersR, List.length_map, List.length_cons, pts_length, List.length_take]
        unfold lim
        omega
      · rw [List.take_succ_eq_append_getElem hi, List.foldl_append]
        unfold cornersR
        rw [pts_snoc]
        simp)
  rw [Nat.zero_add, List.length_map, List.take_length] at he
  subst he
  have hne : b ≠ 0 := by omega
  have e2 : exec (orcOf T (evFn T (n + 2))) Pg.L_law_corners_0 [some (.frz, rowsD p), some (.frz, .int k), some (.frz, .int b), some (.own, rowD (zeros k)), some (.own, .lst [corD (cor b (zeros k))]), none, none, none, none] =
      .ok ([some (.frz, rowsD p), some (.frz, .int k), some (.frz, .int b), some (.own, rowD (p.foldl vadd (zeros k))), some (.own, pathD (cornersR k b p)), none, none, none, none], .nx) := by
    unfold Pg.L_law_corners_0
    rw [exec_for (xs := p.map rowD) (by simp [esc, escB, notVar, esc.escBs, isFresh, frV, lim_val, powOk, rowsD])]
    simp [esc, escB, notVar, esc.escBs, isFresh, frV, lim_val, powOk]
    rw [e]
    simp [pathD]
  have hr : rngOk (k : Int) = true := rngOk_in (by omega) (by omega)
  have lc1 : ev (orcOf T (evFn T (n + 2))) [some (.frz, rowsD p), some (.frz, .int k), some (.frz, .int b), none, none, none, none, none, none] (.lc (.int 0) false [6] (.irng (.var 1)) .nil) = .ok (rowD (zeros k)) := by
    have := lc_ok (o := orcOf T (evFn T (n + 2))) (r := [some (.frz, rowsD p), some (.frz, .int k), some (.frz, .int b), none, none, none, none, none, none]) (elt := .int 0) (it := .irng (.var 1)) (tup := false) (is := [6]) (l := List.range k) (fun (i : Nat) => .int (0 + i)) (fun _ => .int 0) (by simp [hr, rangeL]) (by simp; unfold lim; omega) fun p hp => ⟨_, rfl, by simp⟩
    rw [this]
    unfold rowD zeros
    rw [List.map_const', List.map_replicate, List.length_range]
  have lc2 : ev (orcOf T (evFn T (n + 2))) [some (.frz, rowsD p), some (.frz, .int k), some (.frz, .int b), some (.own, rowD (zeros k)), none, none, none, none, none] (.lc (.tup (.cons (.int 0) (.cons (.int 1) .nil))) false [6] (.irng (.var 1)) .nil) = .ok (.lst ((List.range k).map fun _ => .tup [.int 0, .int 1])) :=
    lc_ok (l := List.range k) (fun (i : Nat) => .int (0 + i)) (fun _ => .tup [.int 0, .int 1]) (by simp [hr, rangeL]) (by simp; unfold lim; omega) fun p hp => ⟨_, rfl, by simp [esc, escB, notVar, esc.escBs, isFresh, frV, lim_val, powOk]⟩
  have hz := cor_zero k hne
  have hn : D.noL1 (pathD (cornersR k b p)) = true := by
    show D.noLA _ = true
    exact noLA_map fun a _ => cor_noL a
  rw [go h.corn (n + 2) _ rfl]
  simp only [Pg.F_law_corners, Pg.B_law_corners]
  simp [esc, escB, notVar, esc.escBs, isFresh, frV, lim_val, powOk, start0, lc1, lc2, row_isL, ← hz, e2, hn]
/-! data alike -/
inductive Pln : Nat → D → Prop
  | int (n : Nat) (z : Int) : Pln n (.int z)
  | tup {n : Nat} {xs : List D} : (∀ x ∈ xs, Pln n x) → xs.length < 1000 → Pln (n + 1) (.tup xs)
  | lst {n : Nat} {xs : List D} : (∀ x ∈ xs, Pln n x) → xs.length < 1000 → Pln (n + 1) (.lst xs)
@[simp] theorem isi_tupL {o : Orc} {xs : List D} : isiB o "tuple" (.lst xs) = .ok false := (rfl)
@[simp] theorem isi_listT {o : Orc} {xs : List D} : isiB o "list" (.tup xs) = .ok false := (rfl)
@[simp] theorem isi_tupI {o : Orc} {z : Int} : isiB o "tuple" (.int z) = .ok false := (rfl)
@[simp] theorem isi_listI {o : Orc} {z : Int} : isiB o "list" (.int z) = .ok false := (rfl)
theorem same_loop (h : T.fn "_law_same" = some Pg.F_law_same) (n : Nat) {xs : List D} {d : D} (hd : d = .tup xs ∨ d = .lst xs) (hl : xs.length < 1000) (ih : ∀ x ∈ xs, evFn T n "_law_same" [x, x] = .ok (.bl true)) :
    exec (orcOf T (evFn T n)) Pg.L_law_same_0 [some (.frz, d), some (.frz, d), none] = .ok ([some (.frz, d), some (.frz, d), none], .nx) := by
  have hb := br_of h
  obtain ⟨r', e, he⟩ := forL_inv (f := forB (orcOf T (evFn T n)) false [2] Pg.LB_law_same_0 [2]) (fun i r => r = [some (.frz, d), some (.frz, d), none]) (rangeL 0 xs.length) 0 _ rfl (fun i x r hx hr => by
    subst hr
    obtain ⟨hi, rfl⟩ := rangeL_get hx
    rw [Int.zero_add]
    refine ⟨_, ?_, rfl⟩
    have hix : itemOf d (.int i) = .ok xs[i] := by
      rcases hd with rfl | rfl <;> simp [atI_nat hi, List.getElem?_eq_getElem hi]
    have h1 := ih xs[i] (List.getElem_mem hi)
    rw [forB_x]
    simp [esc, escB, notVar, esc.escBs, isFresh, frV, lim_val, powOk, Pg.LB_law_same_0, hix, h1, hb, Pg.F_law_same])
  subst he
  have hlen : builtin "len" [d] = .ok (.int xs.length) := by rcases hd with rfl | rfl <;> rfl
  have hr : rngOk (xs.length : Int) = true := rngOk_in (by omega) (by omega)
  unfold Pg.L_law_same_0
  rw [exec_for (xs := rangeL 0 xs.length) (by simp [esc, escB, notVar, esc.escBs, isFresh, frV, lim_val, powOk, hlen, hr])]
  simp [esc, escB, notVar, esc.escBs, isFresh, frV, lim_val, powOk]
  rw [e]
  rfl
theorem same_eq (h : T.fn "_law_same" = some Pg.F_law_same) (n : Nat) {m : Nat} {d : D} (hp : Pln m d) : evFn T (n + m + 1) "_law_same" [d, d] = .ok (.bl true) := by
  induction hp with
  | int m z =>
    rw [go h (n + m) _ rfl]
    simp [esc, escB, notVar, esc.escBs, isFresh, frV, lim_val, powOk, Pg.F_law_same, Pg.B_law_same, start0]
  | @tup m xs hx hl ih =>
    have e := same_loop h (n + m + 1) (.inl rfl) hl ih
    rw [go h (n + (m + 1)) _ rfl]
    have e' : exec (orcOf T (evFn T (n + (m + 1)))) Pg.L_law_same_0 [some (.frz, .tup xs), some (.frz, .tup xs), none] = .ok ([some (.frz, .tup xs), some (.frz, .tup xs), none], .nx) := e
    simp [esc, escB, notVar, esc.escBs, isFresh, frV, lim_val, powOk, Pg.F_law_same, Pg.B_law_same, start0, e']
  | @lst m xs hx hl ih =>
    have e := same_loop h (n + m + 1) (.inr rfl) hl ih
    rw [go h (n + (m + 1)) _ rfl]
    have e' : exec (orcOf T (evFn T (n + (m + 1)))) Pg.L_law_same_0 [some (.frz, .lst xs), some (.frz, .lst xs), none] = .ok ([some (.frz, .lst xs), some (.frz, .lst xs), none], .nx) := e
    simp [esc, escB, notVar, esc.escBs, isFresh, frV, lim_val, powOk, Pg.F_law_same, Pg.B_law_same, start0, e']
theorem fr_pln (x : Rat) : Pln 1 (fr x) := .tup (by
  intro y hy
  simp only [List.mem_cons, List.not_mem_nil, or_false] at hy
  rcases hy with rfl | rfl <;> exact .int _ _) (by simp)
theorem Pln.mono {m k : Nat} {d : D} (h : Pln m d) (l : m ≤ k) : Pln k d := by
  induction h generalizing k with
  | int => exact .int _ _
  | tup _ hl ih =>
    cases k with
    | zero => omega
    | succ k => exact .tup (fun x hx => ih x hx (by omega)) hl
  | lst _ hl ih =>
    cases k with
    | zero => omega
    | succ k => exact .lst (fun x hx => ih x hx (by omega)) hl
theorem path_pln {p : List Cor} (hp : ∀ c ∈ p, c.2.length ≤ 8) (hl : p.length < 1000) : Pln 4 (pathD p) := by
  refine .lst (fun x hx => ?_) (by simpa using hl)
  obtain ⟨c, hc, rfl⟩ := List.mem_map.mp hx
  refine .tup (fun y hy => ?_) (by simp)
  simp only [List.mem_cons, List.not_mem_nil, or_false] at hy
  rcases hy with rfl | rfl
  · exact (fr_pln _).mono (by decide)
  · refine .tup (fun z hz => ?_) (by have := hp c hc; simp; omega)
    obtain ⟨q, _, rfl⟩ := List.mem_map.mp hz
    exact fr_pln q
end
end Pu

/-! The laws' steps. -/
namespace Pu
section
variable {T : Tab}
def szOf (c : Int) : Int := if c.fmod 4 = 0 then 3 else if c.fmod 4 = 1 then 10 else if c.fmod 4 = 2 then 1000000 else 100000000000000000000
theorem szOf_at (c : Int) : atI [D.int 3, .int 10, .int 1000000, .int 100000000000000000000] (c.fmod 4) = some (.int (szOf c)) := by
  have h1 := Int.fmod_nonneg_of_pos c (b := 4) (by decide)
  have h2 := Int.fmod_lt_of_pos c (b := 4) (by decide)
  have h : c.fmod 4 = 0 ∨ c.fmod 4 = 1 ∨ c.fmod 4 = 2 ∨ c.fmod 4 = 3 := by omega
  unfold szOf
  rcases h with h | h | h | h <;> rw [h] <;> simp
theorem szOf_pos (c : Int) : 0 < szOf c := by
  unfold szOf
  split
  · decide
  · split
    · decide
    · split <;> decide
theorem szOf_le (c : Int) : szOf c ≤ 100000000000000000000 := by
  unfold szOf
  split
  · decide
  · split
    · decide
    · split <;> decide
def row1 (c : Int) (k : Nat) : List Int := (List.range k).map fun (j : Nat) => (mixed (c.fdiv 16) j).fmod (szOf c)
def row2 (c : Int) (k : Nat) : List Int := if szOf c > 1000000 then (List.range k).map fun (j : Nat) => mixed (c.fdiv 16) (j + 8) * 10000000000 + (row1 c k).getD j 0 else row1 c k
def row3 (c : Int) (k : Nat) : List Int := if (row2 c k).sum = 0 then (row2 c k).set ((c.fdiv 32).fmod k).toNat 1 else row2 c k
theorem row1_len (c : Int) (k : Nat) : (row1 c k).length = k := by simp [row1]
theorem row2_len (c : Int) (k : Nat) : (row2 c k).length = k := by
  unfold row2
  split <;> simp [row1]
theorem row3_len (c : Int) (k : Nat) : (row3 c k).length = k := by
  unfold row3
  split <;> simp [row2_len]
theorem row1_mem {c : Int} {k : Nat} {x : Int} (h : x ∈ row1 c k) : 0 ≤ x ∧ x < 100000000000000000000 := by
  unfold row1 at h
  obtain ⟨j, _, rfl⟩ := List.mem_map.mp h
  have h1 := Int.fmod_nonneg_of_pos (mixed (c.fdiv 16) j) (szOf_pos c)
  have h2 := Int.fmod_lt_of_pos (mixed (c.fdiv 16) j) (szOf_pos c)
  have h3 := szOf_le c
  omega
theorem row2_mem {c : Int} {k : Nat} {x : Int} (h : x ∈ row2 c k) : 0 ≤ x ∧ x < 200000000000000000000 := by
  unfold row2 at h
  split at h
  · obtain ⟨j, _, rfl⟩ := List.mem_map.mp h
    have h1 := mixed_lo (c.fdiv 16) (j + 8)
    have h2 := mixed_hi (c.fdiv 16) (j + 8)
    have h3 : 0 ≤ (row1 c k).getD j 0 ∧ (row1 c k).getD j 0 < 100000000000000000000 := by
      rw [List.getD_eq_getElem?_getD]
      cases q : (row1 c k)[j]? with
      | none => simp
      | some y => exact row1_mem (List.mem_of_getElem? q)
    omega
  · have := row1_mem h
    omega
theorem sum_nonneg : ∀ {l : List Int}, (∀ x ∈ l, 0 ≤ x) → 0 ≤ l.sum
  | [], _ => by simp
  | x :: l, h => by
    rw [List.sum_cons]
    have h1 := h x List.mem_cons_self
    have h2 := sum_nonneg (l := l) fun y hy => h y (List.mem_cons_of_mem _ hy)
    omega
theorem mem_le_sum : ∀ {l : List Int}, (∀ x ∈ l, 0 ≤ x) → ∀ x ∈ l, x ≤ l.sum
  | [], _, _, hx => by cases hx
  | y :: l, h, x, hx => by
    rw [List.sum_cons]
    have h1 := h y List.mem_cons_self
    have h2 := sum_nonneg (l := l) fun z hz => h z (List.mem_cons_of_mem _ hz)
    rcases List.mem_cons.mp hx with rfl | hx
    · omega
    · have := mem_le_sum (l := l) (fun z hz => h z (List.mem_cons_of_mem _ hz)) x hx
      omega
theorem row3_mem {c : Int} {k : Nat} {x : Int} (h : x ∈ row3 c k) : 0 ≤ x ∧ x < 200000000000000000000 := by
  unfold row3 at h
  split at h
  · rcases List.mem_or_eq_of_mem_set h with h | h
    · exact row2_mem h
    · omega
  · exact row2_mem h
theorem place_lt (c : Int) {k : Nat} (hk : 0 < k) : ((c.fdiv 32).fmod k).toNat < k := by
  have h1 := Int.fmod_nonneg_of_pos (c.fdiv 32) (b := (k : Int)) (by omega)
  have h2 := Int.fmod_lt_of_pos (c.fdiv 32) (b := (k : Int)) (by omega)
  omega
theorem row3_ok (c : Int) {k : Nat} (hk : 0 < k) : StepOk k (row3 c k) := by
  refine ⟨row3_len c k, ?_⟩
  have hn : ∀ x ∈ row3 c k, 0 ≤ x := fun x hx => (row3_mem hx).1
  by_cases h0 : (row2 c k).sum = 0
  · have h1 : (1 : Int) ∈ row3 c k := by
      unfold row3
      rw [if_pos h0]
      exact List.mem_of_getElem? (List.getElem?_set_self (by rw [row2_len]; exact place_lt c hk))
    have := mem_le_sum hn 1 h1
    omega
  · have h1 := sum_nonneg (l := row2 c k) fun x hx => (row2_mem hx).1
    unfold row3
    rw [if_neg h0]
    omega
theorem row3_sz (c : Int) (k : Nat) : SzB (2 ^ 100) (row3 c k) := fun x hx => by
  have := row3_mem hx
  omega
theorem scale_ok {k : Nat} {l : List Int} {f : Int} (h : StepOk k l) (hf : 0 < f) : StepOk k (l.map (f * ·)) := by
  refine ⟨by rw [List.length_map]; exact h.len, ?_⟩
  have : ∀ l : List Int, (l.map (f * ·)).sum = f * l.sum := fun l => by
    induction l with
    | nil => simp
    | cons x l ih => rw [List.map_cons, List.sum_cons, List.sum_cons, ih, Int.mul_add]
  rw [this]
  exact Int.mul_pos hf h.pos
structure HasSteps (T : Tab) : Prop where
  cell : T.fn "_law_cell_at" = some Pg.F_law_cell_at
  mix : T.fn "_law_mixed" = some Pg.F_law_mixed
  steps : T.fn "_law_steps" = some Pg.F_law_steps
def cellsD (ns : List Int) : D := .lst (ns.map .int)
def elseS : S := (.seq (.set 8 (.lc (.bin .mod (.call "_law_mixed" (.cons (.bin .fdiv (.var 6) (.int 16)) (.cons (.var 9) .nil))) (.var 7)) false [9] (.irng (.var 3)) .nil)) (.seq (.ite (.cmp .gt (.var 7) (.bin .pow (.int 10) (.int 6))) (.set 8 (.lc (.bin .add (.bin .mul (.call "_law_mixed" (.cons (.bin .fdiv (.var 6) (.int 16)) (.cons (.bin .add (.var 9) (.int 8)) .nil))) (.bin .pow (.int 10) (.int 10))) (.ix (.var 8) (.var 9))) false [9] (.irng (.var 3)) .nil)) .skip) (.seq (.ite (.cmp .eq (.blt "sum" (.cons (.var 8) .nil)) (.int 0)) (.put 8 (.bin .mod (.bin .fdiv (.var 6) (.int 32)) (.var 3)) (.int 1)) .skip) (.app 4 (.var 8)))))
@[simp] theorem ownL_row {r : Env} (l : List Int) : ownL (some (.own, rowD l) :: r) 0 = .ok (l.map .int) := (rfl)
theorem row_isL' (l : List Int) : (rowD l).isL = true := (rfl)
theorem else_ok (h : HasSteps T) (n : Nat) (s a many i : D) (k : Nat) (hk : 0 < k) (hk8 : k ≤ 8) (c : Int) (xs : List D) (hx : xs.length < 16777216) :
    exec (orcOf T (evFn T (n + 1))) elseS [some (.frz, s), some (.frz, a), some (.frz, many), some (.frz, .int k), some (.own, .lst xs), some (.frz, i), some (.frz, .int c), some (.frz, .int (szOf c)), none, none, none] =
      .ok ([some (.frz, s), some (.frz, a), some (.frz, many), some (.frz, .int k), some (.own, .lst (xs ++ [rowD (row3 c k)])), some (.frz, i), some (.frz, .int c), some (.frz, .int (szOf c)), some (.frz, rowD (row3 c k)), none, none], .nx) := by
  have b1 := br_of h.mix
  have hr : rngOk (k : Int) = true := rngOk_in (by omega) (by omega)
  have hz : szOf c ≠ 0 := by have := szOf_pos c; omega
  have lc1 : ev (orcOf T (evFn T (n + 1))) [some (.frz, s), some (.frz, a), some (.frz, many), some (.frz, .int k), some (.own, .lst xs), some (.frz, i), some (.frz, .int c), some (.frz, .int (szOf c)), none, none, none]
      (.lc (.bin .mod (.call "_law_mixed" (.cons (.bin .fdiv (.var 6) (.int 16)) (.cons (.var 9) .nil))) (.var 7)) false [9] (.irng (.var 3)) .nil) = .ok (rowD (row1 c k)) := by
    unfold rowD row1
    rw [List.map_map]
    refine lc_ok (l := List.range k) (fun (j : Nat) => .int (0 + j)) _ (by simp [hr, rangeL]) (by simp; unfold lim; omega) fun j hj => ⟨_, rfl, ?_⟩
    have e := mixed_eq h.mix n (c.fdiv 16) j
    simp [e, hz]
  have lc2 : ev (orcOf T (evFn T (n + 1))) [some (.frz, s), some (.frz, a), some (.frz, many), some (.frz, .int k), some (.own, .lst xs), some (.frz, i), some (.frz, .int c), some (.frz, .int (szOf c)), some (.own, rowD (row1 c k)), none, none]
      (.lc (.bin .add (.bin .mul (.call "_law_mixed" (.cons (.bin .fdiv (.var 6) (.int 16)) (.cons (.bin .add (.var 9) (.int 8)) .nil))) (.bin .pow (.int 10) (.int 10))) (.ix (.var 8) (.var 9))) false [9] (.irng (.var 3)) .nil) =
      .ok (rowD ((List.range k).map fun (j : Nat) => mixed (c.fdiv 16) (j + 8) * 10000000000 + (row1 c k).getD j 0)) := by
    unfold rowD
    rw [List.map_map]
    refine lc_ok (l := List.range k) (fun (j : Nat) => .int (0 + j)) _ (by simp [hr, rangeL]) (by simp; unfold lim; omega) fun j hj => ⟨_, rfl, ?_⟩
    have hj' : j < (row1 c k).length := by rw [row1_len]; exact List.mem_range.mp hj
    have e := mixed_eq h.mix n (c.fdiv 16) (j + 8)
    have i1 := atI_mapf D.int (l := row1 c k) (i := (j : Int)) rfl hj'
    have i2 : (row1 c k).getD j 0 = (row1 c k)[j] := by rw [List.getD_eq_getElem?_getD, List.getElem?_eq_getElem hj']; rfl
    simp [powOk, e, i1, i2]
    simp [hj']
  have hp : ∀ r : List Int, r.length = k → ixN (r.map D.int).length ((c.fdiv 32).fmod k) = some ((c.fdiv 32).fmod k).toNat := fun r hr => by
    have h1 := Int.fmod_nonneg_of_pos (c.fdiv 32) (b := (k : Int)) (by omega)
    have h2 := Int.fmod_lt_of_pos (c.fdiv 32) (b := (k : Int)) (by omega)
    unfold ixN
    rw [List.length_map, hr, if_pos h1, if_pos h2]
  have hk0 : (k : Int) ≠ 0 := by omega
  have hset : ∀ (r : List Int) (j : Nat), (r.map D.int).set j (.int 1) = (r.set j 1).map .int := fun r j => by rw [List.map_set]
  have hp2 := hp (row2 c k) (row2_len c k)
  have hm : bop .mod (.int (c.fdiv 32)) (.int k) = .ok (.int ((c.fdiv 32).fmod k)) := if_pos hk0
  by_cases hs : 1000000 < szOf c
  · have e2 : rowD ((List.range k).map fun (j : Nat) => mixed (c.fdiv 16) (j + 8) * 10000000000 + (row1 c k).getD j 0) = rowD (row2 c k) := by
      unfold row2
      rw [if_pos hs]
    rw [e2] at lc2
    by_cases h0 : (row2 c k).sum = 0
    · have e3 : rowD (row3 c k) = .lst (((row2 c k).map D.int).set ((c.fdiv 32).fmod k).toNat (.int 1)) := by
        unfold row3 rowD
        rw [if_pos h0, hset]
      rw [e3]
      rw [List.length_map] at hp2
      simp [esc, escB, notVar, esc.escBs, isFresh, frV, lim_val, powOk, elseS, lc1, lc2, b1, Pg.F_law_mixed, row_isL', hs, h0, hm, hp2, hx]
    · have e3 : row3 c k = row2 c k := by
        unfold row3
        rw [if_neg h0]
      rw [e3]
      simp [esc, escB, notVar, esc.escBs, isFresh, frV, lim_val, powOk, elseS, lc1, lc2, b1, Pg.F_law_mixed, row_isL', hs, h0, hx]
  · have e2 : row1 c k = row2 c k := by
      unfold row2
      rw [if_neg hs]
    rw [e2] at lc1
    by_cases h0 : (row2 c k).sum = 0
    · have e3 : rowD (row3 c k) = .lst (((row2 c k).map D.int).set ((c.fdiv 32).fmod k).toNat (.int 1)) := by
        unfold row3 rowD
        rw [if_pos h0, hset]
      rw [e3]
      rw [List.length_map] at hp2
      simp [esc, escB, notVar, esc.escBs, isFresh, frV, lim_val, powOk, elseS, lc1, b1, Pg.F_law_mixed, row_isL', hs, h0, hm, hp2, hx]
    · have e3 : row3 c k = row2 c k := by
        unfold row3
        rw [if_neg h0]
      rw [e3]
      simp [esc, escB, notVar, esc.escBs, isFresh, frV, lim_val, powOk, elseS, lc1, b1, Pg.F_law_mixed, row_isL', hs, h0, hx]
theorem steps_turn (h : HasSteps T) (n : Nat) (ns : List Int) (a many : D) (at_ k i : Nat) (hk : 0 < k) (hk8 : k ≤ 8) (hi : i < 70) (acc : List (List Int)) (hlen : acc.length = i) (ha : ∀ x ∈ acc, StepOk k x ∧ SzB (2 ^ (100 + 2 * i)) x) :
    ∃ row, StepOk k row ∧ SzB (2 ^ (100 + 2 * (i + 1))) row ∧
    forB (orcOf T (evFn T (n + 1))) false [5] Pg.LB_law_steps_0 [5, 6, 7, 8] [some (.frz, cellsD ns), some (.frz, .int at_), some (.frz, many), some (.frz, .int k), some (.own, .lst (acc.map rowD)), none, none, none, none, none, none] (.int i) =
      .ok ([some (.frz, cellsD ns), some (.frz, .int at_), some (.frz, many), some (.frz, .int k), some (.own, .lst ((acc ++ [row]).map rowD)), none, none, none, none, none, none], .nx) := by
  have e0 := cell_at_eq h.cell n ns ((at_ : Int) + i) (at_ + i) (by omega)
  have b0 := br_of h.cell
  have b1 := br_of h.mix
  generalize cellAt ns (at_ + i) = c at e0
  have hsz := szOf_at c
  have hacc : acc.length < 16777216 := by omega
  by_cases hc : 0 < i ∧ (c.fdiv 4).fmod 4 = 1
  · obtain ⟨hi0, hc⟩ := hc
    obtain ⟨l, rest, rfl⟩ : ∃ l rest, acc = rest ++ [l] := by
      have hne : acc ≠ [] := fun z => by rw [z] at hlen; simp at hlen; omega
      exact ⟨acc.getLast hne, acc.dropLast, (List.dropLast_concat_getLast hne).symm⟩
    have hl := ha l (by simp)
    have f1 := Int.fmod_nonneg_of_pos (c.fdiv 16) (b := 3) (by decide)
    have f2 := Int.fmod_lt_of_pos (c.fdiv 16) (b := 3) (by decide)
    refine ⟨l.map ((1 + (c.fdiv 16).fmod 3) * ·), scale_ok hl.1 (by omega), fun x hx => ?_, ?_⟩
    · obtain ⟨y, hy, rfl⟩ := List.mem_map.mp hx
      have h1 := hl.2 y hy
      rw [Int.natAbs_mul]
      have h2 : (1 + (c.fdiv 16).fmod 3).natAbs ≤ 4 := by omega
      have h3 := Nat.mul_le_mul h2 h1
      rw [show 100 + 2 * (i + 1) = 2 + (100 + 2 * i) by omega, Nat.pow_add 2 2]
      exact h3
    · have i1 := atI_last (xs := rest.map rowD) (y := rowD l)
      have lc : ev (orcOf T (evFn T (n + 1))) [some (.frz, cellsD ns), some (.frz, .int at_), some (.frz, many), some (.frz, .int k), some (.own, .lst (rest.map rowD ++ [rowD l])), some (.frz, .int i), some (.frz, .int c), some (.frz, .int (szOf c)), none, none, none]
          (.lc (.bin .mul (.bin .add (.int 1) (.bin .mod (.bin .fdiv (.var 6) (.int 16)) (.int 3))) (.var 10)) false [10] (.iseq (.ix (.var 4) (.neg (.int 1)))) .nil) = .ok (rowD (l.map ((1 + (c.fdiv 16).fmod 3) * ·))) := by
        have := lc_ok (o := orcOf T (evFn T (n + 1))) (r := [some (.frz, cellsD ns), some (.frz, .int at_), some (.frz, many), some (.frz, .int k), some (.own, .lst (rest.map rowD ++ [rowD l])), some (.frz, .int i), some (.frz, .int c), some (.frz, .int (szOf c)), none, none, none])
          (elt := .bin .mul (.bin .add (.int 1) (.bin .mod (.bin .fdiv (.var 6) (.int 16)) (.int 3))) (.var 10)) (it := .iseq (.ix (.var 4) (.neg (.int 1)))) (tup := false) (is := [10]) (l := l) D.int (fun x => .int ((1 + (c.fdiv 16).fmod 3) * x)) (by simp [i1]) (by rw [hl.1.len]; unfold lim; omega) fun x hx => by
            have m : mulOk (1 + (c.fdiv 16).fmod 3) x = true := mulOk_l (by omega)
            exact ⟨_, rfl, by simp [m]⟩
        rw [this]
        unfold rowD
        rw [List.map_map]
        rfl
      have hrl : rest.length < 16777216 := by simp at hacc; omega
      have hrl' : rest.length + 1 < 16777216 := by simp at hacc; omega
      rw [forB_x]
      simp [cellsD] at e0 lc ⊢
      simp [esc, escB, notVar, esc.escBs, isFresh, frV, lim_val, powOk, Pg.LB_law_steps_0, e0, b0, Pg.F_law_cell_at, hsz, hi0, hc, lc, hrl']
  · have e := else_ok h n (cellsD ns) (.int at_) many (.int i) k hk hk8 c (acc.map rowD) (by simpa using hacc)
    unfold elseS at e
    refine ⟨row3 c k, row3_ok c hk, (row3_sz c k).mono (Nat.pow_le_pow_right (by decide) (by omega)), ?_⟩
    have hc' : ¬ 0 < i ∨ ¬ (c.fdiv 4).fmod 4 = 1 := by omega
    rw [forB_x]
    simp only [cellsD] at e0 e ⊢
    rcases hc' with h1 | h1
    · have h2 : i = 0 := by omega
      subst h2
      simp at e0 e
      simp [esc, escB, notVar, esc.escBs, isFresh, frV, lim_val, powOk, Pg.LB_law_steps_0, e0, b0, Pg.F_law_cell_at, hsz, e]
    · by_cases h2 : 0 < i
      · simp [esc, escB, notVar, esc.escBs, isFresh, frV, lim_val, powOk, Pg.LB_law_steps_0, e0, b0, Pg.F_law_cell_at, hsz, h1, h2, e]
      · simp [esc, escB, notVar, esc.escBs, isFresh, frV, lim_val, powOk, Pg.LB_law_steps_0, e0, b0, Pg.F_law_cell_at, hsz, h2, e]
theorem steps_eq (h : HasSteps T) (n : Nat) (ns : List Int) (at_ many k : Nat) (hk : 0 < k) (hk8 : k ≤ 8) (hm : many ≤ 64) : ∃ rows : List (List Int), rows.length = many ∧ (∀ x ∈ rows, StepOk k x ∧ SzB (2 ^ 228) x) ∧
    evFn T (n + 2) "_law_steps" [cellsD ns, .int at_, .int many, .int k] = .ok (rowsD rows) := by
  obtain ⟨r', e, acc, hlen, ha, he⟩ := forL_inv (f := forB (orcOf T (evFn T (n + 1))) false [5] Pg.LB_law_steps_0 [5, 6, 7, 8]) (fun i r => ∃ acc : List (List Int), acc.length = i ∧ (∀ x ∈ acc, StepOk k x ∧ SzB (2 ^ (100 + 2 * i)) x) ∧
      r = [some (.frz, cellsD ns), some (.frz, .int at_), some (.frz, .int many), some (.frz, .int k), some (.own, .lst (acc.map rowD)), none, none, none, none, none, none])
    (rangeL 0 many) 0 [some (.frz, cellsD ns), some (.frz, .int at_), some (.frz, .int many), some (.frz, .int k), some (.own, .lst []), none, none, none, none, none, none] ⟨[], rfl, (fun _ z => by cases z), rfl⟩ (fun i x r hx hr => by
      obtain ⟨acc, h1, h2, h3⟩ := hr
      rw [Nat.zero_add] at h1 h2 ⊢
      subst h3
      obtain ⟨hi, rfl⟩ := rangeL_get hx
      rw [Int.zero_add]
      obtain ⟨row, g1, g2, g3⟩ := steps_turn h n ns (.int 0) (.int many) at_ k i hk hk8 (by omega) acc h1 h2
      refine ⟨_, g3, acc ++ [row], by simp [h1], fun x hx => ?_, rfl⟩
      rcases List.mem_append.mp hx with hx | hx
      · exact ⟨(h2 x hx).1, (h2 x hx).2.mono (Nat.pow_le_pow_right (by decide) (by omega))⟩
      · have : x = row := by simpa using hx
        subst this
        exact ⟨g1, g2⟩)
  rw [Nat.zero_add, rangeL_length] at hlen ha
  subst he
  have hr : rngOk (many : Int) = true := rngOk_in (by omega) (by omega)
  refine ⟨acc, hlen, fun x hx => ⟨(ha x hx).1, (ha x hx).2.mono (Nat.pow_le_pow_right (by decide) (by omega))⟩, ?_⟩
  have e2 : exec (orcOf T (evFn T (n + 1))) Pg.L_law_steps_0 [some (.frz, cellsD ns), some (.frz, .int at_), some (.frz, .int many), some (.frz, .int k), some (.own, .lst []), none, none, none, none, none, none] =
      .ok ([some (.frz, cellsD ns), some (.frz, .int at_), some (.frz, .int many), some (.frz, .int k), some (.own, rowsD acc), none, none, none, none, none, none], .nx) := by
    unfold Pg.L_law_steps_0
    rw [exec_for (xs := rangeL 0 many) (by simp [esc, escB, notVar, esc.escBs, isFresh, frV, lim_val, powOk, hr])]
    simp [esc, escB, notVar, esc.escBs, isFresh, frV, lim_val, powOk]
    rw [e]
    rfl
  have hL : (rowsD acc).isL = true := rfl
  rw [go h.steps (n + 1) _ rfl]
  simp [esc, escB, notVar, esc.escBs, isFresh, frV, lim_val, powOk, Pg.F_law_steps, Pg.B_law_steps, start0, e2]
/-! sizes and order of the corners -/
theorem pts_sz {k : Nat} : ∀ (p : List (List Int)) (h : List Int) (m : Nat), SzB m h ∧ h.length ≤ 8 → (∀ s ∈ p, SzB k s ∧ s.length ≤ 8) → ∀ x ∈ pts h p, SzB (m + p.length * k) x ∧ x.length ≤ 8
  | [], _, _, _, _, x, hx => by cases hx
  | s :: p, h, m, hh, hp, x, hx => by
    have hs := hp s List.mem_cons_self
    have h1 : SzB (m + k) (vadd h s) ∧ (vadd h s).length ≤ 8 := ⟨hh.1.vadd hs.1, by rw [vadd_length]; have := hh.2; omega⟩
    have e : m + (s :: p).length * k = m + k + p.length * k := by rw [List.length_cons, Nat.add_mul]; omega
    rw [e]
    rcases List.mem_cons.mp hx with rfl | hx
    · exact ⟨h1.1.mono (by omega), h1.2⟩
    · exact pts_sz p _ _ h1 (fun y hy => hp y (List.mem_cons_of_mem _ hy)) x hx
theorem pts_up {k : Nat} : ∀ (p : List (List Int)) (h : List Int), h.length = k → (∀ s ∈ p, StepOk k s) → (h :: pts h p).Pairwise fun x y => x.sum < y.sum
  | [], h, _, _ => by simp [pts]
  | s :: p, h, hh, hp => by
    have hs := hp s List.mem_cons_self
    have hl : (vadd h s).length = k := by rw [vadd_length, hh, hs.len, Nat.min_self]
    have ih := pts_up p (vadd h s) hl fun y hy => hp y (List.mem_cons_of_mem _ hy)
    have h1 : h.sum < (vadd h s).sum := by rw [vadd_sum _ _ (by rw [hh, hs.len])]; have := hs.pos; omega
    refine List.pairwise_cons.mpr ⟨fun y hy => ?_, ih⟩
    rcases List.mem_cons.mp hy with rfl | hy
    · exact h1
    · exact Int.lt_trans h1 ((List.pairwise_cons.mp ih).1 y hy)
theorem corners_pair {b : Int} (hb : 0 < b) {k : Nat} {p : List (List Int)} (hp : ∀ s ∈ p, StepOk k s) : (cornersR k b p).Pairwise fun a c => a.1 ≠ c.1 := by
  unfold cornersR
  rw [List.pairwise_map]
  refine (pts_up p (zeros k) (by simp [zeros]) hp).imp fun {x y} h e => ?_
  have e : Rat.divInt x.sum b = Rat.divInt y.sum b := e
  rw [Rat.divInt_eq_divInt_iff (by omega) (by omega)] at e
  have := Int.eq_of_mul_eq_mul_right (by omega) e
  omega
theorem corners_sz {b : Int} (hb : 0 < b) (bb : Bits 100 b) {k : Nat} (hk : k ≤ 8) {p : List (List Int)} {m : Nat} (hm : 100 ≤ m) (hp : ∀ s ∈ p, SzB (2 ^ m) s ∧ s.length ≤ 8) (hl : p.length ≤ 64) : ∀ c ∈ cornersR k b p, SzC (m + 20) c ∧ c.2.length ≤ 8 := by
  intro c hc
  unfold cornersR at hc
  obtain ⟨x, hx, rfl⟩ := List.mem_map.mp hc
  have h1 : SzB (64 * 2 ^ m) x ∧ x.length ≤ 8 := by
    have hz : SzB 0 (zeros k) ∧ (zeros k).length ≤ 8 := ⟨fun y hy => by rw [(List.mem_replicate.mp hy).2]; decide, by simp [zeros]; omega⟩
    rcases List.mem_cons.mp hx with rfl | hx
    · exact ⟨hz.1.mono (Nat.zero_le _), hz.2⟩
    · have := pts_sz p (zeros k) 0 hz hp x hx
      refine ⟨this.1.mono ?_, this.2⟩
      have := Nat.mul_le_mul_right (2 ^ m) hl
      omega
  have h3 : 0 < 2 ^ m := Nat.pow_pos (by decide)
  have h2 : SzI (m + 7) x := fun y hy => by
    have := h1.1 y hy
    unfold Bits
    rw [Nat.pow_add]
    omega
  have hs := sum_bits8 h2 h1.2
  refine ⟨⟨szR_divInt (by omega) (hs.mono (by omega)) (bb.mono (by omega)), fun y hy => ?_⟩, by simpa [cor] using h1.2⟩
  obtain ⟨z, hz, rfl⟩ := List.mem_map.mp hy
  exact szR_divInt (by omega) ((h2 z hz).mono (by omega)) (bb.mono (by omega))
theorem corners_length (k : Nat) (b : Int) (p : List (List Int)) : (cornersR k b p).length = p.length + 1 := by simp [cornersR, pts_length]
end
end Pu

/-! Walks that fold; paths turned and scaled. -/
namespace Pu
@[simp] theorem opn_nil {x : R (Env × Fw)} : opn [] x = x := by
  cases x <;> rfl
@[simp] theorem locks_zvv {i j : Nat} : locks (.izip (.var i) (.var j)) = [i, j] := (rfl)
@[simp] theorem locks_zii {a b c d : E} : locks (.izip (.ix a b) (.ix c d)) = [] := (rfl)
@[simp] theorem locks_ziv {a b : E} {j : Nat} : locks (.izip (.ix a b) (.var j)) = [j] := (rfl)
@[simp] theorem locks_zvi {a b : E} {j : Nat} : locks (.izip (.var j) (.ix a b)) = [j] := (rfl)
@[simp] theorem locks_ix {a b : E} : locks (.iseq (.ix a b)) = [] := (rfl)
@[simp] theorem locks_bin {o : Bop} {a b : E} : locks (.iseq (.bin o a b)) = [] := (rfl)
@[simp] theorem locks_sset {a : E} : locks (.iseq (.sset a)) = [] := (rfl)
theorem forL_fold {α β : Type} {f : Env → D → R (Env × Fw)} (u : α → D) (emb : β → Env) (g : β → α → β) (Inv : Nat → β → Prop) : ∀ (l : List α) (k : Nat) (b0 : β), Inv k b0 →
    (∀ i (hi : i < l.length) b, Inv (k + i) b → f (emb b) (u l[i]) = .ok (emb (g b l[i]), .nx) ∧ Inv (k + i + 1) (g b l[i])) →
    forL f (l.map u) (emb b0) = .ok (emb (l.foldl g b0), .nx) ∧ Inv (k + l.length) (l.foldl g b0)
  | [], k, b0, h0, _ => ⟨rfl, h0⟩
  | a :: l, k, b0, h0, hs => by
    obtain ⟨h1, h2⟩ := hs 0 (by simp) b0 h0
    have h1 : f (emb b0) (u a) = .ok (emb (g b0 a), .nx) := h1
    obtain ⟨h3, h4⟩ := forL_fold u emb g Inv l (k + 1) (g b0 a) h2 fun i hi b hb => by
      have := hs (i + 1) (by simpa using hi) b (by rw [show k + (i + 1) = k + 1 + i by omega]; exact hb)
      rw [show k + (i + 1) + 1 = k + 1 + i + 1 by omega] at this
      simpa using this
    refine ⟨?_, by rw [List.length_cons, show k + (l.length + 1) = k + 1 + l.length by omega]; exact h4⟩
    rw [List.map_cons, forL_cons, h1, forK_nx]
    exact h3
theorem for_fold {α β : Type} {o : Orc} {tup : Bool} {is : List Nat} {it : E} {b : S} {dead : List Nat} {r : Env} {l : List α} (u : α → D) (emb : β → Env) (g : β → α → β) (b0 : β) (Inv : Nat → β → Prop) (h : evI o r it = .ok (l.map u))
    (hr : lockL (frzL r (esc o it)) (owns (frzL r (esc o it)) (locks it)) = emb b0) (h0 : Inv 0 b0)
    (hs : ∀ i (hi : i < l.length) c, Inv i c → forB o tup is b dead (emb c) (u l[i]) = .ok (emb (g c l[i]), .nx) ∧ Inv (i + 1) (g c l[i])) :
    exec o (.for_ tup is it b dead) r = .ok (openL (emb (l.foldl g b0)) (owns (frzL r (esc o it)) (locks it)), .nx) ∧ Inv l.length (l.foldl g b0) := by
  obtain ⟨h1, h2⟩ := forL_fold (f := forB o tup is b dead) u emb g Inv l 0 b0 h0 fun i hi c hc => by
    rw [Nat.zero_add] at hc ⊢
    exact hs i hi c hc
  rw [Nat.zero_add] at h2
  refine ⟨?_, h2⟩
  rw [exec_for h, hr, h1]
  rfl
theorem foldl_app {α β : Type} (h : α → β) : ∀ (l : List α) (a : List β), l.foldl (fun a x => a ++ [h x]) a = a ++ l.map h
  | [], a => by simp
  | x :: l, a => by
    rw [List.foldl_cons, foldl_app h l]
    simp
/-! ### turned -/
def subC (L c : Cor) : Cor := (L.1 - c.1, (L.2.zip c.2).map fun p => p.1 - p.2)
def turnedR (p : List Cor) : List Cor := match p.getLast? with
  | some L => p.reverse.map (subC L)
  | none => []
section
variable {T : Tab}
structure HasTurn (T : Tab) : Prop extends HasFrac T where
  minus : T.fn "minus" = some Pg.F_minus
  turned : T.fn "turned" = some Pg.F_turned
theorem turned_turn (h : HasTurn T) (n : Nat) {L c : Cor} {k : Nat} (hk : k < 1000) (hL : SzC k L) (hc : SzC k c) (hl : c.2.length ≤ lim) (acc : List Cor) (ha : acc.length < lim) (s : D) :
    forB (orcOf T (evFn T (n + 3))) true [3, 4] Pg.LB_turned_0 [3, 4] [some (.frz, s), some (.frz, corD L), some (.own, .lst (acc.map corD)), none, none, none, none] (corD c) =
      .ok ([some (.frz, s), some (.frz, corD L), some (.own, .lst ((acc ++ [subC L c]).map corD)), none, none, none, none], .nx) := by
  have e1 := minus_eq h.toHasFrac h.minus n hL.1 hc.1 (by omega)
  have lc : ev (orcOf T (evFn T (n + 3))) [some (.frz, s), some (.frz, corD L), some (.own, .lst (acc.map corD)), some (.frz, fr c.1), some (.frz, .tup (c.2.map fr)), none, none]
      (.lc (.call "minus" (.cons (.var 5) (.cons (.var 6) .nil))) true [5, 6] (.izip (.ix (.var 1) (.int 1)) (.var 4)) .nil) = .ok (.lst ((subC L c).2.map fr)) := by
    unfold subC
    rw [List.map_map]
    refine lc_ok (l := L.2.zip c.2) (fun p => .tup [fr p.1, fr p.2]) _ (by simp [zipP_map]) (by rw [List.length_zip]; omega) fun p hp => ?_
    have f1 := minus_eq h.toHasFrac h.minus n (hL.2 _ (List.of_mem_zip hp).1) (hc.2 _ (List.of_mem_zip hp).2) (by omega)
    exact ⟨_, rfl, by simp [f1]⟩
  have hb := br_of h.minus
  have hcd : D.tup [fr (L.1 - c.1), .tup ((subC L c).2.map fr)] = corD (subC L c) := rfl
  unfold lim at ha
  rw [forB_x]
  unfold corD at lc e1 ⊢
  simp only [corD] at hcd
  simp [esc, escB, notVar, esc.escBs, isFresh, frV, lim_val, powOk, Pg.LB_turned_0, lc, hb, Pg.F_minus, e1, hcd, ha]
theorem turned_eq (h : HasTurn T) (n : Nat) {p : List Cor} {k : Nat} (hk : k < 1000) (hs : ∀ c ∈ p, SzC k c ∧ c.2.length ≤ lim) (hl : p.length < lim) (h0 : p ≠ []) :
    evFn T (n + 4) "turned" [pathD p] = .ok (pathD (turnedR p)) := by
  obtain ⟨q, L, rfl⟩ : ∃ q L, p = q ++ [L] := ⟨p.dropLast, p.getLast h0, (List.dropLast_concat_getLast h0).symm⟩
  have e := (for_fold (o := orcOf T (evFn T (n + 3))) (tup := true) (is := [3, 4]) (it := .irev (.var 0)) (b := Pg.LB_turned_0) (dead := [3, 4]) (r := [some (.frz, pathD (q ++ [L])), some (.frz, corD L), some (.own, .lst []), none, none, none, none]) (l := (q ++ [L]).reverse)
    corD (fun acc => [some (.frz, pathD (q ++ [L])), some (.frz, corD L), some (.own, .lst (acc.map corD)), none, none, none, none]) (fun acc c => acc ++ [subC L c]) ([] : List Cor) (fun i acc => acc.length = i) (by simp [esc, escB, notVar, esc.escBs, isFresh, frV, lim_val, powOk, pathD]) (by simp [esc, escB, notVar, esc.escBs, isFresh, frV, lim_val, powOk]) rfl (fun i hi acc ha => by
      have hm := hs _ (List.mem_reverse.mp (List.getElem_mem hi))
      have hm2 := hs L (by simp)
      refine ⟨turned_turn h n hk hm2.1 hm.1 hm.2 acc (by simp at hi hl; omega) _, by simp [ha]⟩)).1
  rw [foldl_app, List.nil_append] at e
  have e2 : exec (orcOf T (evFn T (n + 3))) Pg.L_turned_0 [some (.frz, pathD (q ++ [L])), some (.frz, corD L), some (.own, .lst []), none, none, none, none] = .ok ([some (.frz, pathD (q ++ [L])), some (.frz, corD L), some (.own, pathD (turnedR (q ++ [L]))), none, none, none, none], .nx) := by
    unfold Pg.L_turned_0
    rw [e]
    simp [esc, escB, notVar, esc.escBs, isFresh, frV, lim_val, powOk, turnedR, pathD]
  have i1 : itemOf (pathD (q ++ [L])) (.int (-1)) = .ok (corD L) := by
    have := atI_last (xs := q.map corD) (y := corD L)
    simp [pathD, this]
  have hn : D.noL1 (pathD (turnedR (q ++ [L]))) = true := noLA_map fun a _ => cor_noL a
  have hL : (pathD (turnedR (q ++ [L]))).isL = true := rfl
  rw [go h.turned (n + 3) _ rfl]
  simp [esc, escB, notVar, esc.escBs, isFresh, frV, lim_val, powOk, Pg.F_turned, Pg.B_turned, start0, i1, e2, hn, cor_isL]
end
end Pu

/-! The parts at a purse. -/
namespace Pu
theorem den_pos (x : Rat) : (0 : Int) < x.den := by
  have := x.den_pos
  omega
/-- the parts at a purse -/
def atR : List Cor → Rat → List Rat
  | [], _ => []
  | [c], _ => c.2
  | c :: d :: r, x => if d.1 < x then atR (d :: r) x else amidR c d x
theorem rangeL_succ (lo : Int) (n : Nat) : rangeL lo (n + 1) = .int lo :: rangeL (lo + 1) n := by
  unfold rangeL
  rw [List.range_succ_eq_map, List.map_cons, List.map_map]
  congr 1
  · simp
  · refine List.map_congr_left fun i _ => ?_
    simp only [Function.comp]
    congr 1
    omega
theorem rangeL_zero (lo : Int) : rangeL lo 0 = [] := rfl
theorem frac_num (x : Rat) : ((x.num : Int) : Rat) = x * ((x.den : Int) : Rat) := by
  have h1 := Rat.num_divInt_den x
  rw [Rat.divInt_eq_div] at h1
  have h5 : (((x.den : Int)) : Rat) ≠ 0 := by simpa using x.den_nz
  rw [← h1]
  have key : ∀ (A B C : Rat), B ≠ 0 → C = A / B → A = C * B := by
    intro A B C h0 h
    subst h
    grind
  have := key x.num x.den (x.num / ((x.den : Int) : Rat)) h5 rfl
  rw [h1] at this ⊢
  exact this
section
variable {T : Tab}
theorem less_eq (hp : T.fn "_law_less" = some Pg.F_law_less) {n : Nat} (hn : 1 ≤ n) {x y : Rat} {k m : Nat} (hx : SzR k x) (hy : SzR m y) (hk : k + m < 7999) : evFn T n "_law_less" [fr x, fr y] = .ok (.bl (decide (x < y))) := by
  obtain ⟨n, rfl⟩ : ∃ m, n = m + 1 := ⟨n - 1, by omega⟩
  have m1 : mulOk x.num y.den = true := mulOk_of hx.1 hy.2 (by omega) (by omega)
  have m2 : mulOk y.num x.den = true := mulOk_of hy.1 hx.2 (by omega) (by omega)
  rw [go hp n _ rfl]
  simp [esc, escB, notVar, esc.escBs, isFresh, frV, lim_val, powOk, Pg.F_law_less, Pg.B_law_less, start0, fr, m1, m2, Rat.lt_iff]
theorem leN {P : Nat → Prop} {k : Nat} (h : ∀ n, P (n + k)) {m : Nat} (hm : k ≤ m) : P m := by
  have := h (m - k)
  rwa [Nat.sub_add_cancel hm] at this
theorem lowest_le (h0 : T.fn "_law_divisor" = some Pg.F_law_divisor) (h : T.fn "_law_lowest" = some Pg.F_law_lowest) {n : Nat} (hn : 2 ≤ n) {t b : Int} (hb : 0 < b) (bb : Bits 8000 b) : evFn T n "_law_lowest" [.int t, .int b] = .ok (fr (Rat.divInt t b)) :=
  leN (P := fun n => evFn T n "_law_lowest" [.int t, .int b] = .ok (fr (Rat.divInt t b))) (fun n => law_lowest_eq h0 h n hb bb) hn
theorem mulne {a b : Rat} (h : a ≠ 0) (h' : b ≠ 0) : a * b ≠ 0 := fun e => (Rat.mul_eq_zero.mp e).elim h h'
theorem div_of {a b c : Rat} (hb : b ≠ 0) (h : a = c * b) : a / b = c := by
  subst h
  grind
theorem at_poly {x l h o t X L H O U : Rat} (dx : X ≠ 0) (dl : L ≠ 0) (dh : H ≠ 0) (do_ : O ≠ 0) (dt : U ≠ 0) (hd : h - l ≠ 0) :
    (o * O * U * ((h * H * L - l * L * H) * X - (x * X * L - l * L * X) * H) + t * U * O * ((x * X * L - l * L * X) * H)) / (O * U * ((h * H * L - l * L * H) * X)) = o + (x - l) / (h - l) * (t - o) := by
  have e1 : h * H * L - l * L * H = (h - l) * (H * L) := by grind
  have e3 : (x - l) / (h - l) * (h - l) = x - l := by
    generalize h - l = d at *
    grind
  have e2 : x * X * L - l * L * X = (x - l) / (h - l) * (h - l) * (X * L) := by
    rw [e3]
    grind
  rw [e1, e2]
  clear e1 e2 e3
  generalize (x - l) / (h - l) = s
  generalize h - l = d at *
  refine div_of ?_ (by grind)
  exact mulne (mulne do_ dt) (mulne (mulne hd (mulne dh dl)) dx)
/-- the law's own way between two corners -/
theorem at_frac {x l h o t : Rat} (hlh : l < h) :
    Rat.divInt (o.num * t.den * ((h.num * l.den - l.num * h.den) * x.den - (x.num * l.den - l.num * x.den) * h.den) + t.num * o.den * ((x.num * l.den - l.num * x.den) * h.den)) (o.den * t.den * ((h.num * l.den - l.num * h.den) * x.den)) =
      o + (x - l) / (h - l) * (t - o) := by
  have nx := frac_num x
  have nl := frac_num l
  have nh := frac_num h
  have no := frac_num o
  have nt := frac_num t
  have dx : ((x.den : Int) : Rat) ≠ 0 := by simpa using x.den_nz
  have dl : ((l.den : Int) : Rat) ≠ 0 := by simpa using l.den_nz
  have dh : ((h.den : Int) : Rat) ≠ 0 := by simpa using h.den_nz
  have do_ : ((o.den : Int) : Rat) ≠ 0 := by simpa using o.den_nz
  have dt : ((t.den : Int) : Rat) ≠ 0 := by simpa using t.den_nz
  rw [Rat.divInt_eq_div]
  simp only [Rat.intCast_add, Rat.intCast_sub, Rat.intCast_mul, nx, nl, nh, no, nt]
  generalize ((x.den : Int) : Rat) = X at *
  generalize ((l.den : Int) : Rat) = L at *
  generalize ((h.den : Int) : Rat) = H at *
  generalize ((o.den : Int) : Rat) = O at *
  generalize ((t.den : Int) : Rat) = U at *
  have hd : h - l ≠ 0 := by clear nx nl nh no nt; grind
  clear nx nl nh no nt
  exact at_poly dx dl dh do_ dt hd
theorem long_pos {x l h : Rat} (hlh : l < h) : 0 < (h.num * l.den - l.num * h.den) * x.den := by
  have := (Rat.lt_iff l h).mp hlh
  exact Int.mul_pos (by omega) (den_pos x)
structure HasAt (T : Tab) : Prop where
  div : T.fn "_law_divisor" = some Pg.F_law_divisor
  low : T.fn "_law_lowest" = some Pg.F_law_lowest
  less : T.fn "_law_less" = some Pg.F_law_less
  at_ : T.fn "_law_at" = some Pg.F_law_at
theorem at_turn1 (h : HasAt T) {n : Nat} (hn : 2 ≤ n) {x l hh o t : Rat} {k : Nat} (hk : k < 500) (hx : SzR k x) (hl : SzR k l) (hhh : SzR k hh) (ho : SzR k o) (ht : SzR k t) (hlh : l < hh) (acc : List Rat) (ha : acc.length < lim) (a0 a1 a2 a6 a7 a8 a9 : Option (Fl × D)) :
    forB (orcOf T (evFn T n)) true [10, 11] Pg.LB_law_at_1 [10, 11, 12] [a0, a1, a2, some (.frz, .int ((x.num * l.den - l.num * x.den) * hh.den)), some (.frz, .int ((hh.num * l.den - l.num * hh.den) * x.den)), some (.own, .lst (acc.map fr)), a6, a7, a8, a9, none, none, none] (.tup [fr o, fr t]) =
      .ok ([a0, a1, a2, some (.frz, .int ((x.num * l.den - l.num * x.den) * hh.den)), some (.frz, .int ((hh.num * l.den - l.num * hh.den) * x.den)), some (.own, .lst ((acc ++ [o + (x - l) / (hh - l) * (t - o)]).map fr)), a6, a7, a8, a9, none, none, none], .nx) := by
  have lp := long_pos (x := x) hlh
  have bup : Bits (3 * k + 1) ((x.num * l.den - l.num * x.den) * hh.den) := (((hx.1.mul hl.2).sub (hl.1.mul hx.2)).mul hhh.2).mono (by omega)
  have blo : Bits (3 * k + 1) ((hh.num * l.den - l.num * hh.den) * x.den) := (((hhh.1.mul hl.2).sub (hl.1.mul hhh.2)).mul hx.2).mono (by omega)
  rw [← at_frac (x := x) (o := o) (t := t) hlh]
  have e := lowest_le h.div h.low hn (t := o.num * t.den * ((hh.num * l.den - l.num * hh.den) * x.den - (x.num * l.den - l.num * x.den) * hh.den) + t.num * o.den * ((x.num * l.den - l.num * x.den) * hh.den)) (b := o.den * t.den * ((hh.num * l.den - l.num * hh.den) * x.den))
    (Int.mul_pos (Int.mul_pos (den_pos o) (den_pos t)) lp) (((ho.2.mul ht.2).mul blo).mono (by omega))
  generalize (x.num * l.den - l.num * x.den) * hh.den = up at *
  generalize (hh.num * l.den - l.num * hh.den) * x.den = lo at *
  have m1 : mulOk o.num t.den = true := mulOk_of ho.1 ht.2 (by omega) (by omega)
  have m2 : mulOk (o.num * t.den) (lo - up) = true := mulOk_of (ho.1.mul ht.2) (blo.sub bup) (by omega) (by omega)
  have m3 : mulOk t.num o.den = true := mulOk_of ht.1 ho.2 (by omega) (by omega)
  have m4 : mulOk (t.num * o.den) up = true := mulOk_of (ht.1.mul ho.2) bup (by omega) (by omega)
  have m5 : mulOk o.den t.den = true := mulOk_of ho.2 ht.2 (by omega) (by omega)
  have m6 : mulOk (o.den * t.den) lo = true := mulOk_of (ho.2.mul ht.2) blo (by omega) (by omega)
  have hb := br_of h.low
  unfold lim at ha
  rw [forB_x]
  simp [esc, escB, notVar, esc.escBs, isFresh, frV, lim_val, powOk, Pg.LB_law_at_1, fr, m1, m2, m3, m4, m5, m6, hb, Pg.F_law_lowest, ha] at e ⊢
  simp [esc, escB, notVar, esc.escBs, isFresh, frV, lim_val, powOk, e, ha]
theorem at_loop1 (h : HasAt T) {n : Nat} (hn : 2 ≤ n) {x : Rat} {low high : Cor} {k : Nat} (hk : k < 500) (hx : SzR k x) (hl : SzC k low) (hh : SzC k high) (hlh : low.1 < high.1) (hlen : low.2.length < lim) (a0 a1 a2 a6 a8 : Option (Fl × D)) :
    exec (orcOf T (evFn T n)) Pg.L_law_at_1 [a0, a1, a2, some (.frz, .int ((x.num * low.1.den - low.1.num * x.den) * high.1.den)), some (.frz, .int ((high.1.num * low.1.den - low.1.num * high.1.den) * x.den)), some (.own, .lst []), a6, some (.frz, .tup (low.2.map fr)), a8, some (.frz, .tup (high.2.map fr)), none, none, none] =
      .ok ([a0, a1, a2, some (.frz, .int ((x.num * low.1.den - low.1.num * x.den) * high.1.den)), some (.frz, .int ((high.1.num * low.1.den - low.1.num * high.1.den) * x.den)), some (.own, .lst ((amidR low high x).map fr)), a6, some (.frz, .tup (low.2.map fr)), a8, some (.frz, .tup (high.2.map fr)), none, none, none], .nx) := by
  have e := (for_fold (o := orcOf T (evFn T n)) (tup := true) (is := [10, 11]) (it := .izip (.var 7) (.var 9)) (b := Pg.LB_law_at_1) (dead := [10, 11, 12]) (r := [a0, a1, a2, some (.frz, .int ((x.num * low.1.den - low.1.num * x.den) * high.1.den)), some (.frz, .int ((high.1.num * low.1.den - low.1.num * high.1.den) * x.den)), some (.own, .lst []), a6, some (.frz, .tup (low.2.map fr)), a8, some (.frz, .tup (high.2.map fr)), none, none, none]) (l := low.2.zip high.2)
    (fun p => .tup [fr p.1, fr p.2]) (fun acc => [a0, a1, a2, some (.frz, .int ((x.num * low.1.den - low.1.num * x.den) * high.1.den)), some (.frz, .int ((high.1.num * low.1.den - low.1.num * high.1.den) * x.den)), some (.own, .lst (acc.map fr)), a6, some (.frz, .tup (low.2.map fr)), a8, some (.frz, .tup (high.2.map fr)), none, none, none])
    (fun acc p => acc ++ [p.1 + (x - low.1) / (high.1 - low.1) * (p.2 - p.1)]) ([] : List Rat) (fun i acc => acc.length = i) (by simp [esc, escB, notVar, esc.escBs, isFresh, frV, lim_val, powOk, zipP_map]) (by simp [esc, escB, notVar, esc.escBs, isFresh, frV, lim_val, powOk]) rfl (fun i hi acc ha => by
      have hm := List.getElem_mem hi
      refine ⟨at_turn1 h hn hk hx hl.1 hh.1 (hl.2 _ (List.of_mem_zip hm).1) (hh.2 _ (List.of_mem_zip hm).2) hlh acc ?_ _ _ _ _ _ _ _, by simp [ha]⟩
      rw [List.length_zip] at hi
      omega)).1
  rw [foldl_app, List.nil_append] at e
  unfold Pg.L_law_at_1
  rw [e]
  simp [esc, escB, notVar, esc.escBs, isFresh, frV, lim_val, powOk, amidR]
theorem at_turn0 (h : HasAt T) {n : Nat} (hn : 2 ≤ n) {x : Rat} {p : List Cor} {k : Nat} (hk : k < 500) (hx : SzR k x) (hs : ∀ c ∈ p, SzC k c ∧ c.2.length < lim) (j : Nat) (hj : j + 1 < p.length) (hup : p[j].1 < p[j + 1].1) :
    forB (orcOf T (evFn T n)) false [2] Pg.LB_law_at_0 [2, 3, 4, 5, 6, 7, 8, 9, 10, 11, 12] [some (.frz, pathD p), some (.frz, fr x), none, none, none, none, none, none, none, none, none, none, none] (.int ((j + 1 : Nat) : Int)) =
      if p[j + 1].1 < x then .ok ([some (.frz, pathD p), some (.frz, fr x), none, none, none, none, none, none, none, none, none, none, none], .nx)
      else .ok ([some (.frz, pathD p), some (.frz, fr x), none, none, none, none, none, none, none, none, none, none, none], .ret true (.tup ((amidR p[j] p[j + 1] x).map fr))) := by
  have s0 := hs _ (List.getElem_mem (by omega : j < p.length))
  have s1 := hs _ (List.getElem_mem hj)
  have i1 : itemOf (pathD p) (.int ((j : Int) + 1)) = .ok (corD p[j + 1]) := by
    show ofO (atI (p.map corD) _) = _
    rw [atI_mapf corD (j := j + 1) (by omega) hj]
    rfl
  have i0 : itemOf (pathD p) (.int (j : Int)) = .ok (corD p[j]) := by
    show ofO (atI (p.map corD) _) = _
    rw [atI_mapf corD (j := j) (by omega) (by omega)]
    rfl
  have cj : ((j + 1 : Nat) : Int) - 1 = (j : Int) := by omega
  have e1 := less_eq h.less (n := n) (by omega) s1.1.1 hx (by omega)
  have b1 := br_of h.less
  have e2 := fun (a0 a1 a2 a6 a8 : Option (Fl × D)) => at_loop1 h hn hk hx s0.1 s1.1 hup s0.2 a0 a1 a2 a6 a8
  have u0 : ∀ c : Cor, corD c = .tup [fr c.1, .tup (c.2.map fr)] := fun _ => rfl
  generalize p[j] = low at *
  generalize p[j + 1] = high at *
  have m1 : mulOk x.num low.1.den = true := mulOk_of hx.1 s0.1.1.2 (by omega) (by omega)
  have m2 : mulOk low.1.num x.den = true := mulOk_of s0.1.1.1 hx.2 (by omega) (by omega)
  have m3 : mulOk (x.num * low.1.den - low.1.num * x.den) high.1.den = true := mulOk_of ((hx.1.mul s0.1.1.2).sub (s0.1.1.1.mul (hx.2.mono (Nat.le_refl _)))) s1.1.1.2 (by omega) (by omega)
  have m4 : mulOk high.1.num low.1.den = true := mulOk_of s1.1.1.1 s0.1.1.2 (by omega) (by omega)
  have m5 : mulOk low.1.num high.1.den = true := mulOk_of s0.1.1.1 s1.1.1.2 (by omega) (by omega)
  have m6 : mulOk (high.1.num * low.1.den - low.1.num * high.1.den) x.den = true := mulOk_of ((s1.1.1.1.mul s0.1.1.2).sub (s0.1.1.1.mul s1.1.1.2)) hx.2 (by omega) (by omega)
  rw [forB_x, show ((j + 1 : Nat) : Int) = (j : Int) + 1 from rfl]
  by_cases hc : high.1 < x
  · rw [if_pos hc]
    simp [esc, escB, notVar, esc.escBs, isFresh, frV, lim_val, powOk, Pg.LB_law_at_0, i1, e1, b1, Pg.F_law_less, hc]
  · rw [if_neg hc]
    simp [esc, escB, notVar, esc.escBs, isFresh, frV, lim_val, powOk, Pg.LB_law_at_0, i1, i0, e1, b1, Pg.F_law_less, hc, u0, m1, m2, m3, m4, m5, m6, e2]
theorem forL_at {f : Env → D → R (Env × Fw)} {env : Env} {p : List Cor} {x : Rat} (hf : ∀ j (hj : j + 1 < p.length), f env (.int ((j + 1 : Nat) : Int)) = if p[j + 1].1 < x then .ok (env, .nx) else .ok (env, .ret true (.tup ((amidR p[j] p[j + 1] x).map fr)))) :
    ∀ (m j : Nat) (hj : j < p.length), j + 1 + m = p.length → (forL f (rangeL ((j + 1 : Nat) : Int) m) env = .ok (env, .ret true (.tup ((atR (p.drop j) x).map fr)))) ∨ (forL f (rangeL ((j + 1 : Nat) : Int) m) env = .ok (env, .nx) ∧ ∃ c, p.getLast? = some c ∧ atR (p.drop j) x = c.2)
  | 0, j, hj, h => by
    right
    have hd : p.drop j = [p[j]] := by
      rw [List.drop_eq_getElem_cons hj, List.drop_eq_nil_of_le (by omega)]
    refine ⟨rfl, p[j], ?_, by rw [hd]; rfl⟩
    rw [List.getLast?_eq_getElem?, show p.length - 1 = j by omega, List.getElem?_eq_getElem hj]
  | m + 1, j, hj, h => by
    have hj1 : j + 1 < p.length := by omega
    have hd : p.drop j = p[j] :: p[j + 1] :: p.drop (j + 2) := by rw [List.drop_eq_getElem_cons hj, List.drop_eq_getElem_cons hj1]
    have hd1 : p.drop (j + 1) = p[j + 1] :: p.drop (j + 2) := List.drop_eq_getElem_cons hj1
    rw [rangeL_succ, forL_cons, hf j hj1]
    by_cases hc : p[j + 1].1 < x
    · rw [if_pos hc, forK_nx]
      have e : atR (p.drop j) x = atR (p.drop (j + 1)) x := by
        rw [hd, hd1, atR, if_pos hc]
      rw [e]
      exact forL_at hf m (j + 1) hj1 (by omega)
    · left
      have e : atR (p.drop j) x = amidR p[j] p[j + 1] x := by rw [hd, atR, if_neg hc]
      rw [if_neg hc, forK_ret, e]
/-- purses rise -/
def Up (p : List Cor) : Prop := p.Pairwise fun a b => a.1 < b.1
theorem Up.get {p : List Cor} (h : Up p) {i j : Nat} (hij : i < j) (hj : j < p.length) : (p[i]'(by omega)).1 < p[j].1 := List.pairwise_iff_getElem.mp h i j (by omega) hj hij
theorem law_at_eq (h : HasAt T) {n : Nat} (hn : 3 ≤ n) {x : Rat} {p : List Cor} {k : Nat} (hk : k < 500) (hx : SzR k x) (hs : ∀ c ∈ p, SzC k c ∧ c.2.length < lim) (hu : Up p) (h0 : p ≠ []) (hl : p.length < lim) :
    evFn T n "_law_at" [pathD p, fr x] = .ok (.tup ((atR p x).map fr)) := by
  obtain ⟨n, rfl⟩ : ∃ m, n = m + 1 := ⟨n - 1, by omega⟩
  have hp : 0 < p.length := List.length_pos_iff.mpr h0
  have hf := forL_at (x := x) (f := forB (orcOf T (evFn T n)) false [2] Pg.LB_law_at_0 [2, 3, 4, 5, 6, 7, 8, 9, 10, 11, 12]) (env := [some (.frz, pathD p), some (.frz, fr x), none, none, none, none, none, none, none, none, none, none, none]) (p := p)
    (fun j hj => at_turn0 h (by omega) hk hx hs j hj (hu.get (by omega) hj)) (p.length - 1) 0 hp (by omega)
  rw [List.drop_zero, show ((0 + 1 : Nat) : Int) = 1 from rfl] at hf
  have e1 : exec (orcOf T (evFn T n)) Pg.L_law_at_0 [some (.frz, pathD p), some (.frz, fr x), none, none, none, none, none, none, none, none, none, none, none] = forL (forB (orcOf T (evFn T n)) false [2] Pg.LB_law_at_0 [2, 3, 4, 5, 6, 7, 8, 9, 10, 11, 12]) (rangeL 1 (p.length - 1)) [some (.frz, pathD p), some (.frz, fr x), none, none, none, none, none, none, none, none, none, none, none] := by
    have r1 : rngOk 1 = true := rngOk_in (by decide) (by decide)
    have r2 : rngOk (p.length : Int) = true := rngOk_in (by omega) (by unfold lim at hl; omega)
    have lp : builtin "len" [pathD p] = .ok (.int p.length) := by simp [pathD]
    have t1 : ((p.length : Int) - 1).toNat = p.length - 1 := by omega
    unfold Pg.L_law_at_0
    rw [exec_for (xs := rangeL 1 (p.length - 1)) (by simp [esc, escB, notVar, esc.escBs, isFresh, frV, lim_val, powOk, lp, r1, r2, t1])]
    simp [esc, escB, notVar, esc.escBs, isFresh, frV, lim_val, powOk]
  rw [go h.at_ n _ rfl]
  rcases hf with hf | ⟨hf, c, hc, ha⟩
  · have hnl : D.noLA ((atR p x).map fr) = true := noLA_map fun a _ => fr_noL a
    rw [hf] at e1
    simp [esc, escB, notVar, esc.escBs, isFresh, frV, lim_val, powOk, Pg.F_law_at, Pg.B_law_at, start0, e1, hnl]
  · rw [hf] at e1
    have hnl : D.noLA (c.2.map fr) = true := noLA_map fun a _ => fr_noL a
    have i1 : itemOf (pathD p) (.int (-1)) = .ok (corD c) := by
      rw [List.getLast?_eq_getElem?] at hc
      obtain ⟨hlt, rfl⟩ := List.getElem?_eq_some_iff.mp hc
      show ofO (atI (p.map corD) (-1)) = _
      unfold atI ixN
      rw [if_neg (by decide), if_pos (by simp; omega)]
      have : (-1 + ((p.map corD).length : Int)).toNat = p.length - 1 := by
        rw [List.length_map]; omega
      rw [this]
      simp [List.getElem?_eq_getElem hlt]
    simp [esc, escB, notVar, esc.escBs, isFresh, frV, lim_val, powOk, Pg.F_law_at, Pg.B_law_at, start0, e1, i1, hnl, ha]
end
end Pu

/-! Paths as functions: plain mathematics. -/
namespace Pu
/-- a part of a list, 0 beyond -/
def nth (l : List Rat) (i : Nat) : Rat := l.getD i 0
def vv (c : Cor) (i : Nat) : Rat := nth c.2 i
theorem nth_ext {l m : List Rat} (h : l.length = m.length) (e : ∀ i, nth l i = nth m i) : l = m := by
  refine List.ext_getElem h fun i h1 h2 => ?_
  have := e i
  unfold nth at this
  rw [List.getD_eq_getElem?_getD, List.getD_eq_getElem?_getD, List.getElem?_eq_getElem h1, List.getElem?_eq_getElem h2] at this
  exact this
theorem nth_of {l : List Rat} {i : Nat} (h : l.length ≤ i) : nth l i = 0 := by
  unfold nth
  rw [List.getD_eq_getElem?_getD, List.getElem?_eq_none h]
  rfl
theorem nth_lt {l : List Rat} {i : Nat} (h : i < l.length) : nth l i = l[i] := by
  unfold nth
  rw [List.getD_eq_getElem?_getD, List.getElem?_eq_getElem h]
  rfl
theorem nth_zip (f : Rat → Rat → Rat) (h0 : f 0 0 = 0) {l m : List Rat} (h : l.length = m.length) (i : Nat) : nth ((l.zip m).map fun p => f p.1 p.2) i = f (nth l i) (nth m i) := by
  by_cases hi : i < l.length
  · rw [nth_lt (by simp; omega), nth_lt hi, nth_lt (by omega)]
    simp
  · rw [nth_of (by simp; omega), nth_of (by omega), nth_of (by omega), h0]
theorem amid_length (a c : Cor) (x : Rat) : (amidR a c x).length = min a.2.length c.2.length := by simp [amidR]
/-- the line through a and c, part i, at x -/
def ln (a c : Cor) (i : Nat) (x : Rat) : Rat := vv a i + (x - a.1) / (c.1 - a.1) * (vv c i - vv a i)
theorem nth_amid {a c : Cor} (h : a.2.length = c.2.length) (x : Rat) (i : Nat) : nth (amidR a c x) i = ln a c i x := by
  unfold amidR ln vv
  exact nth_zip (fun p q => p + (x - a.1) / (c.1 - a.1) * (q - p)) (by grind) h i
theorem ln_lo {a c : Cor} (i : Nat) : ln a c i a.1 = vv a i := by
  unfold ln
  grind
theorem ln_hi {a c : Cor} (h : a.1 < c.1) (i : Nat) : ln a c i c.1 = vv c i := by
  unfold ln
  have : c.1 - a.1 ≠ 0 := by grind
  generalize c.1 - a.1 = d at *
  grind
/-- lengths and rising purses -/
structure Pth (k : Nat) (p : List Cor) : Prop where
  up : Up p
  len : ∀ c ∈ p, c.2.length = k
theorem Pth.tail {k : Nat} {c : Cor} {p : List Cor} (h : Pth k (c :: p)) : Pth k p := ⟨(List.pairwise_cons.mp h.up).2, fun d hd => h.len d (List.mem_cons_of_mem _ hd)⟩
theorem Pth.lt {k : Nat} {c : Cor} {p : List Cor} (h : Pth k (c :: p)) {d : Cor} (hd : d ∈ p) : c.1 < d.1 := (List.pairwise_cons.mp h.up).1 d hd
theorem at_len {k : Nat} : ∀ {p : List Cor}, Pth k p → p ≠ [] → ∀ x, (atR p x).length = k
  | [c], h, _, x => h.len c List.mem_cons_self
  | c :: d :: r, h, _, x => by
    unfold atR
    by_cases q : d.1 < x
    · rw [if_pos q]; exact at_len h.tail (by simp) x
    · rw [if_neg q, amid_length, h.len c (by simp), h.len d (by simp), Nat.min_self]
/-- at the first corner's purse -/
theorem at_head {k : Nat} {c : Cor} {p : List Cor} (h : Pth k (c :: p)) : atR (c :: p) c.1 = c.2 := by
  cases p with
  | nil => rfl
  | cons d r =>
    have hcd := h.lt (d := d) (by simp)
    have l1 := h.len c (by simp)
    have l2 := h.len d (by simp)
    rw [atR, if_neg (by grind)]
    exact nth_ext (by rw [amid_length]; omega) fun i => by rw [nth_amid (by omega), ln_lo]; rfl
theorem at_second {k : Nat} {c d : Cor} {p : List Cor} (h : Pth k (c :: d :: p)) : atR (c :: d :: p) d.1 = d.2 := by
  have hcd := h.lt (d := d) (by simp)
  have l1 := h.len c (by simp)
  have l2 := h.len d (by simp)
  rw [atR, if_neg (by grind)]
  exact nth_ext (by rw [amid_length]; omega) fun i => by rw [nth_amid (by omega), ln_hi hcd]; rfl
theorem at_tail {k : Nat} {c d : Cor} {p : List Cor} (h : Pth k (c :: d :: p)) {x : Rat} (hx : d.1 ≤ x) : atR (c :: d :: p) x = atR (d :: p) x := by
  by_cases q : d.1 < x
  · rw [atR, if_pos q]
  · have : x = d.1 := by grind
    subst this
    rw [at_second h, at_head h.tail]
/-- at a corner -/
theorem at_mem {k : Nat} : ∀ {p : List Cor} {c : Cor}, Pth k p → c ∈ p → atR p c.1 = c.2
  | [a], c, h, hc => by
    have : c = a := by simpa using hc
    subst this; rfl
  | a :: b :: r, c, h, hc => by
    rcases List.mem_cons.mp hc with rfl | hc
    · exact at_head h
    · have hb : b.1 ≤ c.1 := by
        rcases List.mem_cons.mp hc with rfl | hc
        · exact Rat.le_refl
        · have := h.tail.lt hc
          grind
      rw [at_tail h hb]
      exact at_mem h.tail hc
/-- three on a line -/
def Col (k : Nat) (a b c : Cor) : Prop := ∀ i, i < k → vv b i = ln a c i b.1
theorem col_iff {k : Nat} {a b c : Cor} (ha : a.2.length = k) (hb : b.2.length = k) (hc : c.2.length = k) : amidR a c b.1 = b.2 ↔ Col k a b c := by
  constructor
  · intro e i _
    have := nth_amid (a := a) (c := c) (by omega) b.1 i
    rw [e] at this
    exact this
  · intro h
    refine nth_ext (by rw [amid_length]; omega) fun i => ?_
    rw [nth_amid (by omega)]
    by_cases hi : i < k
    · exact (h i hi).symm
    · have z1 : vv a i = 0 := nth_of (by omega)
      have z2 : vv c i = 0 := nth_of (by omega)
      rw [nth_of (l := b.2) (by omega)]
      unfold ln
      rw [z1, z2]
      grind
/-- straight lines: slopes -/
theorem line1 {t0 t1 t2 t3 y0 y1 y2 y3 : Rat} (h01 : t0 < t1) (h12 : t1 < t2) (h23 : t2 < t3) (e1 : y1 = y0 + (t1 - t0) / (t3 - t0) * (y3 - y0)) (e2 : y2 = y1 + (t2 - t1) / (t3 - t1) * (y3 - y1)) :
    y1 = y0 + (t1 - t0) / (t2 - t0) * (y2 - y0) := by
  have d1 : t3 - t0 ≠ 0 := by grind
  have d2 : t3 - t1 ≠ 0 := by grind
  have d3 : t2 - t0 ≠ 0 := by grind
  obtain ⟨m, hm⟩ : ∃ m, m = (y3 - y0) / (t3 - t0) := ⟨_, rfl⟩
  have q3 : y3 = y0 + m * (t3 - t0) := by
    rw [hm]
    clear e1 e2
    generalize t3 - t0 = d at *
    grind
  have q1 : y1 = y0 + m * (t1 - t0) := by
    rw [e1, q3]
    clear e1 e2 q3 hm
    have : (t1 - t0) / (t3 - t0) * (t3 - t0) = t1 - t0 := by generalize t3 - t0 = d at *; grind
    grind
  have q2 : y2 = y0 + m * (t2 - t0) := by
    have : (t2 - t1) / (t3 - t1) * (t3 - t1) = t2 - t1 := by generalize t3 - t1 = d at *; grind
    have e : y3 - y1 = m * (t3 - t1) := by rw [q3, q1]; grind
    rw [e2, e, q1]
    grind
  have : (t1 - t0) / (t2 - t0) * (t2 - t0) = t1 - t0 := by generalize t2 - t0 = d at *; grind
  rw [q1, q2]
  grind
/-- from outside: d, f both on the line c e -/
theorem line2 {t0 t1 t2 t3 y0 y1 y2 y3 : Rat} (h01 : t0 < t1) (h12 : t1 < t2) (h23 : t2 ≤ t3) (e1 : y1 = y0 + (t1 - t0) / (t3 - t0) * (y3 - y0)) (e2 : y2 = y0 + (t2 - t0) / (t3 - t0) * (y3 - y0)) :
    y1 = y0 + (t1 - t0) / (t2 - t0) * (y2 - y0) := by
  have d1 : t3 - t0 ≠ 0 := by grind
  have d3 : t2 - t0 ≠ 0 := by grind
  have q2 : (t2 - t0) / (t3 - t0) * (t3 - t0) = t2 - t0 := by generalize t3 - t0 = d at *; grind
  have q1 : (t1 - t0) / (t3 - t0) * (t3 - t0) = t1 - t0 := by generalize t3 - t0 = d at *; grind
  have q3 : (t1 - t0) / (t2 - t0) * (t2 - t0) = t1 - t0 := by generalize t2 - t0 = d at *; grind
  rw [e1, e2]
  generalize (t1 - t0) / (t3 - t0) = r1 at *
  generalize (t2 - t0) / (t3 - t0) = r2 at *
  generalize (t1 - t0) / (t2 - t0) = r3 at *
  have : r1 = r3 * r2 := by
    have h : (r1 - r3 * r2) * (t3 - t0) = 0 := by grind
    rcases Rat.mul_eq_zero.mp h with h | h
    · grind
    · exact absurd h d1
  rw [this]
  grind
/-- d on the line c e, e on the line d f -/
theorem line3 {t0 t1 t2 t3 y0 y1 y2 y3 : Rat} (h01 : t0 < t1) (h12 : t1 < t2) (h23 : t2 < t3) (e1 : y1 = y0 + (t1 - t0) / (t2 - t0) * (y2 - y0)) (e2 : y2 = y1 + (t2 - t1) / (t3 - t1) * (y3 - y1)) :
    y1 = y0 + (t1 - t0) / (t3 - t0) * (y3 - y0) := by
  have d1 : t2 - t0 ≠ 0 := by grind
  have d2 : t3 - t1 ≠ 0 := by grind
  have d3 : t3 - t0 ≠ 0 := by grind
  have d4 : t2 - t1 ≠ 0 := by grind
  obtain ⟨m, hm⟩ : ∃ m, m = (y2 - y0) / (t2 - t0) := ⟨_, rfl⟩
  have q2 : y2 = y0 + m * (t2 - t0) := by
    rw [hm]
    clear e1 e2
    generalize t2 - t0 = d at *
    grind
  have q1 : y1 = y0 + m * (t1 - t0) := by
    have : (t1 - t0) / (t2 - t0) * (t2 - t0) = t1 - t0 := by generalize t2 - t0 = d at *; grind
    rw [e1, q2]
    clear e1 e2 hm
    grind
  have q3 : y3 = y0 + m * (t3 - t0) := by
    have r : (t2 - t1) / (t3 - t1) * (t3 - t1) = t2 - t1 := by generalize t3 - t1 = d at *; grind
    generalize (t2 - t1) / (t3 - t1) = s at *
    have h : (t2 - t1) * (y3 - (y0 + m * (t3 - t0))) = 0 := by
      have : m * (t2 - t1) = s * (y3 - y1) := by grind
      have : m * (t2 - t1) * (t3 - t1) = (t2 - t1) * (y3 - y1) := by rw [this]; grind
      grind
    rcases Rat.mul_eq_zero.mp h with h | h
    · exact absurd h d4
    · grind
  have : (t1 - t0) / (t3 - t0) * (t3 - t0) = t1 - t0 := by generalize t3 - t0 = d at *; grind
  rw [q1, q3]
  grind
/-! ### thin -/
def Thin (k : Nat) : List Cor → Prop
  | a :: b :: c :: r => ¬ Col k a b c ∧ Thin k (b :: c :: r)
  | _ => True
theorem Thin.tail {k : Nat} {a : Cor} {p : List Cor} (h : Thin k (a :: p)) : Thin k p := by
  cases p with
  | nil => trivial
  | cons b r => cases r with
    | nil => trivial
    | cons c r => exact h.2
/-- two thin paths that agree at all corners are one -/
theorem thin_uniq {k : Nat} : ∀ (n : Nat) (p q : List Cor) (c : Cor), p.length + q.length ≤ n → Pth k (c :: p) → Pth k (c :: q) → Thin k (c :: p) → Thin k (c :: q) →
    ((c :: p).getLast (by simp)).1 = ((c :: q).getLast (by simp)).1 → (∀ d, d ∈ c :: p ∨ d ∈ c :: q → atR (c :: p) d.1 = atR (c :: q) d.1) → p = q := by
  intro n
  induction n with
  | zero =>
    intro p q c h _ _ _ _ _ _
    have h1 : p = [] := List.eq_nil_of_length_eq_zero (by omega)
    have h2 : q = [] := List.eq_nil_of_length_eq_zero (by omega)
    rw [h1, h2]
  | succ n ih =>
    intro p q c h hp hq tp tq hl he
    -- the case of a nearer second corner
    have near : ∀ (d e : Cor) (p q : List Cor), Pth k (c :: d :: p) → Pth k (c :: e :: q) → Thin k (c :: d :: p) → ((c :: d :: p).getLast (by simp)).1 = ((c :: e :: q).getLast (by simp)).1 →
        (∀ x, x ∈ c :: d :: p ∨ x ∈ c :: e :: q → atR (c :: d :: p) x.1 = atR (c :: e :: q) x.1) → d.1 < e.1 → False := by
      intro d e p q hp hq tp hl he hde
      have lc := hp.len c (by simp)
      have ld := hp.len d (by simp)
      have le := hq.len e (by simp)
      have hcd := hp.lt (d := d) (by simp)
      have hce := hq.lt (d := e) (by simp)
      have h1 : Col k c d e := by
        have := he d (.inl (by simp))
        rw [at_second hp, atR, if_neg (by grind)] at this
        exact (col_iff lc ld le).mp this.symm
      cases p with
      | nil =>
        have h2 : e.1 ≤ ((c :: e :: q).getLast (by simp)).1 := by
          have hm : (c :: e :: q).getLast (by simp) ∈ e :: q := by
            rw [List.getLast_cons (by simp)]
            exact List.getLast_mem _
          rcases List.mem_cons.mp hm with z | z
          · rw [z]; exact Rat.le_refl
          · have := hq.tail.lt z; grind
        rw [← hl] at h2
        have h3 : ((c :: [d]).getLast (by simp)) = d := rfl
        rw [h3] at h2
        grind
      | cons f r =>
        have lf := hp.len f (by simp)
        have hdf := hp.tail.lt (d := f) (by simp)
        refine tp.1 fun i hi => ?_
        have q1 := h1 i hi
        by_cases hfe : f.1 ≤ e.1
        · have h2 : Col k c f e := by
            have := he f (.inl (by simp))
            rw [at_tail hp (by grind), at_second hp.tail, atR, if_neg (by grind)] at this
            exact (col_iff lc lf le).mp this.symm
          exact line2 hcd hdf hfe q1 (h2 i hi)
        · have h2 : Col k d e f := by
            have := he e (.inr (by simp))
            rw [at_second hq, at_tail hp (by grind), atR, if_neg (by grind)] at this
            exact (col_iff ld le lf).mp this
          exact line3 hcd hde (by grind) q1 (h2 i hi)
    match p, q with
    | [], [] => rfl
    | [], e :: q =>
      exfalso
      have h1 : ((c :: e :: q).getLast (by simp)) ∈ e :: q := by
        rw [List.getLast_cons (by simp)]
        exact List.getLast_mem _
      have h2 := hq.lt h1
      rw [← hl] at h2
      have h3 : ([c].getLast (by simp)) = c := rfl
      rw [h3] at h2
      grind
    | d :: p, [] =>
      exfalso
      have h1 : ((c :: d :: p).getLast (by simp)) ∈ d :: p := by
        rw [List.getLast_cons (by simp)]
        exact List.getLast_mem _
      have h2 := hp.lt h1
      rw [hl] at h2
      have h3 : ([c].getLast (by simp)) = c := rfl
      rw [h3] at h2
      grind
    | d :: p, e :: q =>
      have hde : d.1 = e.1 := by
        by_cases h1 : d.1 < e.1
        · exact (near d e p q hp hq tp hl he h1).elim
        · by_cases h2 : e.1 < d.1
          · exact (near e d q p hq hp tq hl.symm (fun x hx => (he x hx.symm).symm) h2).elim
          · grind
      have hd2 : d.2 = e.2 := by
        have := he d (.inl (by simp))
        rw [at_second hp, hde, at_second hq] at this
        exact this
      have hd : d = e := Prod.ext hde hd2
      subst hd
      have := ih p q d (by simp at h; omega) hp.tail hq.tail tp.tail tq.tail (by rw [List.getLast_cons (l := d :: p) (by simp), List.getLast_cons (l := d :: q) (by simp)] at hl; exact hl) fun x hx => by
        have hx' : d.1 ≤ x.1 := by
          rcases hx with z | z
          · rcases List.mem_cons.mp z with z | z
            · rw [z]; exact Rat.le_refl
            · have := hp.tail.lt z; grind
          · rcases List.mem_cons.mp z with z | z
            · rw [z]; exact Rat.le_refl
            · have := hq.tail.lt z; grind
        have := he x (hx.imp (List.mem_cons_of_mem _) (List.mem_cons_of_mem _))
        rw [at_tail hp hx', at_tail hq hx'] at this
        exact this
      rw [this]
/-- straight where no corner lies between -/
theorem at_line {k : Nat} : ∀ {p : List Cor} {u v : Rat}, Pth k p → p ≠ [] → (∀ c ∈ p, ¬ (u < c.1 ∧ c.1 < v)) → (∃ c ∈ p, c.1 ≤ u) → u < v → ∀ x, u ≤ x → x ≤ v → ∀ i, nth (atR p x) i = nth (atR p u) i + (x - u) / (v - u) * (nth (atR p v) i - nth (atR p u) i)
  | [c], u, v, h, _, _, _, _, x, _, _, i => by
    show vv c i = vv c i + _ * (vv c i - vv c i)
    grind
  | c :: d :: r, u, v, h, _, hn, hc, huv, x, h1, h2, i => by
    have l1 := h.len c (by simp)
    have l2 := h.len d (by simp)
    have hcd := h.lt (d := d) (by simp)
    by_cases hd : d.1 ≤ u
    · rw [at_tail h (by grind), at_tail h hd, at_tail h (by grind)]
      exact at_line h.tail (by simp) (fun e he => hn e (List.mem_cons_of_mem _ he)) ⟨d, by simp, hd⟩ huv x h1 h2 i
    · have hdv : v ≤ d.1 := by
        have := hn d (by simp)
        grind
      rw [atR, if_neg (by grind), atR, if_neg (by grind), atR, if_neg (by grind), nth_amid (by omega), nth_amid (by omega), nth_amid (by omega)]
      unfold ln
      have d1 : d.1 - c.1 ≠ 0 := by grind
      have d2 : v - u ≠ 0 := by grind
      generalize vv c i = y
      generalize vv d i - y = w
      have e2 : (x - u) / (v - u) * (v - u) = x - u := by generalize v - u = z at *; grind
      have e1 : ∀ s : Rat, (s - c.1) / (d.1 - c.1) = (s - c.1) * (d.1 - c.1)⁻¹ := fun s => Rat.div_def _ _
      rw [e1, e1, e1]
      generalize (d.1 - c.1)⁻¹ = m
      generalize (x - u) / (v - u) = s at *
      have : x = u + s * (v - u) := by grind
      rw [this]
      grind
/-- behind the last corner -/
theorem at_last {k : Nat} : ∀ {p : List Cor} (h : Pth k p) (h0 : p ≠ []) {x : Rat}, (p.getLast h0).1 ≤ x → atR p x = (p.getLast h0).2
  | [c], h, _, x, hx => rfl
  | c :: d :: r, h, _, x, hx => by
    rw [List.getLast_cons (by simp)] at hx ⊢
    have hd : d.1 ≤ x := by
      have hm : (d :: r).getLast (by simp) ∈ d :: r := List.getLast_mem _
      rcases List.mem_cons.mp hm with z | z
      · rw [z] at hx; exact hx
      · have := h.tail.lt z; grind
    rw [at_tail h hd]
    exact at_last h.tail (by simp) hx
/-- the program's thinning is thin -/
def ThinA (k : Nat) : List Cor → Prop
  | c :: b :: a :: r => ¬ Col k a b c ∧ ThinA k (b :: a :: r)
  | _ => True
theorem ThinA.tail {k : Nat} {a : Cor} {p : List Cor} (h : ThinA k (a :: p)) : ThinA k p := by
  cases p with
  | nil => trivial
  | cons b r => cases r with
    | nil => trivial
    | cons c r => exact h.2
def Dn (p : List Cor) : Prop := p.Pairwise fun a b => b.1 < a.1
theorem stepT_thin {k : Nat} {acc : List Cor} {c : Cor} (hl : ∀ a ∈ acc, a.2.length = k) (hc : c.2.length = k) (hd : Dn (c :: acc)) (ht : ThinA k acc) : ThinA k (stepT acc c) ∧ Dn (stepT acc c) ∧ ∀ a ∈ stepT acc c, a.2.length = k := by
  refine ⟨?_, ?_, fun a ha => ?_⟩
  · match acc, hl, hd, ht with
    | [], _, _, _ => trivial
    | [b], _, _, _ => trivial
    | b :: a :: rest, hl, hd, ht =>
      have la := hl a (by simp)
      have lb := hl b (by simp)
      show ThinA k (if amidR a c b.1 = b.2 then c :: a :: rest else c :: b :: a :: rest)
      by_cases q : amidR a c b.1 = b.2
      · rw [if_pos q]
        have q' := (col_iff la lb hc).mp q
        cases rest with
        | nil => trivial
        | cons z rest =>
          refine ⟨fun w => ht.1 fun i hi => ?_, ht.tail⟩
          have d1 := List.pairwise_cons.mp hd
          have d2 := List.pairwise_cons.mp d1.2
          have d3 := List.pairwise_cons.mp d2.2
          exact line1 (d3.1 z (by simp)) (d2.1 a (by simp)) (d1.1 b (by simp)) (w i hi) (q' i hi)
      · rw [if_neg q]
        exact ⟨fun w => q ((col_iff la lb hc).mpr w), ht⟩
  · match acc, hd with
    | [], hd => exact hd
    | [b], hd => exact hd
    | b :: a :: rest, hd =>
      show Dn (if amidR a c b.1 = b.2 then c :: a :: rest else c :: b :: a :: rest)
      by_cases q : amidR a c b.1 = b.2
      · rw [if_pos q]
        exact hd.sublist (.cons_cons _ (.cons _ (List.Sublist.refl _)))
      · rw [if_neg q]; exact hd
  · rcases stepT_sub ha with rfl | ha
    · exact hc
    · exact hl a ha
theorem stepT_head (acc : List Cor) (c : Cor) : ∃ t, stepT acc c = c :: t ∧ ∀ a ∈ t, a ∈ acc := by
  unfold stepT
  split
  · split
    · exact ⟨_, rfl, fun x hx => List.mem_cons_of_mem _ hx⟩
    · exact ⟨_, rfl, fun x hx => hx⟩
  · exact ⟨_, rfl, fun x hx => hx⟩
theorem thinA_thin {k : Nat} : ∀ (p acc : List Cor), (∀ a ∈ acc, a.2.length = k) → Pth k p → (∀ a ∈ acc, ∀ b ∈ p, a.1 < b.1) → Dn acc → ThinA k acc → ThinA k (thinA acc p) ∧ Dn (thinA acc p) ∧ ∀ a ∈ thinA acc p, a.2.length = k
  | [], acc, hl, _, _, hd, ht => ⟨ht, hd, hl⟩
  | c :: p, acc, hl, hp, hb, hd, ht => by
    obtain ⟨h1, h2, h3⟩ := stepT_thin hl (hp.len c List.mem_cons_self) (List.pairwise_cons.mpr ⟨fun a ha => hb a ha c List.mem_cons_self, hd⟩) ht
    refine thinA_thin p (stepT acc c) h3 hp.tail (fun a ha b hbp => ?_) h2 h1
    rcases stepT_sub ha with rfl | ha
    · exact hp.lt hbp
    · exact hb a ha b (List.mem_cons_of_mem _ hbp)
theorem thin_rev {k : Nat} : ∀ (p q : List Cor), ThinA k p → Thin k q → (∀ a b r s t, p = a :: b :: r → q = s :: t → ¬ Col k b a s) → (∀ a r s t u, p = a :: r → q = s :: t :: u → ¬ Col k a s t) → Thin k (p.reverse ++ q)
  | [], q, _, hq, _, _ => hq
  | a :: p, q, hp, hq, h1, h2 => by
    rw [List.reverse_cons, List.append_assoc]
    refine thin_rev p (a :: q) hp.tail ?_ (fun b c r s t e1 e2 => ?_) (fun b r s t u e1 e2 => ?_)
    · match q, hq, h2 with
      | [], _, _ => trivial
      | [s], _, _ => trivial
      | s :: t :: u, hq, h2 => exact ⟨h2 a p s t u rfl rfl, hq⟩
    · cases e2
      subst e1
      exact hp.1
    · cases e2
      subst e1
      exact h1 a b r t u rfl rfl
theorem thinR_thin {k : Nat} {p : List Cor} (hp : Pth k p) : Thin k (thinR p) ∧ Pth k (thinR p) := by
  obtain ⟨h1, h2, h3⟩ := thinA_thin p [] (fun _ z => by cases z) hp (fun _ z => by cases z) List.Pairwise.nil trivial
  unfold thinR
  refine ⟨?_, ?_, fun c hc => h3 c (List.mem_reverse.mp hc)⟩
  · have := thin_rev (thinA [] p) [] h1 trivial (fun a b r s t _ e => by cases e) (fun a r s t u _ e => by cases e)
    rwa [List.append_nil] at this
  · show Up _
    unfold Up
    rw [List.pairwise_reverse]
    exact h2
end Pu

/-! parts_at, put_in, parted. -/
namespace Pu
theorem cut_from {α : Type} (ns : List α) (k : Nat) : cut ns (some (k : Int)) none = ns.drop k := by
  unfold cut sIx
  by_cases h : k ≤ ns.length
  · simp [Nat.min_eq_left h, List.take_of_length_le]
  · simp [Nat.min_eq_right (Nat.le_of_lt (Nat.lt_of_not_le h)), List.drop_eq_nil_of_le (Nat.le_of_lt (Nat.lt_of_not_le h))]
def below (L : List Rat) (x : Rat) : Nat := (L.takeWhile fun y => decide (y < x)).length
theorem below_nil (x : Rat) : below [] x = 0 := rfl
theorem below_cons (y : Rat) (r : List Rat) (x : Rat) : below (y :: r) x = if y < x then below r x + 1 else 0 := by
  unfold below
  rw [List.takeWhile_cons]
  by_cases h : y < x
  · rw [if_pos h, if_pos (decide_eq_true h)]; rfl
  · rw [if_neg h, if_neg (by simpa using h)]; rfl
theorem below_le : ∀ (L : List Rat) (x : Rat), below L x ≤ L.length
  | [], _ => Nat.le_refl _
  | y :: r, x => by
    have := below_le r x
    rw [below_cons]
    split
    · rw [List.length_cons]; omega
    · omega
theorem below_lt : ∀ {L : List Rat} {x : Rat} {j : Nat} (h : j < below L x) (h' : j < L.length), L[j] < x
  | y :: r, x, j, h, h' => by
    rw [below_cons] at h
    split at h
    · rename_i hy
      cases j with
      | zero => exact hy
      | succ j => exact below_lt (L := r) (by omega) _
    · omega
theorem below_at : ∀ {L : List Rat} {x : Rat} (h : below L x < L.length), ¬ L[below L x] < x
  | y :: r, x, h => by
    by_cases hy : y < x
    · have e : below (y :: r) x = below r x + 1 := by rw [below_cons, if_pos hy]
      have h2 : below r x < r.length := by rw [e] at h; simpa using h
      have := below_at h2
      simp only [e, List.getElem_cons_succ]
      exact this
    · have e : below (y :: r) x = 0 := by rw [below_cons, if_neg hy]
      simp only [e, List.getElem_cons_zero]
      exact hy
/-- one more, each once -/
def insR (L : List Rat) (x : Rat) : List Rat := if L[below L x]? = some x then L else L.take (below L x) ++ [x] ++ L.drop (below L x)
theorem insR_nil (x : Rat) : insR [] x = [x] := rfl
theorem insR_cons (y : Rat) (r : List Rat) (x : Rat) : insR (y :: r) x = if y < x then y :: insR r x else if y = x then y :: r else x :: y :: r := by
  unfold insR
  rw [below_cons]
  by_cases h : y < x
  · rw [if_pos h, if_pos h]
    by_cases q : r[below r x]? = some x
    · rw [if_pos (by simpa using q), if_pos q]
    · rw [if_neg (by simpa using q), if_neg q]
      simp
  · rw [if_neg h, if_neg h]
    by_cases q : y = x
    · rw [if_pos (by simp [q]), if_pos q]
    · rw [if_neg (by simp [q]), if_neg q]
      simp
theorem insR_mem : ∀ {L : List Rat} {x y : Rat}, y ∈ insR L x ↔ y ∈ L ∨ y = x
  | [], x, y => by simp [insR_nil]
  | z :: r, x, y => by
    rw [insR_cons]
    by_cases h : z < x
    · rw [if_pos h, List.mem_cons, insR_mem, List.mem_cons]
      exact ⟨fun h => h.elim (fun h => .inl (.inl h)) fun h => h.elim (fun h => .inl (.inr h)) .inr, fun h => h.elim (fun h => h.elim .inl fun h => .inr (.inl h)) fun h => .inr (.inr h)⟩
    · rw [if_neg h]
      by_cases q : z = x
      · rw [if_pos q, List.mem_cons]
        exact ⟨.inl, fun h => h.elim id fun h => .inl (by rw [h, q])⟩
      · rw [if_neg q, List.mem_cons]
        exact ⟨fun h => h.elim .inr .inl, fun h => h.elim .inr .inl⟩
def Srt (L : List Rat) : Prop := L.Pairwise (· < ·)
theorem insR_srt : ∀ {L : List Rat} {x : Rat}, Srt L → Srt (insR L x)
  | [], x, _ => by rw [insR_nil]; exact List.pairwise_singleton _ _
  | z :: r, x, h => by
    have h' := List.pairwise_cons.mp h
    rw [insR_cons]
    by_cases q : z < x
    · rw [if_pos q]
      refine List.pairwise_cons.mpr ⟨fun y hy => ?_, insR_srt h'.2⟩
      rcases insR_mem.mp hy with hy | rfl
      · exact h'.1 y hy
      · exact q
    · rw [if_neg q]
      by_cases e : z = x
      · rw [if_pos e]; exact h
      · rw [if_neg e]
        refine List.pairwise_cons.mpr ⟨fun y hy => ?_, h⟩
        rcases List.mem_cons.mp hy with rfl | hy
        · grind
        · have := h'.1 y hy; grind
theorem insR_length (L : List Rat) (x : Rat) : (insR L x).length ≤ L.length + 1 := by
  unfold insR
  split
  · omega
  · simp only [List.length_append, List.length_take, List.length_drop, List.length_cons, List.length_nil]
    omega
section
variable {T : Tab}
structure HasParts (T : Tab) : Prop extends HasPath T where
  before : T.fn "before" = some Pg.F_before
  parts_at : T.fn "parts_at" = some Pg.F_parts_at
  nothing : T.glob "NOTHING" = some (.tup [.int 0, .int 1])
theorem before_le (hp : T.fn "before" = some Pg.F_before) {n : Nat} (hn : 1 ≤ n) {x y : Rat} {k m : Nat} (hx : SzR k x) (hy : SzR m y) (hk : k + m < 7999) : evFn T n "before" [fr x, fr y] = .ok (.bl (decide (x < y))) :=
  leN (P := fun n => evFn T n "before" [fr x, fr y] = .ok (.bl (decide (x < y)))) (fun n => before_eq hp n hx hy hk) hn
theorem amid_le (h : HasPath T) {n : Nat} (hn : 4 ≤ n) {low high : Cor} {x : Rat} {k : Nat} (hk : k < 1000) (hl : SzC k low) (hh : SzC k high) (hx : SzR k x) (hne : high.1 ≠ low.1) (hlen : low.2.length ≤ lim) :
    evFn T n "amid" [corD low, corD high, fr x] = .ok (.tup ((amidR low high x).map fr)) :=
  leN (P := fun n => evFn T n "amid" [corD low, corD high, fr x] = .ok (.tup ((amidR low high x).map fr))) (fun n => amid_eq h n hk hl hh hx hne hlen) hn
theorem item_path {p : List Cor} {j : Nat} (hj : j < p.length) : itemOf (pathD p) (.int (j : Int)) = .ok (corD p[j]) := by
  show ofO (atI (p.map corD) _) = _
  rw [atI_mapf corD (j := j) rfl hj]
  rfl
theorem item_path_last {p : List Cor} (h0 : p ≠ []) : itemOf (pathD p) (.int (-1)) = .ok (corD (p.getLast h0)) := by
  obtain ⟨q, L, rfl⟩ : ∃ q L, p = q ++ [L] := ⟨p.dropLast, p.getLast h0, (List.dropLast_concat_getLast h0).symm⟩
  have := atI_last (xs := q.map corD) (y := corD L)
  simp [pathD, this]
theorem parts_turn (h : HasParts T) {n : Nat} (hn : 4 ≤ n) {x : Rat} {p : List Cor} {k : Nat} (hk : k < 1000) (hx : SzR k x) (hs : ∀ c ∈ p, SzC k c ∧ c.2.length < lim) (j : Nat) (hj : j + 1 < p.length) (hup : p[j].1 < p[j + 1].1) :
    forB (orcOf T (evFn T n)) false [2] Pg.LB_parts_at_0 [2] [some (.frz, pathD p), some (.frz, fr x), none] (.int ((j + 1 : Nat) : Int)) =
      if p[j + 1].1 < x then .ok ([some (.frz, pathD p), some (.frz, fr x), none], .nx)
      else .ok ([some (.frz, pathD p), some (.frz, fr x), none], .ret true (.tup ((amidR p[j] p[j + 1] x).map fr))) := by
  have s0 := hs _ (List.getElem_mem (by omega : j < p.length))
  have s1 := hs _ (List.getElem_mem hj)
  have i1 : itemOf (pathD p) (.int ((j : Int) + 1)) = .ok (corD p[j + 1]) := item_path (j := j + 1) hj
  have i0 := item_path (p := p) (j := j) (by omega)
  have e1 := before_le h.before (n := n) (by omega) s1.1.1 hx (by omega)
  have b1 := br_of h.before
  have b2 := br_of h.amid
  have b3 := fr_of h.amid
  have e2 := amid_le h.toHasPath hn hk s0.1 s1.1 hx (by grind) (by omega)
  generalize p[j] = low at *
  generalize p[j + 1] = high at *
  rw [forB_x, show ((j + 1 : Nat) : Int) = (j : Int) + 1 from rfl]
  by_cases hc : high.1 < x
  · rw [if_pos hc]
    simp [esc, escB, notVar, esc.escBs, isFresh, frV, lim_val, powOk, Pg.LB_parts_at_0, i1, e1, b1, Pg.F_before, hc]
  · rw [if_neg hc]
    simp [esc, escB, notVar, esc.escBs, isFresh, frV, lim_val, powOk, Pg.LB_parts_at_0, i1, i0, e1, e2, b1, b2, b3, Pg.F_before, Pg.F_amid, hc]
@[simp] theorem orc_glob' {call : String → List D → R D} : (orcOf T call).glob = T.glob := (rfl)
theorem szR_zero {k : Nat} (h : 1 ≤ k) : SzR k 0 := SzR.mono (k := 1) (.lit (by decide)) h
theorem parts_le (h : HasParts T) {n : Nat} (hn : 5 ≤ n) {x : Rat} {p : List Cor} {k : Nat} (hk : k < 1000) (hk1 : 1 ≤ k) (hx : SzR k x) (hs : ∀ c ∈ p, SzC k c ∧ c.2.length < lim) (hu : Up p) (h0 : p ≠ []) (hl : p.length < lim) (hx0 : 0 ≤ x) :
    evFn T n "parts_at" [pathD p, fr x] = .ok (.tup ((atR p x).map fr)) := by
  obtain ⟨n, rfl⟩ : ∃ m, n = m + 1 := ⟨n - 1, by omega⟩
  have hp : 0 < p.length := List.length_pos_iff.mpr h0
  have hf := forL_at (x := x) (f := forB (orcOf T (evFn T n)) false [2] Pg.LB_parts_at_0 [2]) (env := [some (.frz, pathD p), some (.frz, fr x), none]) (p := p)
    (fun j hj => parts_turn h (by omega) hk hx hs j hj (hu.get (by omega) hj)) (p.length - 1) 0 hp (by omega)
  rw [List.drop_zero, show ((0 + 1 : Nat) : Int) = 1 from rfl] at hf
  have e1 : exec (orcOf T (evFn T n)) Pg.L_parts_at_0 [some (.frz, pathD p), some (.frz, fr x), none] = forL (forB (orcOf T (evFn T n)) false [2] Pg.LB_parts_at_0 [2]) (rangeL 1 (p.length - 1)) [some (.frz, pathD p), some (.frz, fr x), none] := by
    have r1 : rngOk 1 = true := rngOk_in (by decide) (by decide)
    have r2 : rngOk (p.length : Int) = true := rngOk_in (by omega) (by unfold lim at hl; omega)
    have lp : builtin "len" [pathD p] = .ok (.int p.length) := by simp [pathD]
    have t1 : ((p.length : Int) - 1).toNat = p.length - 1 := by omega
    unfold Pg.L_parts_at_0
    rw [exec_for (xs := rangeL 1 (p.length - 1)) (by simp [esc, escB, notVar, esc.escBs, isFresh, frV, lim_val, powOk, lp, r1, r2, t1])]
    simp [esc, escB, notVar, esc.escBs, isFresh, frV, lim_val, powOk]
  have e0 := before_le h.before (n := n) (by omega) hx (szR_zero hk1) (by omega)
  have z0 : D.tup [.int 0, .int 1] = fr 0 := rfl
  have b1 := br_of h.before
  have nx : ¬ x < 0 := by grind
  rw [go h.parts_at n _ rfl]
  rcases hf with hf | ⟨hf, c, hc, ha⟩
  · have hnl : D.noLA ((atR p x).map fr) = true := noLA_map fun a _ => fr_noL a
    rw [hf] at e1
    simp [esc, escB, notVar, esc.escBs, isFresh, frV, lim_val, powOk, Pg.F_parts_at, Pg.B_parts_at, start0, e1, hnl, h.nothing, z0, e0, nx, b1, Pg.F_before]
  · rw [hf] at e1
    have hnl : D.noLA (c.2.map fr) = true := noLA_map fun a _ => fr_noL a
    have i1 := item_path_last h0
    have hc' : p.getLast h0 = c := by
      rw [List.getLast?_eq_some_getLast h0] at hc
      exact Option.some.inj hc
    rw [hc'] at i1
    simp [esc, escB, notVar, esc.escBs, isFresh, frV, lim_val, powOk, Pg.F_parts_at, Pg.B_parts_at, start0, e1, i1, hnl, ha, h.nothing, z0, e0, nx, b1, Pg.F_before]
theorem parts_neg (h : HasParts T) {n : Nat} (hn : 2 ≤ n) {x : Rat} {k : Nat} (hk : k < 7000) (hx : SzR k x) (hx0 : x < 0) (d : D) :
    evFn T n "parts_at" [d, fr x] = .exc "NoPurse" .non := by
  obtain ⟨n, rfl⟩ : ∃ m, n = m + 1 := ⟨n - 1, by omega⟩
  have e0 := before_le h.before (n := n) (by omega) hx (szR_zero (k := 1) (by omega)) (by omega)
  have z0 : D.tup [.int 0, .int 1] = fr 0 := rfl
  have b1 := br_of h.before
  rw [go h.parts_at n _ rfl]
  simp [esc, escB, notVar, esc.escBs, isFresh, frV, lim_val, powOk, Pg.F_parts_at, Pg.B_parts_at, start0, h.nothing, z0, e0, hx0, b1, Pg.F_before]
structure HasPut (T : Tab) : Prop where
  before : T.fn "before" = some Pg.F_before
  put_in : T.fn "put_in" = some Pg.F_put_in
theorem put_loop (h : HasPut T) {n : Nat} (hn : 1 ≤ n) {x : Rat} {L : List Rat} {k : Nat} (hk : k < 3000) (hx : SzR k x) (hs : ∀ y ∈ L, SzR k y) : ∀ (m i : Nat), i + m = below L x →
    exec (orcOf T (evFn T n)) Pg.L_put_in_0 [some (.frz, .lst (L.map fr)), some (.frz, fr x), some (.frz, .int i)] = .ok ([some (.frz, .lst (L.map fr)), some (.frz, fr x), some (.frz, .int (below L x))], .nx) := by
  have b1 := br_of h.before
  intro m
  induction m with
  | zero =>
    intro i hi
    have hi : i = below L x := by omega
    subst hi
    by_cases hlt : below L x < L.length
    · have i1 := atI_mapf fr (l := L) (i := (below L x : Int)) rfl hlt
      have e1 := before_le h.before hn (hs _ (List.getElem_mem hlt)) hx (by omega)
      have q := below_at hlt
      unfold Pg.L_put_in_0
      refine (whl_f ?_).trans ?_ <;> simp [esc, escB, notVar, esc.escBs, isFresh, frV, lim_val, powOk, hlt, i1, e1, q, b1, Pg.F_before]
    · unfold Pg.L_put_in_0
      refine (whl_f ?_).trans ?_ <;> simp [esc, escB, notVar, esc.escBs, isFresh, frV, lim_val, powOk, hlt, b1, Pg.F_before]
  | succ m ih =>
    intro i hi
    have hb := below_le L x
    have hlt : i < L.length := by omega
    have i1 := atI_mapf fr (l := L) (i := (i : Int)) rfl hlt
    have e1 := before_le h.before hn (hs _ (List.getElem_mem hlt)) hx (by omega)
    have q := below_lt (L := L) (x := x) (j := i) (by omega) hlt
    have := ih (i + 1) (by omega)
    unfold Pg.L_put_in_0 at this ⊢
    refine (whl_t (r' := [some (.frz, .lst (L.map fr)), some (.frz, fr x), some (.frz, .int ((i + 1 : Nat) : Int))]) ?_ ?_).trans ?_
    · simp [esc, escB, notVar, esc.escBs, isFresh, frV, lim_val, powOk, hlt, i1, e1, q, b1, Pg.F_before]
    · simp [esc, escB, notVar, esc.escBs, isFresh, frV, lim_val, powOk, Pg.LB_put_in_0, b1, Pg.F_before]
    · exact this
theorem put_le (h : HasPut T) {n : Nat} (hn : 2 ≤ n) {x : Rat} {L : List Rat} {k : Nat} (hk : k < 3000) (hx : SzR k x) (hs : ∀ y ∈ L, SzR k y) (hl : L.length < lim) :
    evFn T n "put_in" [.lst (L.map fr), fr x] = .ok (.lst ((insR L x).map fr)) := by
  obtain ⟨n, rfl⟩ : ∃ m, n = m + 1 := ⟨n - 1, by omega⟩
  have e0 := put_loop h (n := n) (by omega) hk hx hs (below L x) 0 (by omega)
  have e0 : exec (orcOf T (evFn T n)) Pg.L_put_in_0 [some (.frz, .lst (L.map fr)), some (.frz, fr x), some (.frz, .int 0)] = _ := e0
  have b1 := br_of h.before
  have c1 : cut (L.map fr) none (some (below L x : Int)) = (L.take (below L x)).map fr := by rw [cut_to, List.map_take]
  have c2 : cut (L.map fr) (some (below L x : Int)) none = (L.drop (below L x)).map fr := by rw [cut_from, List.map_drop]
  have hb := below_le L x
  unfold lim at hl
  rw [go h.put_in n _ rfl]
  by_cases hlt : below L x < L.length
  · have i1 := atI_mapf fr (l := L) (i := (below L x : Int)) rfl hlt
    by_cases q : L[below L x] = x
    · have : insR L x = L := by
        unfold insR
        rw [if_pos (by rw [List.getElem?_eq_getElem hlt, q])]
      rw [this]
      simp [esc, escB, notVar, esc.escBs, isFresh, frV, lim_val, powOk, Pg.F_put_in, Pg.B_put_in, start0, e0, hlt, i1, fr_eq, q]
    · have : insR L x = L.take (below L x) ++ [x] ++ L.drop (below L x) := by
        unfold insR
        rw [if_neg (by rw [List.getElem?_eq_getElem hlt]; simpa using q)]
      rw [this]
      have l1 : min (below L x) L.length + 1 ≤ 16777216 := by omega
      have l2 : min (below L x) L.length + 1 + (L.length - below L x) ≤ 16777216 := by omega
      simp [esc, escB, notVar, esc.escBs, isFresh, frV, lim_val, powOk, Pg.F_put_in, Pg.B_put_in, start0, e0, hlt, i1, fr_eq, q, c1, c2, l1, l2]
  · have : insR L x = L.take (below L x) ++ [x] ++ L.drop (below L x) := by
      unfold insR
      rw [if_neg (by rw [List.getElem?_eq_none (by omega)]; simp)]
    rw [this]
    have l1 : min (below L x) L.length + 1 ≤ 16777216 := by omega
    have l2 : min (below L x) L.length + 1 + (L.length - below L x) ≤ 16777216 := by omega
    simp [esc, escB, notVar, esc.escBs, isFresh, frV, lim_val, powOk, Pg.F_put_in, Pg.B_put_in, start0, e0, hlt, c1, c2, l1, l2]
/-! ### parted -/
/-- the first place at which two lists are unlike -/
def diff : List Rat → List Rat → Option Nat
  | a :: l, b :: m => if a = b then (diff l m).map (· + 1) else some 0
  | _, _ => none
theorem diff_none : ∀ {l m : List Rat}, l.length = m.length → (diff l m = none ↔ l = m)
  | [], [], _ => by simp [diff]
  | [], _ :: _, h => by simp at h
  | _ :: _, [], h => by simp at h
  | a :: l, b :: m, h => by
    have ih := diff_none (l := l) (m := m) (by simpa using h)
    unfold diff
    by_cases q : a = b
    · rw [if_pos q, Option.map_eq_none_iff, ih]
      simp [q]
    · rw [if_neg q]
      simp [q]
theorem diff_some : ∀ {l m : List Rat} {i : Nat}, diff l m = some i → ∃ (h : i < l.length) (h' : i < m.length), l[i] ≠ m[i]
  | a :: l, b :: m, i, h => by
    unfold diff at h
    by_cases q : a = b
    · rw [if_pos q] at h
      obtain ⟨j, hj, rfl⟩ := Option.map_eq_some_iff.mp h
      obtain ⟨h1, h2, h3⟩ := diff_some hj
      exact ⟨by simpa using h1, by simpa using h2, by simpa using h3⟩
    · rw [if_neg q] at h
      cases h
      exact ⟨by simp, by simp, by simpa using q⟩
  | [], _, i, h => by simp [diff] at h
  | _ :: _, [], i, h => by simp [diff] at h
def partR (p q : List Cor) : Rat → List Rat → Option (Rat × Rat × Nat)
  | _, [] => none
  | held, x :: r => match diff (atR p x) (atR q x) with
    | some i => some (held, x, i)
    | none => partR p q x r
theorem diff_loop (o : Orc) (a0 a1 a2 a3 : Option (Fl × D)) (hd x : D) (u v : List Rat) (huv : u.length = v.length) : ∀ (m j : Nat), j + m = u.length →
    forL (forB o false [8] Pg.LB_parted_2 [8]) (rangeL (j : Int) m) [a0, a1, a2, a3, some (.frz, hd), some (.frz, x), some (.frz, .tup (u.map fr)), some (.frz, .tup (v.map fr)), none] =
      match diff (u.drop j) (v.drop j) with
      | some i => .ok ([a0, a1, a2, a3, some (.frz, hd), some (.frz, x), some (.frz, .tup (u.map fr)), some (.frz, .tup (v.map fr)), none], .ret false (.tup [hd, x, .int ((j + i : Nat) : Int)]))
      | none => .ok ([a0, a1, a2, a3, some (.frz, hd), some (.frz, x), some (.frz, .tup (u.map fr)), some (.frz, .tup (v.map fr)), none], .nx)
  | 0, j, h => by
    rw [List.drop_eq_nil_of_le (by omega)]
    rfl
  | m + 1, j, h => by
    have hj : j < u.length := by omega
    have hj' : j < v.length := by omega
    have i1 := atI_mapf fr (l := u) (i := (j : Int)) rfl hj
    have i2 := atI_mapf fr (l := v) (i := (j : Int)) rfl hj'
    have turn : forB o false [8] Pg.LB_parted_2 [8] [a0, a1, a2, a3, some (.frz, hd), some (.frz, x), some (.frz, .tup (u.map fr)), some (.frz, .tup (v.map fr)), none] (.int (j : Int)) =
        if u[j] = v[j] then .ok ([a0, a1, a2, a3, some (.frz, hd), some (.frz, x), some (.frz, .tup (u.map fr)), some (.frz, .tup (v.map fr)), none], .nx)
        else .ok ([a0, a1, a2, a3, some (.frz, hd), some (.frz, x), some (.frz, .tup (u.map fr)), some (.frz, .tup (v.map fr)), none], .ret false (.tup [hd, x, .int (j : Int)])) := by
      rw [forB_x]
      by_cases q : u[j] = v[j]
      · rw [if_pos q]
        simp [esc, escB, notVar, esc.escBs, isFresh, frV, lim_val, powOk, Pg.LB_parted_2, i1, i2, fr_ne, q]
      · rw [if_neg q]
        simp [esc, escB, notVar, esc.escBs, isFresh, frV, lim_val, powOk, Pg.LB_parted_2, i1, i2, fr_ne, q]
    rw [rangeL_succ, forL_cons, List.drop_eq_getElem_cons hj, List.drop_eq_getElem_cons hj', diff, turn]
    by_cases q : u[j] = v[j]
    · have ih := diff_loop o a0 a1 a2 a3 hd x u v huv m (j + 1) (by omega)
      rw [if_pos q, if_pos q, forK_nx, show (j : Int) + 1 = ((j + 1 : Nat) : Int) from rfl, ih]
      cases diff (u.drop (j + 1)) (v.drop (j + 1)) with
      | none => rfl
      | some i =>
        simp only [Option.map_some]
        rw [show j + 1 + i = j + (i + 1) by omega]
    · rw [if_neg q, if_neg q, forK_ret]
      rfl
/-- the walk over the purses -/
theorem part_turn (h : HasParts T) {n : Nat} (hn : 5 ≤ n) {p q : List Cor} {k w : Nat} (hk : k < 1000) (hk1 : 1 ≤ k) (hp : Pth w p) (hq : Pth w q) (sp : ∀ c ∈ p, SzC k c) (sq : ∀ c ∈ q, SzC k c) (hw : w < 1000) (p0 : p ≠ []) (q0 : q ≠ []) (lp : p.length < lim) (lq : q.length < lim)
    {x : Rat} (hx : SzR k x) (hx0 : 0 ≤ x) (S : D) (held : Rat) :
    forB (orcOf T (evFn T n)) false [5] Pg.LB_parted_1 [5, 6, 7, 8] [some (.frz, pathD p), some (.frz, pathD q), some (.frz, S), none, some (.frz, fr held), none, none, none, none] (fr x) =
      match diff (atR p x) (atR q x) with
      | some i => .ok ([some (.frz, pathD p), some (.frz, pathD q), some (.frz, S), none, some (.frz, fr held), none, none, none, none], .ret false (.tup [fr held, fr x, .int (i : Int)]))
      | none => .ok ([some (.frz, pathD p), some (.frz, pathD q), some (.frz, S), none, some (.frz, fr x), none, none, none, none], .nx) := by
  have e1 := parts_le h hn hk hk1 hx (fun c hc => ⟨sp c hc, by rw [hp.len c hc]; unfold lim; omega⟩) hp.up p0 lp hx0
  have e2 := parts_le h hn hk hk1 hx (fun c hc => ⟨sq c hc, by rw [hq.len c hc]; unfold lim; omega⟩) hq.up q0 lq hx0
  have l1 := at_len hp p0 x
  have l2 := at_len hq q0 x
  have b1 := br_of h.parts_at
  have lo := diff_loop (orcOf T (evFn T n)) (some (.frz, pathD p)) (some (.frz, pathD q)) (some (.frz, S)) none (fr held) (fr x) (atR p x) (atR q x) (by omega) w 0 (by omega)
  rw [List.drop_zero, List.drop_zero] at lo
  have r2 : rngOk (w : Int) = true := rngOk_in (by omega) (by omega)
  have e3 : exec (orcOf T (evFn T n)) Pg.L_parted_2 [some (.frz, pathD p), some (.frz, pathD q), some (.frz, S), none, some (.frz, fr held), some (.frz, fr x), some (.frz, .tup ((atR p x).map fr)), some (.frz, .tup ((atR q x).map fr)), none] =
      forL (forB (orcOf T (evFn T n)) false [8] Pg.LB_parted_2 [8]) (rangeL 0 w) [some (.frz, pathD p), some (.frz, pathD q), some (.frz, S), none, some (.frz, fr held), some (.frz, fr x), some (.frz, .tup ((atR p x).map fr)), some (.frz, .tup ((atR q x).map fr)), none] := by
    unfold Pg.L_parted_2
    rw [exec_for (xs := rangeL 0 w) (by simp [esc, escB, notVar, esc.escBs, isFresh, frV, lim_val, powOk, l1, r2])]
    simp [esc, escB, notVar, esc.escBs, isFresh, frV, lim_val, powOk]
  have lo : forL (forB (orcOf T (evFn T n)) false [8] Pg.LB_parted_2 [8]) (rangeL 0 w) [some (.frz, pathD p), some (.frz, pathD q), some (.frz, S), none, some (.frz, fr held), some (.frz, fr x), some (.frz, .tup ((atR p x).map fr)), some (.frz, .tup ((atR q x).map fr)), none] = _ := lo
  rw [lo] at e3
  rw [forB_x]
  cases hd : diff (atR p x) (atR q x) with
  | none =>
    rw [hd] at e3
    simp only at e3
    simp [esc, escB, notVar, esc.escBs, isFresh, frV, lim_val, powOk, Pg.LB_parted_1, e1, e2, b1, Pg.F_parts_at, e3]
  | some i =>
    rw [hd] at e3
    simp only at e3
    simp [esc, escB, notVar, esc.escBs, isFresh, frV, lim_val, powOk, Pg.LB_parted_1, e1, e2, b1, Pg.F_parts_at, e3]
theorem part_walk (h : HasParts T) {n : Nat} (hn : 5 ≤ n) {p q : List Cor} {k w : Nat} (hk : k < 1000) (hk1 : 1 ≤ k) (hp : Pth w p) (hq : Pth w q) (sp : ∀ c ∈ p, SzC k c) (sq : ∀ c ∈ q, SzC k c) (hw : w < 1000) (p0 : p ≠ []) (q0 : q ≠ []) (lp : p.length < lim) (lq : q.length < lim) (S : D) :
    ∀ (L : List Rat) (held : Rat), (∀ x ∈ L, SzR k x ∧ 0 ≤ x) →
    (∃ hd, forL (forB (orcOf T (evFn T n)) false [5] Pg.LB_parted_1 [5, 6, 7, 8]) (L.map fr) [some (.frz, pathD p), some (.frz, pathD q), some (.frz, S), none, some (.frz, fr held), none, none, none, none] =
      match partR p q held L with
      | some (a, b, i) => .ok ([some (.frz, pathD p), some (.frz, pathD q), some (.frz, S), none, some (.frz, fr hd), none, none, none, none], .ret false (.tup [fr a, fr b, .int (i : Int)]))
      | none => .ok ([some (.frz, pathD p), some (.frz, pathD q), some (.frz, S), none, some (.frz, fr hd), none, none, none, none], .nx))
  | [], held, _ => ⟨held, rfl⟩
  | x :: r, held, hs => by
    have hx := hs x List.mem_cons_self
    have t := part_turn h hn hk hk1 hp hq sp sq hw p0 q0 lp lq hx.1 hx.2 S held
    rw [List.map_cons, forL_cons, t]
    unfold partR
    cases hd : diff (atR p x) (atR q x) with
    | none => exact part_walk h hn hk hk1 hp hq sp sq hw p0 q0 lp lq S r x fun y hy => hs y (List.mem_cons_of_mem _ hy)
    | some i => exact ⟨held, rfl⟩
structure HasParted (T : Tab) : Prop extends HasParts T where
  put_in : T.fn "put_in" = some Pg.F_put_in
  parted : T.fn "parted" = some Pg.F_parted
def pursesR (p q : List Cor) : List Rat := (q.map (·.1)).foldl insR (p.map (·.1))
theorem foldl_ins_mem {y : Rat} : ∀ (l L : List Rat), y ∈ l.foldl insR L ↔ y ∈ L ∨ y ∈ l
  | [], L => by simp
  | x :: l, L => by
    rw [List.foldl_cons, foldl_ins_mem l, insR_mem, List.mem_cons]
    exact ⟨fun h => h.elim (fun h => h.elim .inl fun h => .inr (.inl h)) fun h => .inr (.inr h), fun h => h.elim (fun h => .inl (.inl h)) fun h => h.elim (fun h => .inl (.inr h)) .inr⟩
theorem foldl_ins_srt : ∀ (l L : List Rat), Srt L → Srt (l.foldl insR L)
  | [], _, h => h
  | x :: l, L, h => foldl_ins_srt l _ (insR_srt h)
theorem foldl_ins_length : ∀ (l L : List Rat), (l.foldl insR L).length ≤ L.length + l.length
  | [], L => Nat.le_refl _
  | x :: l, L => by
    have h1 := foldl_ins_length l (insR L x)
    have h2 := insR_length L x
    rw [List.foldl_cons, List.length_cons]
    omega
theorem purses_mem {p q : List Cor} {y : Rat} : y ∈ pursesR p q ↔ ∃ c, (c ∈ p ∨ c ∈ q) ∧ c.1 = y := by
  unfold pursesR
  rw [foldl_ins_mem, List.mem_map, List.mem_map]
  exact ⟨fun h => h.elim (fun ⟨c, h1, h2⟩ => ⟨c, .inl h1, h2⟩) fun ⟨c, h1, h2⟩ => ⟨c, .inr h1, h2⟩, fun ⟨c, h1, h2⟩ => h1.imp (fun z => ⟨c, z, h2⟩) fun z => ⟨c, z, h2⟩⟩
theorem purses_srt {p q : List Cor} (hp : Up p) : Srt (pursesR p q) := foldl_ins_srt _ _ (List.pairwise_map.mpr hp)
theorem put_turn (h : HasPut T) {n : Nat} (hn : 2 ≤ n) {L : List Rat} {c : Cor} {k : Nat} (hk : k < 3000) (hc : SzR k c.1) (hs : ∀ y ∈ L, SzR k y) (hl : L.length < lim) (fl : Fl) (hf : fl = .own ∨ fl = .frz) (a0 a1 : Option (Fl × D)) :
    forB (orcOf T (evFn T n)) false [3] Pg.LB_parted_0 [3] [a0, a1, some (fl, .lst (L.map fr)), none, none, none, none, none, none] (corD c) = .ok ([a0, a1, some (.frz, .lst ((insR L c.1).map fr)), none, none, none, none, none, none], .nx) := by
  have e := put_le h hn hk hc hs hl
  have b1 := br_of h.put_in
  have b2 := fr_of h.put_in
  rw [forB_x]
  rcases hf with rfl | rfl <;> simp [esc, escB, notVar, esc.escBs, isFresh, frV, lim_val, powOk, Pg.LB_parted_0, e, b1, b2, Pg.F_put_in]
theorem parted_le (h : HasParted T) {n : Nat} (hn : 6 ≤ n) {p q : List Cor} {k w : Nat} (hk : k < 1000) (hk1 : 1 ≤ k) (hp : Pth w p) (hq : Pth w q) (sp : ∀ c ∈ p, SzC k c ∧ 0 ≤ c.1) (sq : ∀ c ∈ q, SzC k c ∧ 0 ≤ c.1) (hw : w < 1000) (p0 : p ≠ []) (q0 : q ≠ []) (lp : p.length < 100000) (lq : q.length < 100000) :
    ∃ held, held ∈ (pursesR p q).head? ∧ evFn T n "parted" [pathD p, pathD q] = .ok (match partR p q held (pursesR p q) with
      | some (a, b, i) => .tup [fr a, fr b, .int (i : Int)]
      | none => .non) := by
  obtain ⟨n, rfl⟩ : ∃ m, n = m + 1 := ⟨n - 1, by omega⟩
  have lim1 : 200000 < lim := by decide
  have lc : ev (orcOf T (evFn T n)) [some (.frz, pathD p), some (.frz, pathD q), none, none, none, none, none, none, none] (.lc (.ix (.var 3) (.int 0)) false [3] (.iseq (.var 0)) .nil) = .ok (.lst ((p.map (·.1)).map fr)) := by
    rw [List.map_map]
    exact lc_ok (l := p) corD _ (by simp [pathD]) (by omega) fun c hc => ⟨_, rfl, by simp⟩
  have hput : HasPut T := ⟨h.before, h.put_in⟩
  have l0 : ∃ fl : Fl, (q.length = 0 ∧ fl = .own ∨ 0 < q.length ∧ fl = .frz) ∧ exec (orcOf T (evFn T n)) Pg.L_parted_0 [some (.frz, pathD p), some (.frz, pathD q), some (.own, .lst ((p.map (·.1)).map fr)), none, none, none, none, none, none] =
      .ok ([some (.frz, pathD p), some (.frz, pathD q), some (fl, .lst ((pursesR p q).map fr)), none, none, none, none, none, none], .nx) := by
    obtain ⟨e, he⟩ := for_fold (o := orcOf T (evFn T n)) (tup := false) (is := [3]) (it := .iseq (.var 1)) (b := Pg.LB_parted_0) (dead := [3]) (r := [some (.frz, pathD p), some (.frz, pathD q), some (.own, .lst ((p.map (·.1)).map fr)), none, none, none, none, none, none]) (l := q)
      corD (fun (z : Fl × List Rat) => [some (.frz, pathD p), some (.frz, pathD q), some (z.1, .lst (z.2.map fr)), none, none, none, none, none, none]) (fun z c => (.frz, insR z.2 c.1)) (.own, p.map (·.1))
      (fun i z => (z.1 = .own ∨ z.1 = .frz) ∧ (∀ y ∈ z.2, SzR k y) ∧ z.2.length ≤ p.length + i ∧ (0 < i → z.1 = .frz) ∧ (i = 0 → z.1 = .own)) (by simp [esc, escB, notVar, esc.escBs, isFresh, frV, lim_val, powOk, pathD]) (by simp [esc, escB, notVar, esc.escBs, isFresh, frV, lim_val, powOk])
      ⟨.inl rfl, fun y hy => by obtain ⟨c, hc, rfl⟩ := List.mem_map.mp hy; exact (sp c hc).1.1, by simp, fun z => by omega, fun _ => rfl⟩ (fun i hi z ⟨h1, h2, h3, _, _⟩ => by
        have hm := (sq _ (List.getElem_mem hi)).1.1
        refine ⟨put_turn hput (by omega) (by omega) hm h2 (by omega) z.1 h1 _ _, .inr rfl, fun y hy => ?_, ?_, fun _ => rfl, fun z => by omega⟩
        · rcases insR_mem.mp hy with hy | rfl
          · exact h2 y hy
          · exact hm
        · have := insR_length z.2 q[i].1
          show (insR z.2 q[i].1).length ≤ _
          omega)
    have hf : ∀ (l : List Cor) (z : Fl × List Rat), (l.foldl (fun z c => (Fl.frz, insR z.2 c.1)) z).2 = (l.map (·.1)).foldl insR z.2 := by
      intro l
      induction l with
      | nil => intro z; rfl
      | cons c l ih => intro z; exact ih _
    obtain ⟨h1, h2, h3, h4, h5⟩ := he
    refine ⟨(q.foldl (fun z c => (Fl.frz, insR z.2 c.1)) (Fl.own, p.map (·.1))).1, ?_, ?_⟩
    · rcases Nat.eq_zero_or_pos q.length with z | z
      · exact .inl ⟨z, h5 z⟩
      · exact .inr ⟨z, h4 z⟩
    · unfold Pg.L_parted_0
      rw [e, hf]
      simp [esc, escB, notVar, esc.escBs, isFresh, frV, lim_val, powOk, pursesR]
  obtain ⟨fl, hfl, l0⟩ := l0
  have hfl : fl = .frz := by
    have := List.length_pos_iff.mpr q0
    rcases hfl with ⟨z, _⟩ | ⟨_, z⟩
    · omega
    · exact z
  subst hfl
  have pm : ∀ x ∈ pursesR p q, SzR k x ∧ 0 ≤ x := fun x hx => by
    obtain ⟨c, hc, rfl⟩ := purses_mem.mp hx
    rcases hc with hc | hc
    · exact ⟨(sp c hc).1.1, (sp c hc).2⟩
    · exact ⟨(sq c hc).1.1, (sq c hc).2⟩
  have ne : pursesR p q ≠ [] := fun z => by
    obtain ⟨c, r, hc⟩ := List.exists_cons_of_ne_nil p0
    have : c.1 ∈ pursesR p q := purses_mem.mpr ⟨c, .inl (by rw [hc]; simp), rfl⟩
    rw [z] at this
    cases this
  obtain ⟨s, r, hs⟩ := List.exists_cons_of_ne_nil ne
  obtain ⟨hd, wk⟩ := part_walk h.toHasParts (n := n) (by omega) hk hk1 hp hq (fun c hc => (sp c hc).1) (fun c hc => (sq c hc).1) hw p0 q0 (by omega) (by omega) (.lst ((pursesR p q).map fr)) (pursesR p q) s pm
  have l1 : exec (orcOf T (evFn T n)) Pg.L_parted_1 [some (.frz, pathD p), some (.frz, pathD q), some (.frz, .lst ((pursesR p q).map fr)), none, some (.frz, fr s), none, none, none, none] =
      forL (forB (orcOf T (evFn T n)) false [5] Pg.LB_parted_1 [5, 6, 7, 8]) ((pursesR p q).map fr) [some (.frz, pathD p), some (.frz, pathD q), some (.frz, .lst ((pursesR p q).map fr)), none, some (.frz, fr s), none, none, none, none] := by
    unfold Pg.L_parted_1
    rw [exec_for (xs := (pursesR p q).map fr) (by simp [esc, escB, notVar, esc.escBs, isFresh, frV, lim_val, powOk])]
    simp [esc, escB, notVar, esc.escBs, isFresh, frV, lim_val, powOk]
  rw [wk] at l1
  have i0 : atI ((pursesR p q).map fr) 0 = some (fr s) := by rw [hs]; simp
  refine ⟨s, by rw [hs]; rfl, ?_⟩
  simp only [List.map_map] at lc l0
  rw [go h.parted n _ rfl]
  cases hr : partR p q s (pursesR p q) with
  | none =>
    rw [hr] at l1
    simp only at l1
    simp [esc, escB, notVar, esc.escBs, isFresh, frV, lim_val, powOk, Pg.F_parted, Pg.B_parted, start0, lc, l0, i0, l1]
  | some z =>
    obtain ⟨a, b, i⟩ := z
    rw [hr] at l1
    simp only at l1
    simp [esc, escB, notVar, esc.escBs, isFresh, frV, lim_val, powOk, Pg.F_parted, Pg.B_parted, start0, lc, l0, i0, l1, fr_noL]
end
end Pu

/-! More of the laws' own. -/
namespace Pu
section
variable {T : Tab}
theorem whole_le (h : T.fn "_law_whole" = some Pg.F_law_whole) {n : Nat} (hn : 1 ≤ n) (z : Int) : evFn T n "_law_whole" [.int z] = .ok (.bl true) := by
  obtain ⟨n, rfl⟩ : ∃ m, n = m + 1 := ⟨n - 1, by omega⟩
  rw [go h n _ rfl]
  simp [esc, escB, notVar, esc.escBs, isFresh, frV, lim_val, powOk, Pg.F_law_whole, Pg.B_law_whole, start0]
theorem isfrac_le (h0 : T.fn "_law_whole" = some Pg.F_law_whole) (h : T.fn "_law_is_fraction" = some Pg.F_law_is_fraction) (hb : T.bor "_law_divisor" = true) (hd : ∀ (n : Nat) (a b : Int), 1 ≤ n → evFn T n "_law_divisor" [.int a, .int b] = .ok (.int (Int.gcd a b)))
    {n : Nat} (hn : 2 ≤ n) (x : Rat) : evFn T n "_law_is_fraction" [fr x] = .ok (.bl true) := by
  obtain ⟨n, rfl⟩ : ∃ m, n = m + 1 := ⟨n - 1, by omega⟩
  have e1 := whole_le h0 (n := n) (by omega) x.num
  have e2 := whole_le h0 (n := n) (by omega) (x.den : Int)
  have e3 := hd n x.num x.den (by omega)
  have g : (Int.gcd x.num x.den : Int) = 1 := by
    have := x.reduced
    unfold Nat.Coprime at this
    show ((Nat.gcd x.num.natAbs (x.den : Int).natAbs : Nat) : Int) = 1
    rw [Int.natAbs_natCast, this]
    rfl
  have hp := x.den_pos
  have b0 := br_of h0
  have l1 : builtin "len" [fr x] = .ok (.int 2) := by simp [fr]
  have l2 : isiB (orcOf T (evFn T n)) "tuple" (fr x) = .ok true := rfl
  rw [go h n _ rfl]
  simp [esc, escB, notVar, esc.escBs, isFresh, frV, lim_val, powOk, Pg.F_law_is_fraction, Pg.B_law_is_fraction, start0, e1, e2, e3, g, hp, b0, Pg.F_law_whole, hb, l1, l2]
end
/-! the laws' corners as paths -/
theorem divInt_lt {a c b : Int} (hb : 0 < b) : Rat.divInt a b < Rat.divInt c b ↔ a < c := by
  rw [Rat.divInt_eq_div, Rat.divInt_eq_div]
  have hb' : (0 : Rat) < (b : Rat) := Rat.intCast_pos.mpr hb
  rw [Rat.div_lt_iff hb']
  have : (c : Rat) / (b : Rat) * (b : Rat) = (c : Rat) := by
    have : (b : Rat) ≠ 0 := by grind
    generalize (b : Rat) = z at *
    grind
  rw [this]
  exact Rat.intCast_lt_intCast
theorem pts_length_of {k : Nat} : ∀ (p : List (List Int)) (h : List Int), h.length = k → (∀ s ∈ p, StepOk k s) → ∀ c ∈ h :: pts h p, c.length = k
  | [], h, hh, _, c, hc => by
    have : c = h := by simpa [pts] using hc
    rw [this]; exact hh
  | x :: p, h, hh, hp, c, hc => by
    rcases List.mem_cons.mp hc with rfl | hc
    · exact hh
    · exact pts_length_of p (vadd h x) (by rw [vadd_length, hh, (hp x List.mem_cons_self).len, Nat.min_self]) (fun s hs => hp s (List.mem_cons_of_mem _ hs)) c hc
theorem corners_pth {b : Int} (hb : 0 < b) {k : Nat} {p : List (List Int)} (hp : ∀ s ∈ p, StepOk k s) : Pth k (cornersR k b p) := by
  refine ⟨?_, fun c hc => ?_⟩
  · unfold Up cornersR
    rw [List.pairwise_map]
    exact (pts_up p (zeros k) (by simp [zeros]) hp).imp fun {x y} h => (divInt_lt hb).mpr h
  · unfold cornersR at hc
    obtain ⟨x, hx, rfl⟩ := List.mem_map.mp hc
    have := pts_length_of p (zeros k) (by simp [zeros]) hp x hx
    simpa [cor] using this
theorem corners_cons (k : Nat) (b : Int) (p : List (List Int)) : ∃ t, cornersR k b p = cor b (zeros k) :: t := ⟨_, rfl⟩
theorem corners_ne (k : Nat) (b : Int) (p : List (List Int)) : cornersR k b p ≠ [] := by simp [cornersR]
theorem cor_zeros {b : Int} (hb : b ≠ 0) (k : Nat) : (cor b (zeros k)).1 = 0 := by
  unfold cor
  rw [zeros_sum]
  simp [Rat.divInt_eq_div]
  grind
theorem corners_nonneg {b : Int} (hb : 0 < b) {k : Nat} {p : List (List Int)} (hp : ∀ s ∈ p, StepOk k s) : ∀ c ∈ cornersR k b p, 0 ≤ c.1 := fun c hc => by
  have h := corners_pth hb hp
  obtain ⟨t, ht⟩ := corners_cons k b p
  rw [ht] at h hc
  have z := cor_zeros (b := b) (by omega) k
  rcases List.mem_cons.mp hc with rfl | hc
  · rw [z]; exact Rat.le_refl
  · have := h.lt hc
    grind
theorem fold_sum {k : Nat} : ∀ (p : List (List Int)) (h : List Int), h.length = k → (∀ s ∈ p, StepOk k s) → (p.foldl vadd h).sum = h.sum + (p.map List.sum).sum
  | [], h, _, _ => by simp
  | x :: p, h, hh, hp => by
    have hx := hp x List.mem_cons_self
    rw [List.foldl_cons, fold_sum p (vadd h x) (by rw [vadd_length, hh, hx.len, Nat.min_self]) fun s hs => hp s (List.mem_cons_of_mem _ hs), vadd_sum _ _ (by rw [hh, hx.len]), List.map_cons, List.sum_cons]
    omega
theorem corners_last {b : Int} {k : Nat} {p : List (List Int)} (hp : ∀ s ∈ p, StepOk k s) : ((cornersR k b p).getLast (corners_ne k b p)).1 = Rat.divInt (p.map List.sum).sum b := by
  have e : (cornersR k b p).getLast? = some (cor b (p.foldl vadd (zeros k))) := by
    rcases List.eq_nil_or_concat p with rfl | ⟨q, s, rfl⟩
    · rfl
    · unfold cornersR
      rw [List.concat_eq_append, pts_snoc, List.foldl_append, ← List.cons_append, List.map_append]
      exact List.getLast?_concat
  rw [List.getLast?_eq_some_getLast (corners_ne k b p)] at e
  rw [Option.some.inj e]
  show Rat.divInt (p.foldl vadd (zeros k)).sum b = _
  rw [fold_sum p (zeros k) (by simp [zeros]) hp, zeros_sum, Int.zero_add]
theorem thinR_last {p : List Cor} (h : p ≠ []) : ∃ h' : thinR p ≠ [], (thinR p).getLast h' = p.getLast h := by
  obtain ⟨q, L, rfl⟩ : ∃ q L, p = q ++ [L] := ⟨p.dropLast, p.getLast h, (List.dropLast_concat_getLast h).symm⟩
  obtain ⟨t, ht, _⟩ := stepT_head (thinA [] q) L
  have e : thinR (q ++ [L]) = t.reverse ++ [L] := by
    unfold thinR thinA
    rw [List.foldl_append]
    show (stepT (thinA [] q) L).reverse = _
    rw [ht, List.reverse_cons]
  exact ⟨by rw [e]; simp, by simp [e]⟩
/-! steps, thinned -/
theorem thinSA_ok {k : Nat} : ∀ (p acc : List (List Int)), (∀ s ∈ acc, StepOk k s) → (∀ s ∈ p, StepOk k s) → ∀ s ∈ thinSA acc p, StepOk k s
  | [], _, h, _ => h
  | s :: p, acc, h, hp => thinSA_ok p (stepS acc s) (stepS_ok h (hp s List.mem_cons_self)) fun x hx => hp x (List.mem_cons_of_mem _ hx)
theorem thinS_ok {k : Nat} {p : List (List Int)} (hp : ∀ s ∈ p, StepOk k s) : ∀ s ∈ thinS p, StepOk k s := fun s hs => thinSA_ok p [] (fun _ z => by cases z) hp s (List.mem_reverse.mp hs)
theorem thinS_sz {m : Nat} {p : List (List Int)} (hp : ∀ x ∈ p, SzB (2 ^ m) x ∧ x.length ≤ 8) (hl : p.length ≤ 64) : ∀ x ∈ thinS p, SzB (2 ^ (m + 6)) x ∧ x.length ≤ 8 := fun x hx => by
  unfold thinS at hx
  have := thinSA_sz (b := 2 ^ m) p [] 0 (fun _ z => by cases z) hp x (List.mem_reverse.mp hx)
  refine ⟨this.1.mono ?_, this.2⟩
  rw [Nat.pow_add, Nat.zero_add, Nat.mul_comm]
  exact Nat.mul_le_mul_left _ hl
theorem thinS_len {p : List (List Int)} : (thinS p).length ≤ p.length := by
  have := thinSA_length p []
  unfold thinS
  simpa using this
end Pu

/-! One path behind another. -/
namespace Pu
def addC (L c : Cor) : Cor := (L.1 + c.1, (L.2.zip c.2).map fun p => p.1 + p.2)
def behindR (p q : List Cor) : List Cor := match p.getLast? with
  | some L => thinR (p ++ q.tail.map (addC L))
  | none => []
theorem behindR_eq {p q : List Cor} (h : p ≠ []) : behindR p q = thinR (p ++ q.tail.map (addC (p.getLast h))) := by
  unfold behindR
  rw [List.getLast?_eq_some_getLast h]
section
variable {T : Tab}
theorem plus_le (h : HasFrac T) (hp : T.fn "plus" = some Pg.F_plus) {n : Nat} (hn : 3 ≤ n) {x y : Rat} {k m : Nat} (hx : SzR k x) (hy : SzR m y) (hk : k + m < 7999) : evFn T n "plus" [fr x, fr y] = .ok (fr (x + y)) :=
  leN (P := fun n => evFn T n "plus" [fr x, fr y] = .ok (fr (x + y))) (fun n => plus_eq h hp n hx hy hk) hn
theorem minus_le (h : HasFrac T) (hp : T.fn "minus" = some Pg.F_minus) {n : Nat} (hn : 3 ≤ n) {x y : Rat} {k m : Nat} (hx : SzR k x) (hy : SzR m y) (hk : k + m < 7999) : evFn T n "minus" [fr x, fr y] = .ok (fr (x - y)) :=
  leN (P := fun n => evFn T n "minus" [fr x, fr y] = .ok (fr (x - y))) (fun n => minus_eq h hp n hx hy hk) hn
theorem times_le (h : HasFrac T) (hp : T.fn "times" = some Pg.F_times) {n : Nat} (hn : 3 ≤ n) {x y : Rat} {k m : Nat} (hx : SzR k x) (hy : SzR m y) (hk : k + m < 7999) : evFn T n "times" [fr x, fr y] = .ok (fr (x * y)) :=
  leN (P := fun n => evFn T n "times" [fr x, fr y] = .ok (fr (x * y))) (fun n => times_eq h hp n hx hy hk) hn
theorem over_le (h : HasFrac T) (hp : T.fn "over" = some Pg.F_over) {n : Nat} (hn : 3 ≤ n) {x y : Rat} {k m : Nat} (hx : SzR k x) (hy : SzR m y) (hy0 : y ≠ 0) (hk : k + m < 7999) : evFn T n "over" [fr x, fr y] = .ok (fr (x / y)) :=
  leN (P := fun n => evFn T n "over" [fr x, fr y] = .ok (fr (x / y))) (fun n => over_eq h hp n hx hy hy0 hk) hn
theorem thinned_le (h : HasThin T) {n : Nat} (hn : 5 ≤ n) {p : List Cor} {k : Nat} (hk : k < 1000) (hs : ∀ c ∈ p, SzC k c ∧ c.2.length ≤ lim) (hp : p.Pairwise fun a b => a.1 ≠ b.1) (hl : p.length < lim) : evFn T n "thinned" [pathD p] = .ok (pathD (thinR p)) :=
  leN (P := fun n => evFn T n "thinned" [pathD p] = .ok (pathD (thinR p))) (fun n => thinned_eq h n hk hs hp hl) hn
structure HasBehind (T : Tab) : Prop extends HasThin T where
  behind : T.fn "behind" = some Pg.F_behind
theorem behind_turn (h : HasBehind T) {n : Nat} (hn : 3 ≤ n) {L c : Cor} {k : Nat} (hk : k < 1000) (hL : SzC k L) (hc : SzC k c) (hl : L.2.length ≤ lim) (acc : List Cor) (ha : acc.length < lim) (a0 a1 : Option (Fl × D)) :
    forB (orcOf T (evFn T n)) true [4, 5] Pg.LB_behind_0 [4, 5] [a0, a1, some (.frz, corD L), some (.own, .lst (acc.map corD)), none, none, none, none] (corD c) =
      .ok ([a0, a1, some (.frz, corD L), some (.own, .lst ((acc ++ [addC L c]).map corD)), none, none, none, none], .nx) := by
  have e1 := plus_le h.toHasFrac h.plus hn hL.1 hc.1 (by omega)
  have lc : ev (orcOf T (evFn T n)) [a0, a1, some (.frz, corD L), some (.own, .lst (acc.map corD)), some (.frz, fr c.1), some (.frz, .tup (c.2.map fr)), none, none]
      (.lc (.call "plus" (.cons (.var 6) (.cons (.var 7) .nil))) true [6, 7] (.izip (.ix (.var 2) (.int 1)) (.var 5)) .nil) = .ok (.lst ((addC L c).2.map fr)) := by
    unfold addC
    rw [List.map_map]
    refine lc_ok (l := L.2.zip c.2) (fun p => .tup [fr p.1, fr p.2]) _ (by simp [zipP_map]) (by rw [List.length_zip]; omega) fun p hp => ?_
    have f1 := plus_le h.toHasFrac h.plus hn (hL.2 _ (List.of_mem_zip hp).1) (hc.2 _ (List.of_mem_zip hp).2) (by omega)
    exact ⟨_, rfl, by simp [f1]⟩
  have hb := br_of h.plus
  have hcd : D.tup [fr (L.1 + c.1), .tup ((addC L c).2.map fr)] = corD (addC L c) := rfl
  unfold lim at ha
  rw [forB_x]
  unfold corD at lc e1 ⊢
  simp only [corD] at hcd
  simp [esc, escB, notVar, esc.escBs, isFresh, frV, lim_val, powOk, Pg.LB_behind_0, lc, hb, Pg.F_plus, e1, hcd, ha]
theorem behind_le (h : HasBehind T) {n : Nat} (hn : 6 ≤ n) {p q : List Cor} {k : Nat} (hk : k < 400) (sp : ∀ c ∈ p, SzC k c ∧ c.2.length ≤ lim) (sq : ∀ c ∈ q, SzC k c) (p0 : p ≠ []) (lp : p.length < 100000) (lq : q.length < 100000)
    (hw : (p ++ q.tail.map (addC (p.getLast p0))).Pairwise fun a b => a.1 ≠ b.1) : evFn T n "behind" [pathD p, pathD q] = .ok (pathD (behindR p q)) := by
  obtain ⟨n, rfl⟩ : ∃ m, n = m + 1 := ⟨n - 1, by omega⟩
  have lim1 : 200000 < lim := by decide
  have hL := sp _ (List.getLast_mem p0)
  have i1 := item_path_last p0
  rw [behindR_eq p0]
  generalize p.getLast p0 = L at *
  have hcut : cut (q.map corD) (some 1) none = q.tail.map corD := by
    have := cut_from (q.map corD) 1
    rw [show ((1 : Nat) : Int) = 1 from rfl] at this
    rw [this, ← List.map_drop, List.drop_one]
  have e := (for_fold (o := orcOf T (evFn T n)) (tup := true) (is := [4, 5]) (it := .iseq (.sl (.var 1) (.int 1) .nil)) (b := Pg.LB_behind_0) (dead := [4, 5]) (r := [some (.frz, pathD p), some (.frz, pathD q), some (.frz, corD L), some (.own, .lst (p.map corD)), none, none, none, none]) (l := q.tail)
    corD (fun acc => [some (.frz, pathD p), some (.frz, pathD q), some (.frz, corD L), some (.own, .lst (acc.map corD)), none, none, none, none]) (fun acc c => acc ++ [addC L c]) p (fun i acc => acc.length = p.length + i) (by simp [esc, escB, notVar, esc.escBs, isFresh, frV, lim_val, powOk, pathD, hcut]) (by simp [esc, escB, notVar, esc.escBs, isFresh, frV, lim_val, powOk]) rfl (fun i hi acc ha => by
      have hm := sq _ (List.mem_of_mem_tail (List.getElem_mem hi))
      have ha : acc.length = p.length + i := ha
      have hi' : i < q.length := by simp at hi; omega
      exact ⟨behind_turn h (by omega) (by omega) hL.1 hm hL.2 acc (by omega) _ _, by simp [ha]; omega⟩)).1
  rw [foldl_app] at e
  have e2 : exec (orcOf T (evFn T n)) Pg.L_behind_0 [some (.frz, pathD p), some (.frz, pathD q), some (.frz, corD L), some (.own, pathD p), none, none, none, none] = .ok ([some (.frz, pathD p), some (.frz, pathD q), some (.frz, corD L), some (.own, pathD (p ++ q.tail.map (addC L))), none, none, none, none], .nx) := by
    unfold Pg.L_behind_0
    refine e.trans ?_
    simp [esc, escB, notVar, esc.escBs, isFresh, frV, lim_val, powOk, pathD]
  have e3 := thinned_le h.toHasThin (n := n) (by omega) (p := p ++ q.tail.map (addC L)) (k := 2 * k + 1) (by omega) (fun c hc => by
    rcases List.mem_append.mp hc with hc | hc
    · exact ⟨⟨(sp c hc).1.1.mono (by omega), fun x hx => ((sp c hc).1.2 x hx).mono (by omega)⟩, (sp c hc).2⟩
    · obtain ⟨d, hd, rfl⟩ := List.mem_map.mp hc
      have hd' := sq d (List.mem_of_mem_tail hd)
      refine ⟨⟨(hL.1.1.add hd'.1).mono (by omega), fun x hx => ?_⟩, by simp [addC]; omega⟩
      obtain ⟨z, hz, rfl⟩ := List.mem_map.mp hx
      exact ((hL.1.2 _ (List.of_mem_zip hz).1).add (hd'.2 _ (List.of_mem_zip hz).2)).mono (by omega)) hw (by simp; omega)
  have b1 := br_of h.thinned
  have b2 := fr_of h.thinned
  have hn' : D.noL1 (pathD (thinR (p ++ q.tail.map (addC L)))) = true := noLA_map fun a _ => cor_noL a
  have hL' : ∀ p : List Cor, (pathD p).isL = true := fun _ => rfl
  have bl : builtin "list" [pathD p] = .ok (pathD p) := rfl
  rw [go h.behind n _ rfl]
  simp [esc, escB, notVar, esc.escBs, isFresh, frV, lim_val, powOk, Pg.F_behind, Pg.B_behind, start0, i1, bl, hL', e2, e3, b1, b2, Pg.F_thinned, hn', cor_isL, -List.map_tail]
end
/-! steps behind steps -/
def vmul (b : Int) (v : List Int) : List Int := v.map (b * ·)
theorem vmul_sum (b : Int) : ∀ v : List Int, (vmul b v).sum = b * v.sum
  | [] => by simp [vmul]
  | x :: v => by
    show (b * x :: vmul b v).sum = _
    rw [List.sum_cons, vmul_sum b v, List.sum_cons, Int.mul_add]
theorem vmul_add (b : Int) : ∀ (u v : List Int), vmul b (vadd u v) = vadd (vmul b u) (vmul b v)
  | [], _ => rfl
  | _ :: _, [] => rfl
  | x :: u, y :: v => by
    show b * (x + y) :: vmul b (vadd u v) = (b * x + b * y) :: vadd (vmul b u) (vmul b v)
    rw [vmul_add b u v, Int.mul_add]
theorem vmul_zeros (b : Int) (k : Nat) : vmul b (zeros k) = zeros k := by
  unfold vmul zeros
  rw [List.map_replicate, Int.mul_zero]
theorem vmul_length (b : Int) (v : List Int) : (vmul b v).length = v.length := by simp [vmul]
theorem pts_vmul (b : Int) : ∀ (p : List (List Int)) (h : List Int), pts (vmul b h) (p.map (vmul b)) = (pts h p).map (vmul b)
  | [], _ => rfl
  | s :: p, h => by
    show vadd (vmul b h) (vmul b s) :: pts (vadd (vmul b h) (vmul b s)) (p.map (vmul b)) = _
    rw [← vmul_add, pts_vmul b p]
    rfl
theorem fold_vmul (b : Int) : ∀ (p : List (List Int)) (h : List Int), (p.map (vmul b)).foldl vadd (vmul b h) = vmul b (p.foldl vadd h)
  | [], _ => rfl
  | s :: p, h => by
    rw [List.map_cons, List.foldl_cons, ← vmul_add, fold_vmul b p]
    rfl
theorem pts_append : ∀ (p q : List (List Int)) (h : List Int), pts h (p ++ q) = pts h p ++ pts (p.foldl vadd h) q
  | [], _, _ => rfl
  | s :: p, q, h => by
    show vadd h s :: pts (vadd h s) (p ++ q) = vadd h s :: (pts (vadd h s) p ++ _)
    rw [pts_append p q]
    rfl
theorem pts_shift (s : List Int) : ∀ (r : List (List Int)) (h : List Int), (pts h r).map (vadd s) = pts (vadd s h) r
  | [], h => rfl
  | x :: r, h => by
    show vadd s (vadd h x) :: (pts (vadd h x) r).map (vadd s) = vadd (vadd s h) x :: pts (vadd (vadd s h) x) r
    rw [pts_shift s r, vadd_assoc]
theorem vadd_zeros' : ∀ {k : Nat} {s : List Int}, s.length = k → vadd s (zeros k) = s
  | 0, [], _ => rfl
  | 0, _ :: _, h => by simp at h
  | k + 1, [], h => by simp at h
  | k + 1, x :: s, h => by
    show vadd (x :: s) (0 :: zeros k) = _
    rw [vadd_cons, Int.add_zero, vadd_zeros' (by simpa using h)]
theorem divInt_mul_cancel {a b c : Int} (hc : c ≠ 0) : Rat.divInt (c * a) (c * b) = Rat.divInt a b := by
  rw [Rat.divInt_eq_div, Rat.divInt_eq_div, Rat.intCast_mul, Rat.intCast_mul]
  have : ((c : Int) : Rat) ≠ 0 := by simpa using hc
  generalize ((c : Int) : Rat) = z at *
  grind
theorem cor_vmul {b c : Int} (hc : c ≠ 0) (v : List Int) : cor (c * b) (vmul c v) = cor b v := by
  unfold cor
  rw [vmul_sum, divInt_mul_cancel hc]
  congr 1
  unfold vmul
  rw [List.map_map]
  refine List.map_congr_left fun x _ => ?_
  exact divInt_mul_cancel hc
theorem cor_vadd (b : Int) {u v : List Int} (h : u.length = v.length) : cor b (vadd u v) = addC (cor b u) (cor b v) := by
  have d : ∀ x y : Int, Rat.divInt (x + y) b = Rat.divInt x b + Rat.divInt y b := fun x y => by
    simp only [Rat.divInt_eq_div, Rat.intCast_add]
    grind
  unfold cor addC
  rw [vadd_sum _ _ h, d]
  congr 1
  show (vadd u v).map _ = ((u.map fun x => Rat.divInt x b).zip (v.map fun x => Rat.divInt x b)).map _
  unfold vadd
  rw [List.zip_map, List.map_map, List.map_map]
  refine List.map_congr_left fun p _ => ?_
  exact d p.1 p.2
theorem fold_length_of {k : Nat} : ∀ (p : List (List Int)) (h : List Int), h.length = k → (∀ s ∈ p, StepOk k s) → (p.foldl vadd h).length = k
  | [], _, hh, _ => hh
  | x :: p, h, hh, hp => fold_length_of p (vadd h x) (by rw [vadd_length, hh, (hp x List.mem_cons_self).len, Nat.min_self]) fun s hs => hp s (List.mem_cons_of_mem _ hs)
theorem corners_getLast {b : Int} {k : Nat} {p : List (List Int)} : (cornersR k b p).getLast (corners_ne k b p) = cor b (p.foldl vadd (zeros k)) := by
  have e : (cornersR k b p).getLast? = some (cor b (p.foldl vadd (zeros k))) := by
    rcases List.eq_nil_or_concat p with rfl | ⟨q, s, rfl⟩
    · rfl
    · unfold cornersR
      rw [List.concat_eq_append, pts_snoc, List.foldl_append, ← List.cons_append, List.map_append]
      exact List.getLast?_concat
  rw [List.getLast?_eq_some_getLast (corners_ne k b p)] at e
  exact Option.some.inj e
/-- a row behind another is the row of the steps by the bottoms' product -/
theorem corners_behind {b c : Int} (hb : b ≠ 0) (hc : c ≠ 0) {k : Nat} {p q : List (List Int)} (hp : ∀ s ∈ p, StepOk k s) (hq : ∀ s ∈ q, StepOk k s) :
    cornersR k b p ++ (cornersR k c q).tail.map (addC ((cornersR k b p).getLast (corners_ne k b p))) = cornersR k (b * c) (p.map (vmul c) ++ q.map (vmul b)) := by
  have zl : (zeros k).length = k := by simp [zeros]
  have fl := fold_length_of p (zeros k) zl hp
  rw [corners_getLast]
  unfold cornersR
  rw [pts_append, ← List.cons_append, List.map_append]
  congr 1
  · have : zeros k :: pts (zeros k) (p.map (vmul c)) = (zeros k :: pts (zeros k) p).map (vmul c) := by
      rw [List.map_cons, vmul_zeros, ← pts_vmul, vmul_zeros]
    rw [this, List.map_map]
    refine List.map_congr_left fun v _ => ?_
    rw [Function.comp, Int.mul_comm, cor_vmul hc]
  · have e1 : (p.map (vmul c)).foldl vadd (zeros k) = vmul c (p.foldl vadd (zeros k)) := by
      rw [← fold_vmul, vmul_zeros]
    have e2 : pts (vmul c (p.foldl vadd (zeros k))) (q.map (vmul b)) = ((pts (zeros k) q).map (vmul b)).map (vadd (vmul c (p.foldl vadd (zeros k)))) := by
      rw [← pts_vmul, vmul_zeros, pts_shift, vadd_zeros' (by rw [vmul_length, fl])]
    show ((pts (zeros k) q).map (cor c)).map _ = _
    rw [e1, e2, List.map_map, List.map_map, List.map_map]
    refine List.map_congr_left fun v hv => ?_
    have hl : v.length = k := pts_length_of q (zeros k) zl hq v (List.mem_cons_of_mem _ hv)
    simp only [Function.comp]
    rw [cor_vadd _ (by rw [vmul_length, vmul_length, fl, hl]), cor_vmul hb, Int.mul_comm b c, cor_vmul hc]
theorem vmul_ok {b : Int} (hb : 0 < b) {k : Nat} {s : List Int} (h : StepOk k s) : StepOk k (vmul b s) := ⟨by rw [vmul_length, h.len], by rw [vmul_sum]; exact Int.mul_pos hb h.pos⟩
end Pu

/-! What a refusal is; the laws' own numbers. -/
namespace Pu
theorem isi_exc {o : Orc} {k c : String} {b : Bool} {d : D} (hc : ¬ c ∈ ["int", "bool", "str", "tuple", "list"]) (h : o.isx k c = some b) : isiB o c (.exc k d) = .ok b := by
  show (if c ∈ ["int", "bool", "str", "tuple", "list"] then R.stuck else ofO (o.isx k c)) = _
  rw [if_neg hc, h]
  rfl
section
variable {T : Tab}
structure HasKinds (T : Tab) (e : String) : Prop where
  kinds : T.fn "_law_kinds" = some Pg.F_law_kinds
  k1 : T.isx e "NoFraction" = some (decide (e = "NoFraction"))
  k2 : T.isx e "NoPurse" = some (decide (e = "NoPurse"))
  k3 : T.isx e "NoClaims" = some (decide (e = "NoClaims"))
  k4 : T.isx e "NoRule" = some (decide (e = "NoRule"))
  k5 : T.isx e "NoPlace" = some (decide (e = "NoPlace"))
  k6 : T.isx e "NoDivision" = some (decide (e = "NoDivision"))
  k7 : T.isx e "ValueError" = some true
  pe : T.isx e "PurseError" = some true
theorem kinds_le {e : String} (he : e ∈ ["NoFraction", "NoPurse", "NoClaims", "NoRule", "NoPlace", "NoDivision"]) (h : HasKinds T e) {n : Nat} (hn : 1 ≤ n) (d : D) : evFn T n "_law_kinds" [.exc e d] = .ok (.lst [.str (codes e)]) := by
  obtain ⟨n, rfl⟩ : ∃ m, n = m + 1 := ⟨n - 1, by omega⟩
  have h1 : isiB (orcOf T (evFn T n)) "NoFraction" (.exc e d) = .ok (decide (e = "NoFraction")) := isi_exc (by decide) h.k1
  have h2 : isiB (orcOf T (evFn T n)) "NoPurse" (.exc e d) = .ok (decide (e = "NoPurse")) := isi_exc (by decide) h.k2
  have h3 : isiB (orcOf T (evFn T n)) "NoClaims" (.exc e d) = .ok (decide (e = "NoClaims")) := isi_exc (by decide) h.k3
  have h4 : isiB (orcOf T (evFn T n)) "NoRule" (.exc e d) = .ok (decide (e = "NoRule")) := isi_exc (by decide) h.k4
  have h5 : isiB (orcOf T (evFn T n)) "NoPlace" (.exc e d) = .ok (decide (e = "NoPlace")) := isi_exc (by decide) h.k5
  have h6 : isiB (orcOf T (evFn T n)) "NoDivision" (.exc e d) = .ok (decide (e = "NoDivision")) := isi_exc (by decide) h.k6
  have h7 : isiB (orcOf T (evFn T n)) "ValueError" (.exc e d) = .ok true := isi_exc (by decide) h.k7
  have hk := h.kinds
  clear h
  rw [go hk n _ rfl]
  simp only [List.mem_cons, List.not_mem_nil, or_false] at he
  rcases he with rfl | rfl | rfl | rfl | rfl | rfl <;> simp [esc, escB, notVar, esc.escBs, isFresh, frV, lim_val, powOk, Pg.F_law_kinds, Pg.B_law_kinds, start0, h1, h2, h3, h4, h5, h6, h7]
theorem number_le (h : T.fn "_law_number" = some Pg.F_law_number) {n : Nat} (hn : 1 ≤ n) (c : Int) : ∃ z, evFn T n "_law_number" [.int c] = .ok (.int z) ∧ Bits 210 z := by
  obtain ⟨n, rfl⟩ : ∃ m, n = m + 1 := ⟨n - 1, by omega⟩
  by_cases h1 : c.fmod 4 = 0
  · refine ⟨(c.fdiv 4 * 982451653).fmod (2 * 10 ^ 60 - 1) - 10 ^ 60 + 1, ?_, ?_⟩
    · rw [go h n _ rfl]
      simp [esc, escB, notVar, esc.escBs, isFresh, frV, lim_val, powOk, Pg.F_law_number, Pg.B_law_number, start0, h1]
    · have h1 : Bits 201 ((c.fdiv 4 * 982451653).fmod (2 * 10 ^ 60 - 1)) := Bits.fmod (.lit (by decide)) (by decide)
      have h2 : Bits 201 (10 ^ 60 : Int) := .lit (by decide)
      exact ((h1.sub h2).add (Bits.lit (by decide))).mono (by decide)
  · by_cases h' : c.fmod 4 = 1
    · refine ⟨(c.fdiv 4).fmod 2001 - 1000, ?_, ?_⟩
      · rw [go h n _ rfl]
        simp [esc, escB, notVar, esc.escBs, isFresh, frV, lim_val, powOk, Pg.F_law_number, Pg.B_law_number, start0, h1, h']
      · have h1 : Bits 201 ((c.fdiv 4).fmod 2001) := Bits.fmod (.lit (by decide)) (by decide)
        exact (h1.sub (.lit (by decide))).mono (by decide)
    · refine ⟨(c.fdiv 4).fmod 25 - 12, ?_, ?_⟩
      · rw [go h n _ rfl]
        simp [esc, escB, notVar, esc.escBs, isFresh, frV, lim_val, powOk, Pg.F_law_number, Pg.B_law_number, start0, h1, h']
      · have h1 : Bits 201 ((c.fdiv 4).fmod 25) := Bits.fmod (.lit (by decide)) (by decide)
        exact (h1.sub (.lit (by decide))).mono (by decide)
theorem fraction_le (h : HasFrac T) {n : Nat} (hn : 2 ≤ n) {t b : Int} (hb : b ≠ 0) (bt : Bits 8000 t) (bb : Bits 8000 b) : evFn T n "fraction" [.int t, .int b] = .ok (fr (Rat.divInt t b)) :=
  leN (P := fun n => evFn T n "fraction" [.int t, .int b] = .ok (fr (Rat.divInt t b))) (fun n => fraction_eq h n hb bt bb) hn
theorem fraction_zero (h : HasFrac T) {n : Nat} (hn : 1 ≤ n) (t : Int) : evFn T n "fraction" [.int t, .int 0] = .exc "NoFraction" .non := by
  obtain ⟨n, rfl⟩ : ∃ m, n = m + 1 := ⟨n - 1, by omega⟩
  rw [go h.fraction n _ rfl]
  simp [esc, escB, notVar, esc.escBs, isFresh, frV, lim_val, powOk, Pg.F_fraction, Pg.B_fraction, start0]
theorem divInt_cross {t b : Int} (hb : b ≠ 0) : (Rat.divInt t b).num * b = t * (Rat.divInt t b).den := by
  have h := Rat.num_divInt_den (Rat.divInt t b)
  have := (Rat.divInt_eq_divInt_iff (den_ne (Rat.divInt t b)) hb).mp h
  omega
theorem lowest2_le (h0 : T.fn "_law_divisor" = some Pg.F_law_divisor_2) (h : T.fn "_law_lowest" = some Pg.F_law_lowest_2) {n : Nat} (hn : 3 ≤ n) {t b : Int} (bb : Bits 8000 b) : evFn T n "_law_lowest" [.int t, .int b] = .ok (fr (Rat.divInt t (if b = 0 then 1 else b))) := by
  obtain ⟨n, rfl⟩ : ∃ m, n = m + 3 := ⟨n - 3, by omega⟩
  by_cases hb : b = 0
  · subst hb
    have e0 := law_divisor2_eq h0 (n + 1) t 1
    have b1 := br_of h0
    have b2 := fr_of h0
    rw [go h (n + 2) _ rfl]
    have g : (Int.gcd t 1 : Int) = 1 := by simp
    rw [g] at e0
    have dv : ∀ z : Int, divOk z 1 = true := fun z => divOk_of (k := 1) (by decide) (.lit (by decide)) (by decide)
    have q : Rat.divInt t 1 = (t : Rat) := by
      rw [Rat.divInt_eq_div]
      have : (((1 : Int)) : Rat) = 1 := rfl
      rw [this]
      grind
    rw [if_pos rfl, q, fr_int]
    simp [esc, escB, notVar, esc.escBs, isFresh, frV, lim_val, powOk, Pg.F_law_lowest_2, Pg.B_law_lowest_2, start0, e0, b1, b2, Pg.F_law_divisor_2, dv]
  · rw [if_neg hb]
    by_cases hn : b < 0
    · have e := law_lowest2_eq h0 h n (t := -t) (b := -b) (by omega) bb.neg
      rw [go h (n + 2) _ rfl]
      have b1 := br_of h
      have b2 := fr_of h
      rw [Rat.neg_divInt_neg] at e
      simp [esc, escB, notVar, esc.escBs, isFresh, frV, lim_val, powOk, Pg.F_law_lowest_2, Pg.B_law_lowest_2, start0, hn, e, b1, b2, fr_isL, fr_noL1]
    · exact law_lowest2_eq h0 h (n + 1) (by omega) bb
end
end Pu

/-! What the rules are made of. -/
namespace Pu
abbrev Clm := Rat × Int × Int
def clD (c : Clm) : D := .tup [fr c.1, .int c.2.1, .int c.2.2]
def clsD (l : List Clm) : D := .lst (l.map clD)
def begR (k : Nat) : Cor := (0, List.replicate k 0)
section
variable {T : Tab}
structure HasRule (T : Tab) : Prop extends HasFrac T where
  plus : T.fn "plus" = some Pg.F_plus
  times : T.fn "times" = some Pg.F_times
  before : T.fn "before" = some Pg.F_before
  all_of : T.fn "all_of" = some Pg.F_all_of
  lesser : T.fn "lesser" = some Pg.F_lesser
  risen : T.fn "risen" = some Pg.F_risen
  begin_ : T.fn "begin" = some Pg.F_begin
  cut : T.fn "cut" = some Pg.F_cut
  look : T.fn "look_claims" = some Pg.F_look_claims
  nothing : T.glob "NOTHING" = some (.tup [.int 0, .int 1])
  most : T.glob "MOST" = some (.int 8)
theorem risen_loop (h : HasRule T) {n : Nat} (hn : 1 ≤ n) {x : Rat} {L : List Rat} {k : Nat} (hk : k < 3000) (hx : SzR k x) (hs : ∀ y ∈ L, SzR k y) : ∀ (m i : Nat), i + m = below L x →
    exec (orcOf T (evFn T n)) Pg.L_risen_0 [some (.frz, .lst (L.map fr)), some (.frz, fr x), some (.frz, .int i)] = .ok ([some (.frz, .lst (L.map fr)), some (.frz, fr x), some (.frz, .int (below L x))], .nx) := by
  have b1 := br_of h.before
  intro m
  induction m with
  | zero =>
    intro i hi
    have hi : i = below L x := by omega
    subst hi
    by_cases hlt : below L x < L.length
    · have i1 := atI_mapf fr (l := L) (i := (below L x : Int)) rfl hlt
      have e1 := before_le h.before hn (hs _ (List.getElem_mem hlt)) hx (by omega)
      have q := below_at hlt
      unfold Pg.L_risen_0
      refine (whl_f ?_).trans ?_ <;> simp [esc, escB, notVar, esc.escBs, isFresh, frV, lim_val, powOk, hlt, i1, e1, q, b1, Pg.F_before]
    · unfold Pg.L_risen_0
      refine (whl_f ?_).trans ?_ <;> simp [esc, escB, notVar, esc.escBs, isFresh, frV, lim_val, powOk, hlt, b1, Pg.F_before]
  | succ m ih =>
    intro i hi
    have hb := below_le L x
    have hlt : i < L.length := by omega
    have i1 := atI_mapf fr (l := L) (i := (i : Int)) rfl hlt
    have e1 := before_le h.before hn (hs _ (List.getElem_mem hlt)) hx (by omega)
    have q := below_lt (L := L) (x := x) (j := i) (by omega) hlt
    have := ih (i + 1) (by omega)
    unfold Pg.L_risen_0 at this ⊢
    refine (whl_t (r' := [some (.frz, .lst (L.map fr)), some (.frz, fr x), some (.frz, .int ((i + 1 : Nat) : Int))]) ?_ ?_).trans ?_
    · simp [esc, escB, notVar, esc.escBs, isFresh, frV, lim_val, powOk, hlt, i1, e1, q, b1, Pg.F_before]
    · simp [esc, escB, notVar, esc.escBs, isFresh, frV, lim_val, powOk, Pg.LB_risen_0, b1, Pg.F_before]
    · exact this
theorem risen_le (h : HasRule T) {n : Nat} (hn : 2 ≤ n) {x : Rat} {L : List Rat} {k : Nat} (hk : k < 3000) (hx : SzR k x) (hs : ∀ y ∈ L, SzR k y) (hl : L.length < lim) :
    evFn T n "risen" [.lst (L.map fr), fr x] = .ok (.lst ((insR L x).map fr)) := by
  obtain ⟨n, rfl⟩ : ∃ m, n = m + 1 := ⟨n - 1, by omega⟩
  have e0 := risen_loop h (n := n) (by omega) hk hx hs (below L x) 0 (by omega)
  have e0 : exec (orcOf T (evFn T n)) Pg.L_risen_0 [some (.frz, .lst (L.map fr)), some (.frz, fr x), some (.frz, .int 0)] = _ := e0
  have b1 := br_of h.before
  have c1 : cut (L.map fr) none (some (below L x : Int)) = (L.take (below L x)).map fr := by rw [cut_to, List.map_take]
  have c2 : cut (L.map fr) (some (below L x : Int)) none = (L.drop (below L x)).map fr := by rw [cut_from, List.map_drop]
  have hb := below_le L x
  unfold lim at hl
  rw [go h.risen n _ rfl]
  by_cases hlt : below L x < L.length
  · have i1 := atI_mapf fr (l := L) (i := (below L x : Int)) rfl hlt
    by_cases q : L[below L x] = x
    · have : insR L x = L := by
        unfold insR
        rw [if_pos (by rw [List.getElem?_eq_getElem hlt, q])]
      rw [this]
      simp [esc, escB, notVar, esc.escBs, isFresh, frV, lim_val, powOk, Pg.F_risen, Pg.B_risen, start0, e0, hlt, i1, fr_eq, q]
    · have : insR L x = L.take (below L x) ++ [x] ++ L.drop (below L x) := by
        unfold insR
        rw [if_neg (by rw [List.getElem?_eq_getElem hlt]; simpa using q)]
      rw [this]
      have l1 : min (below L x) L.length + 1 ≤ 16777216 := by omega
      have l2 : min (below L x) L.length + 1 + (L.length - below L x) ≤ 16777216 := by omega
      simp [esc, escB, notVar, esc.escBs, isFresh, frV, lim_val, powOk, Pg.F_risen, Pg.B_risen, start0, e0, hlt, i1, fr_eq, q, c1, c2, l1, l2]
  · have : insR L x = L.take (below L x) ++ [x] ++ L.drop (below L x) := by
      unfold insR
      rw [if_neg (by rw [List.getElem?_eq_none (by omega)]; simp)]
    rw [this]
    have l1 : min (below L x) L.length + 1 ≤ 16777216 := by omega
    have l2 : min (below L x) L.length + 1 + (L.length - below L x) ≤ 16777216 := by omega
    simp [esc, escB, notVar, esc.escBs, isFresh, frV, lim_val, powOk, Pg.F_risen, Pg.B_risen, start0, e0, hlt, c1, c2, l1, l2]
theorem all_of_le (h : HasRule T) {n : Nat} (hn : 4 ≤ n) {l : List Rat} {k : Nat} (hk : k < 3900) (hx : ∀ x ∈ l, SzR k x) (hs : ∀ i, SzR k (l.take i).sum) : evFn T n "all_of" [.lst (l.map fr)] = .ok (fr l.sum) := by
  obtain ⟨n, rfl⟩ : ∃ m, n = m + 1 := ⟨n - 1, by omega⟩
  have b1 := br_of h.plus
  have e := (for_fold (o := orcOf T (evFn T n)) (tup := false) (is := [2]) (it := .iseq (.var 0)) (b := Pg.LB_all_of_0) (dead := [2]) (r := [some (.frz, .lst (l.map fr)), some (.frz, fr 0), none]) (l := l)
      fr (fun (a : Rat) => [some (.frz, .lst (l.map fr)), some (.frz, fr a), none]) (fun a x => a + x) 0 (fun i a => a = (l.take i).sum) (by simp [esc, escB, notVar, esc.escBs, isFresh, frV, lim_val, powOk]) (by simp [esc, escB, notVar, esc.escBs, isFresh, frV, lim_val, powOk]) (by simp) (fun i hi a ha => by
        have s1 := hs i
        have s2 := hx _ (List.getElem_mem hi)
        rw [← ha] at s1
        have e1 := plus_le h.toHasFrac h.plus (n := n) (by omega) s1 s2 (by omega)
        refine ⟨?_, by rw [List.take_succ, List.getElem?_eq_getElem hi, List.sum_append, ← ha]; simp [Rat.add_zero]⟩
        rw [forB_x]
        simp [esc, escB, notVar, esc.escBs, isFresh, frV, lim_val, powOk, Pg.LB_all_of_0, e1, b1, Pg.F_plus, fr_isL])).1
  have hf : ∀ (l : List Rat) (a : Rat), l.foldl (fun a x => a + x) a = a + l.sum := fun l => by
    induction l with
    | nil => intro a; simp [Rat.add_zero]
    | cons x l ih => intro a; rw [List.foldl_cons, ih, List.sum_cons]; grind
  rw [hf, Rat.zero_add] at e
  have z : fr 0 = .tup [.int 0, .int 1] := rfl
  have e : exec (orcOf T (evFn T n)) Pg.L_all_of_0 [some (.frz, .lst (l.map fr)), some (.frz, .tup [.int 0, .int 1]), none] = .ok ([some (.frz, .lst (l.map fr)), some (.frz, fr l.sum), none], .nx) := by
    unfold Pg.L_all_of_0
    rw [← z, e]
    simp [esc, escB, notVar, esc.escBs, isFresh, frV, lim_val, powOk]
  rw [go h.all_of n _ rfl]
  simp [esc, escB, notVar, esc.escBs, isFresh, frV, lim_val, powOk, Pg.F_all_of, Pg.B_all_of, start0, h.nothing, e, fr_isL, fr_noL1]
theorem lesser_le (h : HasRule T) {n : Nat} (hn : 2 ≤ n) {x y : Rat} {k : Nat} (hk : k < 3900) (hx : SzR k x) (hy : SzR k y) : evFn T n "lesser" [fr x, fr y] = .ok (fr (if x < y then x else y)) := by
  obtain ⟨n, rfl⟩ : ∃ m, n = m + 1 := ⟨n - 1, by omega⟩
  have e := before_le h.before (n := n) (by omega) hx hy (by omega)
  have b1 := br_of h.before
  rw [go h.lesser n _ rfl]
  by_cases q : x < y <;> simp [esc, escB, notVar, esc.escBs, isFresh, frV, lim_val, powOk, Pg.F_lesser, Pg.B_lesser, start0, e, q, b1, Pg.F_before, fr_isL, fr_noL1]
theorem begin_le (h : HasRule T) {n : Nat} (hn : 1 ≤ n) {k : Nat} (hk : k < 1000) : evFn T n "begin" [.int k] = .ok (corD (begR k)) := by
  obtain ⟨n, rfl⟩ : ∃ m, n = m + 1 := ⟨n - 1, by omega⟩
  have hr : rngOk (k : Int) = true := rngOk_in (by omega) (by omega)
  have z : fr 0 = .tup [.int 0, .int 1] := rfl
  have lc : ev (orcOf T (evFn T n)) [some (.frz, .int k), none] (.lc (.glob "NOTHING") false [1] (.irng (.var 0)) .nil) = .ok (.lst ((List.range k).map fun _ => fr 0)) := by
    refine lc_ok (l := List.range k) (fun (j : Nat) => .int (0 + j)) _ (by simp [esc, escB, notVar, esc.escBs, isFresh, frV, lim_val, powOk, hr, rangeL]) (by simp; unfold lim; omega) fun j hj => ⟨_, rfl, ?_⟩
    simp [esc, escB, notVar, esc.escBs, isFresh, frV, lim_val, powOk, h.nothing, z]
  have m : (List.range k).map (fun _ => fr 0) = (List.replicate k (0 : Rat)).map fr := by
    rw [List.map_replicate]
    exact List.eq_replicate_iff.mpr ⟨by simp, by simp⟩
  rw [m] at lc
  rw [go h.begin_ n _ rfl]
  have nl : D.noLA (List.replicate k (D.tup [D.int 0, D.int 1])) = true := by
    have := noLA_map (l := List.replicate k (0 : Rat)) (f := fr) fun a _ => fr_noL a
    rwa [List.map_replicate, z] at this
  simp [esc, escB, notVar, esc.escBs, isFresh, frV, lim_val, powOk, Pg.F_begin, Pg.B_begin, start0, lc, h.nothing, begR, corD, z, nl]
theorem cut_le' (h : HasRule T) {n : Nat} (hn : 4 ≤ n) {l : List Clm} {y : Rat} {k : Nat} (hk : k < 3900) (hx : ∀ c ∈ l, SzR k c.1) (hy : SzR k y) (hl : l.length ≤ lim) :
    evFn T n "cut" [clsD l, fr y] = .ok (clsD (l.map fun c => (c.1 * y, c.2))) := by
  obtain ⟨n, rfl⟩ : ∃ m, n = m + 1 := ⟨n - 1, by omega⟩
  have b1 := br_of h.times
  have lc : ev (orcOf T (evFn T n)) [some (.frz, clsD l), some (.frz, fr y), none, none, none] (.lc (.tup (.cons (.call "times" (.cons (.var 2) (.cons (.var 1) .nil))) (.cons (.var 3) (.cons (.var 4) .nil)))) true [2, 3, 4] (.iseq (.var 0)) .nil) = .ok (.lst (l.map fun c => clD (c.1 * y, c.2))) := by
    refine lc_ok (l := l) clD _ (by simp [esc, escB, notVar, esc.escBs, isFresh, frV, lim_val, powOk, clsD]) hl fun c hc => ⟨_, rfl, ?_⟩
    have e := times_le h.toHasFrac h.times (n := n) (by omega) (hx c hc) hy (by omega)
    simp [esc, escB, notVar, esc.escBs, isFresh, frV, lim_val, powOk, e, clD]
  have nl : D.noLA (l.map fun c => clD (c.1 * y, c.2)) = true := noLA_map fun c _ => by simp [clD, D.noL, D.noLA, fr_noL]
  have mm : l.map (clD ∘ fun c => (c.1 * y, c.2)) = l.map fun c => clD (c.1 * y, c.2) := rfl
  unfold clsD at lc ⊢
  rw [go h.cut n _ rfl]
  simp [esc, escB, notVar, esc.escBs, isFresh, frV, lim_val, powOk, Pg.F_cut, Pg.B_cut, start0, lc, mm, nl]
/-! claims of whole numbers, as the laws make them -/
abbrev ICl := Int × Int × Int
def icD (c : ICl) : D := .tup [.int c.1, .int c.2.1, .int c.2.2]
def icsD (l : List ICl) : D := .lst (l.map icD)
theorem min3 (a b c : Int) : builtin "min" [.tup [.int a, .int b, .int c]] = .ok (.int (min (min a b) c)) := rfl
theorem look_le (h : HasRule T) {n : Nat} (hn : 1 ≤ n) {l : List ICl} (hl : 1 ≤ l.length) (h8 : l.length ≤ 8) (h0 : ∀ c ∈ l, 0 ≤ c.1 ∧ 0 ≤ c.2.1 ∧ 0 ≤ c.2.2) : evFn T n "look_claims" [icsD l] = .ok .non := by
  obtain ⟨n, rfl⟩ : ∃ m, n = m + 1 := ⟨n - 1, by omega⟩
  have e := (for_fold (o := orcOf T (evFn T n)) (tup := false) (is := [1]) (it := .iseq (.var 0)) (b := Pg.LB_look_claims_0) (dead := [1]) (r := [some (.frz, icsD l), none]) (l := l)
      icD (fun (_ : Unit) => [some (.frz, icsD l), none]) (fun a _ => a) () (fun _ _ => True) (by simp [esc, escB, notVar, esc.escBs, isFresh, frV, lim_val, powOk, icsD]) (by simp [esc, escB, notVar, esc.escBs, isFresh, frV, lim_val, powOk]) trivial (fun i hi a _ => by
        obtain ⟨p1, p2, p3⟩ := h0 _ (List.getElem_mem hi)
        obtain ⟨z, m, q⟩ : ∃ z : Int, builtin "min" [.tup [.int l[i].1, .int l[i].2.1, .int l[i].2.2]] = .ok (.int z) ∧ ¬ z < 0 := ⟨_, min3 _ _ _, by omega⟩
        refine ⟨?_, trivial⟩
        rw [forB_x]
        unfold icD
        simp [esc, escB, notVar, esc.escBs, isFresh, frV, lim_val, powOk, Pg.LB_look_claims_0, m, q])).1
  have e : exec (orcOf T (evFn T n)) Pg.L_look_claims_0 [some (.frz, icsD l), none] = .ok ([some (.frz, icsD l), none], .nx) := by
    unfold Pg.L_look_claims_0
    rw [e]
    simp [esc, escB, notVar, esc.escBs, isFresh, frV, lim_val, powOk]
  have lb : builtin "len" [icsD l] = .ok (.int l.length) := by simp [icsD]
  have q1 : ¬ (l.length : Int) < 1 := by omega
  have q2 : ¬ (8 : Int) < (l.length : Int) := by omega
  rw [go h.look n _ rfl]
  simp [esc, escB, notVar, esc.escBs, isFresh, frV, lim_val, powOk, Pg.F_look_claims, Pg.B_look_claims, start0, e, lb, h.most, q1, q2]
  try omega
end
/-! a grid of D-ths -/
/-- some D-ths, at most M of them -/
def Gd (D M : Nat) (x : Rat) : Prop := ∃ z : Int, x = Rat.divInt z D ∧ z.natAbs ≤ M
section
variable {D M N : Nat} {x y : Rat}
theorem Gd.sz {k : Nat} (h : Gd D M x) (hD : 0 < D) (h1 : D < 2 ^ k) (h2 : M < 2 ^ k) : SzR k x := by
  obtain ⟨z, rfl, hz⟩ := h
  exact szR_divInt (by omega) (Nat.lt_of_le_of_lt hz h2) (by unfold Bits; simpa using h1)
theorem Gd.zero : Gd D M 0 := ⟨0, by simp, by simp⟩
theorem Gd.mono (h : Gd D M x) (l : M ≤ N) : Gd D N x := let ⟨z, e, hz⟩ := h; ⟨z, e, Nat.le_trans hz l⟩
theorem divInt_addI (a b : Int) (D : Int) : Rat.divInt a D + Rat.divInt b D = Rat.divInt (a + b) D := by
  simp only [Rat.divInt_eq_div, Rat.intCast_add]
  grind
theorem divInt_subI (a b : Int) (D : Int) : Rat.divInt a D - Rat.divInt b D = Rat.divInt (a - b) D := by
  simp only [Rat.divInt_eq_div, Rat.intCast_sub]
  grind
theorem Gd.add (h : Gd D M x) (h' : Gd D N y) : Gd D (M + N) (x + y) := by
  obtain ⟨z, rfl, hz⟩ := h
  obtain ⟨w, rfl, hw⟩ := h'
  exact ⟨z + w, divInt_addI _ _ _, by omega⟩
theorem Gd.sub (h : Gd D M x) (h' : Gd D N y) : Gd D (M + N) (x - y) := by
  obtain ⟨z, rfl, hz⟩ := h
  obtain ⟨w, rfl, hw⟩ := h'
  exact ⟨z - w, divInt_subI _ _ _, by omega⟩
theorem Gd.sum {l : List Rat} (h : ∀ x ∈ l, Gd D M x) : Gd D (l.length * M) l.sum := by
  induction l with
  | nil => exact .zero
  | cons x l ih =>
    rw [List.sum_cons, List.length_cons, Nat.succ_mul, Nat.add_comm]
    exact (h x List.mem_cons_self).add (ih fun y hy => h y (List.mem_cons_of_mem _ hy))
theorem Gd.sum8 {l : List Rat} (hl : l.length ≤ 8) (h : ∀ x ∈ l, Gd D M x) (i : Nat) : Gd D (8 * M) (l.take i).sum :=
  (Gd.sum fun x hx => h x (List.mem_of_mem_take hx)).mono (Nat.mul_le_mul_right _ (by simp; omega))
end
def amts (l : List Clm) : List Rat := l.map fun c => c.1
def sharesR (as : List Rat) : List Cor := if as.sum = 0 then [begR as.length] else [begR as.length, (as.sum, as)]
def lessr (a l : Rat) : Rat := if a < l then a else l
def levR (as : List Rat) : List Rat := as.foldl insR []
def evenC (as : List Rat) (l : Rat) : Cor := ((as.map fun a => lessr a l).sum, as.map fun a => lessr a l)
def evenR (as : List Rat) : List Cor := begR as.length :: ((levR as).filter fun l => decide (l ≠ 0)).map (evenC as)
section
variable {T : Tab}
theorem all_gd (h : HasRule T) {n : Nat} (hn : 4 ≤ n) {l : List Rat} {D M k : Nat} (hl : l.length ≤ 8) (hD : 0 < D) (hk : k < 3900) (h1 : D < 2 ^ k) (h2 : 8 * M < 2 ^ k) (hx : ∀ x ∈ l, Gd D M x) : evFn T n "all_of" [.lst (l.map fr)] = .ok (fr l.sum) :=
  all_of_le h hn hk (fun x hx' => (hx x hx').sz hD h1 (by omega)) fun i => (Gd.sum8 hl hx i).sz hD h1 h2
theorem shares_le (h : HasRule T) (hs : T.fn "Shares.divided" = some Pg.F_Shares_divided) {n : Nat} (hn : 6 ≤ n) {cs : List Clm} {D M k : Nat} (hl : cs.length ≤ 8) (hD : 0 < D) (hk : k < 3900) (h1 : D < 2 ^ k) (h2 : 8 * M < 2 ^ k) (hx : ∀ c ∈ cs, Gd D M c.1) (self : Pu.D) :
    evFn T n "Shares.divided" [self, clsD cs] = .ok (pathD (sharesR (amts cs))) := by
  obtain ⟨n, rfl⟩ : ∃ m, n = m + 1 := ⟨n - 1, by omega⟩
  have lc : ev (orcOf T (evFn T n)) [some (.frz, self), some (.frz, clsD cs), none, none] (.lc (.ix (.var 3) (.int 0)) false [3] (.iseq (.var 1)) .nil) = .ok (.lst ((amts cs).map fr)) := by
    unfold amts
    rw [List.map_map]
    refine lc_ok (l := cs) clD _ (by simp [esc, escB, notVar, esc.escBs, isFresh, frV, lim_val, powOk, clsD]) (by unfold lim; omega) fun c hc => ⟨_, rfl, by simp [esc, escB, notVar, esc.escBs, isFresh, frV, lim_val, powOk, clD]⟩
  have ea := all_gd h (n := n) (by omega) (l := amts cs) (by simp [amts]; omega) hD hk h1 h2 (fun x hx' => by
    obtain ⟨c, hc, rfl⟩ := List.mem_map.mp hx'
    exact hx c hc)
  have eb := begin_le h (n := n) (by omega) (k := cs.length) (by omega)
  have lb : builtin "len" [clsD cs] = .ok (.int cs.length) := by simp [clsD]
  have b1 := br_of h.all_of
  have b2 := br_of h.begin_
  have z : fr 0 = Pu.D.tup [.int 0, .int 1] := rfl
  have q0 := fr_eq (amts cs).sum 0
  rw [z] at q0
  have al : (amts cs).length = cs.length := by simp [amts]
  have nl : ∀ p : List Cor, Pu.D.noLA (p.map corD) = true := fun p => noLA_map fun a _ => cor_noL a
  have n1 := nl [begR cs.length]
  have n2 := nl [begR cs.length, ((amts cs).sum, amts cs)]
  rw [go hs n _ rfl]
  unfold sharesR pathD
  by_cases q : (amts cs).sum = 0
  · rw [if_pos q, al]
    rw [decide_eq_true q] at q0
    simp at n1
    simp [esc, escB, notVar, esc.escBs, isFresh, frV, lim_val, powOk, Pg.F_Shares_divided, Pg.B_Shares_divided, start0, lc, ea, eb, lb, b1, b2, Pg.F_all_of, Pg.F_begin, h.nothing, q0, n1, cor_isL]
  · rw [if_neg q, al]
    rw [decide_eq_false q] at q0
    simp at n2
    have cc : Pu.D.tup [fr (amts cs).sum, .tup ((amts cs).map fr)] = corD ((amts cs).sum, amts cs) := rfl
    simp [esc, escB, notVar, esc.escBs, isFresh, frV, lim_val, powOk, Pg.F_Shares_divided, Pg.B_Shares_divided, start0, lc, ea, eb, lb, b1, b2, Pg.F_all_of, Pg.F_begin, h.nothing, q0, n2, cc, cor_isL]
theorem insr_mem {L : List Rat} {x y : Rat} (h : y ∈ insR L x) : y ∈ L ∨ y = x := by
  unfold insR at h
  split at h
  · exact .inl h
  · simp only [List.mem_append, List.mem_singleton] at h
    rcases h with (h | h) | h
    · exact .inl (List.mem_of_mem_take h)
    · exact .inr h
    · exact .inl (List.mem_of_mem_drop h)
theorem insr_len (L : List Rat) (x : Rat) : (insR L x).length ≤ L.length + 1 := by
  unfold insR
  split
  · omega
  · simp; omega
theorem lev_mem : ∀ {as L : List Rat} {y : Rat}, y ∈ as.foldl insR L → y ∈ L ∨ y ∈ as
  | [], L, y, h => .inl h
  | a :: as, L, y, h => by
    rcases lev_mem (as := as) h with h | h
    · rcases insr_mem h with h | h
      · exact .inl h
      · exact .inr (by rw [h]; exact List.mem_cons_self)
    · exact .inr (List.mem_cons_of_mem _ h)
theorem lev_len : ∀ (as L : List Rat), (as.foldl insR L).length ≤ L.length + as.length
  | [], L => by simp
  | a :: as, L => by
    have h1 := lev_len as (insR L a)
    have h2 := insr_len L a
    simp only [List.foldl_cons, List.length_cons]
    omega
def evE (self : Pu.D) (cs : List Clm) (b : Fl × List Rat × Option (Fl × Pu.D)) : Env := [some (.frz, self), some (.frz, clsD cs), some (b.1, .lst (b.2.1.map fr)), b.2.2, none, none, none]
def evG (b : Fl × List Rat × Option (Fl × Pu.D)) (c : Clm) : Fl × List Rat × Option (Fl × Pu.D) := (.frz, insR b.2.1 c.1, some (.frz, clD c))
theorem evG_fst : ∀ (q : List Clm) (b : Fl × List Rat × Option (Fl × Pu.D)), (q.foldl evG b).2.1 = (amts q).foldl insR b.2.1
  | [], _ => rfl
  | c :: q, b => by rw [List.foldl_cons, evG_fst q]; rfl
theorem evG_all {cs : List Clm} (h0 : cs ≠ []) (b : Fl × List Rat × Option (Fl × Pu.D)) : ∃ c, cs.foldl evG b = (.frz, (amts cs).foldl insR b.2.1, some (.frz, clD c)) := by
  obtain ⟨q, c, rfl⟩ : ∃ q c, cs = q ++ [c] := ⟨cs.dropLast, cs.getLast h0, (List.dropLast_concat_getLast h0).symm⟩
  refine ⟨c, ?_⟩
  have := evG_fst q b
  rw [List.foldl_append]
  show (Fl.frz, insR (q.foldl evG b).2.1 c.1, some (Fl.frz, clD c)) = _
  rw [this]
  unfold amts
  rw [List.map_append, List.foldl_append]
  rfl
theorem evenly_le (h : HasRule T) (hs : T.fn "Evenly.divided" = some Pg.F_Evenly_divided) {n : Nat} (hn : 7 ≤ n) {cs : List Clm} {D M k : Nat} (h0 : cs ≠ []) (hl : cs.length ≤ 8) (hD : 0 < D) (hk : k < 2900) (h1 : D < 2 ^ k) (h2 : 8 * M < 2 ^ k) (hx : ∀ c ∈ cs, Gd D M c.1) (self : Pu.D) :
    evFn T n "Evenly.divided" [self, clsD cs] = .ok (pathD (evenR (amts cs))) := by
  obtain ⟨n, rfl⟩ : ∃ m, n = m + 1 := ⟨n - 1, by omega⟩
  have b0 := br_of h.risen
  have f0 := fr_of h.risen
  have am : ∀ x ∈ amts cs, Gd D M x := fun x hx' => by
    obtain ⟨c, hc, rfl⟩ := List.mem_map.mp hx'
    exact hx c hc
  -- the levels
  have e1 := for_fold (o := orcOf T (evFn T n)) (tup := false) (is := [3]) (it := .iseq (.var 1)) (b := Pg.LB_Evenly_divided_0) (dead := []) (r := evE self cs (.own, [], none)) (l := cs)
      clD (evE self cs) evG (.own, [], none) (fun i b => b.2.1.length ≤ i ∧ ∀ y ∈ b.2.1, y ∈ amts cs) (by simp [esc, escB, notVar, esc.escBs, isFresh, frV, lim_val, powOk, clsD, evE]) (by simp [esc, escB, notVar, esc.escBs, isFresh, frV, lim_val, powOk, evE]) ⟨by simp, by simp⟩ (fun i hi b hb => by
        have hc := List.getElem_mem hi
        have hmem : cs[i].1 ∈ amts cs := List.mem_map.mpr ⟨_, hc, rfl⟩
        have e := risen_le h (n := n) (by omega) (L := b.2.1) (x := cs[i].1) (k := k) (by omega) ((am _ hmem).sz hD h1 (by omega)) (fun y hy => (am _ (hb.2 y hy)).sz hD h1 (by omega)) (by unfold lim; omega)
        refine ⟨?_, ?_, fun y hy => ?_⟩
        · rw [forB_x]
          have ic : itemOf (clD cs[i]) (.int 0) = .ok (fr cs[i].1) := by simp [clD]
          simp [esc, escB, notVar, esc.escBs, isFresh, frV, lim_val, powOk, Pg.LB_Evenly_divided_0, evE, evG, e, b0, f0, Pg.F_risen, ic]
        · have := insr_len b.2.1 cs[i].1
          show (insR b.2.1 cs[i].1).length ≤ i + 1
          omega
        · rcases insr_mem hy with hy | hy
          · exact hb.2 y hy
          · rw [hy]; exact hmem)
  obtain ⟨e1, i1⟩ := e1
  obtain ⟨c, ff⟩ := evG_all h0 (.own, [], none)
  rw [ff] at e1 i1
  have hlv : (amts cs).foldl insR [] = levR (amts cs) := rfl
  dsimp only at e1 i1
  rw [hlv] at e1 i1
  generalize hL : levR (amts cs) = L at *
  obtain ⟨i1, i2⟩ := i1
  have e1 : exec (orcOf T (evFn T n)) Pg.L_Evenly_divided_0 [some (.frz, self), some (.frz, clsD cs), some (.own, .lst []), none, none, none, none] = .ok ([some (.frz, self), some (.frz, clsD cs), some (.frz, .lst (L.map fr)), some (.frz, clD c), none, none, none], .nx) := by
    unfold Pg.L_Evenly_divided_0
    refine e1.trans ?_
    simp [esc, escB, notVar, esc.escBs, isFresh, frV, lim_val, powOk, evE]
  have b1 := br_of h.all_of
  have b2 := br_of h.begin_
  have b3 := br_of h.lesser
  have z : fr 0 = Pu.D.tup [.int 0, .int 1] := rfl
  have al : (amts cs).length = cs.length := by simp [amts]
  have eb := begin_le h (n := n) (by omega) (k := cs.length) (by omega)
  have lb : builtin "len" [clsD cs] = .ok (.int cs.length) := by simp [clsD]
  -- the corners
  have e2 := (for_fold (o := orcOf T (evFn T n)) (tup := false) (is := [5]) (it := .iseq (.var 2)) (b := Pg.LB_Evenly_divided_1) (dead := [5, 6]) (r := [some (.frz, self), some (.frz, clsD cs), some (.frz, .lst (L.map fr)), some (.frz, clD c), some (.own, .lst ([begR cs.length].map corD)), none, none]) (l := L)
      fr (fun (acc : List Cor) => [some (.frz, self), some (.frz, clsD cs), some (.frz, .lst (L.map fr)), some (.frz, clD c), some (.own, .lst (acc.map corD)), none, none]) (fun acc l => if l = 0 then acc else acc ++ [evenC (amts cs) l]) [begR cs.length] (fun i acc => acc.length ≤ i + 1) (by simp [esc, escB, notVar, esc.escBs, isFresh, frV, lim_val, powOk]) (by simp [esc, escB, notVar, esc.escBs, isFresh, frV, lim_val, powOk]) (by simp) (fun i hi acc ha => by
        have hm := am _ (i2 _ (List.getElem_mem hi))
        have q0 := fr_ne L[i] 0
        rw [z] at q0
        refine ⟨?_, ?_⟩
        · rw [forB_x]
          by_cases q : L[i] = 0
          · rw [if_pos q]
            rw [decide_eq_true q] at q0
            simp [esc, escB, notVar, esc.escBs, isFresh, frV, lim_val, powOk, Pg.LB_Evenly_divided_1, h.nothing, q0]
          · rw [if_neg q]
            rw [decide_eq_false q] at q0
            have lc : ev (orcOf T (evFn T n)) [some (.frz, self), some (.frz, clsD cs), some (.frz, .lst (L.map fr)), some (.frz, clD c), some (.own, .lst (acc.map corD)), some (.frz, fr L[i]), none] (.lc (.call "lesser" (.cons (.ix (.var 3) (.int 0)) (.cons (.var 5) .nil))) false [3] (.iseq (.var 1)) .nil) = .ok (.lst ((evenC (amts cs) L[i]).2.map fr)) := by
              unfold evenC amts
              simp only [List.map_map]
              refine lc_ok (l := cs) clD _ (by simp [esc, escB, notVar, esc.escBs, isFresh, frV, lim_val, powOk, clsD]) (by unfold lim; omega) fun c hc => ⟨_, rfl, ?_⟩
              have e := lesser_le h (n := n) (k := k) (by omega) (by omega) ((hx c hc).sz hD h1 (by omega)) (hm.sz hD h1 (by omega))
              have ic : itemOf (clD c) (.int 0) = .ok (fr c.1) := by simp [clD]
              simp [esc, escB, notVar, esc.escBs, isFresh, frV, lim_val, powOk, e, ic, lessr]
            have ea := all_gd h (n := n) (by omega) (l := (evenC (amts cs) L[i]).2) (D := D) (M := M) (k := k) (by simp [evenC]; omega) hD (by omega) h1 h2 (fun y hy => by
              obtain ⟨a, ha, rfl⟩ := List.mem_map.mp hy
              unfold lessr
              split
              · exact am _ ha
              · exact hm)
            have cc : Pu.D.tup [fr (evenC (amts cs) L[i]).2.sum, .tup ((evenC (amts cs) L[i]).2.map fr)] = corD (evenC (amts cs) L[i]) := rfl
            have la : acc.length < 16777216 := by omega
            simp [esc, escB, notVar, esc.escBs, isFresh, frV, lim_val, powOk, Pg.LB_Evenly_divided_1, h.nothing, q0, lc, ea, b1, b3, Pg.F_all_of, Pg.F_lesser, cc, la]
        · show (if L[i] = 0 then acc else acc ++ [evenC (amts cs) L[i]]).length ≤ i + 1 + 1
          split
          · omega
          · simp; omega)).1
  have fe : ∀ (l : List Rat) (acc : List Cor), l.foldl (fun acc l => if l = 0 then acc else acc ++ [evenC (amts cs) l]) acc = acc ++ (l.filter fun l => decide (l ≠ 0)).map (evenC (amts cs)) := fun l => by
    induction l with
    | nil => intro acc; simp
    | cons x l ih =>
      intro acc
      rw [List.foldl_cons, ih]
      by_cases q : x = 0 <;> simp [q]
  rw [fe] at e2
  have hev : [begR cs.length] ++ (L.filter fun l => decide (l ≠ 0)).map (evenC (amts cs)) = evenR (amts cs) := by
    unfold evenR
    rw [hL, al]
    rfl
  rw [hev] at e2
  have e2 : exec (orcOf T (evFn T n)) Pg.L_Evenly_divided_1 [some (.frz, self), some (.frz, clsD cs), some (.frz, .lst (L.map fr)), some (.frz, clD c), some (.own, .lst [corD (begR cs.length)]), none, none] = .ok ([some (.frz, self), some (.frz, clsD cs), some (.frz, .lst (L.map fr)), some (.frz, clD c), some (.own, pathD (evenR (amts cs))), none, none], .nx) := by
    unfold Pg.L_Evenly_divided_1
    refine e2.trans ?_
    simp [esc, escB, notVar, esc.escBs, isFresh, frV, lim_val, powOk, pathD]
  have nl : Pu.D.noL1 (pathD (evenR (amts cs))) = true := noLA_map fun a _ => cor_noL a
  rw [go hs n _ rfl]
  simp [esc, escB, notVar, esc.escBs, isFresh, frV, lim_val, powOk, Pg.F_Evenly_divided, Pg.B_Evenly_divided, start0, e1, e2, eb, lb, b2, Pg.F_begin, cor_isL, nl]
end
end Pu

/-! Evenly: up to a level. -/
namespace Pu
theorem sum_le {α : Type} {f g : α → Rat} : ∀ {l : List α}, (∀ a ∈ l, f a ≤ g a) → (l.map f).sum ≤ (l.map g).sum
  | [], _ => Rat.le_refl
  | a :: l, h => by
    have h1 := h a List.mem_cons_self
    have h2 := sum_le (l := l) fun b hb => h b (List.mem_cons_of_mem _ hb)
    simp only [List.map_cons, List.sum_cons]
    grind
theorem sum_lt {α : Type} {f g : α → Rat} : ∀ {l : List α}, (∀ a ∈ l, f a ≤ g a) → (∃ a ∈ l, f a < g a) → (l.map f).sum < (l.map g).sum
  | [], _, h => by obtain ⟨a, h, _⟩ := h; cases h
  | a :: l, h, hs => by
    have h1 := h a List.mem_cons_self
    have h2 : ∀ b ∈ l, f b ≤ g b := fun b hb => h b (List.mem_cons_of_mem _ hb)
    have h3 := sum_le h2
    obtain ⟨b, hb, hlt⟩ := hs
    simp only [List.map_cons, List.sum_cons]
    rcases List.mem_cons.mp hb with rfl | hb
    · grind
    · have := sum_lt h2 ⟨b, hb, hlt⟩
      grind
theorem lessr_mono {a l m : Rat} (h : l ≤ m) : lessr a l ≤ lessr a m := by
  unfold lessr
  split <;> split <;> grind
theorem lessr_le {a l : Rat} : lessr a l ≤ a := by unfold lessr; split <;> grind
theorem lessr_le' {a l : Rat} : lessr a l ≤ l := by unfold lessr; split <;> grind
theorem lessr_of {a l : Rat} (h : a ≤ l) : lessr a l = a := by unfold lessr; split <;> grind
theorem lessr_of' {a l : Rat} (h : l ≤ a) : lessr a l = l := by unfold lessr; split <;> grind
theorem lev_srt : ∀ (as L : List Rat), Srt L → Srt (as.foldl insR L)
  | [], _, h => h
  | a :: as, L, h => lev_srt as _ (insR_srt h)
theorem insr_mem_old {L : List Rat} {x y : Rat} (h : y ∈ L) : y ∈ insR L x := by
  unfold insR
  split
  · exact h
  · rw [← List.take_append_drop (below L x) L] at h
    simp only [List.mem_append, List.mem_singleton] at h ⊢
    rcases h with h | h
    · exact .inl (.inl h)
    · exact .inr h
theorem insr_mem_new (L : List Rat) (x : Rat) : x ∈ insR L x := by
  unfold insR
  split
  · rename_i h
    exact List.mem_of_getElem? h
  · simp
theorem lev_all : ∀ (as L : List Rat) (x : Rat), x ∈ L ∨ x ∈ as → x ∈ as.foldl insR L
  | [], L, x, h => h.resolve_right (by simp)
  | a :: as, L, x, h => by
    refine lev_all as (insR L a) x ?_
    rcases h with h | h
    · exact .inl (insr_mem_old h)
    · rcases List.mem_cons.mp h with rfl | h
      · exact .inl (insr_mem_new L x)
      · exact .inr h
theorem levR_mem {as : List Rat} {x : Rat} : x ∈ levR as ↔ x ∈ as := ⟨fun h => (lev_mem h).resolve_left (by simp), fun h => lev_all as [] x (.inr h)⟩
theorem levR_srt (as : List Rat) : Srt (levR as) := lev_srt as [] List.Pairwise.nil
/-- the levels above 0 -/
def lvs (as : List Rat) : List Rat := (levR as).filter fun l => decide (l ≠ 0)
theorem evenR_eq (as : List Rat) : evenR as = begR as.length :: (lvs as).map (evenC as) := rfl
theorem lvs_mem {as : List Rat} {x : Rat} : x ∈ lvs as ↔ x ∈ as ∧ x ≠ 0 := by
  unfold lvs
  rw [List.mem_filter, levR_mem]
  simp
theorem lvs_srt (as : List Rat) : Srt (lvs as) := (levR_srt as).sublist List.filter_sublist
theorem beg_even {as : List Rat} (h : ∀ a ∈ as, 0 ≤ a) : begR as.length = evenC as 0 := by
  have e : as.map (fun a => lessr a 0) = List.replicate as.length 0 := by
    rw [List.eq_replicate_iff]
    refine ⟨by simp, fun x hx => ?_⟩
    obtain ⟨a, ha, rfl⟩ := List.mem_map.mp hx
    exact lessr_of' (h a ha)
  unfold begR evenC
  rw [e]
  congr 1
  have : ∀ k : Nat, (List.replicate k (0 : Rat)).sum = 0 := fun k => by
    induction k with
    | zero => rfl
    | succ k ih => rw [List.replicate_succ, List.sum_cons, ih, Rat.add_zero]
  exact (this _).symm
theorem evenC_lt {as : List Rat} {l m : Rat} (h : l < m) (hm : m ∈ as) : (evenC as l).1 < (evenC as m).1 :=
  sum_lt (fun a _ => lessr_mono (by grind)) ⟨m, hm, by rw [lessr_of' (by grind : l ≤ m), lessr_of Rat.le_refl]; exact h⟩
theorem even_pth {as : List Rat} (h : ∀ a ∈ as, 0 ≤ a) : Pth as.length (evenR as) := by
  refine ⟨?_, fun c hc => ?_⟩
  · rw [evenR_eq, beg_even h]
    refine List.pairwise_cons.mpr ⟨fun c hc => ?_, ?_⟩
    · obtain ⟨l, hl, rfl⟩ := List.mem_map.mp hc
      obtain ⟨h1, h2⟩ := lvs_mem.mp hl
      have := h l h1
      exact evenC_lt (by grind) h1
    · rw [List.pairwise_map]
      exact ((lvs_srt as).imp_of_mem fun {a b} ha hb hab => evenC_lt hab (lvs_mem.mp hb).1)
  · rw [evenR_eq] at hc
    rcases List.mem_cons.mp hc with rfl | hc
    · simp [begR]
    · obtain ⟨l, _, rfl⟩ := List.mem_map.mp hc
      simp [evenC]
theorem sum_lin {α : Type} (f g : α → Rat) (s : Rat) : ∀ l : List α, (l.map fun a => f a + s * (g a - f a)).sum = (l.map f).sum + s * ((l.map g).sum - (l.map f).sum)
  | [] => by simp [Rat.add_zero, Rat.sub_self, Rat.mul_zero]
  | a :: l => by
    simp only [List.map_cons, List.sum_cons]
    rw [sum_lin f g s l]
    grind
/-- between two levels without an amount between them -/
theorem amid_even {as : List Rat} {l m x : Rat} (hlm : l < m) (hg : ∀ a ∈ as, a ≤ l ∨ m ≤ a) (hm : m ∈ as) (h1 : (evenC as l).1 ≤ x) (h2 : x ≤ (evenC as m).1) :
    ∃ w, l ≤ w ∧ w ≤ m ∧ amidR (evenC as l) (evenC as m) x = as.map (fun a => lessr a w) ∧ (as.map fun a => lessr a w).sum = x := by
  have hlt := evenC_lt hlm hm
  obtain ⟨s, hs⟩ : ∃ s, s = (x - (evenC as l).1) / ((evenC as m).1 - (evenC as l).1) := ⟨_, rfl⟩
  have hs' : s * ((evenC as m).1 - (evenC as l).1) = x - (evenC as l).1 := by
    rw [hs]
    exact Rat.div_mul_cancel (by grind)
  have s0 : 0 ≤ s := by
    refine Rat.not_lt.mp fun h => ?_
    have := Rat.mul_lt_mul_of_pos_right h (show 0 < (evenC as m).1 - (evenC as l).1 by grind)
    grind
  have s1 : s ≤ 1 := by
    refine Rat.not_lt.mp fun h => ?_
    have := Rat.mul_lt_mul_of_pos_right h (show 0 < (evenC as m).1 - (evenC as l).1 by grind)
    grind
  have w1 : l ≤ l + s * (m - l) := by
    have := Rat.mul_nonneg s0 (show 0 ≤ m - l by grind)
    grind
  have w2 : l + s * (m - l) ≤ m := by
    have := Rat.mul_nonneg (show 0 ≤ 1 - s by grind) (show 0 ≤ m - l by grind)
    grind
  have key : ∀ a ∈ as, lessr a l + s * (lessr a m - lessr a l) = lessr a (l + s * (m - l)) := fun a ha => by
    rcases hg a ha with h | h
    · rw [lessr_of h, lessr_of (by grind : a ≤ m), lessr_of (by grind : a ≤ l + s * (m - l))]
      grind
    · rw [lessr_of' (by grind : l ≤ a), lessr_of' h, lessr_of' (by grind : l + s * (m - l) ≤ a)]
  have km : (as.map fun a => lessr a l + s * (lessr a m - lessr a l)) = as.map fun a => lessr a (l + s * (m - l)) := List.map_congr_left key
  refine ⟨l + s * (m - l), w1, w2, ?_, ?_⟩
  · unfold amidR
    rw [← hs, ← km]
    show ((as.map fun a => lessr a l).zip (as.map fun a => lessr a m)).map _ = _
    rw [List.zip_map', List.map_map]
    rfl
  · rw [← km, sum_lin]
    have : (as.map fun a => lessr a l).sum + s * ((as.map fun a => lessr a m).sum - (as.map fun a => lessr a l).sum) = (evenC as l).1 + s * ((evenC as m).1 - (evenC as l).1) := rfl
    rw [this, hs']
    grind
/-- up to a level, all along -/
theorem at_evens {as : List Rat} : ∀ (ls : List Rat) (l x : Rat), Srt (l :: ls) → (∀ m ∈ ls, m ∈ as) → (∀ a ∈ as, a ≤ l ∨ a ∈ ls) → 0 ≤ l → (evenC as l).1 ≤ x →
    ∃ w, 0 ≤ w ∧ atR ((l :: ls).map (evenC as)) x = as.map (fun a => lessr a w) ∧ (x ≤ as.sum → (as.map fun a => lessr a w).sum = x) ∧ (as.sum ≤ x → as.map (fun a => lessr a w) = as)
  | [], l, x, _, _, h2, h3, h4 => by
    have e : as.map (fun a => lessr a l) = as := by
      have : as.map (fun a => lessr a l) = as.map id := List.map_congr_left fun a ha => lessr_of ((h2 a ha).resolve_right (by simp))
      rw [this, List.map_id]
    refine ⟨l, h3, rfl, fun h => ?_, fun _ => e⟩
    have : (evenC as l).1 = as.sum := by
      show (as.map fun a => lessr a l).sum = as.sum
      rw [e]
    rw [e]
    grind
  | m :: ls, l, x, h0, h1, h2, h3, h4 => by
    have h0' := List.pairwise_cons.mp h0
    have hlm := h0'.1 m List.mem_cons_self
    show ∃ w, 0 ≤ w ∧ (if (evenC as m).1 < x then atR ((m :: ls).map (evenC as)) x else amidR (evenC as l) (evenC as m) x) = _ ∧ _
    by_cases q : (evenC as m).1 < x
    · rw [if_pos q]
      exact at_evens ls m x h0'.2 (fun a ha => h1 a (List.mem_cons_of_mem _ ha)) (fun a ha => by
        rcases h2 a ha with h | h
        · exact .inl (by grind)
        · rcases List.mem_cons.mp h with rfl | h
          · exact .inl Rat.le_refl
          · exact .inr h) (by grind) (by grind)
    · rw [if_neg q]
      have hm := h1 m List.mem_cons_self
      obtain ⟨w, w1, w2, w3, w4⟩ := amid_even (as := as) (x := x) hlm (fun a ha => by
        rcases h2 a ha with h | h
        · exact .inl h
        · rcases List.mem_cons.mp h with rfl | h
          · exact .inr Rat.le_refl
          · have := (List.pairwise_cons.mp h0'.2).1 a h
            exact .inr (by grind)) hm h4 (by grind)
      refine ⟨w, by grind, w3, fun _ => w4, fun hx => ?_⟩
      have hle : (evenC as m).1 ≤ as.sum := by
        have := sum_le (f := fun a => lessr a m) (g := id) (l := as) fun a _ => lessr_le
        rwa [List.map_id] at this
      have hall : (as.map fun a => lessr a w).sum = as.sum := by grind
      have : ∀ a ∈ as, lessr a w = a := fun a ha => by
        refine Rat.le_antisymm lessr_le (Rat.not_lt.mp fun hlt => ?_)
        have := sum_lt (f := fun a => lessr a w) (g := id) (l := as) (fun a _ => lessr_le) ⟨a, ha, hlt⟩
        rw [List.map_id] at this
        grind
      have e : as.map (fun a => lessr a w) = as.map id := List.map_congr_left this
      rw [e, List.map_id]
/-- EVENLY: at each purse each has all or the level -/
theorem even_at {as : List Rat} (h : ∀ a ∈ as, 0 ≤ a) {x : Rat} (hx : 0 ≤ x) :
    ∃ w, 0 ≤ w ∧ atR (evenR as) x = as.map (fun a => lessr a w) ∧ (x ≤ as.sum → (as.map fun a => lessr a w).sum = x) ∧ (as.sum ≤ x → as.map (fun a => lessr a w) = as) := by
  rw [evenR_eq, beg_even h]
  refine at_evens (lvs as) 0 x ?_ (fun m hm => (lvs_mem.mp hm).1) (fun a ha => ?_) Rat.le_refl ?_
  · refine List.pairwise_cons.mpr ⟨fun a ha => ?_, lvs_srt as⟩
    obtain ⟨h1, h2⟩ := lvs_mem.mp ha
    have := h a h1
    grind
  · by_cases q : a = 0
    · exact .inl (by rw [q]; exact Rat.le_refl)
    · exact .inr (lvs_mem.mpr ⟨ha, q⟩)
  · rw [← beg_even h]
    exact hx
end Pu

/-! A thinned path is worth the same at each purse. -/
namespace Pu
theorem ln_sub1 {a b c : Cor} {i : Nat} (hab : a.1 < b.1) (hac : a.1 < c.1) (h : vv b i = ln a c i b.1) (x : Rat) : ln a b i x = ln a c i x := by
  unfold ln at *
  rw [h]
  have e1 : b.1 - a.1 ≠ 0 := by grind
  have e2 : c.1 - a.1 ≠ 0 := by grind
  generalize vv a i = ya at *
  generalize vv c i = yc at *
  generalize hp : b.1 - a.1 = p at *
  generalize hq : c.1 - a.1 = q at *
  generalize x - a.1 = t at *
  grind
theorem ln_sub2 {a b c : Cor} {i : Nat} (hab : a.1 < b.1) (hbc : b.1 < c.1) (h : vv b i = ln a c i b.1) (x : Rat) : ln b c i x = ln a c i x := by
  unfold ln at *
  rw [h]
  have e1 : c.1 - b.1 ≠ 0 := by grind
  have e2 : c.1 - a.1 ≠ 0 := by grind
  generalize vv a i = ya at *
  generalize vv c i = yc at *
  have e3 : x - b.1 = (x - a.1) - (b.1 - a.1) := by grind
  have e4 : c.1 - b.1 = (c.1 - a.1) - (b.1 - a.1) := by grind
  rw [e3]
  rw [e4] at e1 ⊢
  generalize b.1 - a.1 = p at *
  generalize c.1 - a.1 = q at *
  generalize x - a.1 = t at *
  grind
/-- a corner on the line between its neighbours may go -/
theorem at_drop {k : Nat} {a b c : Cor} : ∀ (u : List Cor) {v : List Cor}, Pth k (u ++ a :: b :: c :: v) → Col k a b c → ∀ x, atR (u ++ a :: b :: c :: v) x = atR (u ++ a :: c :: v) x
  | [], v, h, hc, x => by
    have hab := h.lt (d := b) (by simp)
    have hac := h.lt (d := c) (by simp)
    have hbc := h.tail.lt (d := c) (by simp)
    have la := h.len a (by simp)
    have lb := h.len b (by simp)
    have lc := h.len c (by simp)
    have same1 : amidR a b x = amidR a c x := nth_ext (by simp [amid_length, la, lb, lc]) fun i => by
      by_cases hi : i < k
      · rw [nth_amid (by rw [la, lb]), nth_amid (by rw [la, lc])]
        exact ln_sub1 hab hac (hc i hi) x
      · rw [nth_of (by simp [amid_length, la, lb]; omega), nth_of (by simp [amid_length, la, lc]; omega)]
    have same2 : amidR b c x = amidR a c x := nth_ext (by simp [amid_length, la, lb, lc]) fun i => by
      by_cases hi : i < k
      · rw [nth_amid (by rw [lb, lc]), nth_amid (by rw [la, lc])]
        exact ln_sub2 hab hbc (hc i hi) x
      · rw [nth_of (by simp [amid_length, lb, lc]; omega), nth_of (by simp [amid_length, la, lc]; omega)]
    show (if b.1 < x then (if c.1 < x then atR (c :: v) x else amidR b c x) else amidR a b x) = (if c.1 < x then atR (c :: v) x else amidR a c x)
    rw [same1, same2]
    by_cases q1 : b.1 < x
    · rw [if_pos q1]
    · rw [if_neg q1, if_neg (fun z => q1 (by grind))]
  | [d], v, h, hc, x => by
    have ih := at_drop [] h.tail hc x
    simp only [List.nil_append] at ih
    show (if a.1 < x then atR (a :: b :: c :: v) x else amidR d a x) = (if a.1 < x then atR (a :: c :: v) x else amidR d a x)
    rw [ih]
  | d :: e :: u, v, h, hc, x => by
    have ih := at_drop (e :: u) h.tail hc x
    show (if e.1 < x then atR (e :: (u ++ a :: b :: c :: v)) x else amidR d e x) = (if e.1 < x then atR (e :: (u ++ a :: c :: v)) x else amidR d e x)
    have ih : atR (e :: (u ++ a :: b :: c :: v)) x = atR (e :: (u ++ a :: c :: v)) x := ih
    rw [ih]
theorem at_thinA {k : Nat} : ∀ (p acc : List Cor), Pth k (acc.reverse ++ p) → ∀ x, atR ((thinA acc p).reverse) x = atR (acc.reverse ++ p) x
  | [], acc, h, x => by simp [thinA]
  | c :: p, acc, h, x => by
    show atR ((thinA (stepT acc c) p).reverse) x = _
    have key : Pth k ((stepT acc c).reverse ++ p) ∧ atR ((stepT acc c).reverse ++ p) x = atR (acc.reverse ++ c :: p) x := by
      match acc, h with
      | [], h => exact ⟨h, rfl⟩
      | [b], h => exact ⟨h, rfl⟩
      | b :: a :: rest, h =>
        have h : Pth k (rest.reverse ++ a :: b :: c :: p) := by simpa using h
        by_cases q : amidR a c b.1 = b.2
        · have e : stepT (b :: a :: rest) c = c :: a :: rest := if_pos q
          have hcol := (col_iff (k := k) (h.len a (by simp)) (h.len b (by simp)) (h.len c (by simp))).mp q
          have hd := at_drop rest.reverse h hcol x
          rw [e]
          refine ⟨?_, ?_⟩
          · have s : (rest.reverse ++ a :: c :: p).Sublist (rest.reverse ++ a :: b :: c :: p) := List.Sublist.append_left (List.Sublist.cons₂ _ (List.Sublist.cons _ (List.Sublist.refl _))) _
            have : Pth k (rest.reverse ++ a :: c :: p) := ⟨h.up.sublist s, fun d hd => h.len d (s.mem hd)⟩
            simpa using this
          · simpa using hd.symm
        · have e : stepT (b :: a :: rest) c = c :: b :: a :: rest := if_neg q
          rw [e]
          exact ⟨by simpa using h, by simp⟩
    rw [at_thinA p (stepT acc c) key.1 x, key.2]
theorem at_thin {k : Nat} {p : List Cor} (h : Pth k p) (x : Rat) : atR (thinR p) x = atR p x := at_thinA p [] h x
end Pu

/-! What a turned path and one behind another are worth. -/
namespace Pu
theorem at_pair {k : Nat} {c d : Cor} : ∀ (u : List Cor) {v : List Cor}, Pth k (u ++ c :: d :: v) → ∀ x, c.1 ≤ x → x ≤ d.1 → atR (u ++ c :: d :: v) x = amidR c d x
  | [], v, h, x, h1, h2 => by
    show (if d.1 < x then atR (d :: v) x else amidR c d x) = _
    rw [if_neg (by grind)]
  | [e], v, h, x, h1, h2 => by
    have := at_pair [] h.tail x h1 h2
    show atR (e :: c :: d :: v) x = _
    rw [at_tail h h1]
    exact this
  | e :: f :: u, v, h, x, h1, h2 => by
    have := at_pair (f :: u) h.tail x h1 h2
    have hf : f.1 ≤ x := by
      have := h.tail.lt (d := c) (by simp)
      grind
    have ht := at_tail (p := u ++ c :: d :: v) h hf
    exact ht.trans this
theorem pair_of {k : Nat} : ∀ {p : List Cor} {c : Cor} {y : Rat}, Pth k (c :: p) → p ≠ [] → c.1 ≤ y → y ≤ ((c :: p).getLast (by simp)).1 → ∃ u a b v, c :: p = u ++ a :: b :: v ∧ a.1 ≤ y ∧ y ≤ b.1
  | [], _, _, _, h, _, _ => absurd rfl h
  | d :: p, c, y, h, _, h1, h2 => by
    by_cases q : y ≤ d.1
    · exact ⟨[], c, d, p, rfl, h1, q⟩
    · cases p with
      | nil => exact absurd h2 q
      | cons e p =>
        obtain ⟨u, a, b, v, e1, e2, e3⟩ := pair_of (p := e :: p) (c := d) (y := y) h.tail (by simp) (by grind) (by simpa using h2)
        exact ⟨c :: u, a, b, v, by rw [e1]; rfl, e2, e3⟩
theorem turned_of {p : List Cor} (h0 : p ≠ []) : turnedR p = p.reverse.map (subC (p.getLast h0)) := by
  unfold turnedR
  rw [List.getLast?_eq_some_getLast h0]
theorem subC_len {k : Nat} {L c : Cor} (h1 : L.2.length = k) (h2 : c.2.length = k) : (subC L c).2.length = k := by
  unfold subC
  simp [h1, h2]
theorem turned_pth {k : Nat} {p : List Cor} (h : Pth k p) (h0 : p ≠ []) : Pth k (turnedR p) := by
  rw [turned_of h0]
  refine ⟨?_, fun c hc => ?_⟩
  · unfold Up
    rw [List.pairwise_map, List.pairwise_reverse]
    exact h.up.imp fun {a b} hab => by
      show (p.getLast h0).1 - b.1 < (p.getLast h0).1 - a.1
      grind
  · obtain ⟨d, hd, rfl⟩ := List.mem_map.mp hc
    exact subC_len (h.len _ (List.getLast_mem h0)) (h.len d (List.mem_reverse.mp hd))
theorem vv_sub {k : Nat} {L c : Cor} (h1 : L.2.length = k) (h2 : c.2.length = k) (i : Nat) : vv (subC L c) i = vv L i - vv c i :=
  nth_zip (fun p q => p - q) (by grind) (by rw [h1, h2]) i
/-- TURNED: the whole less what the path is worth at what is lacking -/
theorem at_turn {k : Nat} {p : List Cor} (h : Pth k p) (h0 : p ≠ []) {x : Rat} (h1 : 0 ≤ x) (h2 : ∀ c ∈ p.head?, c.1 ≤ (p.getLast h0).1 - x) :
    atR (turnedR p) x = ((p.getLast h0).2.zip (atR p ((p.getLast h0).1 - x))).map fun q => q.1 - q.2 := by
  have hp := turned_pth h h0
  cases p with
  | nil => exact absurd rfl h0
  | cons c p =>
    by_cases hn : p = []
    · subst hn
      rfl
    · have hc := h2 c (by simp)
      obtain ⟨u, a, b, v, e1, e2, e3⟩ := pair_of h hn hc (by grind)
      have hL := h.len _ (List.getLast_mem h0)
      rw [turned_of h0] at hp ⊢
      generalize (c :: p).getLast h0 = L at *
      rw [e1] at h hp ⊢
      have ha := h.len a (by simp)
      have hb := h.len b (by simp)
      have hab : a.1 < b.1 := by
        have := (List.pairwise_append.mp h.up).2.1
        exact (List.pairwise_cons.mp this).1 b (by simp)
      have er : (u ++ a :: b :: v).reverse.map (subC L) = v.reverse.map (subC L) ++ subC L b :: subC L a :: u.reverse.map (subC L) := by simp
      rw [er] at hp ⊢
      rw [at_pair _ hp x (by show L.1 - b.1 ≤ x; grind) (by show x ≤ L.1 - a.1; grind), at_pair u h (L.1 - x) e2 e3]
      refine nth_ext ?_ fun i => ?_
      · rw [amid_length, subC_len hL hb, subC_len hL ha]
        simp [amid_length, hL, ha, hb]
      · rw [nth_amid (by rw [subC_len hL hb, subC_len hL ha]), nth_zip (fun p q => p - q) (by grind) (by rw [amid_length, ha, hb, hL, Nat.min_self]), nth_amid (by rw [ha, hb])]
        unfold ln
        rw [vv_sub hL hb, vv_sub hL ha]
        show _ + (x - (L.1 - b.1)) / ((L.1 - a.1) - (L.1 - b.1)) * _ = nth L.2 i - _
        have hvL : vv L i = nth L.2 i := rfl
        rw [hvL]
        have d1 : (L.1 - a.1) - (L.1 - b.1) = b.1 - a.1 := by grind
        have d2 : b.1 - a.1 ≠ 0 := by grind
        rw [d1]
        have d3 : x - (L.1 - b.1) = (b.1 - a.1) - (L.1 - x - a.1) := by grind
        rw [d3]
        generalize L.1 - x - a.1 = t at *
        generalize b.1 - a.1 = q at *
        generalize vv a i = ya
        generalize vv b i = yb
        generalize nth L.2 i = yl
        grind
theorem addC_len {k : Nat} {L c : Cor} (h1 : L.2.length = k) (h2 : c.2.length = k) : (addC L c).2.length = k := by
  unfold addC
  simp [h1, h2]
theorem vv_add {k : Nat} {L c : Cor} (h1 : L.2.length = k) (h2 : c.2.length = k) (i : Nat) : vv (addC L c) i = vv L i + vv c i :=
  nth_zip (fun p q => p + q) (by grind) (by rw [h1, h2]) i
theorem at_shift {k : Nat} {L : Cor} (hL : L.2.length = k) : ∀ (q : List Cor), q ≠ [] → (∀ c ∈ q, c.2.length = k) → ∀ x, atR (q.map (addC L)) x = (L.2.zip (atR q (x - L.1))).map fun q => q.1 + q.2
  | [], h, _, _ => absurd rfl h
  | [c], _, _, _ => rfl
  | c :: d :: q, _, h, x => by
    have hc := h c (by simp)
    have hd := h d (by simp)
    have ih := at_shift hL (d :: q) (by simp) (fun e he => h e (List.mem_cons_of_mem _ he)) x
    show (if (addC L d).1 < x then atR ((d :: q).map (addC L)) x else amidR (addC L c) (addC L d) x) = (L.2.zip (if d.1 < x - L.1 then atR (d :: q) (x - L.1) else amidR c d (x - L.1))).map _
    have e : ((addC L d).1 < x) = (d.1 < x - L.1) := by
      show (L.1 + d.1 < x) = (d.1 < x - L.1)
      exact propext ⟨fun h => by grind, fun h => by grind⟩
    by_cases q1 : d.1 < x - L.1
    · rw [if_pos (by rw [e]; exact q1), if_pos q1, ih]
    · rw [if_neg (by rw [e]; exact q1), if_neg q1]
      refine nth_ext ?_ fun i => ?_
      · rw [amid_length, addC_len hL hc, addC_len hL hd]
        simp [amid_length, hL, hc, hd]
      · rw [nth_amid (by rw [addC_len hL hc, addC_len hL hd]), nth_zip (fun p q => p + q) (by grind) (by rw [amid_length, hc, hd, hL, Nat.min_self]), nth_amid (by rw [hc, hd])]
        unfold ln
        rw [vv_add hL hc, vv_add hL hd]
        show _ + (x - (L.1 + c.1)) / ((L.1 + d.1) - (L.1 + c.1)) * _ = nth L.2 i + _
        have hvL : vv L i = nth L.2 i := rfl
        rw [hvL]
        have d1 : (L.1 + d.1) - (L.1 + c.1) = d.1 - c.1 := by grind
        have d3 : x - (L.1 + c.1) = x - L.1 - c.1 := by grind
        rw [d1, d3]
        grind
theorem at_app_lo {k : Nat} : ∀ {p r : List Cor} {x : Rat}, Pth k (p ++ r) → (h0 : p ≠ []) → (∀ c ∈ p.head?, c.1 ≤ x) → x ≤ (p.getLast h0).1 → atR (p ++ r) x = atR p x
  | [], _, _, _, h0, _, _ => absurd rfl h0
  | [c], r, x, h, _, h1, h2 => by
    have : x = c.1 := Rat.le_antisymm h2 (h1 c (by simp))
    subst this
    exact (at_head (p := r) h).trans rfl
  | c :: d :: p, r, x, h, _, h1, h2 => by
    show (if d.1 < x then atR (d :: p ++ r) x else amidR c d x) = (if d.1 < x then atR (d :: p) x else amidR c d x)
    by_cases q : d.1 < x
    · rw [if_pos q, if_pos q]
      exact at_app_lo (p := d :: p) h.tail (by simp) (by simp; grind) (by simpa using h2)
    · rw [if_neg q, if_neg q]
theorem at_app_hi {k : Nat} : ∀ {p r : List Cor} {x : Rat}, Pth k (p ++ r) → (h0 : p ≠ []) → (p.getLast h0).1 ≤ x → atR (p ++ r) x = atR (p.getLast h0 :: r) x
  | [], _, _, _, h0, _ => absurd rfl h0
  | [c], r, x, h, _, h1 => rfl
  | c :: d :: p, r, x, h, _, h1 => by
    have hd : d.1 ≤ x := by
      have hl : (d :: p).getLast (by simp) ∈ d :: p := List.getLast_mem _
      have hp : Pth k (d :: p) := ⟨(h.tail.up).sublist (List.sublist_append_left _ _), fun e he => h.len e (by simp at he ⊢; grind)⟩
      have h1 : ((d :: p).getLast (by simp)).1 ≤ x := by simpa using h1
      rcases List.mem_cons.mp hl with e | e
      · rw [e] at h1; exact h1
      · have := hp.lt e
        grind
    have ht := at_tail (p := p ++ r) h hd
    have ih := at_app_hi (p := d :: p) (r := r) (x := x) h.tail (by simp) (by simpa using h1)
    have e : (c :: d :: p).getLast (by simp) = (d :: p).getLast (by simp) := by simp
    rw [e]
    exact ht.trans ih
theorem behind_pth {k : Nat} {p q : List Cor} (hp : Pth k p) (hq : Pth k q) (p0 : p ≠ []) (hz : ∀ c ∈ q.head?, 0 ≤ c.1) : Pth k (p ++ q.tail.map (addC (p.getLast p0))) := by
  have hL := hp.len _ (List.getLast_mem p0)
  refine ⟨List.pairwise_append.mpr ⟨hp.up, ?_, fun a ha x hx => ?_⟩, fun c hc => ?_⟩
  · rw [List.pairwise_map]
    exact (hq.up.sublist (List.tail_sublist q)).imp fun {x y} h => by
      show (p.getLast p0).1 + x.1 < (p.getLast p0).1 + y.1
      grind
  · obtain ⟨y, hy, rfl⟩ := List.mem_map.mp hx
    have hy0 : 0 < y.1 := by
      cases q with
      | nil => cases hy
      | cons b B =>
        have h1 := hq.lt (d := y) hy
        have h2 := hz b (by simp)
        grind
    have hal : a.1 ≤ (p.getLast p0).1 := by
      have hu := hp.up
      have e := List.dropLast_concat_getLast p0
      unfold Up at hu
      rw [← e] at ha hu
      rcases List.mem_append.mp ha with z | z
      · have := (List.pairwise_append.mp hu).2.2 a z (p.getLast p0) (by simp)
        grind
      · have : a = p.getLast p0 := by simpa using z
        rw [this]; exact Rat.le_refl
    show a.1 < (p.getLast p0).1 + y.1
    grind
  · rcases List.mem_append.mp hc with hc | hc
    · exact hp.len c hc
    · obtain ⟨d, hd, rfl⟩ := List.mem_map.mp hc
      exact addC_len hL (hq.len d (List.mem_of_mem_tail hd))
/-- BEHIND: the first path, then its end and what the second one gives of the rest -/
theorem at_behind {k : Nat} {p q : List Cor} (hp : Pth k p) (hq : Pth k (begR k :: q)) (p0 : p ≠ []) {x : Rat} (h1 : ∀ c ∈ p.head?, c.1 ≤ x) :
    atR (behindR p (begR k :: q)) x = if x ≤ (p.getLast p0).1 then atR p x else ((p.getLast p0).2.zip (atR (begR k :: q) (x - (p.getLast p0).1))).map fun q => q.1 + q.2 := by
  have hb := behind_pth hp hq p0 (fun c hc => by have : begR k = c := by simpa using hc
                                                 rw [← this]; exact Rat.le_refl)
  have hL := hp.len _ (List.getLast_mem p0)
  rw [behindR_eq p0, at_thin hb]
  by_cases hx : x ≤ (p.getLast p0).1
  · rw [if_pos hx, at_app_lo hb p0 h1 hx]
  · rw [if_neg hx, at_app_hi hb p0 (by grind), ← at_shift hL (begR k :: q) (by simp) hq.len]
    have e : addC (p.getLast p0) (begR k) = p.getLast p0 := by
      unfold addC begR
      refine Prod.ext (Rat.add_zero _) ?_
      refine nth_ext (by simp [hL]) fun i => ?_
      show nth (((p.getLast p0).2.zip (List.replicate k 0)).map fun p => p.1 + p.2) i = _
      rw [nth_zip (fun p q => p + q) (by grind) (by simp [hL])]
      have : nth (List.replicate k (0 : Rat)) i = 0 := by
        unfold nth
        by_cases hi : i < k <;> simp [List.getD, hi]
      rw [this, Rat.add_zero]
    show _ = atR (addC (p.getLast p0) (begR k) :: q.map (addC (p.getLast p0))) x
    rw [e]
    rfl
end Pu

/-! The flat rules: what their defs tell. -/
namespace Pu
/-- corners on a grid -/
def GdC (D M : Nat) (c : Cor) : Prop := Gd D (8 * M) c.1 ∧ ∀ x ∈ c.2, Gd D M x
theorem GdC.sz {D M k : Nat} {c : Cor} (h : GdC D M c) (hD : 0 < D) (h1 : D < 2 ^ k) (h2 : 8 * M < 2 ^ k) : SzC k c :=
  ⟨h.1.sz hD h1 h2, fun x hx => (h.2 x hx).sz hD h1 (by omega)⟩
theorem gdc_begR (D M k : Nat) : GdC D M (begR k) := ⟨.zero, fun x hx => by rw [List.eq_of_mem_replicate hx]; exact .zero⟩
theorem gdc_even {D M : Nat} {as : List Rat} (hl : as.length ≤ 8) (h : ∀ a ∈ as, Gd D M a) : ∀ c ∈ evenR as, GdC D M c ∧ c.2.length = as.length := fun c hc => by
  rw [evenR_eq] at hc
  rcases List.mem_cons.mp hc with rfl | hc
  · exact ⟨gdc_begR _ _ _, by simp [begR]⟩
  · obtain ⟨l, hl', rfl⟩ := List.mem_map.mp hc
    have hm := h l (lvs_mem.mp hl').1
    have hp : ∀ x ∈ (evenC as l).2, Gd D M x := fun x hx => by
      obtain ⟨a, ha, rfl⟩ := List.mem_map.mp hx
      unfold lessr
      split
      · exact h a ha
      · exact hm
    refine ⟨⟨?_, hp⟩, by simp [evenC]⟩
    have := Gd.sum8 (l := (evenC as l).2) (by simp [evenC]; omega) hp (evenC as l).2.length
    rw [List.take_length] at this
    exact this
theorem gdc_turned {D M k : Nat} {p : List Cor} (h : ∀ c ∈ p, GdC D M c ∧ c.2.length = k) : ∀ c ∈ turnedR p, GdC D (2 * M) c ∧ c.2.length = k := fun c hc => by
  by_cases h0 : p = []
  · subst h0; cases hc
  · rw [turned_of h0] at hc
    obtain ⟨d, hd, rfl⟩ := List.mem_map.mp hc
    have hd := h d (List.mem_reverse.mp hd)
    have hL := h _ (List.getLast_mem h0)
    refine ⟨⟨(hL.1.1.sub hd.1.1).mono (by omega), fun x hx => ?_⟩, subC_len hL.2 hd.2⟩
    obtain ⟨q, hq, rfl⟩ := List.mem_map.mp hx
    exact ((hL.1.2 _ (List.of_mem_zip hq).1).sub (hd.1.2 _ (List.of_mem_zip hq).2)).mono (by omega)
theorem even_ne (as : List Rat) : evenR as ≠ [] := by simp [evenR]
theorem turned_ne {p : List Cor} (h0 : p ≠ []) : turnedR p ≠ [] := by rw [turned_of h0]; simpa using h0
theorem even_len (as : List Rat) : (evenR as).length ≤ as.length + 1 := by
  have h1 := lev_len as []
  have h2 : (lvs as).length ≤ (levR as).length := List.length_filter_le _ _
  rw [evenR_eq]
  simp only [List.length_cons, List.length_map]
  have : (levR as).length ≤ as.length := by simpa [levR] using h1
  omega
theorem turned_length {p : List Cor} : (turnedR p).length = p.length := by
  by_cases h0 : p = []
  · subst h0; rfl
  · rw [turned_of h0]; simp
theorem Gd.half {D M : Nat} {x : Rat} (hD : 0 < D) (h : Gd D M x) : Gd (2 * D) M (x * (1 / 2)) := by
  obtain ⟨z, rfl, hz⟩ := h
  refine ⟨z, ?_, hz⟩
  rw [Rat.divInt_eq_div, Rat.divInt_eq_div]
  have hd : ((D : Int) : Rat) ≠ 0 := by
    have : (D : Int) ≠ 0 := by omega
    simpa using this
  have e : (((2 * D : Nat) : Int) : Rat) = 2 * ((D : Int) : Rat) := by
    have : ((2 * D : Nat) : Int) = 2 * (D : Int) := by omega
    rw [this, Rat.intCast_mul]
    rfl
  rw [e]
  generalize ((D : Int) : Rat) = w at *
  grind
section
variable {T : Tab}
structure HasFlat (T : Tab) : Prop where
  rule : HasRule T
  turn : HasTurn T
  beh : HasBehind T
  parts : HasParts T
  shares : T.fn "Shares.divided" = some Pg.F_Shares_divided
  evenly : T.fn "Evenly.divided" = some Pg.F_Evenly_divided
  losses : T.fn "Losses.divided" = some Pg.F_Losses_divided
  halves : T.fn "Halves.divided" = some Pg.F_Halves_divided
  path : T.fn "Rule.path" = some Pg.F_Rule_path
  parts_ : T.fn "Rule.parts" = some Pg.F_Rule_parts
  half : T.glob "HALF" = some (.tup [.int 1, .int 2])
  me : ∀ call ds, (orcOf T call).meth "Evenly" "divided" ds = call "Evenly.divided" ds
  ml : ∀ call ds, (orcOf T call).meth "Losses" "divided" ds = call "Losses.divided" ds
  ne : ∀ call, (orcOf T call).new "Evenly" [] = .ok (.obj "Evenly" [])
  nl : ∀ call, (orcOf T call).new "Losses" [] = .ok (.obj "Losses" [])
  fd : T.freshM "divided" = true
  bd : T.borM "divided" = true
theorem losses_le (h : HasFlat T) {n : Nat} (hn : 9 ≤ n) {cs : List Clm} {D M k : Nat} (h0 : cs ≠ []) (hl : cs.length ≤ 8) (hD : 0 < D) (hk : k < 900) (h1 : D < 2 ^ k) (h2 : 8 * M < 2 ^ k) (hx : ∀ c ∈ cs, Gd D M c.1) (self : Pu.D) :
    evFn T n "Losses.divided" [self, clsD cs] = .ok (pathD (turnedR (evenR (amts cs)))) := by
  obtain ⟨n, rfl⟩ : ∃ m, n = m + 1 := ⟨n - 1, by omega⟩
  have e1 := evenly_le h.rule h.evenly (n := n) (by omega) h0 hl hD (by omega) h1 h2 hx (.obj "Evenly" [])
  have g := gdc_even (as := amts cs) (by simp [amts]; omega) (D := D) (M := M) (fun a ha => by
    obtain ⟨c, hc, rfl⟩ := List.mem_map.mp ha
    exact hx c hc)
  have al : (amts cs).length = cs.length := by simp [amts]
  have e2 : evFn T n "turned" [pathD (evenR (amts cs))] = .ok (pathD (turnedR (evenR (amts cs)))) :=
    leN (P := fun n => evFn T n "turned" [pathD (evenR (amts cs))] = .ok (pathD (turnedR (evenR (amts cs))))) (fun n => turned_eq h.turn n (k := k) (by omega) (fun c hc => ⟨(g c hc).1.sz hD h1 h2, by rw [(g c hc).2]; unfold lim; omega⟩) (by have := even_len (amts cs); unfold lim; omega) (even_ne _)) (show 4 ≤ n by omega)
  have b1 := br_of h.turn.turned
  have b2 := fr_of h.turn.turned
  have nl : ∀ p : List Cor, Pu.D.noL1 (pathD p) = true := fun p => noLA_map fun a _ => cor_noL a
  have il : ∀ p : List Cor, (pathD p).isL = true := fun _ => rfl
  rw [go h.losses n _ rfl]
  simp [esc, escB, notVar, esc.escBs, isFresh, frV, lim_val, powOk, Pg.F_Losses_divided, Pg.B_Losses_divided, start0, h.ne, h.me, e1, e2, b1, b2, Pg.F_turned, nl, il]
theorem half_fr : fr (1 / 2) = .tup [.int 1, .int 2] := by
  unfold fr
  rw [show (1 / 2 : Rat).num = 1 by decide +kernel, show (1 / 2 : Rat).den = 2 by decide +kernel]
  rfl
theorem turned_head {k : Nat} {p : List Cor} (h0 : p ≠ []) (hl : ∀ c ∈ p, c.2.length = k) : ∃ q, turnedR p = begR k :: q := by
  have hL := hl _ (List.getLast_mem h0)
  have e : subC (p.getLast h0) (p.getLast h0) = begR k := by
    unfold subC begR
    refine Prod.ext (Rat.sub_self) ?_
    show ((p.getLast h0).2.zip (p.getLast h0).2).map (fun p => p.1 - p.2) = List.replicate k 0
    rw [List.eq_replicate_iff]
    refine ⟨by simp [hL], fun x hx => ?_⟩
    obtain ⟨⟨a, b⟩, hq, rfl⟩ := List.mem_map.mp hx
    have : a = b := by
      obtain ⟨i, hi, e⟩ := List.mem_iff_getElem.mp hq
      rw [List.getElem_zip] at e
      cases e
      rfl
    subst this
    exact Rat.sub_self
  rw [turned_of h0]
  obtain ⟨u, L, hp⟩ : ∃ u L, p = u ++ [L] := ⟨p.dropLast, p.getLast h0, (List.dropLast_concat_getLast h0).symm⟩
  have hLL : p.getLast h0 = L := by subst hp; simp
  rw [hLL] at e ⊢
  rw [hp, List.reverse_append]
  exact ⟨u.reverse.map (subC L), by simp [e]⟩
def hlf (as : List Rat) : List Rat := as.map fun a => a * (1 / 2)
def halvesR (as : List Rat) : List Cor := behindR (evenR (hlf as)) (turnedR (evenR (hlf as)))
theorem halves_le (h : HasFlat T) {n : Nat} (hn : 11 ≤ n) {cs : List Clm} {D M k : Nat} (h0 : cs ≠ []) (hl : cs.length ≤ 8) (hD : 0 < D) (hk : k < 399) (h1 : 2 * D < 2 ^ k) (h2 : 16 * M < 2 ^ k) (hx : ∀ c ∈ cs, Gd D M c.1) (hp : ∀ c ∈ cs, 0 ≤ c.1) (self : Pu.D) :
    evFn T n "Halves.divided" [self, clsD cs] = .ok (pathD (halvesR (amts cs))) := by
  obtain ⟨n, rfl⟩ : ∃ m, n = m + 1 := ⟨n - 1, by omega⟩
  have e0 := cut_le' h.rule (n := n) (by omega) (l := cs) (y := 1 / 2) (k := k) (by omega) (fun c hc => (hx c hc).sz hD (by omega) (by omega)) (by
    have : Gd 2 1 (1 / 2) := ⟨1, by decide +kernel, by decide⟩
    exact this.sz (by decide) (by omega) (by omega)) (by unfold lim; omega)
  rw [half_fr] at e0
  have am : amts (cs.map fun c => (c.1 * (1 / 2), c.2)) = hlf (amts cs) := by
    unfold amts hlf
    rw [List.map_map, List.map_map]
    rfl
  have hx' : ∀ c ∈ cs.map (fun c => ((c.1 * (1 / 2), c.2) : Clm)), Gd (2 * D) M c.1 := fun c hc => by
    obtain ⟨d, hd, rfl⟩ := List.mem_map.mp hc
    exact (hx d hd).half hD
  have hl' : (cs.map (fun c => ((c.1 * (1 / 2), c.2) : Clm))).length ≤ 8 := by simpa using hl
  have h0' : cs.map (fun c => ((c.1 * (1 / 2), c.2) : Clm)) ≠ [] := by simpa using h0
  have e1 := evenly_le h.rule h.evenly (n := n) (by omega) h0' hl' (D := 2 * D) (by omega) (by omega) h1 (by omega) hx' (.obj "Evenly" [])
  have e2 := losses_le h (n := n) (by omega) h0' hl' (D := 2 * D) (by omega) (by omega) h1 (by omega) hx' (.obj "Losses" [])
  rw [am] at e1 e2
  have ha : ∀ a ∈ hlf (amts cs), Gd (2 * D) M a := fun a ha => by
    rw [← am] at ha
    obtain ⟨c, hc, rfl⟩ := List.mem_map.mp ha
    exact hx' c hc
  have hpos : ∀ a ∈ hlf (amts cs), 0 ≤ a := fun a ha => by
    obtain ⟨b, hb, rfl⟩ := List.mem_map.mp ha
    obtain ⟨c, hc, rfl⟩ := List.mem_map.mp hb
    exact Rat.mul_nonneg (hp c hc) (by decide +kernel)
  have g := gdc_even (as := hlf (amts cs)) (by simp [amts, hlf]; omega) ha
  have gt := gdc_turned g
  have pth := even_pth hpos
  have el := even_len (hlf (amts cs))
  have ll : (hlf (amts cs)).length = cs.length := by simp [amts, hlf]
  have en := even_ne (hlf (amts cs))
  have tp := turned_pth pth en
  have tl := turned_length (p := evenR (hlf (amts cs)))
  have hz : ∀ c ∈ (turnedR (evenR (hlf (amts cs)))).head?, 0 ≤ c.1 := fun c hc => by
    obtain ⟨q, hq⟩ := turned_head en fun c hc => (g c hc).2
    rw [hq] at hc
    have : begR (hlf (amts cs)).length = c := by simpa using hc
    rw [← this]
    exact Rat.le_refl
  have bp := behind_pth pth tp en hz
  have e3 := behind_le h.beh (n := n) (by omega) (k := k) (by omega) (fun c hc => ⟨(g c hc).1.sz (by omega) h1 (by omega), by rw [(g c hc).2]; unfold lim; omega⟩) (fun c hc => (gt c hc).1.sz (by omega) h1 (by omega)) en (by omega) (by omega) (bp.up.imp fun hab => by grind)
  have b1 := br_of h.beh.behind
  have b2 := fr_of h.beh.behind
  have b3 := br_of h.rule.cut
  have b4 := fr_of h.rule.cut
  have nl : ∀ p : List Cor, Pu.D.noL1 (pathD p) = true := fun p => noLA_map fun a _ => cor_noL a
  have il : ∀ p : List Cor, (pathD p).isL = true := fun _ => rfl
  have il2 : ∀ p : List Clm, (clsD p).isL = true := fun _ => rfl
  unfold halvesR
  rw [go h.halves n _ rfl]
  simp [esc, escB, notVar, esc.escBs, isFresh, frV, lim_val, powOk, Pg.F_Halves_divided, Pg.B_Halves_divided, start0, h.half, h.ne, h.me, h.nl, h.ml, e0, e1, e2, e3, b1, b2, b3, b4, Pg.F_behind, Pg.F_cut, nl, il, il2, h.bd]
end
/-! the four flat rules -/
inductive Fk | shares | evenly | losses | halves
def Fk.name : Fk → String
  | .shares => "Shares"
  | .evenly => "Evenly"
  | .losses => "Losses"
  | .halves => "Halves"
def Fk.div : Fk → String
  | .shares => "Shares.divided"
  | .evenly => "Evenly.divided"
  | .losses => "Losses.divided"
  | .halves => "Halves.divided"
def flatR : Fk → List Rat → List Cor
  | .shares, as => sharesR as
  | .evenly, as => evenR as
  | .losses, as => turnedR (evenR as)
  | .halves, as => halvesR as
section
variable {T : Tab}
theorem flat_le (h : HasFlat T) (f : Fk) {n : Nat} (hn : 11 ≤ n) {cs : List Clm} {D M k : Nat} (h0 : cs ≠ []) (hl : cs.length ≤ 8) (hD : 0 < D) (hk : k < 399) (h1 : 2 * D < 2 ^ k) (h2 : 16 * M < 2 ^ k) (hx : ∀ c ∈ cs, Gd D M c.1) (hp : ∀ c ∈ cs, 0 ≤ c.1) (self : Pu.D) :
    evFn T n f.div [self, clsD cs] = .ok (pathD (flatR f (amts cs))) := by
  cases f with
  | shares => exact shares_le h.rule h.shares (by omega) hl hD (by omega) (show D < 2 ^ k by omega) (by omega) hx self
  | evenly => exact evenly_le h.rule h.evenly (by omega) h0 hl hD (by omega) (show D < 2 ^ k by omega) (by omega) hx self
  | losses => exact losses_le h (by omega) h0 hl hD (by omega) (show D < 2 ^ k by omega) (by omega) hx self
  | halves => exact halves_le h (by omega) h0 hl hD hk h1 h2 hx hp self
theorem rsum_nonneg : ∀ {l : List Rat}, (∀ a ∈ l, 0 ≤ a) → 0 ≤ l.sum
  | [], _ => Rat.le_refl
  | a :: l, h => by
    have h1 := h a List.mem_cons_self
    have h2 := rsum_nonneg (l := l) fun b hb => h b (List.mem_cons_of_mem _ hb)
    rw [List.sum_cons]
    grind
theorem stepT_first {acc : List Cor} {c : Cor} (h : acc ≠ []) : (stepT acc c).getLast? = acc.getLast? := by
  match acc, h with
  | [b], _ => simp [stepT]
  | b :: a :: rest, _ =>
    show (if amidR a c b.1 = b.2 then c :: a :: rest else c :: b :: a :: rest).getLast? = _
    by_cases q : amidR a c b.1 = b.2
    · rw [if_pos q]; simp
    · rw [if_neg q]; simp
theorem stepT_ne {acc : List Cor} {c : Cor} : stepT acc c ≠ [] := by
  obtain ⟨t, e, _⟩ := stepT_head acc c
  rw [e]
  simp
theorem thinA_first : ∀ (p acc : List Cor), acc ≠ [] → (thinA acc p).getLast? = acc.getLast?
  | [], _, _ => rfl
  | c :: p, acc, h => by
    show (thinA (stepT acc c) p).getLast? = _
    rw [thinA_first p _ stepT_ne, stepT_first h]
theorem thinR_first (c : Cor) (p : List Cor) : ∃ q, thinR (c :: p) = c :: q := by
  have h : (thinA [c] p).getLast? = some c := thinA_first p [c] (by simp)
  obtain ⟨hne, e⟩ := List.getLast?_eq_some_iff.mp h
  refine ⟨hne.reverse, ?_⟩
  show (thinA [c] p).reverse = _
  rw [e]
  simp
theorem flat_pth (f : Fk) {as : List Rat} (h : ∀ a ∈ as, 0 ≤ a) : Pth as.length (flatR f as) ∧ ∃ q, flatR f as = begR as.length :: q := by
  have pe := fun (bs : List Rat) (hb : ∀ a ∈ bs, 0 ≤ a) => even_pth hb
  cases f with
  | shares =>
    show Pth _ (sharesR as) ∧ ∃ q, sharesR as = _
    unfold sharesR
    by_cases q : as.sum = 0
    · rw [if_pos q]
      exact ⟨⟨List.pairwise_singleton _ _, fun c hc => by have : c = begR as.length := by simpa using hc
                                                          rw [this]; simp [begR]⟩, _, rfl⟩
    · rw [if_neg q]
      have h0 := rsum_nonneg h
      refine ⟨⟨?_, fun c hc => ?_⟩, _, rfl⟩
      · refine List.pairwise_cons.mpr ⟨fun c hc => ?_, List.pairwise_singleton _ _⟩
        have : c = (as.sum, as) := by simpa using hc
        rw [this]
        show (0 : Rat) < as.sum
        grind
      · simp only [List.mem_cons, List.not_mem_nil, or_false] at hc
        rcases hc with rfl | rfl <;> simp [begR]
  | evenly => exact ⟨even_pth h, _, evenR_eq as⟩
  | losses => exact ⟨turned_pth (even_pth h) (even_ne as), turned_head (even_ne as) (even_pth h).len⟩
  | halves =>
    have hpos : ∀ a ∈ hlf as, 0 ≤ a := fun a ha => by
      obtain ⟨b, hb, rfl⟩ := List.mem_map.mp ha
      exact Rat.mul_nonneg (h b hb) (by decide +kernel)
    have ll : (hlf as).length = as.length := by simp [hlf]
    have p1 := even_pth hpos
    have en := even_ne (hlf as)
    have p2 := turned_pth p1 en
    rw [ll] at p1 p2
    have hz : ∀ c ∈ (turnedR (evenR (hlf as))).head?, 0 ≤ c.1 := fun c hc => by
      obtain ⟨q, hq⟩ := turned_head en p1.len
      rw [hq] at hc
      have : begR as.length = c := by simpa using hc
      rw [← this]
      exact Rat.le_refl
    have bp := behind_pth p1 p2 en hz
    show Pth _ (halvesR as) ∧ ∃ q, halvesR as = _
    unfold halvesR
    rw [behindR_eq en]
    refine ⟨(thinR_thin bp).2, ?_⟩
    have e : evenR (hlf as) = begR as.length :: (lvs (hlf as)).map (evenC (hlf as)) := by rw [evenR_eq, ll]
    generalize hX : evenR (hlf as) = X at *
    subst e
    exact thinR_first _ _
theorem flat_sz (f : Fk) {as : List Rat} {D M k : Nat} (hl : as.length ≤ 8) (hD : 0 < D) (h1 : 2 * D < 2 ^ k) (h2 : 24 * M < 2 ^ k) (hx : ∀ a ∈ as, Gd D M a) : ∀ c ∈ flatR f as, SzC k c := by
  cases f with
  | shares =>
    intro c hc
    have hc : c ∈ sharesR as := hc
    have hb : SzC k (begR as.length) := (gdc_begR D M as.length).sz hD (by omega) (by omega)
    unfold sharesR at hc
    split at hc
    · have : c = begR as.length := by simpa using hc
      rw [this]; exact hb
    · simp only [List.mem_cons, List.not_mem_nil, or_false] at hc
      rcases hc with rfl | rfl
      · exact hb
      · have := Gd.sum8 hl hx as.length
        rw [List.take_length] at this
        exact ⟨this.sz hD (by omega) (by omega), fun x hx' => (hx x hx').sz hD (by omega) (by omega)⟩
  | evenly => exact fun c hc => (gdc_even hl hx c hc).1.sz hD (by omega) (by omega)
  | losses => exact fun c hc => (gdc_turned (gdc_even hl hx) c hc).1.sz hD (by omega) (by omega)
  | halves =>
    have ha : ∀ a ∈ hlf as, Gd (2 * D) M a := fun a ha => by
      obtain ⟨b, hb, rfl⟩ := List.mem_map.mp ha
      exact (hx b hb).half hD
    have g := gdc_even (as := hlf as) (by simp [hlf]; omega) ha
    have gt := gdc_turned g
    intro c hc
    have hc : c ∈ halvesR as := hc
    unfold halvesR at hc
    rw [behindR_eq (even_ne _)] at hc
    rcases thinA_sub (List.mem_reverse.mp hc) with z | z
    · cases z
    · rcases List.mem_append.mp z with z | z
      · exact (g c z).1.sz (by omega) h1 (by omega)
      · obtain ⟨d, hd, rfl⟩ := List.mem_map.mp z
        have hL := g _ (List.getLast_mem (even_ne (hlf as)))
        have hd := gt d (List.mem_of_mem_tail hd)
        refine ⟨((hL.1.1.add hd.1.1).mono (N := 24 * M) (by omega)).sz (by omega) h1 h2, fun x hx' => ?_⟩
        obtain ⟨q, hq, rfl⟩ := List.mem_map.mp hx'
        exact ((hL.1.2 _ (List.of_mem_zip hq).1).add (hd.1.2 _ (List.of_mem_zip hq).2)).sz (by omega) h1 (by omega)
theorem flat_len (f : Fk) {as : List Rat} (hl : as.length ≤ 8) : (flatR f as).length < 1000 := by
  have e := even_len as
  cases f with
  | shares =>
    show (sharesR as).length < 1000
    unfold sharesR
    split <;> simp
  | evenly => show (evenR as).length < 1000; omega
  | losses => show (turnedR (evenR as)).length < 1000; rw [turned_length]; omega
  | halves =>
    have e2 := even_len (hlf as)
    have ll : (hlf as).length = as.length := by simp [hlf]
    show (halvesR as).length < 1000
    unfold halvesR
    rw [behindR_eq (even_ne _)]
    have ht : ∀ p acc : List Cor, (thinA acc p).length ≤ acc.length + p.length := fun p => by
      induction p with
      | nil => intro acc; simp [thinA]
      | cons c p ih =>
        intro acc
        have h1 : (stepT acc c).length ≤ acc.length + 1 := by
          unfold stepT
          split
          · split <;> simp
          · simp
        have := ih (stepT acc c)
        show (thinA (stepT acc c) p).length ≤ _
        simp only [List.length_cons]
        omega
    have h2 := ht (evenR (hlf as) ++ (turnedR (evenR (hlf as))).tail.map (addC ((evenR (hlf as)).getLast (even_ne _)))) []
    unfold thinR
    rw [List.length_reverse]
    have tl := turned_length (p := evenR (hlf as))
    simp only [List.length_append, List.length_map, List.length_tail, List.length_nil] at h2
    omega
structure HasFlatM (T : Tab) : Prop extends HasFlat T where
  md : ∀ (f : Fk) call ds, (orcOf T call).meth f.name "divided" ds = call f.div ds
  mp : ∀ (f : Fk) call ds, (orcOf T call).meth f.name "path" ds = call "Rule.path" ds
  mq : ∀ (f : Fk) call ds, (orcOf T call).meth f.name "parts" ds = call "Rule.parts" ds
  fp : T.freshM "path" = true
  bp : T.borM "path" = true
def amtI (l : List ICl) : List Rat := l.map fun c => (c.1 : Rat)
theorem rule_path_le (h : HasFlatM T) (f : Fk) {n : Nat} (hn : 12 ≤ n) {l : List ICl} {M k : Nat} (hl : 1 ≤ l.length) (h8 : l.length ≤ 8) (h0 : ∀ c ∈ l, 0 ≤ c.1 ∧ 0 ≤ c.2.1 ∧ 0 ≤ c.2.2) (hk : k < 399) (hk2 : 2 ≤ k) (h2 : 24 * M < 2 ^ k) (hM : ∀ c ∈ l, c.1.natAbs ≤ M) :
    evFn T n "Rule.path" [.obj f.name [], icsD l] = .ok (pathD (flatR f (amtI l))) := by
  obtain ⟨n, rfl⟩ : ∃ m, n = m + 1 := ⟨n - 1, by omega⟩
  have el := look_le h.rule (n := n) (by omega) hl h8 h0
  have am : amts (l.map fun c => (((c.1 : Rat), c.2) : Clm)) = amtI l := by
    unfold amts amtI
    rw [List.map_map]
    rfl
  have h4 : 2 ^ 2 ≤ 2 ^ k := Nat.pow_le_pow_right (by decide) hk2
  have ed := flat_le h.toHasFlat f (n := n) (by omega) (cs := l.map fun c => (((c.1 : Rat), c.2) : Clm)) (D := 1) (M := M) (k := k) (by intro z; have z : l = [] := (by simpa using z); rw [z] at hl; simp at hl) (by simpa using h8) (by decide) hk (by omega) (by omega) (fun c hc => by
    obtain ⟨d, hd, rfl⟩ := List.mem_map.mp hc
    exact ⟨d.1, by rw [Rat.divInt_eq_div]; have : (((1 : Nat) : Int) : Rat) = 1 := rfl; rw [this]; grind, hM d hd⟩) (fun c hc => by
    obtain ⟨d, hd, rfl⟩ := List.mem_map.mp hc
    have := (h0 d hd).1
    exact Rat.intCast_le_intCast.mpr this) (.obj f.name [])
  rw [am] at ed
  have lc : ev (orcOf T (evFn T n)) [some (.frz, .obj f.name []), some (.frz, icsD l), none, none, none] (.lc (.tup (.cons (.tup (.cons (.var 2) (.cons (.int 1) .nil))) (.cons (.var 3) (.cons (.var 4) .nil)))) true [2, 3, 4] (.iseq (.var 1)) .nil) = .ok (clsD (l.map fun c => (((c.1 : Rat), c.2) : Clm))) := by
    unfold clsD
    rw [List.map_map]
    refine lc_ok (l := l) icD _ (by simp [esc, escB, notVar, esc.escBs, isFresh, frV, lim_val, powOk, icsD]) (by unfold lim; omega) fun c hc => ⟨_, rfl, ?_⟩
    simp [esc, escB, notVar, esc.escBs, isFresh, frV, lim_val, powOk, clD, fr_int]
  have nl : ∀ p : List Cor, Pu.D.noL1 (pathD p) = true := fun p => noLA_map fun a _ => cor_noL a
  have il : ∀ p : List Cor, (pathD p).isL = true := fun _ => rfl
  have b1 := br_of h.rule.look
  rw [go h.path n _ rfl]
  have q1 : (orcOf T (evFn T n)).freshM "divided" = true := h.fd
  have q2 : (orcOf T (evFn T n)).borM "divided" = true := h.bd
  simp [esc, escB, notVar, esc.escBs, isFresh, frV, lim_val, powOk, Pg.F_Rule_path, Pg.B_Rule_path, start0, q1, q2, el, lc, h.md, ed, nl, il, h.bd, h.fd, b1, Pg.F_look_claims]
theorem rule_parts_le (h : HasFlatM T) (f : Fk) {n : Nat} (hn : 13 ≤ n) {l : List ICl} {M k : Nat} (hl : 1 ≤ l.length) (h8 : l.length ≤ 8) (h0 : ∀ c ∈ l, 0 ≤ c.1 ∧ 0 ≤ c.2.1 ∧ 0 ≤ c.2.2) (hk : k < 399) (hk2 : 2 ≤ k) (h2 : 24 * M < 2 ^ k) (hM : ∀ c ∈ l, c.1.natAbs ≤ M) {x : Rat} (hx : SzR k x) (hx0 : 0 ≤ x) :
    evFn T n "Rule.parts" [.obj f.name [], icsD l, fr x] = .ok (.tup ((atR (flatR f (amtI l)) x).map fr)) := by
  obtain ⟨n, rfl⟩ : ∃ m, n = m + 1 := ⟨n - 1, by omega⟩
  have e1 := rule_path_le h f (n := n) (by omega) hl h8 h0 hk hk2 h2 hM
  have hpos : ∀ a ∈ amtI l, 0 ≤ a := fun a ha => by
    obtain ⟨d, hd, rfl⟩ := List.mem_map.mp ha
    exact Rat.intCast_le_intCast.mpr (h0 d hd).1
  have hg : ∀ a ∈ amtI l, Gd 1 M a := fun a ha => by
    obtain ⟨d, hd, rfl⟩ := List.mem_map.mp ha
    exact ⟨d.1, by rw [Rat.divInt_eq_div]; have : (((1 : Nat) : Int) : Rat) = 1 := rfl; rw [this]; grind, hM d hd⟩
  have h4 : 2 ^ 2 ≤ 2 ^ k := Nat.pow_le_pow_right (by decide) hk2
  have al : (amtI l).length = l.length := by simp [amtI]
  obtain ⟨hp, q, hq⟩ := flat_pth f hpos
  have sz := flat_sz f (as := amtI l) (D := 1) (M := M) (k := k) (by omega) (by decide) (by omega) h2 hg
  have fl := flat_len f (as := amtI l) (by omega)
  have e2 := parts_le h.parts (n := n) (by omega) (k := k) (by omega) (by omega) hx (fun c hc => ⟨sz c hc, by rw [hp.len c hc]; unfold lim; omega⟩) hp.up (by rw [hq]; simp) (by unfold lim; omega) hx0
  have b1 := br_of h.parts.parts_at
  have b2 := fr_of h.parts.parts_at
  rw [go h.parts_ n _ rfl]
  have q1 : (orcOf T (evFn T n)).freshM "path" = true := h.fp
  have q2 : (orcOf T (evFn T n)).borM "path" = true := h.bp
  have nl : Pu.D.noLA ((atR (flatR f (amtI l)) x).map fr) = true := noLA_map fun a _ => fr_noL a
  simp [esc, escB, notVar, esc.escBs, isFresh, frV, lim_val, powOk, Pg.F_Rule_parts, Pg.B_Rule_parts, start0, q1, q2, nl, h.mp, e1, e2, b1, b2, Pg.F_parts_at, h.bp]
end
end Pu

/-! What the laws of rules ask. -/
namespace Pu
section
variable {T : Tab}
theorem max0 (ps : List Int) : builtin "max" [.lst (.int 0 :: ps.map .int)] = .ok (.int (ps.foldl max 0)) := by
  have e : intsOf (.int 0 :: ps.map D.int) = some (0 :: ps) := by
    have : ∀ l : List Int, intsOf (l.map D.int) = some l := fun l => by
      induction l with
      | nil => rfl
      | cons x l ih =>
        show (intsOf (l.map D.int)).map (x :: ·) = _
        rw [ih]
        rfl
    exact this (0 :: ps)
  have b : builtin "max" [.lst (.int 0 :: ps.map .int)] = bMax [.lst (.int 0 :: ps.map .int)] := rfl
  rw [b]
  show (ofO (intsOf (.int 0 :: ps.map D.int)) >>= fun ns => ofO (maxL ns) >>= fun m => (pure (D.int m) : R D)) = _
  rw [e]
  rfl
theorem even_law (h : T.fn "_law_even" = some Pg.F_law_even) {n : Nat} (hn : 1 ≤ n) {as ps : List Int} (hl : ps.length < 1000) (hm : ∀ q ∈ as.zip ps, 0 ≤ q.2 ∧ q.2 ≤ q.1 ∧ (q.2 < q.1 → q.2 = ps.foldl max 0)) :
    evFn T n "_law_even" [.lst (as.map .int), .lst (ps.map .int)] = .ok (.bl true) := by
  obtain ⟨n, rfl⟩ : ∃ m, n = m + 1 := ⟨n - 1, by omega⟩
  have e0 := max0 ps
  generalize ps.foldl max 0 = w at *
  have e := (for_fold (o := orcOf T (evFn T n)) (tup := true) (is := [3, 4]) (it := .izip (.var 0) (.var 1)) (b := Pg.LB_law_even_0) (dead := [3, 4]) (r := [some (.frz, .lst (as.map .int)), some (.frz, .lst (ps.map .int)), some (.frz, .int w), none, none]) (l := as.zip ps)
      (fun q => .tup [.int q.1, .int q.2]) (fun (_ : Unit) => [some (.frz, .lst (as.map .int)), some (.frz, .lst (ps.map .int)), some (.frz, .int w), none, none]) (fun a _ => a) () (fun _ _ => True) (by simp [esc, escB, notVar, esc.escBs, isFresh, frV, lim_val, powOk, zipP_map]) (by simp [esc, escB, notVar, esc.escBs, isFresh, frV, lim_val, powOk]) trivial (fun i hi a _ => by
        obtain ⟨q1, q2, q3⟩ := hm _ (List.getElem_mem hi)
        generalize (as.zip ps)[i] = q at *
        refine ⟨?_, trivial⟩
        rw [forB_x]
        have r1 : ¬ q.2 < 0 := by omega
        have r2 : ¬ q.1 < q.2 := by omega
        by_cases r3 : q.2 < q.1
        · have r4 := q3 r3
          rw [r4] at r1 r2 r3
          simp [esc, escB, notVar, esc.escBs, isFresh, frV, lim_val, powOk, Pg.LB_law_even_0, r1, r2, r3, r4]
        · simp [esc, escB, notVar, esc.escBs, isFresh, frV, lim_val, powOk, Pg.LB_law_even_0, r1, r2, r3])).1
  have e : exec (orcOf T (evFn T n)) Pg.L_law_even_0 [some (.frz, .lst (as.map .int)), some (.frz, .lst (ps.map .int)), some (.frz, .int w), none, none] = .ok ([some (.frz, .lst (as.map .int)), some (.frz, .lst (ps.map .int)), some (.frz, .int w), none, none], .nx) := by
    unfold Pg.L_law_even_0
    rw [e]
    simp [esc, escB, notVar, esc.escBs, isFresh, frV, lim_val, powOk]
  have l1 : 1 + ps.length ≤ 16777216 := by omega
  rw [go h n _ rfl]
  simp [esc, escB, notVar, esc.escBs, isFresh, frV, lim_val, powOk, Pg.F_law_even, Pg.B_law_even, start0, e0, e, l1]
end
end Pu

/-! What the flat rules' paths are worth. -/
namespace Pu
theorem even_sum {as : List Rat} {c : Cor} (hc : c ∈ evenR as) : c.1 = c.2.sum := by
  rw [evenR_eq] at hc
  rcases List.mem_cons.mp hc with rfl | hc
  · have : ∀ k : Nat, (List.replicate k (0 : Rat)).sum = 0 := fun k => by
      induction k with
      | zero => rfl
      | succ k ih => rw [List.replicate_succ, List.sum_cons, ih, Rat.add_zero]
    exact (this _).symm
  · obtain ⟨l, _, rfl⟩ := List.mem_map.mp hc
    rfl
theorem even_last {as : List Rat} (h : ∀ a ∈ as, 0 ≤ a) : (evenR as).getLast (even_ne as) = (as.sum, as) := by
  have hm := List.getLast_mem (even_ne as)
  have hs := even_sum hm
  obtain ⟨y, hy⟩ : ∃ y : Rat, y = if ((evenR as).getLast (even_ne as)).1 ≤ as.sum then as.sum else ((evenR as).getLast (even_ne as)).1 := ⟨_, rfl⟩
  have h0 := rsum_nonneg h
  have y1 : ((evenR as).getLast (even_ne as)).1 ≤ y := by rw [hy]; split <;> grind
  have y2 : as.sum ≤ y := by rw [hy]; split <;> grind
  obtain ⟨w, _, w1, _, w3⟩ := even_at h (x := y) (by grind)
  have e := at_last (even_pth h) (even_ne as) y1
  rw [w1, w3 y2] at e
  rw [← e] at hs
  exact Prod.ext hs e.symm
theorem even_fit {as : List Rat} (h : ∀ a ∈ as, 0 ≤ a) {x : Rat} (hx : 0 ≤ x) :
    ∃ w, 0 ≤ w ∧ atR (evenR as) x = as.map (fun a => lessr a w) ∧ (atR (evenR as) x).sum = if as.sum < x then as.sum else x := by
  obtain ⟨w, h1, h2, h3, h4⟩ := even_at h hx
  refine ⟨w, h1, h2, ?_⟩
  rw [h2]
  by_cases q : as.sum < x
  · rw [if_pos q, h4 (by grind)]
  · rw [if_neg q, h3 (by grind)]
theorem zip_map_sub (as : List Rat) (w : Rat) : (as.zip (as.map fun a => lessr a w)).map (fun q => q.1 - q.2) = as.map fun a => a - lessr a w := by
  induction as with
  | nil => rfl
  | cons a as ih => simp only [List.map_cons, List.zip_cons_cons]; rw [ih]
theorem sum_sub (as : List Rat) (w : Rat) : (as.map fun a => a - lessr a w).sum = as.sum - (as.map fun a => lessr a w).sum := by
  induction as with
  | nil => show (0 : Rat) = 0 - 0; grind
  | cons a as ih => simp only [List.map_cons, List.sum_cons]; rw [ih]; grind
theorem losses_fit {as : List Rat} (h : ∀ a ∈ as, 0 ≤ a) {x : Rat} (hx : 0 ≤ x) (hx2 : x ≤ as.sum) :
    ∃ w, 0 ≤ w ∧ atR (turnedR (evenR as)) x = as.map (fun a => a - lessr a w) ∧ (atR (turnedR (evenR as)) x).sum = x := by
  have hl := even_last h
  have h0 := rsum_nonneg h
  obtain ⟨w, h1, h2, h3, h4⟩ := even_at h (x := as.sum - x) (by grind)
  have e := at_turn (even_pth h) (even_ne as) hx (fun c hc => by
    rw [hl]
    have : begR as.length = c := by
      rw [evenR_eq] at hc
      simpa using hc
    rw [← this]
    show (0 : Rat) ≤ as.sum - x
    grind)
  rw [hl] at e
  have e : atR (turnedR (evenR as)) x = (as.zip (atR (evenR as) (as.sum - x))).map fun q => q.1 - q.2 := e
  rw [h2, zip_map_sub] at e
  refine ⟨w, h1, e, ?_⟩
  rw [e, sum_sub, h3 (by grind)]
  grind
theorem sum_scale (s : Rat) : ∀ as : List Rat, (as.map fun a => s * a).sum = s * as.sum
  | [] => by show (0 : Rat) = s * 0; grind
  | a :: as => by simp only [List.map_cons, List.sum_cons]; rw [sum_scale s as]; grind
theorem zero_map (as : List Rat) : as.map (fun a => 0 * a) = List.replicate as.length 0 := by
  rw [List.eq_replicate_iff]
  refine ⟨by simp, fun x hx => ?_⟩
  obtain ⟨a, _, rfl⟩ := List.mem_map.mp hx
  exact Rat.zero_mul a
theorem shares_fit {as : List Rat} (h : ∀ a ∈ as, 0 ≤ a) {x : Rat} (hx : 0 ≤ x) :
    ∃ s, 0 ≤ s ∧ s ≤ 1 ∧ atR (sharesR as) x = as.map (fun a => s * a) ∧ (atR (sharesR as) x).sum = if as.sum < x then as.sum else x := by
  have h0 := rsum_nonneg h
  unfold sharesR
  by_cases q : as.sum = 0
  · rw [if_pos q]
    refine ⟨0, Rat.le_refl, by decide +kernel, (zero_map as).symm, ?_⟩
    show (List.replicate as.length (0 : Rat)).sum = _
    rw [← zero_map, sum_scale]
    by_cases q1 : as.sum < x
    · rw [if_pos q1]; grind
    · rw [if_neg q1]; grind
  · rw [if_neg q]
    show ∃ s, 0 ≤ s ∧ s ≤ 1 ∧ (if as.sum < x then as else amidR (begR as.length) (as.sum, as) x) = _ ∧ (if as.sum < x then as else amidR (begR as.length) (as.sum, as) x).sum = _
    by_cases q1 : as.sum < x
    · rw [if_pos q1, if_pos q1]
      refine ⟨1, by decide +kernel, Rat.le_refl, ?_, rfl⟩
      have : as.map (fun a => 1 * a) = as.map id := List.map_congr_left fun a _ => Rat.one_mul a
      rw [this, List.map_id]
    · rw [if_neg q1, if_neg q1]
      obtain ⟨s, hs⟩ : ∃ s, s = (x - 0) / (as.sum - 0) := ⟨_, rfl⟩
      have hs' : s * as.sum = x := by
        rw [hs]
        have e1 : as.sum - 0 = as.sum := by grind
        have e2 : x - 0 = x := by grind
        rw [e1, e2]
        exact Rat.div_mul_cancel q
      have s0 : 0 ≤ s := by
        refine Rat.not_lt.mp fun hl => ?_
        have := Rat.mul_lt_mul_of_pos_right hl (show 0 < as.sum by grind)
        grind
      have s1 : s ≤ 1 := by
        refine Rat.not_lt.mp fun hl => ?_
        have := Rat.mul_lt_mul_of_pos_right hl (show 0 < as.sum by grind)
        grind
      have e : amidR (begR as.length) (as.sum, as) x = as.map fun a => s * a := by
        unfold amidR begR
        show ((List.replicate as.length 0).zip as).map (fun p => p.1 + (x - 0) / (as.sum - 0) * (p.2 - p.1)) = _
        rw [← hs]
        have : ∀ l : List Rat, ((List.replicate l.length (0 : Rat)).zip l).map (fun p => p.1 + s * (p.2 - p.1)) = l.map fun a => s * a := fun l => by
          induction l with
          | nil => rfl
          | cons a l ih =>
            simp only [List.length_cons, List.replicate_succ, List.zip_cons_cons, List.map_cons]
            rw [ih]
            congr 1
            grind
        exact this as
      refine ⟨s, s0, s1, e, ?_⟩
      rw [e, sum_scale, hs']
theorem hlf_sum (as : List Rat) : (hlf as).sum = as.sum * (1 / 2) := by
  have : hlf as = as.map fun a => (1 / 2) * a := by
    unfold hlf
    exact List.map_congr_left fun a _ => Rat.mul_comm _ _
  rw [this, sum_scale, Rat.mul_comm]
theorem hlf_pos {as : List Rat} (h : ∀ a ∈ as, 0 ≤ a) : ∀ a ∈ hlf as, 0 ≤ a := fun a ha => by
  obtain ⟨b, hb, rfl⟩ := List.mem_map.mp ha
  exact Rat.mul_nonneg (h b hb) (by decide +kernel)
/-- halves: up to half of all evenly among the halves, then the halves and losses -/
theorem halves_fit {as : List Rat} (h : ∀ a ∈ as, 0 ≤ a) {x : Rat} (hx : 0 ≤ x) :
    (x ≤ (hlf as).sum → ∃ w, 0 ≤ w ∧ atR (halvesR as) x = (hlf as).map (fun a => lessr a w) ∧ (atR (halvesR as) x).sum = x) ∧
    (¬ x ≤ (hlf as).sum → x ≤ as.sum → ∃ w, 0 ≤ w ∧ atR (halvesR as) x = ((hlf as).zip ((hlf as).map fun a => a - lessr a w)).map (fun q => q.1 + q.2) ∧ ((hlf as).map fun a => a - lessr a w).sum = x - (hlf as).sum) := by
  have hp := hlf_pos h
  have p1 := even_pth hp
  have en := even_ne (hlf as)
  have p2 := turned_pth p1 en
  obtain ⟨q, hq⟩ := turned_head en p1.len
  rw [hq] at p2
  have hb := at_behind (x := x) p1 p2 en (fun c hc => by
    have : begR (hlf as).length = c := by
      rw [evenR_eq] at hc
      simpa using hc
    rw [← this]
    exact hx)
  rw [← hq, even_last hp] at hb
  have hb : atR (halvesR as) x = if x ≤ (hlf as).sum then atR (evenR (hlf as)) x else ((hlf as).zip (atR (turnedR (evenR (hlf as))) (x - (hlf as).sum))).map fun q => q.1 + q.2 := hb
  have hs := hlf_sum as
  have hh := rsum_nonneg hp
  constructor
  · intro hx1
    rw [if_pos hx1] at hb
    obtain ⟨w, w1, w2, w3⟩ := even_fit hp hx
    rw [if_neg (by grind)] at w3
    exact ⟨w, w1, by rw [hb, w2], by rw [hb, w3]⟩
  · intro hx1 hx2
    rw [if_neg hx1] at hb
    obtain ⟨w, w1, w2, w3⟩ := losses_fit hp (x := x - (hlf as).sum) (by grind) (by grind)
    refine ⟨w, w1, by rw [hb, w2], ?_⟩
    rw [← w2, w3]
theorem turned_last {k : Nat} {p q : List Cor} (hp : Pth k p) (h0 : p ≠ []) (e : p = begR k :: q) (ht : turnedR p ≠ []) : (turnedR p).getLast ht = p.getLast h0 := by
  have hL := hp.len _ (List.getLast_mem h0)
  have es : subC (p.getLast h0) (begR k) = p.getLast h0 := by
    refine Prod.ext (show (p.getLast h0).1 - 0 = _ by grind) ?_
    refine nth_ext (by simp [subC, begR, hL]) fun i => ?_
    show nth (((p.getLast h0).2.zip (List.replicate k 0)).map fun p => p.1 - p.2) i = _
    rw [nth_zip (fun p q => p - q) (by grind) (by simp [hL])]
    have : nth (List.replicate k (0 : Rat)) i = 0 := by
      unfold nth
      by_cases hi : i < k <;> simp [List.getD, hi]
    rw [this]
    grind
  have hh : (turnedR p).getLast? = some (p.getLast h0) := by
    rw [turned_of h0]
    have : p.reverse = q.reverse ++ [begR k] := by rw [e]; simp
    rw [this, List.map_append]
    show (q.reverse.map _ ++ [subC (p.getLast h0) (begR k)]).getLast? = _
    rw [es]
    exact List.getLast?_concat
  rw [List.getLast?_eq_some_getLast ht] at hh
  exact Option.some.inj hh
theorem losses_over {as : List Rat} (h : ∀ a ∈ as, 0 ≤ a) {x : Rat} (hx : as.sum ≤ x) : atR (turnedR (evenR as)) x = as := by
  have p1 := even_pth h
  have en := even_ne as
  have tn := turned_ne en
  have tl := turned_last p1 en (evenR_eq as) tn
  rw [even_last h] at tl
  have := at_last (turned_pth p1 en) tn (x := x) (by rw [tl]; exact hx)
  rw [this, tl]
theorem even_over {as : List Rat} (h : ∀ a ∈ as, 0 ≤ a) {x : Rat} (hx : as.sum ≤ x) : atR (evenR as) x = as := by
  have := at_last (even_pth h) (even_ne as) (x := x) (by rw [even_last h]; exact hx)
  rw [this, even_last h]
theorem halves_over {as : List Rat} (h : ∀ a ∈ as, 0 ≤ a) {x : Rat} (hx0 : 0 ≤ x) (hx : as.sum < x) : atR (halvesR as) x = as := by
  have hp := hlf_pos h
  have p1 := even_pth hp
  have en := even_ne (hlf as)
  have p2 := turned_pth p1 en
  obtain ⟨q, hq⟩ := turned_head en p1.len
  rw [hq] at p2
  have hb := at_behind (x := x) p1 p2 en (fun c hc => by
    have : begR (hlf as).length = c := by
      rw [evenR_eq] at hc
      simpa using hc
    rw [← this]
    exact hx0)
  rw [← hq, even_last hp] at hb
  have hb : atR (halvesR as) x = if x ≤ (hlf as).sum then atR (evenR (hlf as)) x else ((hlf as).zip (atR (turnedR (evenR (hlf as))) (x - (hlf as).sum))).map fun q => q.1 + q.2 := hb
  have hs := hlf_sum as
  have hh := rsum_nonneg hp
  rw [if_neg (by grind), losses_over hp (by grind)] at hb
  rw [hb]
  have : ∀ l : List Rat, ((hlf l).zip (hlf l)).map (fun q => q.1 + q.2) = l := fun l => by
    induction l with
    | nil => rfl
    | cons a l ih =>
      show (a * (1 / 2) + a * (1 / 2)) :: ((hlf l).zip (hlf l)).map (fun q => q.1 + q.2) = a :: l
      rw [ih]
      congr 1
      grind
  exact this as
end Pu

/-! From fractions to whole numbers over a common bottom. -/
namespace Pu
theorem told_cast {b : Int} {t : Rat} (h : (t.den : Int) ∣ b) : ((t.num * b.fdiv t.den : Int) : Rat) = (b : Rat) * t := by
  obtain ⟨u, rfl⟩ := h
  have hd := den_pos t
  have e : ((t.den : Int) * u).fdiv t.den = u := by
    rw [Int.fdiv_eq_ediv_of_nonneg _ (by omega)]
    exact Int.mul_ediv_cancel_left _ (by omega)
  rw [e]
  have nx := frac_num t
  have dx : ((t.den : Int) : Rat) ≠ 0 := by simpa using t.den_nz
  simp only [Rat.intCast_mul, nx]
  generalize ((t.den : Int) : Rat) = X at *
  generalize (u : Rat) = U at *
  grind
theorem lt_cast {a b : Int} : ((a : Rat) < (b : Rat)) ↔ a < b := Rat.intCast_lt_intCast
theorem le_cast {a b : Int} : ((a : Rat) ≤ (b : Rat)) ↔ a ≤ b := Rat.intCast_le_intCast
theorem eq_cast {a b : Int} (h : (a : Rat) = (b : Rat)) : a = b := by
  have h1 := le_cast.mp (show (a : Rat) ≤ (b : Rat) by grind)
  have h2 := le_cast.mp (show (b : Rat) ≤ (a : Rat) by grind)
  omega
theorem sum_cast : ∀ l : List Int, ((l.sum : Int) : Rat) = (l.map fun z : Int => (z : Rat)).sum
  | [] => rfl
  | z :: l => by
    rw [List.sum_cons, List.map_cons, List.sum_cons, ← sum_cast l, Rat.intCast_add]
theorem min_cast {b A p q : Int} (hb : 0 < b) {s a x : Rat} (hA : (A : Rat) = b * a) (hp : (p : Rat) = b * s) (hq : (q : Rat) = b * x) (h : s = if a < x then a else x) : p = if A < q then A else q := by
  have hb' : (0 : Rat) < (b : Rat) := Rat.intCast_pos.mpr hb
  have e : (A < q) ↔ (a < x) := by
    rw [← lt_cast, hA, hq]
    constructor
    · intro h1
      refine Rat.not_le.mp fun h2 => ?_
      have := Rat.mul_le_mul_of_nonneg_left h2 (show (0 : Rat) ≤ b by grind)
      grind
    · intro h1
      exact Rat.mul_lt_mul_of_pos_left h1 hb'
  by_cases q1 : a < x
  · rw [if_pos (e.mpr q1)]
    rw [if_pos q1] at h
    exact eq_cast (by rw [hp, hA, h])
  · rw [if_neg (fun z => q1 (e.mp z))]
    rw [if_neg q1] at h
    exact eq_cast (by rw [hp, hq, h])
theorem foldl_max_le : ∀ (ps : List Int) (z m : Int), z ≤ m → (∀ p ∈ ps, p ≤ m) → ps.foldl max z ≤ m
  | [], z, m, h, _ => h
  | p :: ps, z, m, h, hp => foldl_max_le ps (max z p) m (by have := hp p List.mem_cons_self; omega) fun q hq => hp q (List.mem_cons_of_mem _ hq)
theorem le_foldl_max : ∀ (ps : List Int) (z p : Int), p = z ∨ p ∈ ps → p ≤ ps.foldl max z
  | [], z, p, h => by
    rcases h with h | h
    · show p ≤ z; omega
    · cases h
  | q :: ps, z, p, h => by
    show p ≤ ps.foldl max (max z q)
    have h0 := le_foldl_max ps (max z q) (max z q) (.inl rfl)
    rcases h with h | h
    · omega
    · rcases List.mem_cons.mp h with h | h
      · omega
      · exact le_foldl_max ps _ p (.inr h)
theorem foldl_max {ps : List Int} {m : Int} (h : ∀ p ∈ ps, p ≤ m) (hm : m ∈ ps) (h0 : 0 ≤ m) : ps.foldl max 0 = m := by
  have h1 := foldl_max_le ps 0 m h0 h
  have h2 := le_foldl_max ps 0 m (.inr hm)
  omega
/-- whole numbers over fractions, place by place -/
theorem zip_of {α : Type} {A ps : List Int} {l : List α} {f g : α → Rat} (eA : A.map (fun z : Int => (z : Rat)) = l.map f) (eP : ps.map (fun z : Int => (z : Rat)) = l.map g) : ∀ q ∈ A.zip ps, ∃ a ∈ l, (q.1 : Rat) = f a ∧ (q.2 : Rat) = g a := by
  induction l generalizing A ps with
  | nil =>
    intro q hq
    have : A = [] := by simpa using eA
    subst this
    cases hq
  | cons a l ih =>
    cases A with
    | nil => simp at eA
    | cons z A =>
      cases ps with
      | nil => simp at eP
      | cons p ps =>
        simp only [List.map_cons, List.cons.injEq] at eA eP
        intro q hq
        rcases List.mem_cons.mp hq with rfl | hq
        · exact ⟨a, List.mem_cons_self, eA.1, eP.1⟩
        · obtain ⟨b, hb, h⟩ := ih eA.2 eP.2 q hq
          exact ⟨b, List.mem_cons_of_mem _ hb, h⟩
theorem mem_of {α : Type} {ps : List Int} {l : List α} {g : α → Rat} (eP : ps.map (fun z : Int => (z : Rat)) = l.map g) : ∀ p ∈ ps, ∃ a ∈ l, (p : Rat) = g a := fun p hp => by
  have : (p : Rat) ∈ l.map g := by
    rw [← eP]
    exact List.mem_map.mpr ⟨p, hp, rfl⟩
  obtain ⟨a, ha, e⟩ := List.mem_map.mp this
  exact ⟨a, ha, e.symm⟩
theorem even_ok {b : Int} (hb : 0 < b) {A ps : List Int} {as : List Rat} {w : Rat} (h0 : ∀ a ∈ as, 0 ≤ a) (hw : 0 ≤ w) (eA : A.map (fun z : Int => (z : Rat)) = as.map fun a : Rat => (b : Rat) * a) (eP : ps.map (fun z : Int => (z : Rat)) = as.map fun a : Rat => (b : Rat) * lessr a w) :
    ∀ q ∈ A.zip ps, (0 ≤ q.2 ∧ q.2 ≤ q.1) ∧ (q.2 < q.1 → q.2 = ps.foldl max 0) := fun q hq => by
  have hb' : (0 : Rat) < (b : Rat) := Rat.intCast_pos.mpr hb
  obtain ⟨a, ha, e1, e2⟩ := zip_of eA eP q hq
  have a0 := h0 a ha
  have l0 : 0 ≤ lessr a w := by unfold lessr; split <;> grind
  have q0 : 0 ≤ q.2 := le_cast.mp (by
    rw [e2]
    exact Rat.mul_nonneg (by grind) l0)
  have q1 : q.2 ≤ q.1 := le_cast.mp (by
    rw [e1, e2]
    exact Rat.mul_le_mul_of_nonneg_left lessr_le (by grind))
  refine ⟨⟨q0, q1⟩, fun hlt => ?_⟩
  refine (foldl_max (fun p hp => ?_) (List.of_mem_zip hq).2 q0).symm
  obtain ⟨a', _, e3⟩ := mem_of eP p hp
  refine le_cast.mp ?_
  rw [e2, e3]
  have hw' : lessr a w = w := by
    have hlt' : (q.2 : Rat) < (q.1 : Rat) := lt_cast.mpr hlt
    rw [e1, e2] at hlt'
    unfold lessr at hlt' ⊢
    split
    · rename_i z
      rw [if_pos z] at hlt'
      grind
    · rfl
  rw [hw']
  exact Rat.mul_le_mul_of_nonneg_left lessr_le' (by grind)
theorem sub_cast {b : Int} : ∀ {A ps : List Int} {as : List Rat} {w : Rat}, A.map (fun z : Int => (z : Rat)) = as.map (fun a : Rat => (b : Rat) * a) → ps.map (fun z : Int => (z : Rat)) = as.map (fun a : Rat => (b : Rat) * (a - lessr a w)) →
    ((A.zip ps).map fun q => q.1 - q.2).map (fun z : Int => (z : Rat)) = as.map (fun a : Rat => (b : Rat) * lessr a w) ∧ A.zip ((A.zip ps).map fun q => q.1 - q.2) = (A.zip ps).map fun q => (q.1, q.1 - q.2)
  | [], ps, as, w, e1, e2 => by
    have : as = [] := by simpa using e1.symm
    subst this
    exact ⟨rfl, rfl⟩
  | a :: A, [], [], w, e1, e2 => by simp at e1
  | a :: A, [], c :: as, w, e1, e2 => by simp at e2
  | a :: A, p :: ps, [], w, e1, e2 => by simp at e1
  | a :: A, p :: ps, c :: as, w, e1, e2 => by
    simp only [List.map_cons, List.cons.injEq] at e1 e2
    obtain ⟨h1, h2⟩ := sub_cast e1.2 e2.2
    refine ⟨?_, ?_⟩
    · show (((a - p : Int)) : Rat) :: ((A.zip ps).map fun q => q.1 - q.2).map (fun z : Int => (z : Rat)) = (b : Rat) * lessr c w :: as.map _
      rw [h1, Rat.intCast_sub, e1.1, e2.1]
      congr 1
      grind
    · show (a, a - p) :: A.zip ((A.zip ps).map fun q => q.1 - q.2) = (a, a - p) :: (A.zip ps).map _
      rw [h2]
theorem losses_ok {b : Int} (hb : 0 < b) {A ps : List Int} {as : List Rat} {w : Rat} (h0 : ∀ a ∈ as, 0 ≤ a) (hw : 0 ≤ w) (eA : A.map (fun z : Int => (z : Rat)) = as.map fun a : Rat => (b : Rat) * a) (eP : ps.map (fun z : Int => (z : Rat)) = as.map fun a : Rat => (b : Rat) * (a - lessr a w)) :
    ∀ q ∈ A.zip ps, (0 ≤ q.2 ∧ q.2 ≤ q.1) ∧ (q.1 - q.2 < q.1 → q.1 - q.2 = ((A.zip ps).map fun q => q.1 - q.2).foldl max 0) := fun q hq => by
  obtain ⟨h1, h2⟩ := sub_cast eA eP
  have := even_ok hb h0 hw eA h1 (q.1, q.1 - q.2) (by rw [h2]; exact List.mem_map.mpr ⟨q, hq, rfl⟩)
  dsimp only at this
  exact ⟨⟨by omega, by omega⟩, this.2⟩
theorem shares_ok {b : Int} (hb : 0 < b) {A ps : List Int} {as : List Rat} {s : Rat} (h0 : ∀ a ∈ as, 0 ≤ a) (s0 : 0 ≤ s) (s1 : s ≤ 1) (eA : A.map (fun z : Int => (z : Rat)) = as.map fun a : Rat => (b : Rat) * a) (eP : ps.map (fun z : Int => (z : Rat)) = as.map fun a : Rat => (b : Rat) * (s * a)) :
    ∀ q ∈ A.zip ps, (0 ≤ q.2 ∧ q.2 ≤ q.1) ∧ q.2 * A.sum = q.1 * ps.sum := fun q hq => by
  have hb' : (0 : Rat) < (b : Rat) := Rat.intCast_pos.mpr hb
  obtain ⟨a, ha, e1, e2⟩ := zip_of eA eP q hq
  have a0 := h0 a ha
  have sA : ((A.sum : Int) : Rat) = b * as.sum := by rw [sum_cast, eA, sum_scale]
  have sP : ((ps.sum : Int) : Rat) = b * (s * as.sum) := by
    have : as.map (fun a : Rat => (b : Rat) * (s * a)) = as.map fun a => ((b : Rat) * s) * a := List.map_congr_left fun a _ => by grind
    rw [sum_cast, eP, this, sum_scale]
    grind
  refine ⟨⟨le_cast.mp ?_, le_cast.mp ?_⟩, eq_cast ?_⟩
  · rw [e2]
    exact Rat.mul_nonneg (by grind) (Rat.mul_nonneg s0 a0)
  · rw [e1, e2]
    refine Rat.mul_le_mul_of_nonneg_left ?_ (by grind)
    have := Rat.mul_le_mul_of_nonneg_right s1 a0
    grind
  · rw [Rat.intCast_mul, Rat.intCast_mul, e1, e2, sA, sP]
    grind
theorem lessr_two {a w : Rat} : 2 * lessr (a * (1 / 2)) w = lessr a (2 * w) := by
  unfold lessr
  split <;> split <;> grind
theorem zero_of_sum : ∀ {as : List Rat}, (∀ a ∈ as, 0 ≤ a) → as.sum = 0 → ∀ a ∈ as, a = 0
  | [], _, _, a, ha => by cases ha
  | b :: as, h, hs, a, ha => by
    have h1 := h b List.mem_cons_self
    have h2 := rsum_nonneg (l := as) fun c hc => h c (List.mem_cons_of_mem _ hc)
    rw [List.sum_cons] at hs
    rcases List.mem_cons.mp ha with rfl | ha
    · grind
    · exact zero_of_sum (fun c hc => h c (List.mem_cons_of_mem _ hc)) (by grind) a ha
theorem zip_half (as : List Rat) (w : Rat) : ((hlf as).zip ((hlf as).map fun a => a - lessr a w)).map (fun q => q.1 + q.2) = as.map fun a => a * (1 / 2) + (a * (1 / 2) - lessr (a * (1 / 2)) w) := by
  induction as with
  | nil => rfl
  | cons a as ih =>
    show (a * (1 / 2) + (a * (1 / 2) - lessr (a * (1 / 2)) w)) :: ((hlf as).zip ((hlf as).map fun a => a - lessr a w)).map (fun q => q.1 + q.2) = _
    rw [ih]
    rfl
theorem sum_add_map {f g : Rat → Rat} : ∀ as : List Rat, (as.map fun a => f a + g a).sum = (as.map f).sum + (as.map g).sum
  | [] => by show (0 : Rat) = 0 + 0; grind
  | a :: as => by simp only [List.map_cons, List.sum_cons]; rw [sum_add_map as]; grind
/-- halves, all along -/
theorem halves_all {as : List Rat} (h : ∀ a ∈ as, 0 ≤ a) {x : Rat} (hx : 0 ≤ x) :
    (atR (halvesR as) x).sum = (if as.sum < x then as.sum else x) ∧ ∃ w, 0 ≤ w ∧
      ((2 * (atR (halvesR as) x).sum ≤ as.sum ∧ atR (halvesR as) x = as.map fun a => lessr (a * (1 / 2)) w) ∨
       (¬ 2 * (atR (halvesR as) x).sum ≤ as.sum ∧ atR (halvesR as) x = as.map fun a => a * (1 / 2) + (a * (1 / 2) - lessr (a * (1 / 2)) w))) := by
  have hs := hlf_sum as
  have h0 := rsum_nonneg h
  obtain ⟨f1, f2⟩ := halves_fit h hx
  by_cases q1 : x ≤ (hlf as).sum
  · obtain ⟨w, w1, w2, w3⟩ := f1 q1
    refine ⟨by rw [w3, if_neg (by grind)], w, w1, .inl ⟨by rw [w3]; grind, ?_⟩⟩
    rw [w2]
    unfold hlf
    rw [List.map_map]
    rfl
  · by_cases q2 : x ≤ as.sum
    · obtain ⟨w, w1, w2, w3⟩ := f2 q1 q2
      have e : (atR (halvesR as) x).sum = x := by
        rw [w2, zip_half, sum_add_map]
        have e1 : (as.map fun a => a * (1 / 2)).sum = (hlf as).sum := rfl
        have e2 : (as.map fun a => a * (1 / 2) - lessr (a * (1 / 2)) w) = (hlf as).map fun a => a - lessr a w := by
          unfold hlf
          rw [List.map_map]
          rfl
        rw [e1, e2, w3]
        grind
      exact ⟨by rw [e, if_neg (by grind)], w, w1, .inr ⟨by rw [e]; grind, by rw [w2, zip_half]⟩⟩
    · have e := halves_over h hx (by grind)
      refine ⟨by rw [e, if_pos (by grind)], 0, Rat.le_refl, ?_⟩
      by_cases q3 : as.sum = 0
      · refine .inl ⟨by rw [e]; grind, ?_⟩
        rw [e]
        have hz := zero_of_sum h q3
        have : as.map (fun a => lessr (a * (1 / 2)) 0) = as.map id := List.map_congr_left fun a ha => by
          rw [hz a ha]
          unfold lessr
          split <;> grind
        rw [this, List.map_id]
      · refine .inr ⟨by rw [e]; grind, ?_⟩
        rw [e]
        have : as.map (fun a => a * (1 / 2) + (a * (1 / 2) - lessr (a * (1 / 2)) 0)) = as.map id := List.map_congr_left fun a ha => by
          have := h a ha
          unfold lessr
          split <;> grind
        rw [this, List.map_id]
theorem sub2 {f g : Rat → Rat} : ∀ {P A : List Int} {as : List Rat}, P.map (fun z : Int => (z : Rat)) = as.map g → A.map (fun z : Int => (z : Rat)) = as.map f →
    ((P.zip A).map fun q => q.1 - q.2).map (fun z : Int => (z : Rat)) = as.map fun a => g a - f a
  | [], A, as, e1, e2 => by
    have : as = [] := by simpa using e1.symm
    subst this
    rfl
  | p :: P, [], [], e1, e2 => by simp at e1
  | p :: P, [], c :: as, e1, e2 => by simp at e2
  | p :: P, a :: A, [], e1, e2 => by simp at e1
  | p :: P, a :: A, c :: as, e1, e2 => by
    simp only [List.map_cons, List.cons.injEq] at e1 e2
    have ih := sub2 e1.2 e2.2
    show (((p - a : Int)) : Rat) :: ((P.zip A).map fun q => q.1 - q.2).map (fun z : Int => (z : Rat)) = (g c - f c) :: as.map _
    rw [ih, Rat.intCast_sub, e1.1, e2.1]
theorem rng_of {b : Int} (hb : 0 < b) {A ps : List Int} {as : List Rat} {g : Rat → Rat} (hg : ∀ a ∈ as, 0 ≤ g a ∧ g a ≤ a) (eA : A.map (fun z : Int => (z : Rat)) = as.map fun a : Rat => (b : Rat) * a) (eP : ps.map (fun z : Int => (z : Rat)) = as.map fun a : Rat => (b : Rat) * g a) :
    ∀ q ∈ A.zip ps, 0 ≤ q.2 ∧ q.2 ≤ q.1 := fun q hq => by
  have hb' : (0 : Rat) < (b : Rat) := Rat.intCast_pos.mpr hb
  obtain ⟨a, ha, e1, e2⟩ := zip_of eA eP q hq
  obtain ⟨g1, g2⟩ := hg a ha
  refine ⟨le_cast.mp ?_, le_cast.mp ?_⟩
  · rw [e2]
    exact Rat.mul_nonneg (by grind) g1
  · rw [e1, e2]
    exact Rat.mul_le_mul_of_nonneg_left g2 (by grind)
end Pu

/-! How great the parts at a purse are. -/
namespace Pu
theorem Gd.dbl {D M : Nat} {x : Rat} (hD : 0 < D) (h : Gd D M x) : Gd (2 * D) (2 * M) x := by
  obtain ⟨z, rfl, hz⟩ := h
  refine ⟨2 * z, ?_, by omega⟩
  have : ((2 * D : Nat) : Int) = 2 * (D : Int) := by omega
  rw [this, divInt_mul_cancel (by decide)]
/-- corners on the grid of halves -/
def G2 (N : Nat) (c : Cor) : Prop := Gd 2 N c.1 ∧ ∀ t ∈ c.2, Gd 2 N t
theorem flat_g2 (f : Fk) {as : List Rat} {M : Nat} (hl : as.length ≤ 8) (hx : ∀ a ∈ as, Gd 1 M a) : ∀ c ∈ flatR f as, G2 (48 * M) c := by
  have up : ∀ {K : Nat} {c : Cor}, GdC 1 K c → K ≤ 3 * M → G2 (48 * M) c := fun {K c} h hk => ⟨(h.1.dbl (by decide)).mono (by omega), fun t ht => ((h.2 t ht).dbl (by decide)).mono (by omega)⟩
  cases f with
  | shares =>
    intro c hc
    have hc : c ∈ sharesR as := hc
    have hb : G2 (48 * M) (begR as.length) := up (gdc_begR 1 M as.length) (by omega)
    unfold sharesR at hc
    split at hc
    · have : c = begR as.length := by simpa using hc
      rw [this]; exact hb
    · simp only [List.mem_cons, List.not_mem_nil, or_false] at hc
      rcases hc with rfl | rfl
      · exact hb
      · have := Gd.sum8 hl hx as.length
        rw [List.take_length] at this
        exact ⟨(this.dbl (by decide)).mono (by omega), fun x hx' => ((hx x hx').dbl (by decide)).mono (by omega)⟩
  | evenly => exact fun c hc => up (gdc_even hl hx c hc).1 (by omega)
  | losses => exact fun c hc => up (gdc_turned (gdc_even hl hx) c hc).1 (by omega)
  | halves =>
    have ha : ∀ a ∈ hlf as, Gd (2 * 1) M a := fun a ha => by
      obtain ⟨b, hb, rfl⟩ := List.mem_map.mp ha
      exact (hx b hb).half (by decide)
    have g := gdc_even (as := hlf as) (by simp [hlf]; omega) ha
    have gt := gdc_turned g
    intro c hc
    have hc : c ∈ halvesR as := hc
    unfold halvesR at hc
    rw [behindR_eq (even_ne _)] at hc
    rcases thinA_sub (List.mem_reverse.mp hc) with z | z
    · cases z
    · rcases List.mem_append.mp z with z | z
      · have := (g c z).1
        exact ⟨this.1.mono (by omega), fun t ht => (this.2 t ht).mono (by omega)⟩
      · obtain ⟨d, hd, rfl⟩ := List.mem_map.mp z
        have hL := g _ (List.getLast_mem (even_ne (hlf as)))
        have hd := gt d (List.mem_of_mem_tail hd)
        refine ⟨(hL.1.1.add hd.1.1).mono (by omega), fun x hx' => ?_⟩
        obtain ⟨q, hq, rfl⟩ := List.mem_map.mp hx'
        exact ((hL.1.2 _ (List.of_mem_zip hq).1).add (hd.1.2 _ (List.of_mem_zip hq).2)).mono (by omega)
theorem at_cases : ∀ {p : List Cor}, Up p → p ≠ [] → ∀ x, (∃ c ∈ p, atR p x = c.2) ∨ ∃ c ∈ p, ∃ d ∈ p, c.1 < d.1 ∧ atR p x = amidR c d x
  | [], _, h, _ => absurd rfl h
  | [c], _, _, x => .inl ⟨c, List.mem_cons_self, rfl⟩
  | c :: d :: p, h, _, x => by
    have h' := List.pairwise_cons.mp h
    show (∃ e ∈ c :: d :: p, (if d.1 < x then atR (d :: p) x else amidR c d x) = e.2) ∨ ∃ e ∈ c :: d :: p, ∃ g ∈ c :: d :: p, e.1 < g.1 ∧ (if d.1 < x then atR (d :: p) x else amidR c d x) = amidR e g x
    by_cases q : d.1 < x
    · rw [if_pos q]
      rcases at_cases h'.2 (by simp) x with ⟨e, he, h1⟩ | ⟨e, he, g, hg, h1, h2⟩
      · exact .inl ⟨e, List.mem_cons_of_mem _ he, h1⟩
      · exact .inr ⟨e, List.mem_cons_of_mem _ he, g, List.mem_cons_of_mem _ hg, h1, h2⟩
    · rw [if_neg q]
      exact .inr ⟨c, by simp, d, by simp, h'.1 d List.mem_cons_self, rfl⟩
theorem g2_sz {N : Nat} {x : Rat} (h : Gd 2 N x) (hN : N < 2 ^ 159) : SzR 400 x :=
  (h.sz (k := 159) (by decide) (by decide) hN).mono (by decide)
theorem amid_sz {N : Nat} (hN : N < 2 ^ 159) {l h o t x : Rat} (hl : Gd 2 N l) (hh : Gd 2 N h) (ho : Gd 2 N o) (ht : Gd 2 N t) (hlh : l < h) (hx : Bits 220 x.num) (hd : Bits 42 (x.den : Int)) : SzR 400 (o + (x - l) / (h - l) * (t - o)) := by
  obtain ⟨a, rfl, ha⟩ := hl
  obtain ⟨b, rfl, hb⟩ := hh
  obtain ⟨c, rfl, hc⟩ := ho
  obtain ⟨d, rfl, hdd⟩ := ht
  have hab : a < b := (divInt_lt (by decide)).mp hlh
  have hxd := den_pos x
  have ba : Bits 159 a := Nat.lt_of_le_of_lt ha hN
  have bb : Bits 159 b := Nat.lt_of_le_of_lt hb hN
  have bc : Bits 159 c := Nat.lt_of_le_of_lt hc hN
  have bd : Bits 159 d := Nat.lt_of_le_of_lt hdd hN
  have e : Rat.divInt c (2 : Nat) + (x - Rat.divInt a (2 : Nat)) / (Rat.divInt b (2 : Nat) - Rat.divInt a (2 : Nat)) * (Rat.divInt d (2 : Nat) - Rat.divInt c (2 : Nat)) = Rat.divInt (c * (b - a) * x.den + (2 * x.num - a * x.den) * (d - c)) (2 * (b - a) * x.den) := by
    have nx := frac_num x
    have dx : ((x.den : Int) : Rat) ≠ 0 := by simpa using x.den_nz
    have hab' : (a : Rat) < (b : Rat) := lt_cast.mpr hab
    have db : (b : Rat) - (a : Rat) ≠ 0 := by grind
    have two : (((2 : Nat) : Int) : Rat) = 2 := rfl
    have two' : (((2 : Int)) : Rat) = 2 := rfl
    simp only [Rat.divInt_eq_div, Rat.intCast_add, Rat.intCast_mul, Rat.intCast_sub, nx, two, two']
    generalize ((x.den : Int) : Rat) = X at *
    generalize (a : Rat) = A at *
    generalize (b : Rat) = B at *
    generalize (c : Rat) = C at *
    generalize (d : Rat) = E at *
    have e1 : B / 2 - A / 2 = (B - A) / 2 := by grind
    rw [e1]
    generalize hq : B - A = q at *
    grind
  rw [e]
  have hden : 2 * (b - a) * (x.den : Int) ≠ 0 := Int.mul_ne_zero (Int.mul_ne_zero (by decide) (by omega)) (by omega)
  have b2 : Bits 2 2 := .lit (by decide)
  refine szR_divInt hden ?_ ?_
  · exact ((((bc.mul (bb.sub ba)).mul hd).mono (by decide : _ ≤ 398)).add ((((b2.mul hx).mono (by decide : _ ≤ 222)).sub ((ba.mul hd).mono (by decide))).mul (bd.sub bc) |>.mono (by decide))).mono (by decide)
  · exact (((b2.mul (bb.sub ba)).mul hd)).mono (by decide)
theorem parts_sz (f : Fk) {as : List Rat} {M : Nat} (hl : as.length ≤ 8) (h0 : ∀ a ∈ as, 0 ≤ a) (hg : ∀ a ∈ as, Gd 1 M a) (hM : 48 * M < 2 ^ 159) {x : Rat} (hx : Bits 220 x.num) (hd : Bits 42 (x.den : Int)) : ∀ t ∈ atR (flatR f as) x, SzR 400 t := fun t ht => by
  have g := flat_g2 f hl hg
  obtain ⟨hp, q, hq⟩ := flat_pth f h0
  rcases at_cases hp.up (by rw [hq]; simp) x with ⟨c, hc, e⟩ | ⟨c, hc, d, hd', hlt, e⟩
  · rw [e] at ht
    exact g2_sz ((g c hc).2 t ht) hM
  · rw [e] at ht
    obtain ⟨r, hr, rfl⟩ := List.mem_map.mp ht
    exact amid_sz hM (g c hc).1 (g d hd').1 ((g c hc).2 _ (List.of_mem_zip hr).1) ((g d hd').2 _ (List.of_mem_zip hr).2) hlt hx hd
end Pu

namespace K24
open PySem L2 Pu
def LB_law_fits_0 : S := (.ite (.or (.cmp .lt (.var 7) (.int 0)) (.cmp .gt (.var 7) (.var 6))) (.ret (.bl false)) .skip)
def L_law_fits_0 : S := (.for_ true [6, 7] (.izip (.var 3) (.var 2)) LB_law_fits_0 [])
def B_law_fits : S := (.seq (.set 3 (.lc (.ix (.var 8) (.int 0)) false [8] (.iseq (.var 1)) .nil)) (.seq (.set 4 (.blt "sum" (.cons (.var 3) .nil))) (.seq (.set 5 (.blt "sum" (.cons (.var 2) .nil))) (.seq L_law_fits_0 (.seq (.ite (.cmp .eq (.ix (.var 0) (.int 0)) (.str "shares")) (.ret (.cmp .eq (.lc (.bin .mul (.var 7) (.var 4)) false [7] (.iseq (.var 2)) .nil) (.lc (.bin .mul (.var 6) (.var 5)) false [6] (.iseq (.var 3)) .nil))) .skip) (.seq (.ite (.cmp .eq (.ix (.var 0) (.int 0)) (.str "evenly")) (.ret (.call "_law_even" (.cons (.var 3) (.cons (.var 2) .nil)))) .skip) (.seq (.ite (.cmp .eq (.ix (.var 0) (.int 0)) (.str "losses")) (.ret (.call "_law_even" (.cons (.var 3) (.cons (.lc (.bin .sub (.var 6) (.var 7)) true [6, 7] (.izip (.var 3) (.var 2)) .nil) .nil)))) .skip) (.seq (.ite (.cmp .eq (.ix (.var 0) (.int 0)) (.str "halves")) (.ret (.call "_law_fits" (.cons (.tup (.cons (.str "upto") (.cons (.tup (.cons (.int 1) (.cons (.int 2) .nil))) (.cons (.tup (.cons (.str "evenly") .nil)) (.cons (.tup (.cons (.str "losses") .nil)) .nil))))) (.cons (.var 1) (.cons (.var 2) .nil))))) .skip) (.seq (.ite (.cmp .eq (.ix (.var 0) (.int 0)) (.str "other")) (.ret (.call "_law_fits" (.cons (.ix (.var 0) (.int 1)) (.cons (.var 1) (.cons (.lc (.bin .sub (.var 6) (.var 7)) true [6, 7] (.izip (.var 3) (.var 2)) .nil) .nil))))) .skip) (.seq (.ite (.cmp .eq (.ix (.var 0) (.int 0)) (.str "ranks")) .no .skip) (.seq (.ite (.cmp .eq (.ix (.var 0) (.int 0)) (.str "groups")) .no .skip) (.ret (.call "_law_upto_fit" (.cons (.var 0) (.cons (.var 1) (.cons (.var 2) .nil))))))))))))))))
def F_law_fits : Fn := ⟨3, 9, B_law_fits, true, true⟩
def LB_law_0 : S := (.seq (.set 10 (.call "_law_purse" (.cons (.var 8) (.cons (.var 9) .nil)))) (.seq (.set 11 (.meth (.var 6) "parts" (.cons (.var 7) (.cons (.var 10) .nil)))) (.ite (.or (.cmp .ne (.var 7) (.var 3)) (.not (.call "_law_right" (.cons (.var 5) (.cons (.var 3) (.cons (.var 10) (.cons (.var 11) .nil))))))) (.ret (.bl false)) .skip)))
def L_law_0 : S := (.for_ false [9] (.iseq (.bin .add (.lst (.cons (.int 0) (.cons (.int 1) .nil))) (.sl (.var 0) (.bin .add (.int 1) (.var 2)) (.bin .add (.int 21) (.var 2))))) LB_law_0 [9, 10, 11])
def B_law : S := (.seq (.set 1 (.call "_law_cell_at" (.cons (.var 0) (.cons (.int 0) .nil)))) (.seq (.set 2 (.bin .add (.int 1) (.bin .mod (.var 1) (.int 8)))) (.seq (.set 3 (.call "_law_claims" (.cons (.var 0) (.cons (.int 1) (.cons (.var 2) (.cons (.ix (.lst (.cons (.int 10) (.cons (.bin .pow (.int 10) (.int 9)) (.cons (.bin .pow (.int 10) (.int 46)) .nil)))) (.bin .mod (.bin .fdiv (.var 1) (.int 8)) (.int 3))) .nil)))))) (.seq (.set 4 (.lst (.cons (.tup (.cons (.str "shares") .nil)) (.cons (.tup (.cons (.str "evenly") .nil)) (.cons (.tup (.cons (.str "losses") .nil)) (.cons (.tup (.cons (.str "halves") .nil)) .nil)))))) (.seq (.set 5 (.ix (.var 4) (.bin .mod (.bin .fdiv (.var 1) (.int 24)) (.int 4)))) (.seq (.set 6 (.call "_law_rule" (.cons (.var 5) .nil))) (.seq (.ite (.not (.isi (.var 6) "Rule")) (.ret (.bl false)) .skip) (.seq (.set 7 (.blt "list" (.cons (.var 3) .nil))) (.seq (.set 8 (.blt "sum" (.cons (.lc (.ix (.var 12) (.int 0)) false [12] (.iseq (.var 3)) .nil) .nil))) (.seq L_law_0 (.ret (.bl true))))))))))))
def F_law : Fn := ⟨1, 13, B_law, true, true⟩
def fnT : String → Option Fn := fun s => if s = "divisor" then some Pg.F_divisor else if s = "fraction" then some Pg.F_fraction else if s = "plus" then some Pg.F_plus else if s = "minus" then some Pg.F_minus else if s = "times" then some Pg.F_times else if s = "over" then some Pg.F_over else if s = "before" then some Pg.F_before else if s = "amid" then some Pg.F_amid else if s = "thinned" then some Pg.F_thinned else if s = "parts_at" then some Pg.F_parts_at else if s = "turned" then some Pg.F_turned else if s = "behind" then some Pg.F_behind else if s = "look_claims" then some Pg.F_look_claims else if s = "all_of" then some Pg.F_all_of else if s = "lesser" then some Pg.F_lesser else if s = "risen" then some Pg.F_risen else if s = "begin" then some Pg.F_begin else if s = "cut" then some Pg.F_cut else if s = "_law_cell_at" then some Pg.F_law_cell_at else if s = "_law_mixed" then some Pg.F_law_mixed else if s = "_law_divisor" then some Pg.F_law_divisor else if s = "_law_lowest" then some Pg.F_law_lowest else if s = "_law_whole" then some Pg.F_law_whole else if s = "_law_is_fraction" then some Pg.F_law_is_fraction else if s = "_law_labels" then some Pg.F_law_labels else if s = "_law_claims" then some Pg.F_law_claims else if s = "_law_even" then some Pg.F_law_even else if s = "_law_fits" then some F_law_fits else if s = "_law_upto_fit" then some Pg.F_law_upto_fit else if s = "_law_right" then some Pg.F_law_right else if s = "_law_rule" then some Pg.F_law_rule else if s = "_law_purse" then some Pg.F_law_purse else if s = "law" then some F_law else if s = "Rule.path" then some Pg.F_Rule_path else if s = "Rule.parts" then some Pg.F_Rule_parts else if s = "Shares.divided" then some Pg.F_Shares_divided else if s = "Evenly.divided" then some Pg.F_Evenly_divided else if s = "Losses.divided" then some Pg.F_Losses_divided else if s = "Halves.divided" then some Pg.F_Halves_divided else none
def glT : String → Option D := fun s => if s = "NOTHING" then some (.tup [(.int 0), (.int 1)]) else if s = "MOST" then some (.int 8) else if s = "HALF" then some (.tup [(.int 1), (.int 2)]) else none
def isxT : String → String → Option Bool := fun _ _ => none
def mroT : String → String → Option String := fun c m => if c = "Shares" then (if m = "parts" then some "Rule.parts" else if m = "divided" then some "Shares.divided" else if m = "path" then some "Rule.path" else none) else if c = "Evenly" then (if m = "parts" then some "Rule.parts" else if m = "divided" then some "Evenly.divided" else if m = "path" then some "Rule.path" else none) else if c = "Losses" then (if m = "parts" then some "Rule.parts" else if m = "divided" then some "Losses.divided" else if m = "path" then some "Rule.path" else none) else if c = "Halves" then (if m = "parts" then some "Rule.parts" else if m = "divided" then some "Halves.divided" else if m = "path" then some "Rule.path" else none) else if c = "Other" then (if m = "parts" then some "Rule.parts" else if m = "path" then some "Rule.path" else none) else if c = "Ranks" then (if m = "parts" then some "Rule.parts" else if m = "path" then some "Rule.path" else none) else if c = "Groups" then (if m = "parts" then some "Rule.parts" else if m = "path" then some "Rule.path" else none) else if c = "Upto" then (if m = "parts" then some "Rule.parts" else if m = "path" then some "Rule.path" else none) else none
def fieldsT : String → Option (List String) := fun c => if c = "Shares" then some [] else if c = "Evenly" then some [] else if c = "Losses" then some [] else if c = "Halves" then some [] else if c = "Other" then some ["inner"] else if c = "Ranks" then some ["inner"] else if c = "Groups" then some ["outer", "inner"] else if c = "Upto" then some ["portion", "first", "last"] else none
def isiT : String → String → Option Bool := fun e c => if e = "Shares" then (if c = "Rule" then some true else none) else if e = "Evenly" then (if c = "Rule" then some true else none) else if e = "Losses" then (if c = "Rule" then some true else none) else if e = "Halves" then (if c = "Rule" then some true else none) else if e = "Other" then (if c = "Rule" then some true else none) else if e = "Ranks" then (if c = "Rule" then some true else none) else if e = "Groups" then (if c = "Rule" then some true else none) else if e = "Upto" then (if c = "Rule" then some true else none) else none
def T : Tab := ⟨fnT, mroT, fieldsT, glT, isiT, isxT, fun m => ["parts", "divided", "path"].contains m, fun m => ["parts", "divided", "path"].contains m⟩
theorem me_Shares_parts (call : String → List D → R D) (ds : List D) : (orcOf T call).meth "Shares" "parts" ds = call "Rule.parts" ds := meth_to rfl (fun _ => rfl) (fun _ => rfl)
theorem me_Shares_divided (call : String → List D → R D) (ds : List D) : (orcOf T call).meth "Shares" "divided" ds = call "Shares.divided" ds := meth_to rfl (fun _ => rfl) (fun _ => rfl)
theorem me_Shares_path (call : String → List D → R D) (ds : List D) : (orcOf T call).meth "Shares" "path" ds = call "Rule.path" ds := meth_to rfl (fun _ => rfl) (fun _ => rfl)
theorem me_Evenly_parts (call : String → List D → R D) (ds : List D) : (orcOf T call).meth "Evenly" "parts" ds = call "Rule.parts" ds := meth_to rfl (fun _ => rfl) (fun _ => rfl)
theorem me_Evenly_divided (call : String → List D → R D) (ds : List D) : (orcOf T call).meth "Evenly" "divided" ds = call "Evenly.divided" ds := meth_to rfl (fun _ => rfl) (fun _ => rfl)
theorem me_Evenly_path (call : String → List D → R D) (ds : List D) : (orcOf T call).meth "Evenly" "path" ds = call "Rule.path" ds := meth_to rfl (fun _ => rfl) (fun _ => rfl)
theorem me_Losses_parts (call : String → List D → R D) (ds : List D) : (orcOf T call).meth "Losses" "parts" ds = call "Rule.parts" ds := meth_to rfl (fun _ => rfl) (fun _ => rfl)
theorem me_Losses_divided (call : String → List D → R D) (ds : List D) : (orcOf T call).meth "Losses" "divided" ds = call "Losses.divided" ds := meth_to rfl (fun _ => rfl) (fun _ => rfl)
theorem me_Losses_path (call : String → List D → R D) (ds : List D) : (orcOf T call).meth "Losses" "path" ds = call "Rule.path" ds := meth_to rfl (fun _ => rfl) (fun _ => rfl)
theorem me_Halves_parts (call : String → List D → R D) (ds : List D) : (orcOf T call).meth "Halves" "parts" ds = call "Rule.parts" ds := meth_to rfl (fun _ => rfl) (fun _ => rfl)
theorem me_Halves_divided (call : String → List D → R D) (ds : List D) : (orcOf T call).meth "Halves" "divided" ds = call "Halves.divided" ds := meth_to rfl (fun _ => rfl) (fun _ => rfl)
theorem me_Halves_path (call : String → List D → R D) (ds : List D) : (orcOf T call).meth "Halves" "path" ds = call "Rule.path" ds := meth_to rfl (fun _ => rfl) (fun _ => rfl)
theorem me_Other_parts (call : String → List D → R D) (ds : List D) : (orcOf T call).meth "Other" "parts" ds = call "Rule.parts" ds := meth_to rfl (fun _ => rfl) (fun _ => rfl)
theorem me_Other_path (call : String → List D → R D) (ds : List D) : (orcOf T call).meth "Other" "path" ds = call "Rule.path" ds := meth_to rfl (fun _ => rfl) (fun _ => rfl)
theorem me_Ranks_parts (call : String → List D → R D) (ds : List D) : (orcOf T call).meth "Ranks" "parts" ds = call "Rule.parts" ds := meth_to rfl (fun _ => rfl) (fun _ => rfl)
theorem me_Ranks_path (call : String → List D → R D) (ds : List D) : (orcOf T call).meth "Ranks" "path" ds = call "Rule.path" ds := meth_to rfl (fun _ => rfl) (fun _ => rfl)
theorem me_Groups_parts (call : String → List D → R D) (ds : List D) : (orcOf T call).meth "Groups" "parts" ds = call "Rule.parts" ds := meth_to rfl (fun _ => rfl) (fun _ => rfl)
theorem me_Groups_path (call : String → List D → R D) (ds : List D) : (orcOf T call).meth "Groups" "path" ds = call "Rule.path" ds := meth_to rfl (fun _ => rfl) (fun _ => rfl)
theorem me_Upto_parts (call : String → List D → R D) (ds : List D) : (orcOf T call).meth "Upto" "parts" ds = call "Rule.parts" ds := meth_to rfl (fun _ => rfl) (fun _ => rfl)
theorem me_Upto_path (call : String → List D → R D) (ds : List D) : (orcOf T call).meth "Upto" "path" ds = call "Rule.path" ds := meth_to rfl (fun _ => rfl) (fun _ => rfl)
theorem nw_Shares (call : String → List D → R D) : (orcOf T call).new "Shares" [] = .ok (.obj "Shares" []) := new_to rfl rfl
theorem is_Shares_Rule (call : String → List D → R D) (ds : List D) : isiB (orcOf T call) "Rule" (.obj "Shares" ds) = .ok true := (rfl)
theorem nw_Evenly (call : String → List D → R D) : (orcOf T call).new "Evenly" [] = .ok (.obj "Evenly" []) := new_to rfl rfl
theorem is_Evenly_Rule (call : String → List D → R D) (ds : List D) : isiB (orcOf T call) "Rule" (.obj "Evenly" ds) = .ok true := (rfl)
theorem nw_Losses (call : String → List D → R D) : (orcOf T call).new "Losses" [] = .ok (.obj "Losses" []) := new_to rfl rfl
theorem is_Losses_Rule (call : String → List D → R D) (ds : List D) : isiB (orcOf T call) "Rule" (.obj "Losses" ds) = .ok true := (rfl)
theorem nw_Halves (call : String → List D → R D) : (orcOf T call).new "Halves" [] = .ok (.obj "Halves" []) := new_to rfl rfl
theorem is_Halves_Rule (call : String → List D → R D) (ds : List D) : isiB (orcOf T call) "Rule" (.obj "Halves" ds) = .ok true := (rfl)
theorem nw_Other (call : String → List D → R D) (d0 : D) : (orcOf T call).new "Other" [d0] = .ok (.obj "Other" [d0]) := new_to rfl rfl
theorem fd_Other_inner (call : String → List D → R D) (d0 : D) : fieldOf (orcOf T call) "inner" (.obj "Other" [d0]) = .ok d0 := (rfl)
theorem is_Other_Rule (call : String → List D → R D) (ds : List D) : isiB (orcOf T call) "Rule" (.obj "Other" ds) = .ok true := (rfl)
theorem nw_Ranks (call : String → List D → R D) (d0 : D) : (orcOf T call).new "Ranks" [d0] = .ok (.obj "Ranks" [d0]) := new_to rfl rfl
theorem fd_Ranks_inner (call : String → List D → R D) (d0 : D) : fieldOf (orcOf T call) "inner" (.obj "Ranks" [d0]) = .ok d0 := (rfl)
theorem is_Ranks_Rule (call : String → List D → R D) (ds : List D) : isiB (orcOf T call) "Rule" (.obj "Ranks" ds) = .ok true := (rfl)
theorem nw_Groups (call : String → List D → R D) (d0 d1 : D) : (orcOf T call).new "Groups" [d0, d1] = .ok (.obj "Groups" [d0, d1]) := new_to rfl rfl
theorem fd_Groups_outer (call : String → List D → R D) (d0 d1 : D) : fieldOf (orcOf T call) "outer" (.obj "Groups" [d0, d1]) = .ok d0 := (rfl)
theorem fd_Groups_inner (call : String → List D → R D) (d0 d1 : D) : fieldOf (orcOf T call) "inner" (.obj "Groups" [d0, d1]) = .ok d1 := (rfl)
theorem is_Groups_Rule (call : String → List D → R D) (ds : List D) : isiB (orcOf T call) "Rule" (.obj "Groups" ds) = .ok true := (rfl)
theorem nw_Upto (call : String → List D → R D) (d0 d1 d2 : D) : (orcOf T call).new "Upto" [d0, d1, d2] = .ok (.obj "Upto" [d0, d1, d2]) := new_to rfl rfl
theorem fd_Upto_portion (call : String → List D → R D) (d0 d1 d2 : D) : fieldOf (orcOf T call) "portion" (.obj "Upto" [d0, d1, d2]) = .ok d0 := (rfl)
theorem fd_Upto_first (call : String → List D → R D) (d0 d1 d2 : D) : fieldOf (orcOf T call) "first" (.obj "Upto" [d0, d1, d2]) = .ok d1 := (rfl)
theorem fd_Upto_last (call : String → List D → R D) (d0 d1 d2 : D) : fieldOf (orcOf T call) "last" (.obj "Upto" [d0, d1, d2]) = .ok d2 := (rfl)
theorem is_Upto_Rule (call : String → List D → R D) (ds : List D) : isiB (orcOf T call) "Rule" (.obj "Upto" ds) = .ok true := (rfl)
theorem gl_NOTHING : T.glob "NOTHING" = some (.tup [(.int 0), (.int 1)]) := rfl
theorem gl_MOST : T.glob "MOST" = some (.int 8) := rfl
theorem gl_HALF : T.glob "HALF" = some (.tup [(.int 1), (.int 2)]) := rfl
theorem fn_divisor : T.fn "divisor" = some Pg.F_divisor := rfl
theorem go_divisor (n : Nat) (ds : List D) (h : ds.length = 2) : evFn T (n + 1) "divisor" ds = finB true true (exec (orcOf T (evFn T n)) Pg.B_divisor (ds.map (fun d => some (.frz, d)) ++ List.replicate 0 none)) := go fn_divisor n ds h
theorem fr_divisor : T.fresh "divisor" = true := rfl
theorem br_divisor : T.bor "divisor" = true := rfl
theorem fn_fraction : T.fn "fraction" = some Pg.F_fraction := rfl
theorem go_fraction (n : Nat) (ds : List D) (h : ds.length = 2) : evFn T (n + 1) "fraction" ds = finB true true (exec (orcOf T (evFn T n)) Pg.B_fraction (ds.map (fun d => some (.frz, d)) ++ List.replicate 1 none)) := go fn_fraction n ds h
theorem fr_fraction : T.fresh "fraction" = true := rfl
theorem br_fraction : T.bor "fraction" = true := rfl
theorem fn_plus : T.fn "plus" = some Pg.F_plus := rfl
theorem go_plus (n : Nat) (ds : List D) (h : ds.length = 2) : evFn T (n + 1) "plus" ds = finB true true (exec (orcOf T (evFn T n)) Pg.B_plus (ds.map (fun d => some (.frz, d)) ++ List.replicate 0 none)) := go fn_plus n ds h
theorem fr_plus : T.fresh "plus" = true := rfl
theorem br_plus : T.bor "plus" = true := rfl
theorem fn_minus : T.fn "minus" = some Pg.F_minus := rfl
theorem go_minus (n : Nat) (ds : List D) (h : ds.length = 2) : evFn T (n + 1) "minus" ds = finB true true (exec (orcOf T (evFn T n)) Pg.B_minus (ds.map (fun d => some (.frz, d)) ++ List.replicate 0 none)) := go fn_minus n ds h
theorem fr_minus : T.fresh "minus" = true := rfl
theorem br_minus : T.bor "minus" = true := rfl
theorem fn_times : T.fn "times" = some Pg.F_times := rfl
theorem go_times (n : Nat) (ds : List D) (h : ds.length = 2) : evFn T (n + 1) "times" ds = finB true true (exec (orcOf T (evFn T n)) Pg.B_times (ds.map (fun d => some (.frz, d)) ++ List.replicate 0 none)) := go fn_times n ds h
theorem fr_times : T.fresh "times" = true := rfl
theorem br_times : T.bor "times" = true := rfl
theorem fn_over : T.fn "over" = some Pg.F_over := rfl
theorem go_over (n : Nat) (ds : List D) (h : ds.length = 2) : evFn T (n + 1) "over" ds = finB true true (exec (orcOf T (evFn T n)) Pg.B_over (ds.map (fun d => some (.frz, d)) ++ List.replicate 0 none)) := go fn_over n ds h
theorem fr_over : T.fresh "over" = true := rfl
theorem br_over : T.bor "over" = true := rfl
theorem fn_before : T.fn "before" = some Pg.F_before := rfl
theorem go_before (n : Nat) (ds : List D) (h : ds.length = 2) : evFn T (n + 1) "before" ds = finB true true (exec (orcOf T (evFn T n)) Pg.B_before (ds.map (fun d => some (.frz, d)) ++ List.replicate 0 none)) := go fn_before n ds h
theorem fr_before : T.fresh "before" = true := rfl
theorem br_before : T.bor "before" = true := rfl
theorem fn_amid : T.fn "amid" = some Pg.F_amid := rfl
theorem go_amid (n : Nat) (ds : List D) (h : ds.length = 3) : evFn T (n + 1) "amid" ds = finB true true (exec (orcOf T (evFn T n)) Pg.B_amid (ds.map (fun d => some (.frz, d)) ++ List.replicate 3 none)) := go fn_amid n ds h
theorem fr_amid : T.fresh "amid" = true := rfl
theorem br_amid : T.bor "amid" = true := rfl
theorem fn_thinned : T.fn "thinned" = some Pg.F_thinned := rfl
theorem go_thinned (n : Nat) (ds : List D) (h : ds.length = 1) : evFn T (n + 1) "thinned" ds = finB true true (exec (orcOf T (evFn T n)) Pg.B_thinned (ds.map (fun d => some (.frz, d)) ++ List.replicate 2 none)) := go fn_thinned n ds h
theorem fr_thinned : T.fresh "thinned" = true := rfl
theorem br_thinned : T.bor "thinned" = true := rfl
theorem fn_parts_at : T.fn "parts_at" = some Pg.F_parts_at := rfl
theorem go_parts_at (n : Nat) (ds : List D) (h : ds.length = 2) : evFn T (n + 1) "parts_at" ds = finB true true (exec (orcOf T (evFn T n)) Pg.B_parts_at (ds.map (fun d => some (.frz, d)) ++ List.replicate 1 none)) := go fn_parts_at n ds h
theorem fr_parts_at : T.fresh "parts_at" = true := rfl
theorem br_parts_at : T.bor "parts_at" = true := rfl
theorem fn_turned : T.fn "turned" = some Pg.F_turned := rfl
theorem go_turned (n : Nat) (ds : List D) (h : ds.length = 1) : evFn T (n + 1) "turned" ds = finB true true (exec (orcOf T (evFn T n)) Pg.B_turned (ds.map (fun d => some (.frz, d)) ++ List.replicate 6 none)) := go fn_turned n ds h
theorem fr_turned : T.fresh "turned" = true := rfl
theorem br_turned : T.bor "turned" = true := rfl
theorem fn_behind : T.fn "behind" = some Pg.F_behind := rfl
theorem go_behind (n : Nat) (ds : List D) (h : ds.length = 2) : evFn T (n + 1) "behind" ds = finB true true (exec (orcOf T (evFn T n)) Pg.B_behind (ds.map (fun d => some (.frz, d)) ++ List.replicate 6 none)) := go fn_behind n ds h
theorem fr_behind : T.fresh "behind" = true := rfl
theorem br_behind : T.bor "behind" = true := rfl
theorem fn_look_claims : T.fn "look_claims" = some Pg.F_look_claims := rfl
theorem go_look_claims (n : Nat) (ds : List D) (h : ds.length = 1) : evFn T (n + 1) "look_claims" ds = finB true true (exec (orcOf T (evFn T n)) Pg.B_look_claims (ds.map (fun d => some (.frz, d)) ++ List.replicate 1 none)) := go fn_look_claims n ds h
theorem fr_look_claims : T.fresh "look_claims" = true := rfl
theorem br_look_claims : T.bor "look_claims" = true := rfl
theorem fn_all_of : T.fn "all_of" = some Pg.F_all_of := rfl
theorem go_all_of (n : Nat) (ds : List D) (h : ds.length = 1) : evFn T (n + 1) "all_of" ds = finB true true (exec (orcOf T (evFn T n)) Pg.B_all_of (ds.map (fun d => some (.frz, d)) ++ List.replicate 2 none)) := go fn_all_of n ds h
theorem fr_all_of : T.fresh "all_of" = true := rfl
theorem br_all_of : T.bor "all_of" = true := rfl
theorem fn_lesser : T.fn "lesser" = some Pg.F_lesser := rfl
theorem go_lesser (n : Nat) (ds : List D) (h : ds.length = 2) : evFn T (n + 1) "lesser" ds = finB true true (exec (orcOf T (evFn T n)) Pg.B_lesser (ds.map (fun d => some (.frz, d)) ++ List.replicate 0 none)) := go fn_lesser n ds h
theorem fr_lesser : T.fresh "lesser" = true := rfl
theorem br_lesser : T.bor "lesser" = true := rfl
theorem fn_risen : T.fn "risen" = some Pg.F_risen := rfl
theorem go_risen (n : Nat) (ds : List D) (h : ds.length = 2) : evFn T (n + 1) "risen" ds = finB false false (exec (orcOf T (evFn T n)) Pg.B_risen (ds.map (fun d => some (.frz, d)) ++ List.replicate 1 none)) := go fn_risen n ds h
theorem fr_risen : T.fresh "risen" = false := rfl
theorem br_risen : T.bor "risen" = false := rfl
theorem fn_begin : T.fn "begin" = some Pg.F_begin := rfl
theorem go_begin (n : Nat) (ds : List D) (h : ds.length = 1) : evFn T (n + 1) "begin" ds = finB true true (exec (orcOf T (evFn T n)) Pg.B_begin (ds.map (fun d => some (.frz, d)) ++ List.replicate 1 none)) := go fn_begin n ds h
theorem fr_begin : T.fresh "begin" = true := rfl
theorem br_begin : T.bor "begin" = true := rfl
theorem fn_cut : T.fn "cut" = some Pg.F_cut := rfl
theorem go_cut (n : Nat) (ds : List D) (h : ds.length = 2) : evFn T (n + 1) "cut" ds = finB true true (exec (orcOf T (evFn T n)) Pg.B_cut (ds.map (fun d => some (.frz, d)) ++ List.replicate 3 none)) := go fn_cut n ds h
theorem fr_cut : T.fresh "cut" = true := rfl
theorem br_cut : T.bor "cut" = true := rfl
theorem fn_law_cell_at : T.fn "_law_cell_at" = some Pg.F_law_cell_at := rfl
theorem go_law_cell_at (n : Nat) (ds : List D) (h : ds.length = 2) : evFn T (n + 1) "_law_cell_at" ds = finB true true (exec (orcOf T (evFn T n)) Pg.B_law_cell_at (ds.map (fun d => some (.frz, d)) ++ List.replicate 0 none)) := go fn_law_cell_at n ds h
theorem fr_law_cell_at : T.fresh "_law_cell_at" = true := rfl
theorem br_law_cell_at : T.bor "_law_cell_at" = true := rfl
theorem fn_law_mixed : T.fn "_law_mixed" = some Pg.F_law_mixed := rfl
theorem go_law_mixed (n : Nat) (ds : List D) (h : ds.length = 2) : evFn T (n + 1) "_law_mixed" ds = finB true true (exec (orcOf T (evFn T n)) Pg.B_law_mixed (ds.map (fun d => some (.frz, d)) ++ List.replicate 1 none)) := go fn_law_mixed n ds h
theorem fr_law_mixed : T.fresh "_law_mixed" = true := rfl
theorem br_law_mixed : T.bor "_law_mixed" = true := rfl
theorem fn_law_divisor : T.fn "_law_divisor" = some Pg.F_law_divisor := rfl
theorem go_law_divisor (n : Nat) (ds : List D) (h : ds.length = 2) : evFn T (n + 1) "_law_divisor" ds = finB true true (exec (orcOf T (evFn T n)) Pg.B_law_divisor (ds.map (fun d => some (.frz, d)) ++ List.replicate 0 none)) := go fn_law_divisor n ds h
theorem fr_law_divisor : T.fresh "_law_divisor" = true := rfl
theorem br_law_divisor : T.bor "_law_divisor" = true := rfl
theorem fn_law_lowest : T.fn "_law_lowest" = some Pg.F_law_lowest := rfl
theorem go_law_lowest (n : Nat) (ds : List D) (h : ds.length = 2) : evFn T (n + 1) "_law_lowest" ds = finB true true (exec (orcOf T (evFn T n)) Pg.B_law_lowest (ds.map (fun d => some (.frz, d)) ++ List.replicate 1 none)) := go fn_law_lowest n ds h
theorem fr_law_lowest : T.fresh "_law_lowest" = true := rfl
theorem br_law_lowest : T.bor "_law_lowest" = true := rfl
theorem fn_law_whole : T.fn "_law_whole" = some Pg.F_law_whole := rfl
theorem go_law_whole (n : Nat) (ds : List D) (h : ds.length = 1) : evFn T (n + 1) "_law_whole" ds = finB true true (exec (orcOf T (evFn T n)) Pg.B_law_whole (ds.map (fun d => some (.frz, d)) ++ List.replicate 0 none)) := go fn_law_whole n ds h
theorem fr_law_whole : T.fresh "_law_whole" = true := rfl
theorem br_law_whole : T.bor "_law_whole" = true := rfl
theorem fn_law_is_fraction : T.fn "_law_is_fraction" = some Pg.F_law_is_fraction := rfl
theorem go_law_is_fraction (n : Nat) (ds : List D) (h : ds.length = 1) : evFn T (n + 1) "_law_is_fraction" ds = finB true true (exec (orcOf T (evFn T n)) Pg.B_law_is_fraction (ds.map (fun d => some (.frz, d)) ++ List.replicate 0 none)) := go fn_law_is_fraction n ds h
theorem fr_law_is_fraction : T.fresh "_law_is_fraction" = true := rfl
theorem br_law_is_fraction : T.bor "_law_is_fraction" = true := rfl
theorem fn_law_labels : T.fn "_law_labels" = some Pg.F_law_labels := rfl
theorem go_law_labels (n : Nat) (ds : List D) (h : ds.length = 1) : evFn T (n + 1) "_law_labels" ds = finB true true (exec (orcOf T (evFn T n)) Pg.B_law_labels (ds.map (fun d => some (.frz, d)) ++ List.replicate 0 none)) := go fn_law_labels n ds h
theorem fr_law_labels : T.fresh "_law_labels" = true := rfl
theorem br_law_labels : T.bor "_law_labels" = true := rfl
theorem fn_law_claims : T.fn "_law_claims" = some Pg.F_law_claims := rfl
theorem go_law_claims (n : Nat) (ds : List D) (h : ds.length = 4) : evFn T (n + 1) "_law_claims" ds = finB true true (exec (orcOf T (evFn T n)) Pg.B_law_claims (ds.map (fun d => some (.frz, d)) ++ List.replicate 7 none)) := go fn_law_claims n ds h
theorem fr_law_claims : T.fresh "_law_claims" = true := rfl
theorem br_law_claims : T.bor "_law_claims" = true := rfl
theorem fn_law_even : T.fn "_law_even" = some Pg.F_law_even := rfl
theorem go_law_even (n : Nat) (ds : List D) (h : ds.length = 2) : evFn T (n + 1) "_law_even" ds = finB true true (exec (orcOf T (evFn T n)) Pg.B_law_even (ds.map (fun d => some (.frz, d)) ++ List.replicate 3 none)) := go fn_law_even n ds h
theorem fr_law_even : T.fresh "_law_even" = true := rfl
theorem br_law_even : T.bor "_law_even" = true := rfl
theorem fn_law_fits : T.fn "_law_fits" = some F_law_fits := rfl
theorem go_law_fits (n : Nat) (ds : List D) (h : ds.length = 3) : evFn T (n + 1) "_law_fits" ds = finB true true (exec (orcOf T (evFn T n)) B_law_fits (ds.map (fun d => some (.frz, d)) ++ List.replicate 6 none)) := go fn_law_fits n ds h
theorem fr_law_fits : T.fresh "_law_fits" = true := rfl
theorem br_law_fits : T.bor "_law_fits" = true := rfl
theorem fn_law_upto_fit : T.fn "_law_upto_fit" = some Pg.F_law_upto_fit := rfl
theorem go_law_upto_fit (n : Nat) (ds : List D) (h : ds.length = 3) : evFn T (n + 1) "_law_upto_fit" ds = finB true true (exec (orcOf T (evFn T n)) Pg.B_law_upto_fit (ds.map (fun d => some (.frz, d)) ++ List.replicate 7 none)) := go fn_law_upto_fit n ds h
theorem fr_law_upto_fit : T.fresh "_law_upto_fit" = true := rfl
theorem br_law_upto_fit : T.bor "_law_upto_fit" = true := rfl
theorem fn_law_right : T.fn "_law_right" = some Pg.F_law_right := rfl
theorem go_law_right (n : Nat) (ds : List D) (h : ds.length = 4) : evFn T (n + 1) "_law_right" ds = finB true true (exec (orcOf T (evFn T n)) Pg.B_law_right (ds.map (fun d => some (.frz, d)) ++ List.replicate 5 none)) := go fn_law_right n ds h
theorem fr_law_right : T.fresh "_law_right" = true := rfl
theorem br_law_right : T.bor "_law_right" = true := rfl
theorem fn_law_rule : T.fn "_law_rule" = some Pg.F_law_rule := rfl
theorem go_law_rule (n : Nat) (ds : List D) (h : ds.length = 1) : evFn T (n + 1) "_law_rule" ds = finB true true (exec (orcOf T (evFn T n)) Pg.B_law_rule (ds.map (fun d => some (.frz, d)) ++ List.replicate 0 none)) := go fn_law_rule n ds h
theorem fr_law_rule : T.fresh "_law_rule" = true := rfl
theorem br_law_rule : T.bor "_law_rule" = true := rfl
theorem fn_law_purse : T.fn "_law_purse" = some Pg.F_law_purse := rfl
theorem go_law_purse (n : Nat) (ds : List D) (h : ds.length = 2) : evFn T (n + 1) "_law_purse" ds = finB true true (exec (orcOf T (evFn T n)) Pg.B_law_purse (ds.map (fun d => some (.frz, d)) ++ List.replicate 2 none)) := go fn_law_purse n ds h
theorem fr_law_purse : T.fresh "_law_purse" = true := rfl
theorem br_law_purse : T.bor "_law_purse" = true := rfl
theorem fn_law : T.fn "law" = some F_law := rfl
theorem go_law (n : Nat) (ds : List D) (h : ds.length = 1) : evFn T (n + 1) "law" ds = finB true true (exec (orcOf T (evFn T n)) B_law (ds.map (fun d => some (.frz, d)) ++ List.replicate 12 none)) := go fn_law n ds h
theorem fr_law : T.fresh "law" = true := rfl
theorem br_law : T.bor "law" = true := rfl
theorem fn_Rule_path : T.fn "Rule.path" = some Pg.F_Rule_path := rfl
theorem go_Rule_path (n : Nat) (ds : List D) (h : ds.length = 2) : evFn T (n + 1) "Rule.path" ds = finB true true (exec (orcOf T (evFn T n)) Pg.B_Rule_path (ds.map (fun d => some (.frz, d)) ++ List.replicate 3 none)) := go fn_Rule_path n ds h
theorem fr_Rule_path : T.fresh "Rule.path" = true := rfl
theorem br_Rule_path : T.bor "Rule.path" = true := rfl
theorem fn_Rule_parts : T.fn "Rule.parts" = some Pg.F_Rule_parts := rfl
theorem go_Rule_parts (n : Nat) (ds : List D) (h : ds.length = 3) : evFn T (n + 1) "Rule.parts" ds = finB true true (exec (orcOf T (evFn T n)) Pg.B_Rule_parts (ds.map (fun d => some (.frz, d)) ++ List.replicate 0 none)) := go fn_Rule_parts n ds h
theorem fr_Rule_parts : T.fresh "Rule.parts" = true := rfl
theorem br_Rule_parts : T.bor "Rule.parts" = true := rfl
theorem fn_Shares_divided : T.fn "Shares.divided" = some Pg.F_Shares_divided := rfl
theorem go_Shares_divided (n : Nat) (ds : List D) (h : ds.length = 2) : evFn T (n + 1) "Shares.divided" ds = finB true true (exec (orcOf T (evFn T n)) Pg.B_Shares_divided (ds.map (fun d => some (.frz, d)) ++ List.replicate 2 none)) := go fn_Shares_divided n ds h
theorem fr_Shares_divided : T.fresh "Shares.divided" = true := rfl
theorem br_Shares_divided : T.bor "Shares.divided" = true := rfl
theorem fn_Evenly_divided : T.fn "Evenly.divided" = some Pg.F_Evenly_divided := rfl
theorem go_Evenly_divided (n : Nat) (ds : List D) (h : ds.length = 2) : evFn T (n + 1) "Evenly.divided" ds = finB true true (exec (orcOf T (evFn T n)) Pg.B_Evenly_divided (ds.map (fun d => some (.frz, d)) ++ List.replicate 5 none)) := go fn_Evenly_divided n ds h
theorem fr_Evenly_divided : T.fresh "Evenly.divided" = true := rfl
theorem br_Evenly_divided : T.bor "Evenly.divided" = true := rfl
theorem fn_Losses_divided : T.fn "Losses.divided" = some Pg.F_Losses_divided := rfl
theorem go_Losses_divided (n : Nat) (ds : List D) (h : ds.length = 2) : evFn T (n + 1) "Losses.divided" ds = finB true true (exec (orcOf T (evFn T n)) Pg.B_Losses_divided (ds.map (fun d => some (.frz, d)) ++ List.replicate 0 none)) := go fn_Losses_divided n ds h
theorem fr_Losses_divided : T.fresh "Losses.divided" = true := rfl
theorem br_Losses_divided : T.bor "Losses.divided" = true := rfl
theorem fn_Halves_divided : T.fn "Halves.divided" = some Pg.F_Halves_divided := rfl
theorem go_Halves_divided (n : Nat) (ds : List D) (h : ds.length = 2) : evFn T (n + 1) "Halves.divided" ds = finB true true (exec (orcOf T (evFn T n)) Pg.B_Halves_divided (ds.map (fun d => some (.frz, d)) ++ List.replicate 1 none)) := go fn_Halves_divided n ds h
theorem fr_Halves_divided : T.fresh "Halves.divided" = true := rfl
theorem br_Halves_divided : T.bor "Halves.divided" = true := rfl
end K24


namespace K24
open Pu
theorem hPath : HasPath T := ⟨⟨fn_divisor, fn_fraction⟩, fn_plus, fn_minus, fn_times, fn_over, fn_amid⟩
theorem hRule : HasRule T := ⟨⟨fn_divisor, fn_fraction⟩, fn_plus, fn_times, fn_before, fn_all_of, fn_lesser, fn_risen, fn_begin, fn_cut, fn_look_claims, rfl, rfl⟩
theorem hFlat : HasFlat T := ⟨hRule, ⟨⟨fn_divisor, fn_fraction⟩, fn_minus, fn_turned⟩, ⟨⟨hPath, fn_thinned⟩, fn_behind⟩, ⟨hPath, fn_before, fn_parts_at, rfl⟩, fn_Shares_divided, fn_Evenly_divided, fn_Losses_divided, fn_Halves_divided, fn_Rule_path, fn_Rule_parts, rfl, me_Evenly_divided, me_Losses_divided, nw_Evenly, nw_Losses, rfl, rfl⟩
theorem hFM : HasFlatM T := ⟨hFlat, fun f => match f with | .shares => me_Shares_divided | .evenly => me_Evenly_divided | .losses => me_Losses_divided | .halves => me_Halves_divided, fun f => match f with | .shares => me_Shares_path | .evenly => me_Evenly_path | .losses => me_Losses_path | .halves => me_Halves_path, fun f => match f with | .shares => me_Shares_parts | .evenly => me_Evenly_parts | .losses => me_Losses_parts | .halves => me_Halves_parts, rfl, rfl⟩
def shpD : Fk → D
  | .shares => .tup [.str (codes "shares")]
  | .evenly => .tup [.str (codes "evenly")]
  | .losses => .tup [.str (codes "losses")]
  | .halves => .tup [.str (codes "halves")]
def amI (l : List ICl) : List Int := l.map fun c => c.1
def intsD (l : List Int) : D := .lst (l.map .int)
theorem fits_loop (o : Orc) {as ps : List Int} (hb : ∀ q ∈ as.zip ps, 0 ≤ q.2 ∧ q.2 ≤ q.1) (a0 a1 a4 a5 a8 : Option (Fl × D)) (fl : Fl) : ∃ b6 b7,
    exec o L_law_fits_0 [a0, a1, some (.frz, intsD ps), some (.own, intsD as), a4, a5, none, none, a8] = .ok ([a0, a1, some (.frz, intsD ps), some (.own, intsD as), a4, a5, b6, b7, a8], .nx) := by
  have e := (for_fold (o := o) (tup := true) (is := [6, 7]) (it := .izip (.var 3) (.var 2)) (b := LB_law_fits_0) (dead := []) (r := [a0, a1, some (.frz, intsD ps), some (.own, intsD as), a4, a5, none, none, a8]) (l := as.zip ps)
      (fun q => .tup [.int q.1, .int q.2]) (fun (v : Option (Fl × D) × Option (Fl × D)) => [a0, a1, some (.frz, intsD ps), some (.lock, intsD as), a4, a5, v.1, v.2, a8]) (fun _ q => (some (.frz, .int q.1), some (.frz, .int q.2))) (none, none) (fun _ _ => True) (by simp [esc, escB, notVar, esc.escBs, isFresh, frV, lim_val, powOk, intsD, zipP_map]) (by simp [esc, escB, notVar, esc.escBs, isFresh, frV, lim_val, powOk]) trivial (fun i hi a _ => by
        obtain ⟨q1, q2⟩ := hb _ (List.getElem_mem hi)
        generalize (as.zip ps)[i] = q at *
        have r1 : ¬ q.2 < 0 := by omega
        have r2 : ¬ q.1 < q.2 := by omega
        refine ⟨?_, trivial⟩
        rw [forB_x]
        simp [esc, escB, notVar, esc.escBs, isFresh, frV, lim_val, powOk, LB_law_fits_0, r1, r2])).1
  obtain ⟨v, hv⟩ : ∃ v, v = (as.zip ps).foldl (fun (_ : Option (Fl × D) × Option (Fl × D)) q => (some (Fl.frz, D.int q.1), some (Fl.frz, D.int q.2))) (none, none) := ⟨_, rfl⟩
  rw [← hv] at e
  unfold L_law_fits_0
  rw [e]
  exact ⟨v.1, v.2, by simp [esc, escB, notVar, esc.escBs, isFresh, frV, lim_val, powOk]⟩
theorem fits_basic (f : Fk) {n : Nat} (hn : 2 ≤ n) {l : List ICl} {ps : List Int} (hl : l.length = ps.length) (h8 : l.length ≤ 8) (hA : ∀ a ∈ amI l, Bits 4000 a) (hP : ∀ a ∈ ps, Bits 4000 a) (hS : Bits 4100 (amI l).sum) (hT : Bits 4100 ps.sum)
    (hb : ∀ q ∈ (amI l).zip ps, 0 ≤ q.2 ∧ q.2 ≤ q.1)
    (hf : match f with
      | .shares => ∀ q ∈ (amI l).zip ps, q.2 * (amI l).sum = q.1 * ps.sum
      | .evenly => ∀ q ∈ (amI l).zip ps, q.2 < q.1 → q.2 = ps.foldl max 0
      | .losses => ∀ q ∈ (amI l).zip ps, q.1 - q.2 < q.1 → q.1 - q.2 = (((amI l).zip ps).map fun q => q.1 - q.2).foldl max 0
      | .halves => False) : evFn T n "_law_fits" [shpD f, icsD l, intsD ps] = .ok (.bl true) := by
  obtain ⟨n, rfl⟩ : ∃ m, n = m + 1 := ⟨n - 1, by omega⟩
  have al : (amI l).length = l.length := by simp [amI]
  have lcA : ∀ a0 a2 a3 a4 a5 a6 a7 a8 : Option (Fl × D), ev (orcOf T (evFn T n)) [a0, some (.frz, icsD l), a2, a3, a4, a5, a6, a7, a8] (.lc (.ix (.var 8) (.int 0)) false [8] (.iseq (.var 1)) .nil) = .ok (intsD (amI l)) := fun a0 a2 a3 a4 a5 a6 a7 a8 => by
    unfold intsD amI
    rw [List.map_map]
    exact lc_ok (l := l) icD _ (by simp [esc, escB, notVar, esc.escBs, isFresh, frV, lim_val, powOk, icsD]) (by unfold lim; omega) fun c hc => ⟨_, rfl, by simp [esc, escB, notVar, esc.escBs, isFresh, frV, lim_val, powOk, icD]⟩
  have s1 : builtin "sum" [intsD (amI l)] = .ok (.int (amI l).sum) := blt_sum _
  have s2 : builtin "sum" [intsD ps] = .ok (.int ps.sum) := blt_sum _
  have il : ∀ l : List Int, (intsD l).isL = true := fun _ => rfl
  obtain ⟨b6, b7, lo⟩ := fits_loop (orcOf T (evFn T n)) hb (some (.frz, shpD f)) (some (.frz, icsD l)) (some (.frz, .int (amI l).sum)) (some (.frz, .int ps.sum)) none .own
  rw [go_law_fits n _ rfl]
  cases f with
  | halves => exact hf.elim
  | evenly =>
    have he := even_law fn_law_even (n := n) (by omega) (as := amI l) (ps := ps) (by omega) (fun q hq => ⟨(hb q hq).1, (hb q hq).2, hf q hq⟩)
    have he : evFn T n "_law_even" [intsD (amI l), intsD ps] = .ok (.bl true) := he
    have c1 : cop .eq (.str (codes "evenly")) (.str (codes "shares")) = .ok false := by rw [cop_eq (by decide) (by decide)]; rfl
    have c2 : cop .eq (.str (codes "evenly")) (.str (codes "evenly")) = .ok true := by rw [cop_eq (by decide) (by decide)]; rfl
    simp [esc, escB, notVar, esc.escBs, isFresh, frV, lim_val, powOk, B_law_fits, lcA, s1, s2, il, shpD] at lo ⊢
    simp [esc, escB, notVar, esc.escBs, isFresh, frV, lim_val, powOk, lo, c1, c2, he, br_law_even]
  | losses =>
    have bsub : ∀ q ∈ (amI l).zip ps, True := fun _ _ => trivial
    have lcL : ∀ a0 a1 a4 a5 a6 a7 a8 : Option (Fl × D), ev (orcOf T (evFn T n)) [a0, a1, some (.frz, intsD ps), some (.own, intsD (amI l)), a4, a5, a6, a7, a8] (.lc (.bin .sub (.var 6) (.var 7)) true [6, 7] (.izip (.var 3) (.var 2)) .nil) = .ok (intsD (((amI l).zip ps).map fun q => q.1 - q.2)) := fun a0 a1 a4 a5 a6 a7 a8 => by
      unfold intsD
      rw [List.map_map]
      exact lc_ok (l := (amI l).zip ps) (fun q => .tup [.int q.1, .int q.2]) _ (by simp [esc, escB, notVar, esc.escBs, isFresh, frV, lim_val, powOk, zipP_map]) (by rw [List.length_zip]; unfold lim; omega) fun q hq => ⟨_, rfl, by simp [esc, escB, notVar, esc.escBs, isFresh, frV, lim_val, powOk]⟩
    have hz : (amI l).zip (((amI l).zip ps).map fun q => q.1 - q.2) = ((amI l).zip ps).map fun q => (q.1, q.1 - q.2) := by
      have : ∀ (as ps : List Int), as.zip ((as.zip ps).map fun q => q.1 - q.2) = (as.zip ps).map fun q => (q.1, q.1 - q.2) := fun as => by
        induction as with
        | nil => intro ps; simp
        | cons a as ih => intro ps; cases ps with
          | nil => simp
          | cons p ps => simp [ih]
      exact this _ _
    have he := even_law fn_law_even (n := n) (by omega) (as := amI l) (ps := ((amI l).zip ps).map fun q => q.1 - q.2) (by rw [List.length_map, List.length_zip]; omega) (fun q hq => by
      rw [hz] at hq
      obtain ⟨r, hr, rfl⟩ := List.mem_map.mp hq
      have := hb r hr
      exact ⟨by show 0 ≤ r.1 - r.2; omega, by show r.1 - r.2 ≤ r.1; omega, hf r hr⟩)
    have he : evFn T n "_law_even" [intsD (amI l), intsD (((amI l).zip ps).map fun q => q.1 - q.2)] = .ok (.bl true) := he
    have c1 : cop .eq (.str (codes "losses")) (.str (codes "shares")) = .ok false := by rw [cop_eq (by decide) (by decide)]; rfl
    have c2 : cop .eq (.str (codes "losses")) (.str (codes "evenly")) = .ok false := by rw [cop_eq (by decide) (by decide)]; rfl
    have c3 : cop .eq (.str (codes "losses")) (.str (codes "losses")) = .ok true := by rw [cop_eq (by decide) (by decide)]; rfl
    simp [esc, escB, notVar, esc.escBs, isFresh, frV, lim_val, powOk, B_law_fits, lcA, s1, s2, il, shpD] at lo ⊢
    simp [esc, escB, notVar, esc.escBs, isFresh, frV, lim_val, powOk, lo, c1, c2, c3, lcL, he, br_law_even]
  | shares =>
    have lc1 : ∀ a0 a1 a3 a5 a6 a7 a8 : Option (Fl × D), ev (orcOf T (evFn T n)) [a0, a1, some (.frz, intsD ps), a3, some (.frz, .int (amI l).sum), a5, a6, a7, a8] (.lc (.bin .mul (.var 7) (.var 4)) false [7] (.iseq (.var 2)) .nil) = .ok (intsD (ps.map fun p => p * (amI l).sum)) := fun a0 a1 a3 a5 a6 a7 a8 => by
      unfold intsD
      rw [List.map_map]
      exact lc_ok (l := ps) D.int _ (by simp [esc, escB, notVar, esc.escBs, isFresh, frV, lim_val, powOk]) (by unfold lim; omega) fun p hp => ⟨_, rfl, by
        have m1 : mulOk p (amI l).sum = true := mulOk_of (hP p hp) hS (by decide) (by decide)
        simp [esc, escB, notVar, esc.escBs, isFresh, frV, lim_val, powOk, m1]⟩
    have lc2 : ∀ a0 a1 a2 a4 a6 a7 a8 : Option (Fl × D), ev (orcOf T (evFn T n)) [a0, a1, a2, some (.own, intsD (amI l)), a4, some (.frz, .int ps.sum), a6, a7, a8] (.lc (.bin .mul (.var 6) (.var 5)) false [6] (.iseq (.var 3)) .nil) = .ok (intsD ((amI l).map fun a => a * ps.sum)) := fun a0 a1 a2 a4 a6 a7 a8 => by
      unfold intsD
      rw [List.map_map]
      exact lc_ok (l := amI l) D.int _ (by simp [esc, escB, notVar, esc.escBs, isFresh, frV, lim_val, powOk]) (by unfold lim; omega) fun a ha => ⟨_, rfl, by
        have m1 : mulOk a ps.sum = true := mulOk_of (hA a ha) hT (by decide) (by decide)
        simp [esc, escB, notVar, esc.escBs, isFresh, frV, lim_val, powOk, m1]⟩
    have same : ∀ (as ps : List Int) (A P : Int), as.length = ps.length → (∀ q ∈ as.zip ps, q.2 * A = q.1 * P) → (ps.map fun p => p * A) = as.map fun a => a * P := fun as => by
      induction as with
      | nil => intro ps A P h _; cases ps with
        | nil => rfl
        | cons _ _ => simp at h
      | cons a as ih => intro ps A P h hq; cases ps with
        | nil => simp at h
        | cons p ps =>
          have h1 : p * A = a * P := hq (a, p) (by simp)
          rw [List.map_cons, List.map_cons, h1, ih ps A P (by simpa using h) fun q hq' => hq q (by simp only [List.zip_cons_cons]; exact List.mem_cons_of_mem _ hq')]
    have sm := same (amI l) ps _ _ (by omega) hf
    have ce : cop .eq (intsD (ps.map fun p => p * (amI l).sum)) (intsD ((amI l).map fun a => a * ps.sum)) = .ok true := by
      have := row_eq (ps.map fun p => p * (amI l).sum) ((amI l).map fun a => a * ps.sum)
      rw [decide_eq_true sm] at this
      exact this
    have c1 : cop .eq (.str (codes "shares")) (.str (codes "shares")) = .ok true := by rw [cop_eq (by decide) (by decide)]; rfl
    simp [esc, escB, notVar, esc.escBs, isFresh, frV, lim_val, powOk, B_law_fits, lcA, s1, s2, il, shpD] at lo ⊢
    simp [esc, escB, notVar, esc.escBs, isFresh, frV, lim_val, powOk, lo, c1, lc1, lc2, ce]
def upD : D := .tup [.str (codes "upto"), .tup [.int 1, .int 2], shpD .evenly, shpD .losses]
theorem upto_fit {n : Nat} (hn : 3 ≤ n) {l : List ICl} {ps : List Int} (hl : l.length = ps.length) (h8 : l.length ≤ 8) (hA : ∀ a ∈ amI l, Bits 4000 a) (hP : ∀ a ∈ ps, Bits 4000 a)
    (hE : (ps.map (2 * ·)).sum ≤ (amI l).sum → evFn T (n - 1) "_law_fits" [shpD .evenly, icsD l, intsD (ps.map (2 * ·))] = .ok (.bl true))
    (hL : ¬ (ps.map (2 * ·)).sum ≤ (amI l).sum → evFn T (n - 1) "_law_fits" [shpD .losses, icsD l, intsD (((ps.map (2 * ·)).zip (amI l)).map fun q => q.1 - q.2)] = .ok (.bl true)) :
    evFn T n "_law_upto_fit" [upD, icsD l, intsD ps] = .ok (.bl true) := by
  obtain ⟨n, rfl⟩ : ∃ m, n = m + 1 := ⟨n - 1, by omega⟩
  rw [Nat.add_sub_cancel] at hE hL
  have al : (amI l).length = l.length := by simp [amI]
  have b2 : Bits 2 2 := .lit (by decide)
  have b1 : Bits 2 1 := .lit (by decide)
  have lc3 : ∀ a0 a1 a3 a4 a5 a6 a8 a9 : Option (Fl × D), ev (orcOf T (evFn T n)) [a0, a1, some (.frz, intsD ps), a3, a4, a5, a6, some (.frz, .int 2), a8, a9] (.lc (.bin .mul (.var 7) (.var 8)) false [8] (.iseq (.var 2)) .nil) = .ok (intsD (ps.map (2 * ·))) := fun a0 a1 a3 a4 a5 a6 a8 a9 => by
    unfold intsD
    rw [List.map_map]
    exact lc_ok (l := ps) D.int _ (by simp [esc, escB, notVar, esc.escBs, isFresh, frV, lim_val, powOk]) (by unfold lim; omega) fun p hp => ⟨_, rfl, by
      have m1 : mulOk 2 p = true := mulOk_of b2 (hP p hp) (by decide) (by decide)
      simp [esc, escB, notVar, esc.escBs, isFresh, frV, lim_val, powOk, m1]⟩
  have lc4 : ∀ a0 a2 a3 a4 a5 a7 a8 a9 : Option (Fl × D), ev (orcOf T (evFn T n)) [a0, some (.frz, icsD l), a2, a3, a4, a5, some (.frz, .int 1), a7, a8, a9] (.lc (.tup (.cons (.bin .mul (.var 6) (.ix (.var 9) (.int 0))) (.cons (.ix (.var 9) (.int 1)) (.cons (.ix (.var 9) (.int 2)) .nil)))) false [9] (.iseq (.var 1)) .nil) = .ok (icsD l) := fun a0 a2 a3 a4 a5 a7 a8 a9 => by
    have := lc_ok (o := orcOf T (evFn T n)) (r := [a0, some (.frz, icsD l), a2, a3, a4, a5, some (.frz, .int 1), a7, a8, a9]) (elt := .tup (.cons (.bin .mul (.var 6) (.ix (.var 9) (.int 0))) (.cons (.ix (.var 9) (.int 1)) (.cons (.ix (.var 9) (.int 2)) .nil)))) (it := .iseq (.var 1)) (tup := false) (is := [9]) (l := l) icD icD (by simp [esc, escB, notVar, esc.escBs, isFresh, frV, lim_val, powOk, icsD]) (by unfold lim; omega) fun c hc => ⟨_, rfl, by
      have m1 : mulOk 1 c.1 = true := mulOk_of b1 (hA c.1 (List.mem_map.mpr ⟨c, hc, rfl⟩)) (by decide) (by decide)
      simp [esc, escB, notVar, esc.escBs, isFresh, frV, lim_val, powOk, icD, m1]⟩
    exact this
  have lc5 : ∀ a0 a2 a3 a4 a5 a8 a9 : Option (Fl × D), ev (orcOf T (evFn T n)) [a0, some (.frz, icsD l), a2, a3, a4, a5, some (.frz, .int 1), some (.frz, .int 2), a8, a9] (.lc (.tup (.cons (.bin .mul (.bin .sub (.var 7) (.var 6)) (.ix (.var 9) (.int 0))) (.cons (.ix (.var 9) (.int 1)) (.cons (.ix (.var 9) (.int 2)) .nil)))) false [9] (.iseq (.var 1)) .nil) = .ok (icsD l) := fun a0 a2 a3 a4 a5 a8 a9 => by
    have := lc_ok (o := orcOf T (evFn T n)) (r := [a0, some (.frz, icsD l), a2, a3, a4, a5, some (.frz, .int 1), some (.frz, .int 2), a8, a9]) (elt := .tup (.cons (.bin .mul (.bin .sub (.var 7) (.var 6)) (.ix (.var 9) (.int 0))) (.cons (.ix (.var 9) (.int 1)) (.cons (.ix (.var 9) (.int 2)) .nil)))) (it := .iseq (.var 1)) (tup := false) (is := [9]) (l := l) icD icD (by simp [esc, escB, notVar, esc.escBs, isFresh, frV, lim_val, powOk, icsD]) (by unfold lim; omega) fun c hc => ⟨_, rfl, by
      have m1 : mulOk 1 c.1 = true := mulOk_of b1 (hA c.1 (List.mem_map.mpr ⟨c, hc, rfl⟩)) (by decide) (by decide)
      simp [esc, escB, notVar, esc.escBs, isFresh, frV, lim_val, powOk, icD, m1]⟩
    exact this
  have lc6 : ∀ (fl : Fl) (a0 a1 a2 a3 a5 a6 a7 a8 a9 : Option (Fl × D)), ev (orcOf T (evFn T n)) [a0, a1, a2, a3, some (fl, icsD l), a5, a6, a7, a8, a9] (.lc (.ix (.var 9) (.int 0)) false [9] (.iseq (.var 4)) .nil) = .ok (intsD (amI l)) := fun fl a0 a1 a2 a3 a5 a6 a7 a8 a9 => by
    unfold intsD amI
    rw [List.map_map]
    exact lc_ok (l := l) icD _ (by simp [esc, escB, notVar, esc.escBs, isFresh, frV, lim_val, powOk, icsD]) (by unfold lim; omega) fun c hc => ⟨_, rfl, by simp [esc, escB, notVar, esc.escBs, isFresh, frV, lim_val, powOk, icD]⟩
  have lc7 : ∀ (f1 f2 : Fl) (a0 a1 a2 a5 a6 a7 a8 a9 : Option (Fl × D)), ev (orcOf T (evFn T n)) [a0, a1, a2, some (f1, intsD (ps.map (2 * ·))), some (f2, icsD l), a5, a6, a7, a8, a9] (.lc (.bin .sub (.var 8) (.ix (.var 9) (.int 0))) true [8, 9] (.izip (.var 3) (.var 4)) .nil) = .ok (intsD (((ps.map (2 * ·)).zip (amI l)).map fun q => q.1 - q.2)) := fun f1 f2 a0 a1 a2 a5 a6 a7 a8 a9 => by
    have := lc_ok (o := orcOf T (evFn T n)) (r := [a0, a1, a2, some (f1, intsD (ps.map (2 * ·))), some (f2, icsD l), a5, a6, a7, a8, a9]) (elt := .bin .sub (.var 8) (.ix (.var 9) (.int 0))) (it := .izip (.var 3) (.var 4)) (tup := true) (is := [8, 9]) (l := (ps.map (2 * ·)).zip l) (fun q => .tup [.int q.1, icD q.2]) (fun q => .int (q.1 - q.2.1)) (by
      have zp : zipP ((ps.map (2 * ·)).map D.int) (l.map icD) = ((ps.map (2 * ·)).zip l).map fun q => D.tup [D.int q.1, icD q.2] := zipP_map _ _
      rw [evI_zip]
      simp only [ev_var]
      show zipOf (intsD (ps.map (2 * ·))) (icsD l) = _
      exact congrArg R.ok zp) (by rw [List.length_zip]; unfold lim; omega) fun q hq => ⟨_, rfl, by simp [esc, escB, notVar, esc.escBs, isFresh, frV, lim_val, powOk, icD]⟩
    rw [this]
    unfold intsD amI
    congr 2
    rw [List.zip_map_right, List.map_map, List.map_map]
    rfl
  have s1 : builtin "sum" [intsD (amI l)] = .ok (.int (amI l).sum) := blt_sum _
  have s2 : builtin "sum" [intsD (ps.map (2 * ·))] = .ok (.int (ps.map (2 * ·)).sum) := blt_sum _
  have il : ∀ l : List Int, (intsD l).isL = true := fun _ => rfl
  have il2 : ∀ l : List ICl, (icsD l).isL = true := fun _ => rfl
  have br := br_law_fits
  rw [go_law_upto_fit n _ rfl]
  by_cases q : (ps.map (2 * ·)).sum ≤ (amI l).sum
  · have e := hE q
    simp [esc, escB, notVar, esc.escBs, isFresh, frV, lim_val, powOk, Pg.B_law_upto_fit, upD, lc3, lc4, lc6, s1, s2, il, il2, q, e, br]
  · have e := hL q
    simp [esc, escB, notVar, esc.escBs, isFresh, frV, lim_val, powOk, Pg.B_law_upto_fit, upD, lc3, lc4, lc5, lc6, lc7, s1, s2, il, il2, q, e, br]
theorem fits_up {n : Nat} (hn : 2 ≤ n) {l : List ICl} {ps : List Int} (h8 : l.length ≤ 8) (hb : ∀ q ∈ (amI l).zip ps, 0 ≤ q.2 ∧ q.2 ≤ q.1)
    (h : evFn T (n - 1) "_law_upto_fit" [upD, icsD l, intsD ps] = .ok (.bl true)) : evFn T n "_law_fits" [upD, icsD l, intsD ps] = .ok (.bl true) := by
  obtain ⟨n, rfl⟩ : ∃ m, n = m + 1 := ⟨n - 1, by omega⟩
  rw [Nat.add_sub_cancel] at h
  have lcA : ∀ a0 a2 a3 a4 a5 a6 a7 a8 : Option (Fl × D), ev (orcOf T (evFn T n)) [a0, some (.frz, icsD l), a2, a3, a4, a5, a6, a7, a8] (.lc (.ix (.var 8) (.int 0)) false [8] (.iseq (.var 1)) .nil) = .ok (intsD (amI l)) := fun a0 a2 a3 a4 a5 a6 a7 a8 => by
    unfold intsD amI
    rw [List.map_map]
    exact lc_ok (l := l) icD _ (by simp [esc, escB, notVar, esc.escBs, isFresh, frV, lim_val, powOk, icsD]) (by unfold lim; omega) fun c hc => ⟨_, rfl, by simp [esc, escB, notVar, esc.escBs, isFresh, frV, lim_val, powOk, icD]⟩
  have s1 : builtin "sum" [intsD (amI l)] = .ok (.int (amI l).sum) := blt_sum _
  have s2 : builtin "sum" [intsD ps] = .ok (.int ps.sum) := blt_sum _
  have il : ∀ l : List Int, (intsD l).isL = true := fun _ => rfl
  have br := br_law_fits
  have br2 := br_law_upto_fit
  obtain ⟨b6, b7, lo⟩ := fits_loop (orcOf T (evFn T n)) hb (some (.frz, upD)) (some (.frz, icsD l)) (some (.frz, .int (amI l).sum)) (some (.frz, .int ps.sum)) none .own
  have c1 : cop .eq (.str (codes "upto")) (.str (codes "shares")) = .ok false := by rw [cop_eq (by decide) (by decide)]; rfl
  have c2 : cop .eq (.str (codes "upto")) (.str (codes "evenly")) = .ok false := by rw [cop_eq (by decide) (by decide)]; rfl
  have c3 : cop .eq (.str (codes "upto")) (.str (codes "losses")) = .ok false := by rw [cop_eq (by decide) (by decide)]; rfl
  have c4 : cop .eq (.str (codes "upto")) (.str (codes "halves")) = .ok false := by rw [cop_eq (by decide) (by decide)]; rfl
  have c5 : cop .eq (.str (codes "upto")) (.str (codes "other")) = .ok false := by rw [cop_eq (by decide) (by decide)]; rfl
  have c6 : cop .eq (.str (codes "upto")) (.str (codes "ranks")) = .ok false := by rw [cop_eq (by decide) (by decide)]; rfl
  have c7 : cop .eq (.str (codes "upto")) (.str (codes "groups")) = .ok false := by rw [cop_eq (by decide) (by decide)]; rfl
  have ix : itemOf upD (.int 0) = .ok (.str (codes "upto")) := rfl
  rw [go_law_fits n _ rfl]
  simp [esc, escB, notVar, esc.escBs, isFresh, frV, lim_val, powOk] at lo ⊢
  simp [esc, escB, notVar, esc.escBs, isFresh, frV, lim_val, powOk, B_law_fits, lcA, s1, s2, il, lo, ix, c1, c2, c3, c4, c5, c6, c7, h, br2]
theorem fits_halves {n : Nat} (hn : 3 ≤ n) {l : List ICl} {ps : List Int} (h8 : l.length ≤ 8) (hb : ∀ q ∈ (amI l).zip ps, 0 ≤ q.2 ∧ q.2 ≤ q.1)
    (h : evFn T (n - 1) "_law_fits" [upD, icsD l, intsD ps] = .ok (.bl true)) : evFn T n "_law_fits" [shpD .halves, icsD l, intsD ps] = .ok (.bl true) := by
  obtain ⟨n, rfl⟩ : ∃ m, n = m + 1 := ⟨n - 1, by omega⟩
  rw [Nat.add_sub_cancel] at h
  have lcA : ∀ a0 a2 a3 a4 a5 a6 a7 a8 : Option (Fl × D), ev (orcOf T (evFn T n)) [a0, some (.frz, icsD l), a2, a3, a4, a5, a6, a7, a8] (.lc (.ix (.var 8) (.int 0)) false [8] (.iseq (.var 1)) .nil) = .ok (intsD (amI l)) := fun a0 a2 a3 a4 a5 a6 a7 a8 => by
    unfold intsD amI
    rw [List.map_map]
    exact lc_ok (l := l) icD _ (by simp [esc, escB, notVar, esc.escBs, isFresh, frV, lim_val, powOk, icsD]) (by unfold lim; omega) fun c hc => ⟨_, rfl, by simp [esc, escB, notVar, esc.escBs, isFresh, frV, lim_val, powOk, icD]⟩
  have s1 : builtin "sum" [intsD (amI l)] = .ok (.int (amI l).sum) := blt_sum _
  have s2 : builtin "sum" [intsD ps] = .ok (.int ps.sum) := blt_sum _
  have il : ∀ l : List Int, (intsD l).isL = true := fun _ => rfl
  have br := br_law_fits
  have br2 := br_law_upto_fit
  obtain ⟨b6, b7, lo⟩ := fits_loop (orcOf T (evFn T n)) hb (some (.frz, shpD .halves)) (some (.frz, icsD l)) (some (.frz, .int (amI l).sum)) (some (.frz, .int ps.sum)) none .own
  have c1 : cop .eq (.str (codes "halves")) (.str (codes "shares")) = .ok false := by rw [cop_eq (by decide) (by decide)]; rfl
  have c2 : cop .eq (.str (codes "halves")) (.str (codes "evenly")) = .ok false := by rw [cop_eq (by decide) (by decide)]; rfl
  have c3 : cop .eq (.str (codes "halves")) (.str (codes "losses")) = .ok false := by rw [cop_eq (by decide) (by decide)]; rfl
  have c4 : cop .eq (.str (codes "halves")) (.str (codes "halves")) = .ok true := by rw [cop_eq (by decide) (by decide)]; rfl
  have ix : itemOf (shpD .halves) (.int 0) = .ok (.str (codes "halves")) := rfl
  unfold upD shpD at h
  rw [go_law_fits n _ rfl]
  simp [esc, escB, notVar, esc.escBs, isFresh, frV, lim_val, powOk] at lo ⊢
  simp [esc, escB, notVar, esc.escBs, isFresh, frV, lim_val, powOk, B_law_fits, lcA, s1, s2, il, lo, ix, c1, c2, c3, c4, h, br]
theorem rule_le (f : Fk) {n : Nat} (hn : 1 ≤ n) : evFn T n "_law_rule" [shpD f] = .ok (.obj f.name []) := by
  obtain ⟨n, rfl⟩ : ∃ m, n = m + 1 := ⟨n - 1, by omega⟩
  have ob : ∀ s, (D.obj s []).isL = false := fun _ => rfl
  have on : ∀ s, (D.obj s []).noL1 = true := fun s => by simp [D.noL1, D.noL, D.noLA]
  rw [go_law_rule n _ rfl]
  cases f with
  | shares =>
    have c1 : cop .eq (.str (codes "shares")) (.str (codes "shares")) = .ok true := by rw [cop_eq (by decide) (by decide)]; rfl
    have ix : itemOf (shpD .shares) (.int 0) = .ok (.str (codes "shares")) := rfl
    simp [esc, escB, notVar, esc.escBs, isFresh, frV, lim_val, powOk, Pg.B_law_rule, ix, c1, nw_Shares, Fk.name, ob, on]
  | evenly =>
    have c1 : cop .eq (.str (codes "evenly")) (.str (codes "shares")) = .ok false := by rw [cop_eq (by decide) (by decide)]; rfl
    have c2 : cop .eq (.str (codes "evenly")) (.str (codes "evenly")) = .ok true := by rw [cop_eq (by decide) (by decide)]; rfl
    have ix : itemOf (shpD .evenly) (.int 0) = .ok (.str (codes "evenly")) := rfl
    simp [esc, escB, notVar, esc.escBs, isFresh, frV, lim_val, powOk, Pg.B_law_rule, ix, c1, c2, nw_Evenly, Fk.name, ob, on]
  | losses =>
    have c1 : cop .eq (.str (codes "losses")) (.str (codes "shares")) = .ok false := by rw [cop_eq (by decide) (by decide)]; rfl
    have c2 : cop .eq (.str (codes "losses")) (.str (codes "evenly")) = .ok false := by rw [cop_eq (by decide) (by decide)]; rfl
    have c3 : cop .eq (.str (codes "losses")) (.str (codes "losses")) = .ok true := by rw [cop_eq (by decide) (by decide)]; rfl
    have ix : itemOf (shpD .losses) (.int 0) = .ok (.str (codes "losses")) := rfl
    simp [esc, escB, notVar, esc.escBs, isFresh, frV, lim_val, powOk, Pg.B_law_rule, ix, c1, c2, c3, nw_Losses, Fk.name, ob, on]
  | halves =>
    have c1 : cop .eq (.str (codes "halves")) (.str (codes "shares")) = .ok false := by rw [cop_eq (by decide) (by decide)]; rfl
    have c2 : cop .eq (.str (codes "halves")) (.str (codes "evenly")) = .ok false := by rw [cop_eq (by decide) (by decide)]; rfl
    have c3 : cop .eq (.str (codes "halves")) (.str (codes "losses")) = .ok false := by rw [cop_eq (by decide) (by decide)]; rfl
    have c4 : cop .eq (.str (codes "halves")) (.str (codes "halves")) = .ok true := by rw [cop_eq (by decide) (by decide)]; rfl
    have ix : itemOf (shpD .halves) (.int 0) = .ok (.str (codes "halves")) := rfl
    simp [esc, escB, notVar, esc.escBs, isFresh, frV, lim_val, powOk, Pg.B_law_rule, ix, c1, c2, c3, c4, nw_Halves, Fk.name, ob, on]
theorem purse_le {n : Nat} (hn : 3 ≤ n) {w : Int} (h0 : 0 ≤ w) (hw : Bits 160 w) (c : Int) : ∃ x : Rat, 0 ≤ x ∧ (Bits 220 x.num ∧ Bits 42 (x.den : Int)) ∧ evFn T n "_law_purse" [.int w, .int c] = .ok (fr x) := by
  obtain ⟨n, rfl⟩ : ∃ m, n = m + 1 := ⟨n - 1, by omega⟩
  have low : ∀ (t b : Int), 0 < b → 0 ≤ t → Bits 42 b → Bits 220 t → ∃ x : Rat, 0 ≤ x ∧ (Bits 220 x.num ∧ Bits 42 (x.den : Int)) ∧ evFn T n "_law_lowest" [.int t, .int b] = .ok (fr x) := fun t b hb ht bb bt => by
    refine ⟨_, ?_, ⟨by rw [← low_num t (show b ≠ 0 by omega)]; exact bt.fdiv, by rw [← low_den t (show b ≠ 0 by omega)]; exact bb.fdiv⟩, lowest_le fn_law_divisor fn_law_lowest (n := n) (by omega) hb (bb.mono (by decide))⟩
    rw [show (0 : Rat) = Rat.divInt 0 b by simp]
    exact Rat.not_lt.mp fun z => by
      have z := (divInt_lt hb).mp z
      omega
  have fb := fun (a m : Int) (hm : 0 < m) => (⟨Int.fmod_nonneg_of_pos a hm, Int.fmod_lt_of_pos a hm⟩ : 0 ≤ a.fmod m ∧ a.fmod m < m)
  have b0 := fb c 5 (by decide)
  have big : w.natAbs < 2 ^ 160 := hw
  rcases (by omega : c.fmod 5 = 0 ∨ c.fmod 5 = 1 ∨ c.fmod 5 = 2 ∨ c.fmod 5 = 3 ∨ c.fmod 5 = 4) with h | h | h | h | h
  · have q := fb (c.fdiv 5) (w + 3) (by omega)
    have w3 : w + 3 ≠ 0 := by omega
    refine ⟨(((c.fdiv 5).fmod (w + 3) : Int) : Rat), Rat.intCast_le_intCast.mpr q.1, ?_, ?_⟩
    · have hz : Bits 220 ((c.fdiv 5).fmod (w + 3)) := Bits.mono (show Bits 162 ((c.fdiv 5).fmod (w + 3)) by unfold Bits; simp only [Nat.reducePow] at big ⊢; omega) (by decide)
      exact ⟨hz, show Bits 42 ((1 : Nat) : Int) from .lit (by decide)⟩
    · rw [go_law_purse n _ rfl]
      simp [esc, escB, notVar, esc.escBs, isFresh, frV, lim_val, powOk, Pg.B_law_purse, h, fr_int, w3]
  · obtain ⟨x, x0, xs, e⟩ := low w 2 (by decide) h0 (.lit (by decide)) (hw.mono (by decide))
    refine ⟨x, x0, xs, ?_⟩
    rw [go_law_purse n _ rfl]
    simp [esc, escB, notVar, esc.escBs, isFresh, frV, lim_val, powOk, Pg.B_law_purse, h, e, br_law_lowest, fr_law_lowest, fr_isL, fr_noL1]
  · have m1 : mulOk 2 w = true := mulOk_of (Bits.lit (k := 2) (by decide)) hw (by decide) (by decide)
    have w3 : 2 * w + 5 ≠ 0 := by omega
    have q := fb (c.fdiv 5) (2 * w + 5) (by omega)
    obtain ⟨x, x0, xs, e⟩ := low ((c.fdiv 5).fmod (2 * w + 5)) 2 (by decide) q.1 (.lit (by decide)) (Bits.mono (show Bits 164 ((c.fdiv 5).fmod (2 * w + 5)) by unfold Bits; simp only [Nat.reducePow] at big ⊢; omega) (by decide))
    refine ⟨x, x0, xs, ?_⟩
    rw [go_law_purse n _ rfl]
    simp [esc, escB, notVar, esc.escBs, isFresh, frV, lim_val, powOk, Pg.B_law_purse, h, m1, w3, e, br_law_lowest, fr_law_lowest, fr_isL, fr_noL1]
  · have q := fb (c.fdiv 5) 1009 (by decide)
    have bq : Bits 11 ((c.fdiv 5).fmod 1009) := by unfold Bits; omega
    have m1 : mulOk w ((c.fdiv 5).fmod 1009) = true := mulOk_of hw bq (by decide) (by decide)
    obtain ⟨x, x0, xs, e⟩ := low (w * (c.fdiv 5).fmod 1009) 1009 (by decide) (Int.mul_nonneg h0 q.1) (.lit (by decide)) ((hw.mul bq).mono (by decide))
    refine ⟨x, x0, xs, ?_⟩
    rw [go_law_purse n _ rfl]
    simp [esc, escB, notVar, esc.escBs, isFresh, frV, lim_val, powOk, Pg.B_law_purse, h, m1, e, br_law_lowest, fr_law_lowest, fr_isL, fr_noL1]
  · have bw : Bits 161 (w + 1) := by unfold Bits; simp only [Nat.reducePow] at big ⊢; omega
    have bt : Bits 41 (10 ^ 12 : Int) := .lit (by decide)
    have m1 : mulOk (w + 1) (10 ^ 12) = true := mulOk_of bw bt (by decide) (by decide)
    have wp : 0 < (w + 1) * 10 ^ 12 := Int.mul_pos (by omega) (by decide)
    have w3 : (w + 1) * 10 ^ 12 ≠ 0 := by omega
    have q := fb (c.fdiv 5) ((w + 1) * 10 ^ 12) wp
    have bb : Bits 202 ((w + 1) * 10 ^ 12) := bw.mul bt
    obtain ⟨x, x0, xs, e⟩ := low ((c.fdiv 5).fmod ((w + 1) * 10 ^ 12)) (10 ^ 12) (by decide) q.1 (.lit (by decide)) (Bits.mono (show Bits 202 ((c.fdiv 5).fmod ((w + 1) * 10 ^ 12)) by unfold Bits at bb ⊢; omega) (by decide))
    refine ⟨x, x0, xs, ?_⟩
    simp only [show (10 : Int) ^ 12 = 1000000000000 from rfl] at e m1 w3
    rw [go_law_purse n _ rfl]
    simp [esc, escB, notVar, esc.escBs, isFresh, frV, lim_val, powOk, Pg.B_law_purse, h, m1, w3, e, br_law_lowest, fr_law_lowest, fr_isL, fr_noL1]
theorem labels_le {n : Nat} (hn : 1 ≤ n) (c : Int) : ∃ a b d : Int, evFn T n "_law_labels" [.int c] = .ok (.lst [.int a, .int b, .int d]) ∧ 0 ≤ a ∧ 0 ≤ b ∧ 0 ≤ d := by
  obtain ⟨n, rfl⟩ : ∃ m, n = m + 1 := ⟨n - 1, by omega⟩
  rw [go_law_labels n _ rfl]
  by_cases h0 : c.fmod 5 = 0
  · exact ⟨7, 10, 2, by simp [esc, escB, notVar, esc.escBs, isFresh, frV, lim_val, powOk, Pg.B_law_labels, h0], by decide, by decide, by decide⟩
  · by_cases h1 : c.fmod 5 = 1
    · exact ⟨10 ^ 40 + 5, 9, 30, by simp [esc, escB, notVar, esc.escBs, isFresh, frV, lim_val, powOk, Pg.B_law_labels, h0, h1], by decide, by decide, by decide⟩
    · by_cases h2 : c.fmod 5 = 2
      · exact ⟨2024, 10 ^ 20, 100, by simp [esc, escB, notVar, esc.escBs, isFresh, frV, lim_val, powOk, Pg.B_law_labels, h0, h1, h2], by decide, by decide, by decide⟩
      · exact ⟨0, 1, 2, by simp [esc, escB, notVar, esc.escBs, isFresh, frV, lim_val, powOk, Pg.B_law_labels, h0, h1, h2], by decide, by decide, by decide⟩
def OkC (c : ICl) : Prop := 0 ≤ c.1 ∧ c.1.natAbs ≤ 10 ^ 46 ∧ 0 ≤ c.2.1 ∧ 0 ≤ c.2.2
theorem third {a b d : Int} (ha : 0 ≤ a) (hb : 0 ≤ b) (hd : 0 ≤ d) (m : Int) : ∃ z : Int, 0 ≤ z ∧ itemOf (.lst [.int a, .int b, .int d]) (.int (m.fmod 3)) = .ok (.int z) := by
  have h1 := Int.fmod_nonneg_of_pos m (b := 3) (by decide)
  have h2 := Int.fmod_lt_of_pos m (b := 3) (by decide)
  rcases (by omega : m.fmod 3 = 0 ∨ m.fmod 3 = 1 ∨ m.fmod 3 = 2) with h | h | h <;> rw [h]
  · exact ⟨a, ha, rfl⟩
  · exact ⟨b, hb, rfl⟩
  · exact ⟨d, hd, rfl⟩
theorem claims_turn {n : Nat} (hn : 2 ≤ n) (ns : List Int) {size : Int} (s0 : 0 < size) (s1 : size ≤ 10 ^ 46) {a b d a' b' d' : Int} (ha : 0 ≤ a ∧ 0 ≤ b ∧ 0 ≤ d) (ha' : 0 ≤ a' ∧ 0 ≤ b' ∧ 0 ≤ d') (mx : D) (many : D) (i : Nat) (hi : i < 100) (acc : List ICl) (hl : acc.length = i) (hok : ∀ c ∈ acc, OkC c) : ∃ c, OkC c ∧
    forB (orcOf T (evFn T n)) false [8] Pg.LB_law_claims_0 [8, 9, 10] [some (.frz, .lst (ns.map .int)), some (.frz, .int 1), some (.frz, many), some (.frz, .int size), some (.frz, mx), some (.own, .lst [.int a, .int b, .int d]), some (.own, .lst [.int a', .int b', .int d']), some (.own, icsD acc), none, none, none] (.int (0 + (i : Int))) =
      .ok ([some (.frz, .lst (ns.map .int)), some (.frz, .int 1), some (.frz, many), some (.frz, .int size), some (.frz, mx), some (.own, .lst [.int a, .int b, .int d]), some (.own, .lst [.int a', .int b', .int d']), some (.own, icsD (acc ++ [c])), none, none, none], .nx) := by
  obtain ⟨n, rfl⟩ : ∃ m, n = m + 1 := ⟨n - 1, by omega⟩
  have e0 : evFn T (n + 1) "_law_cell_at" [.lst (ns.map .int), .int (1 + (i : Int))] = .ok (.int (cellAt ns (1 + i))) := cell_at_eq fn_law_cell_at n ns _ (1 + i) (by omega)
  generalize cellAt ns (1 + i) = c at e0
  have e1 := mixed_eq fn_law_mixed n c 1
  have e2 := mixed_eq fn_law_mixed n c 2
  obtain ⟨z1, p1, i1⟩ := third ha.1 ha.2.1 ha.2.2 (mixed c 1)
  obtain ⟨z2, p2, i2⟩ := third ha'.1 ha'.2.1 ha'.2.2 (mixed c 2)
  have sz : size ≠ 0 := by omega
  have la : acc.length < 16777216 := by omega
  have f1 := Int.fmod_nonneg_of_pos (c.fdiv 9) s0
  have f2 := Int.fmod_lt_of_pos (c.fdiv 9) s0
  have f3 := Int.fmod_nonneg_of_pos (c.fdiv 9) (b := 5) (by decide)
  have f4 := Int.fmod_lt_of_pos (c.fdiv 9) (b := 5) (by decide)
  have app : ∀ z : Int, D.lst (acc.map icD ++ [.tup [.int z, .int z1, .int z2]]) = icsD (acc ++ [(z, z1, z2)]) := fun z => by
    unfold icsD
    rw [List.map_append]
    rfl
  by_cases h1 : c.fmod 4 = 1
  · refine ⟨((c.fdiv 9).fmod 5, z1, z2), ⟨f3, by simp only [Nat.reducePow]; omega, p1, p2⟩, ?_⟩
    rw [forB_x]
    unfold icsD at *
    simp [esc, escB, notVar, esc.escBs, isFresh, frV, lim_val, powOk, Pg.LB_law_claims_0, e0, e1, e2, i1, i2, sz, h1, la, icD, br_law_cell_at, br_law_mixed, fr_law_cell_at, fr_law_mixed]
  · by_cases h2 : c.fmod 4 = 2 ∧ 0 < i
    · have ip : 0 < (i : Int) := by omega
      have g1 := Int.fmod_nonneg_of_pos (c.fdiv 9) ip
      have g2 := Int.fmod_lt_of_pos (c.fdiv 9) ip
      obtain ⟨j, hj⟩ : ∃ j : Nat, (c.fdiv 9).fmod i = (j : Int) := ⟨_, (Int.toNat_of_nonneg g1).symm⟩
      have hjl : j < acc.length := by omega
      have ok := hok _ (List.getElem_mem hjl)
      have ix := atI_mapf icD (l := acc) (i := (j : Int)) rfl hjl
      have i0 : ¬ i = 0 := by omega
      refine ⟨(acc[j].1, z1, z2), ⟨ok.1, ok.2.1, p1, p2⟩, ?_⟩
      rw [forB_x]
      unfold icsD at *
      simp [esc, escB, notVar, esc.escBs, isFresh, frV, lim_val, powOk, Pg.LB_law_claims_0, e0, e1, e2, i1, i2, sz, h1, h2.1, h2.2, hj, ix, i0, la, icD, br_law_cell_at, br_law_mixed, fr_law_cell_at, fr_law_mixed]
    · refine ⟨((c.fdiv 9).fmod size, z1, z2), ⟨f1, by simp only [Nat.reducePow]; simp only [Int.reducePow] at s1; omega, p1, p2⟩, ?_⟩
      have h3 : ¬ (c.fmod 4 = 2 ∧ 0 < i) := h2
      rw [forB_x]
      unfold icsD at *
      by_cases h4 : c.fmod 4 = 2
      · have h5 : ¬ 0 < i := fun z => h3 ⟨h4, z⟩
        simp [esc, escB, notVar, esc.escBs, isFresh, frV, lim_val, powOk, Pg.LB_law_claims_0, e0, e1, e2, i1, i2, sz, h1, h4, h5, la, icD, br_law_cell_at, br_law_mixed, fr_law_cell_at, fr_law_mixed]
      · simp [esc, escB, notVar, esc.escBs, isFresh, frV, lim_val, powOk, Pg.LB_law_claims_0, e0, e1, e2, i1, i2, sz, h1, h4, la, icD, br_law_cell_at, br_law_mixed, fr_law_cell_at, fr_law_mixed]
theorem claims_le {n : Nat} (hn : 3 ≤ n) (ns : List Int) {size : Int} (s0 : 0 < size) (s1 : size ≤ 10 ^ 46) {many : Nat} (hm : many ≤ 8) :
    ∃ l : List ICl, l.length = many ∧ (∀ c ∈ l, OkC c) ∧ evFn T n "_law_claims" [.lst (ns.map .int), .int 1, .int many, .int size] = .ok (icsD l) := by
  obtain ⟨n, rfl⟩ : ∃ m, n = m + 1 := ⟨n - 1, by omega⟩
  obtain ⟨n, rfl⟩ : ∃ m, n = m + 1 := ⟨n - 1, by omega⟩
  have e0 : evFn T (n + 1) "_law_cell_at" [.lst (ns.map .int), .int 1] = .ok (.int (cellAt ns 1)) := cell_at_eq fn_law_cell_at n ns 1 1 rfl
  have e1 := mixed_eq fn_law_mixed n (cellAt ns 1) 3
  generalize mixed (cellAt ns 1) 3 = mx at e1
  obtain ⟨a, b, d, e2, ha⟩ := labels_le (n := n + 1) (by omega) mx
  obtain ⟨a', b', d', e3, ha'⟩ := labels_le (n := n + 1) (by omega) (mx.fdiv 5)
  have hr : rngOk (many : Int) = true := rngOk_in (by omega) (by omega)
  obtain ⟨r', e, acc, hl, hok, rfl⟩ := forL_inv (f := forB (orcOf T (evFn T (n + 1))) false [8] Pg.LB_law_claims_0 [8, 9, 10]) (fun i r => ∃ acc : List ICl, acc.length = i ∧ (∀ c ∈ acc, OkC c) ∧ r = [some (.frz, .lst (ns.map .int)), some (.frz, .int 1), some (.frz, .int many), some (.frz, .int size), some (.frz, .int mx), some (.own, .lst [.int a, .int b, .int d]), some (.own, .lst [.int a', .int b', .int d']), some (.own, icsD acc), none, none, none])
    (rangeL 0 many) 0 [some (.frz, .lst (ns.map .int)), some (.frz, .int 1), some (.frz, .int many), some (.frz, .int size), some (.frz, .int mx), some (.own, .lst [.int a, .int b, .int d]), some (.own, .lst [.int a', .int b', .int d']), some (.own, icsD []), none, none, none] ⟨[], rfl, (fun _ z => by cases z), rfl⟩ (fun i x r hx ⟨acc, hl, hok, e⟩ => by
      subst e
      rw [Nat.zero_add] at hl
      obtain ⟨hi, rfl⟩ := rangeL_get hx
      obtain ⟨c, hc, h2⟩ := claims_turn (n := n + 1) (by omega) ns s0 s1 ha ha' (.int mx) (.int many) i (by omega) acc hl hok
      refine ⟨_, h2, acc ++ [c], (by simp [hl]), fun c' h' => ?_, rfl⟩
      rcases List.mem_append.mp h' with h' | h'
      · exact hok c' h'
      · have : c' = c := by simpa using h'
        rw [this]; exact hc)
  rw [Nat.zero_add, rangeL_length] at hl
  refine ⟨acc, hl, hok, ?_⟩
  have lo : exec (orcOf T (evFn T (n + 1))) Pg.L_law_claims_0 [some (.frz, .lst (ns.map .int)), some (.frz, .int 1), some (.frz, .int many), some (.frz, .int size), some (.frz, .int mx), some (.own, .lst [.int a, .int b, .int d]), some (.own, .lst [.int a', .int b', .int d']), some (.own, .lst []), none, none, none] = .ok ([some (.frz, .lst (ns.map .int)), some (.frz, .int 1), some (.frz, .int many), some (.frz, .int size), some (.frz, .int mx), some (.own, .lst [.int a, .int b, .int d]), some (.own, .lst [.int a', .int b', .int d']), some (.own, icsD acc), none, none, none], .nx) := by
    unfold Pg.L_law_claims_0
    rw [exec_for (xs := rangeL 0 many) (by simp [esc, escB, notVar, esc.escBs, isFresh, frV, lim_val, powOk, hr])]
    have e : forL (forB (orcOf T (evFn T (n + 1))) false [8] Pg.LB_law_claims_0 [8, 9, 10]) (rangeL 0 many) [some (.frz, .lst (ns.map .int)), some (.frz, .int 1), some (.frz, .int many), some (.frz, .int size), some (.frz, .int mx), some (.own, .lst [.int a, .int b, .int d]), some (.own, .lst [.int a', .int b', .int d']), some (.own, .lst []), none, none, none] = _ := e
    simp [esc, escB, notVar, esc.escBs, isFresh, frV, lim_val, powOk, e]
  have nl : D.noL1 (icsD acc) = true := noLA_map fun c _ => by simp [icD, D.noL, D.noLA]
  rw [go_law_claims _ _ rfl]
  simp [esc, escB, notVar, esc.escBs, isFresh, frV, lim_val, powOk, Pg.B_law_claims, e0, e1, e2, e3, lo, nl, br_law_cell_at, br_law_mixed, br_law_labels, fr_law_cell_at, fr_law_mixed, fr_law_labels]
/-- the common bottom: a multiple of the purse's and of every part's -/
def byR (b : Int) : List Rat → Int
  | [] => b
  | t :: ts => byR (b.fdiv (Int.gcd b t.den) * t.den) ts
theorem isf {n : Nat} (hn : 2 ≤ n) (x : Rat) : evFn T n "_law_is_fraction" [fr x] = .ok (.bl true) :=
  isfrac_le fn_law_whole fn_law_is_fraction br_law_divisor (fun n a b h => leN (P := fun n => evFn T n "_law_divisor" [.int a, .int b] = .ok (.int (Int.gcd a b))) (fun n => law_divisor_eq fn_law_divisor n a b) h) hn x
theorem by_facts {b : Int} {t : Rat} (hb : 0 < b) : b ∣ b.fdiv (Int.gcd b t.den) * t.den ∧ (t.den : Int) ∣ b.fdiv (Int.gcd b t.den) * t.den ∧ 0 < b.fdiv (Int.gcd b t.den) * t.den := by
  have hd := den_pos t
  have hg : (0 : Int) < Int.gcd b t.den := by
    have := Int.gcd_pos_of_ne_zero_left (t.den : Int) (show b ≠ 0 by omega)
    omega
  obtain ⟨u, hu⟩ := Int.gcd_dvd_left (a := b) (b := (t.den : Int))
  obtain ⟨v, hv⟩ := Int.gcd_dvd_right (a := b) (b := (t.den : Int))
  generalize (Int.gcd b t.den : Int) = g at *
  have e : b.fdiv g = u := by
    rw [hu, Int.fdiv_eq_ediv_of_nonneg _ (by omega)]
    exact Int.mul_ediv_cancel_left _ (by omega)
  rw [e]
  refine ⟨⟨v, ?_⟩, ⟨u, Int.mul_comm _ _⟩, ?_⟩
  · rw [hu, hv, Int.mul_assoc, Int.mul_left_comm]
  · refine Int.mul_pos ?_ hd
    refine Int.not_le.mp fun h => ?_
    have := Int.mul_nonpos_of_nonneg_of_nonpos (show 0 ≤ g by omega) h
    omega
theorem byR_facts : ∀ (ts : List Rat) (b : Int), 0 < b → b ∣ byR b ts ∧ (∀ t ∈ ts, (t.den : Int) ∣ byR b ts) ∧ 0 < byR b ts
  | [], b, hb => ⟨Int.dvd_refl b, (fun _ z => by cases z), hb⟩
  | t :: ts, b, hb => by
    obtain ⟨h1, h2, h3⟩ := by_facts (t := t) hb
    obtain ⟨g1, g2, g3⟩ := byR_facts ts _ h3
    refine ⟨Int.dvd_trans h1 g1, fun u hu => ?_, g3⟩
    rcases List.mem_cons.mp hu with rfl | hu
    · exact Int.dvd_trans h2 g1
    · exact g2 u hu
theorem byR_sz : ∀ (ts : List Rat) (b : Int) (k : Nat), Bits k b → (∀ t ∈ ts, SzR 400 t) → Bits (k + 400 * ts.length) (byR b ts)
  | [], b, k, hb, _ => hb
  | t :: ts, b, k, hb, h => by
    have h1 : Bits (k + 400) (b.fdiv (Int.gcd b t.den) * t.den) := hb.fdiv.mul (h t List.mem_cons_self).2
    have := byR_sz ts _ (k + 400) h1 fun u hu => h u (List.mem_cons_of_mem _ hu)
    rw [List.length_cons]
    exact this.mono (by omega)
theorem right_loop {n : Nat} (hn : 2 ≤ n) (a0 a1 a2 : Option (Fl × D)) : ∀ (ts : List Rat) (b : Int) (k : Nat) (all : List Rat) (v5 : Option (Fl × D)), 0 < b → Bits k b → k + 400 * ts.length < 7000 → (∀ t ∈ ts, SzR 400 t) → ∃ b5,
    forL (forB (orcOf T (evFn T n)) false [5] Pg.LB_law_right_0 []) (ts.map fr) [a0, a1, a2, some (.frz, .tup (all.map fr)), some (.frz, .int b), v5, none, none, none] =
      .ok ([a0, a1, a2, some (.frz, .tup (all.map fr)), some (.frz, .int (byR b ts)), b5, none, none, none], .nx)
  | [], b, k, all, v5, hb, bb, hk, ht => ⟨v5, rfl⟩
  | t :: ts, b, k, all, v5, hb, bb, hk, ht => by
    obtain ⟨h1, h2, h3⟩ := by_facts (t := t) hb
    have st := ht t List.mem_cons_self
    have hk : k + 400 * (ts.length + 1) < 7000 := by simpa using hk
    have bn : Bits (k + 400) (b.fdiv (Int.gcd b t.den) * t.den) := bb.fdiv.mul st.2
    obtain ⟨b5, ih⟩ := right_loop hn a0 a1 a2 ts _ (k + 400) all (some (.frz, fr t)) h3 bn (by omega) fun u hu => ht u (List.mem_cons_of_mem _ hu)
    have e1 := isf hn t
    have e2 : evFn T n "_law_divisor" [.int b, .int t.den] = .ok (.int (Int.gcd b t.den)) := leN (P := fun n => evFn T n "_law_divisor" [.int b, .int t.den] = .ok (.int (Int.gcd b t.den))) (fun n => law_divisor_eq fn_law_divisor n b t.den) (show 1 ≤ n by omega)
    have hg : (Int.gcd b t.den : Int) ≠ 0 := by
      have := Int.gcd_pos_of_ne_zero_left (t.den : Int) (show b ≠ 0 by omega)
      omega
    have bg : Bits 400 (Int.gcd b t.den : Int) := gcd_bits (den_ne t) st.2
    have d1 : divOk b (Int.gcd b t.den) = true := divOk_of hg bg (by decide)
    have m1 : mulOk (b.fdiv (Int.gcd b t.den)) t.den = true := mulOk_of bb.fdiv st.2 (by omega) (by decide)
    refine ⟨b5, ?_⟩
    have turn : forB (orcOf T (evFn T n)) false [5] Pg.LB_law_right_0 [] [a0, a1, a2, some (.frz, .tup (all.map fr)), some (.frz, .int b), v5, none, none, none] (fr t) = .ok ([a0, a1, a2, some (.frz, .tup (all.map fr)), some (.frz, .int (b.fdiv (Int.gcd b t.den) * t.den)), some (.frz, fr t), none, none, none], .nx) := by
      rw [forB_x]
      simp [esc, escB, notVar, esc.escBs, isFresh, frV, lim_val, powOk, Pg.LB_law_right_0, e1, e2, d1, m1, br_law_is_fraction, br_law_divisor]
    show forL _ (fr t :: ts.map fr) _ = _
    simp [forL, turn]
    exact ih
def sclC (b : Int) (l : List ICl) : List ICl := l.map fun c => (b * c.1, c.2)
def toldR (b : Int) (ts : List Rat) : List Int := ts.map fun t => t.num * b.fdiv t.den
theorem right_le {n : Nat} (hn : 3 ≤ n) (sh : D) {l : List ICl} {ts : List Rat} {x : Rat} (hl : l.length = ts.length) (h8 : l.length ≤ 8) (hx : SzR 400 x) (ht : ∀ t ∈ ts, SzR 400 t) (hA : ∀ a ∈ amI l, Bits 300 a) (hS : Bits 400 (amI l).sum)
    (hsum : (toldR (byR x.den ts) ts).sum = if byR x.den ts * (amI l).sum < x.num * (byR x.den ts).fdiv x.den then byR x.den ts * (amI l).sum else x.num * (byR x.den ts).fdiv x.den)
    (hf : evFn T (n - 1) "_law_fits" [sh, icsD (sclC (byR x.den ts) l), intsD (toldR (byR x.den ts) ts)] = .ok (.bl true)) :
    evFn T n "_law_right" [sh, icsD l, fr x, .tup (ts.map fr)] = .ok (.bl true) := by
  obtain ⟨n, rfl⟩ : ∃ m, n = m + 1 := ⟨n - 1, by omega⟩
  rw [Nat.add_sub_cancel] at hf
  obtain ⟨b5, lo⟩ := right_loop (n := n) (by omega) (some (.frz, sh)) (some (.frz, icsD l)) (some (.frz, fr x)) ts x.den 400 ts none (den_pos x) hx.2 (by omega) ht
  have bs := byR_sz ts x.den 400 hx.2 ht
  have bb : Bits 3600 (byR x.den ts) := bs.mono (by omega)
  obtain ⟨-, -, b0⟩ := byR_facts ts x.den (den_pos x)
  generalize byR x.den ts = b at *
  have lo' : exec (orcOf T (evFn T n)) Pg.L_law_right_0 [some (.frz, sh), some (.frz, icsD l), some (.frz, fr x), some (.frz, .tup (ts.map fr)), some (.frz, .int x.den), none, none, none, none] = .ok ([some (.frz, sh), some (.frz, icsD l), some (.frz, fr x), some (.frz, .tup (ts.map fr)), some (.frz, .int b), b5, none, none, none], .nx) := by
    unfold Pg.L_law_right_0
    rw [exec_for (xs := ts.map fr) (by simp [esc, escB, notVar, esc.escBs, isFresh, frV, lim_val, powOk])]
    simp [esc, escB, notVar, esc.escBs, isFresh, frV, lim_val, powOk, lo]
  have dv : ∀ t : Rat, SzR 400 t → divOk b t.den = true := fun t st => divOk_of (den_ne t) st.2 (by decide)
  have lc6 : ∀ a0 a1 a2 a5 a6 a7 a8 : Option (Fl × D), ev (orcOf T (evFn T n)) [a0, a1, a2, some (.frz, .tup (ts.map fr)), some (.frz, .int b), a5, a6, a7, a8] (.lc (.bin .mul (.ix (.var 5) (.int 0)) (.bin .fdiv (.var 4) (.ix (.var 5) (.int 1)))) false [5] (.iseq (.var 3)) .nil) = .ok (intsD (toldR b ts)) := fun a0 a1 a2 a5 a6 a7 a8 => by
    unfold intsD toldR
    rw [List.map_map]
    exact lc_ok (l := ts) fr _ (by simp [esc, escB, notVar, esc.escBs, isFresh, frV, lim_val, powOk]) (by unfold lim; omega) fun t h => ⟨_, rfl, by
      have m1 : mulOk t.num (b.fdiv t.den) = true := mulOk_of (ht t h).1 bb.fdiv (by decide) (by decide)
      simp [esc, escB, notVar, esc.escBs, isFresh, frV, lim_val, powOk, dv t (ht t h), m1]⟩
  have lcS : ∀ a0 a2 a3 a4 a5 a6 a7 a8 : Option (Fl × D), ev (orcOf T (evFn T n)) [a0, some (.frz, icsD l), a2, a3, a4, a5, a6, a7, a8] (.lc (.ix (.var 8) (.int 0)) false [8] (.iseq (.var 1)) .nil) = .ok (intsD (amI l)) := fun a0 a2 a3 a4 a5 a6 a7 a8 => by
    unfold intsD amI
    rw [List.map_map]
    exact lc_ok (l := l) icD _ (by simp [esc, escB, notVar, esc.escBs, isFresh, frV, lim_val, powOk, icsD]) (by unfold lim; omega) fun c hc => ⟨_, rfl, by simp [esc, escB, notVar, esc.escBs, isFresh, frV, lim_val, powOk, icD]⟩
  have lcC : ∀ a0 a2 a3 a5 a6 a7 a8 : Option (Fl × D), ev (orcOf T (evFn T n)) [a0, some (.frz, icsD l), a2, a3, some (.frz, .int b), a5, a6, a7, a8] (.lc (.tup (.cons (.bin .mul (.var 4) (.ix (.var 8) (.int 0))) (.cons (.ix (.var 8) (.int 1)) (.cons (.ix (.var 8) (.int 2)) .nil)))) false [8] (.iseq (.var 1)) .nil) = .ok (icsD (sclC b l)) := fun a0 a2 a3 a5 a6 a7 a8 => by
    unfold icsD sclC
    rw [List.map_map]
    exact lc_ok (l := l) icD _ (by simp [esc, escB, notVar, esc.escBs, isFresh, frV, lim_val, powOk, icsD]) (by unfold lim; omega) fun c hc => ⟨_, rfl, by
      have m1 : mulOk b c.1 = true := mulOk_of bb (hA c.1 (List.mem_map.mpr ⟨c, hc, rfl⟩)) (by decide) (by decide)
      simp [esc, escB, notVar, esc.escBs, isFresh, frV, lim_val, powOk, icD, m1]⟩
  have s1 : builtin "sum" [intsD (amI l)] = .ok (.int (amI l).sum) := blt_sum _
  have s2 : builtin "sum" [intsD (toldR b ts)] = .ok (.int (toldR b ts).sum) := blt_sum _
  have lb : builtin "len" [icsD l] = .ok (.int l.length) := by simp [icsD]
  have m2 : mulOk x.num (b.fdiv x.den) = true := mulOk_of hx.1 bb.fdiv (by decide) (by decide)
  have m3 : mulOk b (amI l).sum = true := mulOk_of bb hS (by decide) (by decide)
  have il : ∀ l : List Int, (intsD l).isL = true := fun _ => rfl
  have dx := dv x hx
  have ll : (ts.length : Int) = l.length := by omega
  rw [go_law_right n _ rfl]
  simp [esc, escB, notVar, esc.escBs, isFresh, frV, lim_val, powOk, Pg.B_law_right, lo', lc6, lcS, lcC, s1, s2, lb, m2, m3, il, dx, hsum, hf, ll, hl, br_law_fits]
theorem bits_le {a c : Int} {k : Nat} (h0 : 0 ≤ a) (h : a ≤ c) (hc : Bits k c) : Bits k a := by
  unfold Bits at *
  omega
theorem sum_bits : ∀ {l : List Int} {k : Nat}, l.length ≤ 8 → (∀ a ∈ l, Bits k a) → Bits (k + 4) l.sum := fun {l k} h8 hl => by
  have key : ∀ l : List Int, (∀ a ∈ l, Bits k a) → l.sum.natAbs ≤ l.length * 2 ^ k := fun l => by
    induction l with
    | nil => intro _; simp
    | cons a l ih =>
      intro h
      have h1 := ih fun b hb => h b (List.mem_cons_of_mem _ hb)
      have h2 := h a List.mem_cons_self
      unfold Bits at h2
      rw [List.sum_cons, List.length_cons, Nat.succ_mul]
      have := Int.natAbs_add_le a l.sum
      omega
  have h1 := key l hl
  have h2 : l.length * 2 ^ k ≤ 8 * 2 ^ k := Nat.mul_le_mul_right _ h8
  have h3 : 0 < 2 ^ k := Nat.pow_pos (by decide)
  unfold Bits
  rw [Nat.pow_add]
  omega
theorem fits_flat (f : Fk) {n : Nat} (hn : 6 ≤ n) {l : List ICl} {b : Int} (hb : 0 < b) (h8 : l.length ≤ 8) (h1 : 1 ≤ l.length) (h0 : ∀ c ∈ l, 0 ≤ c.1) {x : Rat} (hx : 0 ≤ x) {ps : List Int} (hlen : l.length = ps.length)
    (hA : ∀ a ∈ amI (sclC b l), Bits 3900 a) (eP : ps.map (fun z : Int => (z : Rat)) = (atR (flatR f (amtI l)) x).map fun t : Rat => (b : Rat) * t) : evFn T n "_law_fits" [shpD f, icsD (sclC b l), intsD ps] = .ok (.bl true) := by
  have hpos : ∀ a ∈ amtI l, 0 ≤ a := fun a ha => by
    obtain ⟨c, hc, rfl⟩ := List.mem_map.mp ha
    exact Rat.intCast_le_intCast.mpr (h0 c hc)
  have eA : (amI (sclC b l)).map (fun z : Int => (z : Rat)) = (amtI l).map fun a : Rat => (b : Rat) * a := by
    unfold amI sclC amtI
    rw [List.map_map, List.map_map, List.map_map]
    exact List.map_congr_left fun c _ => Rat.intCast_mul _ _
  have ll : (sclC b l).length = l.length := by simp [sclC]
  have hps : ∀ {q : List Int}, (∀ r ∈ (amI (sclC b l)).zip q, 0 ≤ r.2 ∧ r.2 ≤ r.1) → q.length = l.length → ∀ p ∈ q, Bits 3900 p := fun {q} hr hq p hp => by
    obtain ⟨i, hi, rfl⟩ := List.mem_iff_getElem.mp hp
    have hi2 : i < (amI (sclC b l)).length := by simp [amI, sclC]; omega
    have hm : ((amI (sclC b l))[i], q[i]) ∈ (amI (sclC b l)).zip q := List.mem_iff_getElem.mpr ⟨i, by rw [List.length_zip]; omega, by simp⟩
    have := hr _ hm
    exact bits_le this.1 this.2 (hA _ (List.getElem_mem hi2))
  have al : (amI (sclC b l)).length ≤ 8 := by simp [amI, sclC]; omega
  have fin : ∀ (g : Fk) (q : List Int) (m : Nat), 2 ≤ m → q.length = l.length → (∀ r ∈ (amI (sclC b l)).zip q, 0 ≤ r.2 ∧ r.2 ≤ r.1) → (match g with
      | .shares => ∀ r ∈ (amI (sclC b l)).zip q, r.2 * (amI (sclC b l)).sum = r.1 * q.sum
      | .evenly => ∀ r ∈ (amI (sclC b l)).zip q, r.2 < r.1 → r.2 = q.foldl max 0
      | .losses => ∀ r ∈ (amI (sclC b l)).zip q, r.1 - r.2 < r.1 → r.1 - r.2 = (((amI (sclC b l)).zip q).map fun r => r.1 - r.2).foldl max 0
      | .halves => False) → evFn T m "_law_fits" [shpD g, icsD (sclC b l), intsD q] = .ok (.bl true) := fun g q m hm hq hr hg => by
    have hp := hps hr hq
    exact fits_basic g hm (by omega) (by omega) (fun a ha => (hA a ha).mono (by decide)) (fun a ha => (hp a ha).mono (by decide)) ((sum_bits al hA).mono (by decide)) ((sum_bits (by omega) hp).mono (by decide)) hr hg
  cases f with
  | evenly =>
    obtain ⟨w, w0, w1, _⟩ := even_fit hpos hx
    have eP : ps.map (fun z : Int => (z : Rat)) = (atR (evenR (amtI l)) x).map fun t : Rat => (b : Rat) * t := eP
    rw [w1, List.map_map] at eP
    have ok := even_ok hb hpos w0 eA eP
    exact fin .evenly ps n (by omega) hlen.symm (fun q hq => (ok q hq).1) fun q hq => (ok q hq).2
  | shares =>
    obtain ⟨s, s0, s1, w1, _⟩ := shares_fit hpos hx
    have eP : ps.map (fun z : Int => (z : Rat)) = (atR (sharesR (amtI l)) x).map fun t : Rat => (b : Rat) * t := eP
    rw [w1, List.map_map] at eP
    have ok := shares_ok hb hpos s0 s1 eA eP
    exact fin .shares ps n (by omega) hlen.symm (fun q hq => (ok q hq).1) fun q hq => (ok q hq).2
  | losses =>
    have eP : ps.map (fun z : Int => (z : Rat)) = (atR (turnedR (evenR (amtI l))) x).map fun t : Rat => (b : Rat) * t := eP
    have hw : ∃ w, 0 ≤ w ∧ atR (turnedR (evenR (amtI l))) x = (amtI l).map fun a => a - lessr a w := by
      by_cases q : x ≤ (amtI l).sum
      · obtain ⟨w, w0, w1, _⟩ := losses_fit hpos hx q
        exact ⟨w, w0, w1⟩
      · refine ⟨0, Rat.le_refl, ?_⟩
        rw [losses_over hpos (by grind)]
        have : (amtI l).map (fun a => a - lessr a 0) = (amtI l).map id := List.map_congr_left fun a ha => by
          have := hpos a ha
          unfold lessr
          split <;> grind
        rw [this, List.map_id]
    obtain ⟨w, w0, w1⟩ := hw
    rw [w1, List.map_map] at eP
    have ok := losses_ok hb hpos w0 eA eP
    exact fin .losses ps n (by omega) hlen.symm (fun q hq => (ok q hq).1) fun q hq => (ok q hq).2
  | halves =>
    obtain ⟨_, w, w0, hw⟩ := halves_all hpos hx
    have eP : ps.map (fun z : Int => (z : Rat)) = (atR (halvesR (amtI l)) x).map fun t : Rat => (b : Rat) * t := eP
    have hb' : (0 : Rat) < (b : Rat) := Rat.intCast_pos.mpr hb
    have w2 : 0 ≤ 2 * w := by grind
    have sA : (((amI (sclC b l)).sum : Int) : Rat) = b * (amtI l).sum := by rw [sum_cast, eA, sum_scale]
    have sP : (((ps.map (2 * ·)).sum : Int) : Rat) = b * (2 * (atR (halvesR (amtI l)) x).sum) := by
      have e1 : (ps.map (2 * ·)).map (fun z : Int => (z : Rat)) = (ps.map (fun z : Int => (z : Rat))).map fun t : Rat => 2 * t := by
        rw [List.map_map, List.map_map]
        exact List.map_congr_left fun p _ => by
          show ((2 * p : Int) : Rat) = 2 * (p : Rat)
          rw [Rat.intCast_mul]
          rfl
      rw [sum_cast, e1, sum_scale, eP, sum_scale]
      grind
    have iff1 : ((ps.map (2 * ·)).sum ≤ (amI (sclC b l)).sum) ↔ 2 * (atR (halvesR (amtI l)) x).sum ≤ (amtI l).sum := by
      rw [← le_cast, sP, sA]
      constructor
      · intro h
        refine Rat.not_lt.mp fun h2 => ?_
        have := Rat.mul_lt_mul_of_pos_left h2 hb'
        grind
      · intro h
        exact Rat.mul_le_mul_of_nonneg_left h (by grind)
    have dbl : ∀ g : Rat → Rat, atR (halvesR (amtI l)) x = (amtI l).map g → (ps.map (2 * ·)).map (fun z : Int => (z : Rat)) = (amtI l).map fun a : Rat => (b : Rat) * (2 * g a) := fun g hg => by
      have e1 : (ps.map (2 * ·)).map (fun z : Int => (z : Rat)) = (ps.map (fun z : Int => (z : Rat))).map fun t : Rat => 2 * t := by
        rw [List.map_map, List.map_map]
        exact List.map_congr_left fun p _ => by
          show ((2 * p : Int) : Rat) = 2 * (p : Rat)
          rw [Rat.intCast_mul]
          rfl
      rw [e1, eP, hg, List.map_map, List.map_map]
      exact List.map_congr_left fun a _ => by
        show 2 * ((b : Rat) * g a) = b * (2 * g a)
        grind
    have one : ∀ g : Rat → Rat, atR (halvesR (amtI l)) x = (amtI l).map g → ps.map (fun z : Int => (z : Rat)) = (amtI l).map fun a : Rat => (b : Rat) * g a := fun g hg => by
      rw [eP, hg, List.map_map]
      rfl
    have sl : (amI (sclC b l)).length = l.length := by simp [amI, sclC]
    have up : (∀ q ∈ (amI (sclC b l)).zip ps, 0 ≤ q.2 ∧ q.2 ≤ q.1) → ((ps.map (2 * ·)).sum ≤ (amI (sclC b l)).sum → evFn T (n - 3) "_law_fits" [shpD .evenly, icsD (sclC b l), intsD (ps.map (2 * ·))] = .ok (.bl true)) →
        (¬ (ps.map (2 * ·)).sum ≤ (amI (sclC b l)).sum → evFn T (n - 3) "_law_fits" [shpD .losses, icsD (sclC b l), intsD (((ps.map (2 * ·)).zip (amI (sclC b l))).map fun q => q.1 - q.2)] = .ok (.bl true)) → evFn T n "_law_fits" [shpD .halves, icsD (sclC b l), intsD ps] = .ok (.bl true) := fun hr hE hL => by
      have e1 := upto_fit (n := n - 2) (by omega) (l := sclC b l) (ps := ps) (by omega) (by omega) (fun a ha => (hA a ha).mono (by decide)) (fun p hp => (hps hr hlen.symm p hp).mono (by decide)) (by rw [show n - 2 - 1 = n - 3 by omega]; exact hE) (by rw [show n - 2 - 1 = n - 3 by omega]; exact hL)
      have e2 := fits_up (n := n - 1) (by omega) (l := sclC b l) (ps := ps) (by omega) hr (by rw [show n - 1 - 1 = n - 2 by omega]; exact e1)
      exact fits_halves (by omega) (by omega) hr e2
    rcases hw with ⟨hle, e⟩ | ⟨hle, e⟩
    · have e2 := dbl _ e
      have e3 : (ps.map (2 * ·)).map (fun z : Int => (z : Rat)) = (amtI l).map fun a : Rat => (b : Rat) * lessr a (2 * w) := by
        rw [e2]
        exact List.map_congr_left fun a _ => by rw [lessr_two]
      have ok := even_ok hb hpos w2 eA e3
      refine up (rng_of hb (g := fun a => lessr (a * (1 / 2)) w) (fun a ha => ?_) eA (one _ e)) (fun _ => ?_) fun z => absurd (iff1.mpr hle) z
      · have := hpos a ha
        unfold lessr
        split <;> constructor <;> grind
      · exact fin .evenly (ps.map (2 * ·)) (n - 3) (by omega) (by simp [hlen]) (fun q hq => (ok q hq).1) fun q hq => (ok q hq).2
    · have e2 := dbl _ e
      have e3 := sub2 e2 eA
      have e4 : (((ps.map (2 * ·)).zip (amI (sclC b l))).map fun q => q.1 - q.2).map (fun z : Int => (z : Rat)) = (amtI l).map fun a : Rat => (b : Rat) * (a - lessr a (2 * w)) := by
        rw [e3]
        exact List.map_congr_left fun a _ => by
          rw [← lessr_two]
          grind
      have ok := losses_ok hb hpos w2 eA e4
      refine up (rng_of hb (g := fun a => a * (1 / 2) + (a * (1 / 2) - lessr (a * (1 / 2)) w)) (fun a ha => ?_) eA (one _ e)) (fun z => absurd (iff1.mp z) hle) fun _ => ?_
      · have := hpos a ha
        unfold lessr
        split <;> constructor <;> grind
      · exact fin .losses _ (n - 3) (by omega) (by rw [List.length_map, List.length_zip, List.length_map]; omega) (fun q hq => (ok q hq).1) fun q hq => (ok q hq).2
theorem flat_sum (f : Fk) {as : List Rat} (h : ∀ a ∈ as, 0 ≤ a) {x : Rat} (hx : 0 ≤ x) : (atR (flatR f as) x).sum = if as.sum < x then as.sum else x := by
  cases f with
  | shares => obtain ⟨_, _, _, _, e⟩ := shares_fit h hx; exact e
  | evenly => obtain ⟨_, _, _, e⟩ := even_fit h hx; exact e
  | losses =>
    by_cases q : as.sum < x
    · rw [if_pos q]
      show (atR (turnedR (evenR as)) x).sum = _
      rw [losses_over h (by grind)]
    · rw [if_neg q]
      obtain ⟨_, _, _, e⟩ := losses_fit h hx (by grind)
      exact e
  | halves => exact (halves_all h hx).1
theorem gd_int {l : List ICl} (hok : ∀ c ∈ l, OkC c) : ∀ a ∈ amtI l, Gd 1 (10 ^ 46) a := fun a ha => by
  obtain ⟨d, hd, rfl⟩ := List.mem_map.mp ha
  exact ⟨d.1, by rw [Rat.divInt_eq_div]; have : (((1 : Nat) : Int) : Rat) = 1 := rfl; rw [this]; grind, (hok d hd).2.1⟩
theorem ics_ne (l : List ICl) : cop .ne (icsD l) (icsD l) = .ok false := by
  have hf : (icsD l).fit 64 = true := by
    unfold icsD
    simp only [D.fit]
    exact fitA_map fun a _ => by simp [icD, D.fit, D.fitA]
  have he : D.eqv (icsD l) (icsD l) = true := by
    unfold icsD
    rw [eqv_lst, eqvA_map (fun a b => ?_)]
    · simp
    · obtain ⟨a, a', a''⟩ := a
      obtain ⟨b, b', b''⟩ := b
      unfold icD
      rw [eqv_tup]
      simp [eqvA_cons, eqvA_nil, D.eqv]
      rw [Bool.eq_iff_iff]
      simp
  rw [cop_ne hf hf, he]
  rfl
theorem law_turn (f : Fk) {n : Nat} (hn : 14 ≤ n) {l : List ICl} (h1 : 1 ≤ l.length) (h8 : l.length ≤ 8) (hok : ∀ c ∈ l, OkC c) (a0 a1 a2 a4 : Option (Fl × D)) (c : Int) :
    forB (orcOf T (evFn T n)) false [9] LB_law_0 [9, 10, 11] [a0, a1, a2, some (.own, icsD l), a4, some (.frz, shpD f), some (.frz, .obj f.name []), some (.own, icsD l), some (.frz, .int (amI l).sum), none, none, none, none] (.int c) =
      .ok ([a0, a1, a2, some (.own, icsD l), a4, some (.frz, shpD f), some (.frz, .obj f.name []), some (.own, icsD l), some (.frz, .int (amI l).sum), none, none, none, none], .nx) := by
  have bA : ∀ a ∈ amI l, Bits 153 a := fun a ha => by
    obtain ⟨d, hd, rfl⟩ := List.mem_map.mp ha
    have := (hok d hd).2.1
    unfold Bits
    exact Nat.lt_of_le_of_lt this (by decide)
  have al : (amI l).length ≤ 8 := by simpa [amI] using h8
  have bS : Bits 157 (amI l).sum := sum_bits al bA
  have hpos : ∀ a ∈ amtI l, 0 ≤ a := fun a ha => by
    obtain ⟨d, hd, rfl⟩ := List.mem_map.mp ha
    exact Rat.intCast_le_intCast.mpr (hok d hd).1
  have eA : (amI l).map (fun z : Int => (z : Rat)) = amtI l := by
    unfold amI amtI
    rw [List.map_map]
    rfl
  have w0 : 0 ≤ (amI l).sum := by
    rw [← le_cast, sum_cast, eA]
    exact rsum_nonneg hpos
  obtain ⟨x, x0, ⟨xs1, xs2⟩, e1⟩ := purse_le (n := n) (by omega) w0 (bS.mono (by decide)) c
  have e2 := rule_parts_le hFM f (n := n) (by omega) h1 h8 (fun c hc => ⟨(hok c hc).1, (hok c hc).2.2⟩) (M := 10 ^ 46) (k := 300) (by decide) (by decide) (by decide) (fun c hc => (hok c hc).2.1) (x := x) ⟨xs1.mono (by decide), xs2.mono (by decide)⟩ x0
  have len : (atR (flatR f (amtI l)) x).length = l.length := by
    obtain ⟨hp, q, hq⟩ := flat_pth f hpos
    rw [at_len hp (by rw [hq]; simp)]
    simp [amtI]
  have sz := parts_sz f (as := amtI l) (M := 10 ^ 46) (by simpa [amtI] using h8) hpos (gd_int hok) (by decide) xs1 xs2
  have sum := flat_sum f hpos x0
  have ff := fun (b : Int) (hb : 0 < b) (ps : List Int) (h2 : l.length = ps.length) hA eP => fits_flat f (n := n - 1) (by omega) (l := l) (b := b) hb h8 h1 (fun c hc => (hok c hc).1) x0 (ps := ps) h2 hA eP
  generalize atR (flatR f (amtI l)) x = ts at *
  obtain ⟨d1, d2, d3⟩ := byR_facts ts x.den (den_pos x)
  have bsz := byR_sz ts x.den 400 (xs2.mono (by decide)) sz
  have bb : Bits 3600 (byR x.den ts) := bsz.mono (by omega)
  have eP : (toldR (byR x.den ts) ts).map (fun z : Int => (z : Rat)) = ts.map fun t : Rat => ((byR x.den ts : Int) : Rat) * t := by
    unfold toldR
    rw [List.map_map]
    exact List.map_congr_left fun t ht => told_cast (d2 t ht)
  have e3 := right_le (n := n) (by omega) (shpD f) (l := l) (ts := ts) (x := x) len.symm h8 ⟨xs1.mono (by decide), xs2.mono (by decide)⟩ sz (fun a ha => (bA a ha).mono (by decide)) (bS.mono (by decide))
    (min_cast d3 (s := ts.sum) (a := (amtI l).sum) (x := x) (by rw [Rat.intCast_mul, sum_cast, eA]) (by rw [sum_cast, eP, sum_scale]) (told_cast d1) sum)
    (ff _ d3 _ (by unfold toldR; rw [List.length_map]; exact len.symm) (fun a ha => by
      obtain ⟨d, hd, rfl⟩ := List.mem_map.mp ha
      unfold sclC at hd
      obtain ⟨d', hd', rfl⟩ := List.mem_map.mp hd
      exact (bb.mul (bA d'.1 (List.mem_map.mpr ⟨d', hd', rfl⟩))).mono (by decide)) eP)
  have q1 : (orcOf T (evFn T n)).freshM "parts" = true := rfl
  have q2 : (orcOf T (evFn T n)).borM "parts" = true := rfl
  have ne := ics_ne l
  have nl : Pu.D.noLA (ts.map fr) = true := noLA_map fun a _ => fr_noL a
  rw [forB_x]
  simp [esc, escB, notVar, esc.escBs, isFresh, frV, lim_val, powOk, LB_law_0, e1, e2, e3, q1, q2, ne, nl, hFM.mq, br_law_purse, fr_law_purse, br_law_right, fr_isL, fr_noL1]
theorem loop_eq (f : Fk) {n : Nat} (hn : 14 ≤ n) (ns : List Int) (hl : ns.length ≤ 63) {l : List ICl} (h1 : 1 ≤ l.length) (h8 : l.length ≤ 8) (hok : ∀ c ∈ l, OkC c) (m : Nat) (a1 a4 : Option (Fl × D)) :
    exec (orcOf T (evFn T n)) L_law_0 [some (.frz, .lst (ns.map .int)), a1, some (.frz, .int m), some (.own, icsD l), a4, some (.frz, shpD f), some (.frz, .obj f.name []), some (.own, icsD l), some (.frz, .int (amI l).sum), none, none, none, none] =
      .ok ([some (.frz, .lst (ns.map .int)), a1, some (.frz, .int m), some (.own, icsD l), a4, some (.frz, shpD f), some (.frz, .obj f.name []), some (.own, icsD l), some (.frz, .int (amI l).sum), none, none, none, none], .nx) := by
  have hc : cut (ns.map D.int) (some (1 + (m : Int))) (some (21 + (m : Int))) = (cut ns (some (1 + (m : Int))) (some (21 + (m : Int)))).map D.int := cut_map ns _ _
  have hcl : (cut ns (some (1 + (m : Int))) (some (21 + (m : Int)))).length ≤ 63 := by
    unfold cut
    simp
    omega
  generalize cut ns (some (1 + (m : Int))) (some (21 + (m : Int))) = ms at hc hcl
  have l1 : 1 + (1 + ms.length) ≤ 16777216 := by omega
  have l2 : 2 + ms.length ≤ 16777216 := by omega
  have e := (for_fold (o := orcOf T (evFn T n)) (tup := false) (is := [9]) (it := .iseq (.bin .add (.lst (.cons (.int 0) (.cons (.int 1) .nil))) (.sl (.var 0) (.bin .add (.int 1) (.var 2)) (.bin .add (.int 21) (.var 2))))) (b := LB_law_0) (dead := [9, 10, 11]) (r := [some (.frz, .lst (ns.map .int)), a1, some (.frz, .int m), some (.own, icsD l), a4, some (.frz, shpD f), some (.frz, .obj f.name []), some (.own, icsD l), some (.frz, .int (amI l).sum), none, none, none, none]) (l := (0 :: 1 :: ms))
      D.int (fun (_ : Unit) => [some (.frz, .lst (ns.map .int)), a1, some (.frz, .int m), some (.own, icsD l), a4, some (.frz, shpD f), some (.frz, .obj f.name []), some (.own, icsD l), some (.frz, .int (amI l).sum), none, none, none, none]) (fun z _ => z) () (fun _ _ => True) (by simp [esc, escB, notVar, esc.escBs, isFresh, frV, lim_val, powOk, hc, l1, l2]) (by simp [esc, escB, notVar, esc.escBs, isFresh, frV, lim_val, powOk]) trivial (fun i hi z _ => by
        exact ⟨law_turn f hn h1 h8 hok _ _ _ _ _, trivial⟩)).1
  unfold L_law_0
  rw [e]
  simp [esc, escB, notVar, esc.escBs, isFresh, frV, lim_val, powOk]
def fk4 : Nat → Fk
  | 0 => .shares
  | 1 => .evenly
  | 2 => .losses
  | _ => .halves
theorem law_n {n : Nat} (hn : 14 ≤ n) (ns : List Int) (hl : ns.length ≤ 63) : evFn T (n + 1) "law" [.lst (ns.map .int)] = .ok (.bl true) := by
  have e0 : evFn T n "_law_cell_at" [.lst (ns.map .int), .int 0] = .ok (.int (cellAt ns 0)) := by
    obtain ⟨n, rfl⟩ : ∃ m, n = m + 1 := ⟨n - 1, by omega⟩
    exact cell_at_eq fn_law_cell_at n ns 0 0 rfl
  generalize cellAt ns 0 = c at e0
  have k1 := Int.fmod_nonneg_of_pos c (b := 8) (by decide)
  have k2 := Int.fmod_lt_of_pos c (b := 8) (by decide)
  obtain ⟨m, hm⟩ : ∃ m : Nat, 1 + c.fmod 8 = (m : Int) := ⟨(1 + c.fmod 8).toNat, by omega⟩
  have s1 := Int.fmod_nonneg_of_pos (c.fdiv 8) (b := 3) (by decide)
  have s2 := Int.fmod_lt_of_pos (c.fdiv 8) (b := 3) (by decide)
  have f1 := Int.fmod_nonneg_of_pos (c.fdiv 24) (b := 4) (by decide)
  have f2 := Int.fmod_lt_of_pos (c.fdiv 24) (b := 4) (by decide)
  obtain ⟨size, z0, z1, ez⟩ : ∃ size : Int, 0 < size ∧ size ≤ 10 ^ 46 ∧ itemOf (.lst [.int 10, .int 1000000000, .int 10000000000000000000000000000000000000000000000]) (.int ((c.fdiv 8).fmod 3)) = .ok (.int size) := by
    rcases (by omega : (c.fdiv 8).fmod 3 = 0 ∨ (c.fdiv 8).fmod 3 = 1 ∨ (c.fdiv 8).fmod 3 = 2) with h | h | h <;> rw [h]
    · exact ⟨10, by decide, by decide, rfl⟩
    · exact ⟨1000000000, by decide, by decide, rfl⟩
    · exact ⟨10000000000000000000000000000000000000000000000, by decide, by decide, rfl⟩
  obtain ⟨f, ef⟩ : ∃ f : Fk, itemOf (.lst [shpD .shares, shpD .evenly, shpD .losses, shpD .halves]) (.int ((c.fdiv 24).fmod 4)) = .ok (shpD f) := by
    rcases (by omega : (c.fdiv 24).fmod 4 = 0 ∨ (c.fdiv 24).fmod 4 = 1 ∨ (c.fdiv 24).fmod 4 = 2 ∨ (c.fdiv 24).fmod 4 = 3) with h | h | h | h <;> rw [h]
    · exact ⟨.shares, rfl⟩
    · exact ⟨.evenly, rfl⟩
    · exact ⟨.losses, rfl⟩
    · exact ⟨.halves, rfl⟩
  have ef : itemOf (.lst [.tup [.str (codes "shares")], .tup [.str (codes "evenly")], .tup [.str (codes "losses")], .tup [.str (codes "halves")]]) (.int ((c.fdiv 24).fmod 4)) = .ok (shpD f) := ef
  obtain ⟨l, l1, l2, e1⟩ := claims_le (n := n) (by omega) ns z0 z1 (many := m) (by omega)
  have e2 := rule_le f (n := n) (by omega)
  have is : isiB (orcOf T (evFn T n)) "Rule" (.obj f.name []) = .ok true := by
    cases f
    · exact is_Shares_Rule _ _
    · exact is_Evenly_Rule _ _
    · exact is_Losses_Rule _ _
    · exact is_Halves_Rule _ _
  have lcS : ∀ a0 a1 a2 a4 a5 a6 a7 a8 a9 a10 a11 a12 : Option (Fl × D), ev (orcOf T (evFn T n)) [a0, a1, a2, some (.own, icsD l), a4, a5, a6, a7, a8, a9, a10, a11, a12] (.lc (.ix (.var 12) (.int 0)) false [12] (.iseq (.var 3)) .nil) = .ok (intsD (amI l)) := fun a0 a1 a2 a4 a5 a6 a7 a8 a9 a10 a11 a12 => by
    unfold intsD amI
    rw [List.map_map]
    exact lc_ok (l := l) icD _ (by simp [esc, escB, notVar, esc.escBs, isFresh, frV, lim_val, powOk, icsD]) (by unfold lim; omega) fun c hc => ⟨_, rfl, by simp [esc, escB, notVar, esc.escBs, isFresh, frV, lim_val, powOk, icD]⟩
  have sm : builtin "sum" [intsD (amI l)] = .ok (.int (amI l).sum) := blt_sum _
  have bl : builtin "list" [icsD l] = .ok (icsD l) := rfl
  have il : (icsD l).isL = true := rfl
  have il2 : (shpD f).isL = false := by cases f <;> rfl
  have il3 : (Pu.D.obj f.name []).isL = false := rfl
  have nl : Pu.D.noL1 (icsD l) = true := noLA_map fun c _ => by simp [icD, D.noL, D.noLA]
  have lo := fun a1 a4 => loop_eq f hn ns hl (l := l) (by omega) (by omega) l2 m a1 a4
  rw [go_law _ _ rfl]
  simp [esc, escB, notVar, esc.escBs, isFresh, frV, lim_val, powOk, B_law, e0, hm, ez, ef, e1, e2, is, lcS, sm, bl, il, il2, il3, nl, lo, br_law_cell_at, fr_law_cell_at, br_law_claims, fr_law_claims, br_law_rule, fr_law_rule]
theorem law_true : ∀ ns : List Int, ns.length ≤ 63 → evFn T 40 "law" [.lst (ns.map .int)] = .ok (.bl true) := fun ns hl => law_n (n := 39) (by decide) ns hl

end K24

namespace K24
open PySem L2 Pu
def top (i : Nat) : Stmt := PySem.Challenge.pw_shortpurse_k24_flat_rules.main.body.getD i (.Pass ⟨0, 0, 0, 0⟩)
def Dd : Defs := ⟨["divisor", "fraction", "plus", "minus", "times", "over", "before", "amid", "thinned", "parts_at", "turned", "behind", "look_claims", "all_of", "lesser", "risen", "begin", "cut", "_law_cell_at", "_law_mixed", "_law_divisor", "_law_lowest", "_law_whole", "_law_is_fraction", "_law_labels", "_law_claims", "_law_even", "_law_fits", "_law_upto_fit", "_law_right", "_law_rule", "_law_purse", "law", "Rule.path", "Rule.parts", "Shares.divided", "Evenly.divided", "Losses.divided", "Halves.divided"],
  fun k => ["divisor", "fraction", "plus", "minus", "times", "over", "before", "amid", "thinned", "parts_at", "turned", "behind", "look_claims", "all_of", "lesser", "risen", "begin", "cut", "_law_cell_at", "_law_mixed", "_law_divisor", "_law_lowest", "_law_whole", "_law_is_fraction", "_law_labels", "_law_claims", "_law_even", "_law_fits", "_law_upto_fit", "_law_right", "_law_rule", "_law_purse", "law"].contains k,
  fun s => if s = "Rule.path" then "path" else if s = "Rule.parts" then "parts" else if s = "Shares.divided" then "divided" else if s = "Evenly.divided" then "divided" else if s = "Losses.divided" then "divided" else if s = "Halves.divided" then "divided" else s,
  fun s => if s = "divisor" then top 7 else if s = "fraction" then top 8 else if s = "plus" then top 9 else if s = "minus" then top 10 else if s = "times" then top 11 else if s = "over" then top 12 else if s = "before" then top 13 else if s = "amid" then top 16 else if s = "thinned" then top 17 else if s = "parts_at" then top 18 else if s = "turned" then top 19 else if s = "behind" then top 20 else if s = "look_claims" then top 37 else if s = "all_of" then top 38 else if s = "lesser" then top 39 else if s = "risen" then top 40 else if s = "begin" then top 41 else if s = "cut" then top 42 else if s = "_law_cell_at" then top 45 else if s = "_law_mixed" then top 46 else if s = "_law_divisor" then top 47 else if s = "_law_lowest" then top 48 else if s = "_law_whole" then top 49 else if s = "_law_is_fraction" then top 50 else if s = "_law_labels" then top 51 else if s = "_law_claims" then top 52 else if s = "_law_even" then top 53 else if s = "_law_fits" then top 54 else if s = "_law_upto_fit" then top 55 else if s = "_law_right" then top 58 else if s = "_law_rule" then top 59 else if s = "_law_purse" then top 60 else if s = "law" then top 61 else if s = "Rule.path" then (inClass (top 27) 0) else if s = "Rule.parts" then (inClass (top 27) 1) else if s = "Shares.divided" then (inClass (top 28) 1) else if s = "Evenly.divided" then (inClass (top 29) 1) else if s = "Losses.divided" then (inClass (top 30) 1) else if s = "Halves.divided" then (inClass (top 31) 1) else top 0,
  fun s => if s = "divisor" then [Str.ofString "one", Str.ofString "other"] else if s = "fraction" then [Str.ofString "top", Str.ofString "bottom", Str.ofString "share"] else if s = "plus" then [Str.ofString "one", Str.ofString "two"] else if s = "minus" then [Str.ofString "one", Str.ofString "two"] else if s = "times" then [Str.ofString "one", Str.ofString "two"] else if s = "over" then [Str.ofString "one", Str.ofString "two"] else if s = "before" then [Str.ofString "one", Str.ofString "two"] else if s = "amid" then [Str.ofString "low", Str.ofString "high", Str.ofString "purse", Str.ofString "share", Str.ofString "one", Str.ofString "two"] else if s = "thinned" then [Str.ofString "corners", Str.ofString "found", Str.ofString "corner"] else if s = "parts_at" then [Str.ofString "path", Str.ofString "purse", Str.ofString "k"] else if s = "turned" then [Str.ofString "path", Str.ofString "last", Str.ofString "found", Str.ofString "purse", Str.ofString "parts", Str.ofString "one", Str.ofString "two"] else if s = "behind" then [Str.ofString "path", Str.ofString "second", Str.ofString "last", Str.ofString "corners", Str.ofString "purse", Str.ofString "parts", Str.ofString "one", Str.ofString "two"] else if s = "look_claims" then [Str.ofString "claims", Str.ofString "claim"] else if s = "all_of" then [Str.ofString "amounts", Str.ofString "found", Str.ofString "amount"] else if s = "lesser" then [Str.ofString "one", Str.ofString "two"] else if s = "risen" then [Str.ofString "levels", Str.ofString "level", Str.ofString "at"] else if s = "begin" then [Str.ofString "many", Str.ofString "k"] else if s = "cut" then [Str.ofString "claims", Str.ofString "portion", Str.ofString "amount", Str.ofString "rank", Str.ofString "group"] else if s = "_law_cell_at" then [Str.ofString "_law_script", Str.ofString "_law_k"] else if s = "_law_mixed" then [Str.ofString "_law_cell", Str.ofString "_law_place", Str.ofString "_law_number"] else if s = "_law_divisor" then [Str.ofString "_law_one", Str.ofString "_law_two"] else if s = "_law_lowest" then [Str.ofString "_law_top", Str.ofString "_law_bottom", Str.ofString "_law_by"] else if s = "_law_whole" then [Str.ofString "_law_found"] else if s = "_law_is_fraction" then [Str.ofString "_law_found"] else if s = "_law_labels" then [Str.ofString "_law_number"] else if s = "_law_claims" then [Str.ofString "_law_script", Str.ofString "_law_at", Str.ofString "_law_many", Str.ofString "_law_size", Str.ofString "_law_labels_here", Str.ofString "_law_ranks", Str.ofString "_law_groups", Str.ofString "_law_claims_here", Str.ofString "_law_k", Str.ofString "_law_cell", Str.ofString "_law_amount"] else if s = "_law_even" then [Str.ofString "_law_amounts", Str.ofString "_law_parts", Str.ofString "_law_level", Str.ofString "_law_amount", Str.ofString "_law_part"] else if s = "_law_fits" then [Str.ofString "_law_shape", Str.ofString "_law_claims_here", Str.ofString "_law_parts", Str.ofString "_law_amounts", Str.ofString "_law_whole_here", Str.ofString "_law_purse_here", Str.ofString "_law_amount", Str.ofString "_law_part", Str.ofString "_law_claim"] else if s = "_law_upto_fit" then [Str.ofString "_law_shape", Str.ofString "_law_claims_here", Str.ofString "_law_parts", Str.ofString "_law_many", Str.ofString "_law_here", Str.ofString "_law_there", Str.ofString "_law_top", Str.ofString "_law_bottom", Str.ofString "_law_part", Str.ofString "_law_claim"] else if s = "_law_right" then [Str.ofString "_law_shape", Str.ofString "_law_claims_here", Str.ofString "_law_purse_here", Str.ofString "_law_parts", Str.ofString "_law_by", Str.ofString "_law_part", Str.ofString "_law_told", Str.ofString "_law_due", Str.ofString "_law_claim"] else if s = "_law_rule" then [Str.ofString "_law_shape"] else if s = "_law_purse" then [Str.ofString "_law_whole_here", Str.ofString "_law_cell", Str.ofString "_law_kind", Str.ofString "_law_number"] else if s = "law" then [Str.ofString "_law_script", Str.ofString "_law_first", Str.ofString "_law_many", Str.ofString "_law_claims_here", Str.ofString "_law_flat", Str.ofString "_law_shape", Str.ofString "_law_rule_here", Str.ofString "_law_handed", Str.ofString "_law_whole_here", Str.ofString "_law_cell", Str.ofString "_law_purse_here", Str.ofString "_law_parts", Str.ofString "_law_claim"] else if s = "Rule.path" then [Str.ofString "self", Str.ofString "claims", Str.ofString "amount", Str.ofString "rank", Str.ofString "group"] else if s = "Rule.parts" then [Str.ofString "self", Str.ofString "claims", Str.ofString "purse"] else if s = "Shares.divided" then [Str.ofString "self", Str.ofString "claims", Str.ofString "amounts", Str.ofString "claim"] else if s = "Evenly.divided" then [Str.ofString "self", Str.ofString "claims", Str.ofString "levels", Str.ofString "claim", Str.ofString "corners", Str.ofString "level", Str.ofString "parts"] else if s = "Losses.divided" then [Str.ofString "self", Str.ofString "claims"] else if s = "Halves.divided" then [Str.ofString "self", Str.ofString "claims", Str.ofString "half"] else [],
  fun k => ["NoFraction", "NoPurse", "NoClaims"].contains k, fun k => ["Rule"].contains k, fun _ => false, fun k => ["Shares", "Evenly", "Losses", "Halves", "Other", "Ranks", "Groups", "Upto"].contains k⟩
theorem ok_all : ∀ f ∈ Dd.names, Dd.ok1 T f = true := List.all_eq_true.mp (by decide +kernel)
end K24

namespace K24
open PySem L2 Pu
set_option maxHeartbeats 0 in
theorem facts {K : PySem.W.Frag} {h : Heap} {mg : Str → Option Value} (X : K.In h) (G : h.Ns mainGlobals mg) {f1 f2 f3 f4 f5 f6 f7 f8 f9 f10 f11 f12 f13 f14 f15 f16 f17 f18 f19 f20 f21 f22 f23 f24 f25 f26 f27 f28 f29 f30 f31 f32 f33 f34 f35 f36 f37 f38 f39 fi1 fi2 fi3 : Addr} {od1 an1 od2 an2 od3 an3 od4 an4 od5 an5 od6 an6 od7 an7 od8 an8 od9 an9 od10 an10 od11 an11 od12 an12 od13 an13 od14 an14 od15 an15 od16 an16 od17 an17 od18 an18 od19 an19 od20 an20 od21 an21 od22 an22 od23 an23 od24 an24 od25 an25 od26 an26 od27 an27 od28 an28 od29 an29 od30 an30 od31 an31 od32 an32 od33 an33 od34 an34 od35 an35 od36 an36 od37 an37 od38 an38 od39 an39 odi1 ani1 odi2 ani2 odi3 ani3 : Option Addr} {sl1 sl2 sl3 sl4 sl5 sl6 sl7 sl8 sl9 sl10 sl11 sl12 sl13 sl14 sl15 sl16 sl17 sl18 sl19 sl20 sl21 sl22 sl23 sl24 sl25 sl26 sl27 sl28 sl29 sl30 sl31 sl32 sl33 sl34 sl35 sl36 sl37 sl38 sl39 sli1 sli2 sli3 : Array (Option Value)} {oc1 kV1 dc1 pm1 cd1 ct1 oc2 kV2 dc2 pm2 cd2 ct2 oc3 kV3 dc3 pm3 cd3 ct3 oc4 kV4 dc4 pm4 cd4 ct4 oc5 kV5 dc5 pm5 cd5 ct5 oc6 kV6 dc6 pm6 cd6 ct6 oc7 kV7 dc7 pm7 cd7 ct7 oc8 kV8 dc8 pm8 cd8 ct8 oc9 kV9 dc9 pm9 cd9 ct9 oc10 kV10 dc10 pm10 cd10 ct10 oc11 kV11 dc11 pm11 cd11 ct11 oc12 kV12 dc12 pm12 cd12 ct12 oc13 kV13 dc13 pm13 cd13 ct13 oc14 kV14 dc14 pm14 cd14 ct14 oc15 kV15 dc15 pm15 cd15 ct15 oc16 kV16 dc16 pm16 cd16 ct16 oc17 kV17 dc17 pm17 cd17 ct17 oc18 kV18 dc18 pm18 cd18 ct18 oc19 kV19 dc19 pm19 cd19 ct19 oc20 kV20 dc20 pm20 cd20 ct20 oc21 kV21 dc21 pm21 cd21 ct21 oc22 kV22 dc22 pm22 cd22 ct22 oc23 kV23 dc23 pm23 cd23 ct23 oc24 kV24 dc24 pm24 cd24 ct24 oc25 kV25 dc25 pm25 cd25 ct25 oc26 kV26 dc26 pm26 cd26 ct26 oc27 kV27 dc27 pm27 cd27 ct27 oc28 kV28 dc28 pm28 cd28 ct28 oc29 kV29 dc29 pm29 cd29 ct29 oc30 kV30 dc30 pm30 cd30 ct30 oc31 kV31 dc31 pm31 cd31 ct31 oc32 kV32 dc32 pm32 cd32 ct32 oc33 kV33 dc33 pm33 cd33 ct33 oc34 kV34 dc34 pm34 cd34 ct34 oc35 kV35 dc35 pm35 cd35 ct35 oc36 kV36 dc36 pm36 cd36 ct36 oc37 kV37 dc37 pm37 cd37 ct37 oc38 kV38 dc38 pm38 cd38 ct38 oc39 kV39 dc39 pm39 cd39 ct39 oci1 kVi1 dci1 pmi1 cdi1 cti1 oci2 kVi2 dci2 pmi2 cdi2 cti2 oci3 kVi3 dci3 pmi3 cdi3 cti3 : Value} {X1 X2 X3 C1 C2 C3 C4 C5 C6 C7 C8 O1 : Addr} {gt1_0 : Tok} {gt1_1 : Tok} {GA1 : Addr} {gd1 : Option Addr} {ge1 : Nat} {gs1 : Array (Option Value)} {gt2 : Tok} {gt3_0 : Tok} {gt3_1 : Tok} {GA3 : Addr} {gd3 : Option Addr} {ge3 : Nat} {gs3 : Array (Option Value)}
    (n1 : PySem.W.nsIn K mainGlobals "Shares" = some (some (.ref C1)))
    (p1a : PySem.W.plainGet K C1 Str.empty = true) (p1b : PySem.W.hasDictIn K C1 = true) (p1c : PySem.W.plainOver K C1 = true) (p1d : PySem.W.findIn K (.ref C1) "__setattr__" = some (some (.builtin "object.__setattr__"))) (p1e : PySem.W.makesIn K C1 = true) (p1f : PySem.W.keepIn K (.ref C1) = true) (p1g : PySem.W.mroIn K C1 (.type "object") = some true)
    (i1 : PySem.W.findIn K (.ref C1) "__init__" = some (some (.builtin "object.__init__")))
    (m1_0 : PySem.W.findIn K (.ref C1) "parts" = some (some (.ref f35)))
    (m1_1 : PySem.W.findIn K (.ref C1) "divided" = some (some (.ref f36)))
    (m1_2 : PySem.W.findIn K (.ref C1) "path" = some (some (.ref f34)))
    (n2 : PySem.W.nsIn K mainGlobals "Evenly" = some (some (.ref C2)))
    (p2a : PySem.W.plainGet K C2 Str.empty = true) (p2b : PySem.W.hasDictIn K C2 = true) (p2c : PySem.W.plainOver K C2 = true) (p2d : PySem.W.findIn K (.ref C2) "__setattr__" = some (some (.builtin "object.__setattr__"))) (p2e : PySem.W.makesIn K C2 = true) (p2f : PySem.W.keepIn K (.ref C2) = true) (p2g : PySem.W.mroIn K C2 (.type "object") = some true)
    (i2 : PySem.W.findIn K (.ref C2) "__init__" = some (some (.builtin "object.__init__")))
    (m2_0 : PySem.W.findIn K (.ref C2) "parts" = some (some (.ref f35)))
    (m2_1 : PySem.W.findIn K (.ref C2) "divided" = some (some (.ref f37)))
    (m2_2 : PySem.W.findIn K (.ref C2) "path" = some (some (.ref f34)))
    (n3 : PySem.W.nsIn K mainGlobals "Losses" = some (some (.ref C3)))
    (p3a : PySem.W.plainGet K C3 Str.empty = true) (p3b : PySem.W.hasDictIn K C3 = true) (p3c : PySem.W.plainOver K C3 = true) (p3d : PySem.W.findIn K (.ref C3) "__setattr__" = some (some (.builtin "object.__setattr__"))) (p3e : PySem.W.makesIn K C3 = true) (p3f : PySem.W.keepIn K (.ref C3) = true) (p3g : PySem.W.mroIn K C3 (.type "object") = some true)
    (i3 : PySem.W.findIn K (.ref C3) "__init__" = some (some (.builtin "object.__init__")))
    (m3_0 : PySem.W.findIn K (.ref C3) "parts" = some (some (.ref f35)))
    (m3_1 : PySem.W.findIn K (.ref C3) "divided" = some (some (.ref f38)))
    (m3_2 : PySem.W.findIn K (.ref C3) "path" = some (some (.ref f34)))
    (n4 : PySem.W.nsIn K mainGlobals "Halves" = some (some (.ref C4)))
    (p4a : PySem.W.plainGet K C4 Str.empty = true) (p4b : PySem.W.hasDictIn K C4 = true) (p4c : PySem.W.plainOver K C4 = true) (p4d : PySem.W.findIn K (.ref C4) "__setattr__" = some (some (.builtin "object.__setattr__"))) (p4e : PySem.W.makesIn K C4 = true) (p4f : PySem.W.keepIn K (.ref C4) = true) (p4g : PySem.W.mroIn K C4 (.type "object") = some true)
    (i4 : PySem.W.findIn K (.ref C4) "__init__" = some (some (.builtin "object.__init__")))
    (m4_0 : PySem.W.findIn K (.ref C4) "parts" = some (some (.ref f35)))
    (m4_1 : PySem.W.findIn K (.ref C4) "divided" = some (some (.ref f39)))
    (m4_2 : PySem.W.findIn K (.ref C4) "path" = some (some (.ref f34)))
    (n5 : PySem.W.nsIn K mainGlobals "Other" = some (some (.ref C5)))
    (p5a : PySem.W.plainGet K C5 Str.empty = true) (p5b : PySem.W.hasDictIn K C5 = true) (p5c : PySem.W.plainOver K C5 = true) (p5d : PySem.W.findIn K (.ref C5) "__setattr__" = some (some (.builtin "object.__setattr__"))) (p5e : PySem.W.makesIn K C5 = true) (p5f : PySem.W.keepIn K (.ref C5) = true) (p5g : PySem.W.mroIn K C5 (.type "object") = some true)
    (r5_0 : PySem.W.findIn K (.ref C5) "inner" = some none)
    (i5 : PySem.W.findIn K (.ref C5) "__init__" = some (some (.ref fi1)))
    (m5_0 : PySem.W.findIn K (.ref C5) "parts" = some (some (.ref f35)))
    (m5_2 : PySem.W.findIn K (.ref C5) "path" = some (some (.ref f34)))
    (n6 : PySem.W.nsIn K mainGlobals "Ranks" = some (some (.ref C6)))
    (p6a : PySem.W.plainGet K C6 Str.empty = true) (p6b : PySem.W.hasDictIn K C6 = true) (p6c : PySem.W.plainOver K C6 = true) (p6d : PySem.W.findIn K (.ref C6) "__setattr__" = some (some (.builtin "object.__setattr__"))) (p6e : PySem.W.makesIn K C6 = true) (p6f : PySem.W.keepIn K (.ref C6) = true) (p6g : PySem.W.mroIn K C6 (.type "object") = some true)
    (r6_0 : PySem.W.findIn K (.ref C6) "inner" = some none)
    (i6 : PySem.W.findIn K (.ref C6) "__init__" = some (some (.ref fi1)))
    (m6_0 : PySem.W.findIn K (.ref C6) "parts" = some (some (.ref f35)))
    (m6_2 : PySem.W.findIn K (.ref C6) "path" = some (some (.ref f34)))
    (n7 : PySem.W.nsIn K mainGlobals "Groups" = some (some (.ref C7)))
    (p7a : PySem.W.plainGet K C7 Str.empty = true) (p7b : PySem.W.hasDictIn K C7 = true) (p7c : PySem.W.plainOver K C7 = true) (p7d : PySem.W.findIn K (.ref C7) "__setattr__" = some (some (.builtin "object.__setattr__"))) (p7e : PySem.W.makesIn K C7 = true) (p7f : PySem.W.keepIn K (.ref C7) = true) (p7g : PySem.W.mroIn K C7 (.type "object") = some true)
    (r7_0 : PySem.W.findIn K (.ref C7) "outer" = some none)
    (r7_1 : PySem.W.findIn K (.ref C7) "inner" = some none)
    (i7 : PySem.W.findIn K (.ref C7) "__init__" = some (some (.ref fi2)))
    (m7_0 : PySem.W.findIn K (.ref C7) "parts" = some (some (.ref f35)))
    (m7_2 : PySem.W.findIn K (.ref C7) "path" = some (some (.ref f34)))
    (n8 : PySem.W.nsIn K mainGlobals "Upto" = some (some (.ref C8)))
    (p8a : PySem.W.plainGet K C8 Str.empty = true) (p8b : PySem.W.hasDictIn K C8 = true) (p8c : PySem.W.plainOver K C8 = true) (p8d : PySem.W.findIn K (.ref C8) "__setattr__" = some (some (.builtin "object.__setattr__"))) (p8e : PySem.W.makesIn K C8 = true) (p8f : PySem.W.keepIn K (.ref C8) = true) (p8g : PySem.W.mroIn K C8 (.type "object") = some true)
    (r8_0 : PySem.W.findIn K (.ref C8) "portion" = some none)
    (r8_1 : PySem.W.findIn K (.ref C8) "first" = some none)
    (r8_2 : PySem.W.findIn K (.ref C8) "last" = some none)
    (i8 : PySem.W.findIn K (.ref C8) "__init__" = some (some (.ref fi3)))
    (m8_0 : PySem.W.findIn K (.ref C8) "parts" = some (some (.ref f35)))
    (m8_2 : PySem.W.findIn K (.ref C8) "path" = some (some (.ref f34)))
    (li1 : K.lookup fi1 = some ⟨oci1, odi1, .func (PySem.W.fnOf "__init__" "Lone.__init__" (defArgs (inClass (top 32) 0)) (defBody (inClass (top 32) 0)) (defScope (inClass (top 32) 0)) .none kVi1 dci1 pmi1 ani1 cdi1 cti1), sli1⟩)
    (ci1 : PySem.W.codeIn K cdi1 "Lone.__init__" = true) (ki1 : PySem.W.keepIn K (.ref fi1) = true)
    (zi1 : PySem.W.isFn K (.ref fi1) = true)
    (li2 : K.lookup fi2 = some ⟨oci2, odi2, .func (PySem.W.fnOf "__init__" "Groups.__init__" (defArgs (inClass (top 35) 0)) (defBody (inClass (top 35) 0)) (defScope (inClass (top 35) 0)) .none kVi2 dci2 pmi2 ani2 cdi2 cti2), sli2⟩)
    (ci2 : PySem.W.codeIn K cdi2 "Groups.__init__" = true) (ki2 : PySem.W.keepIn K (.ref fi2) = true)
    (zi2 : PySem.W.isFn K (.ref fi2) = true)
    (li3 : K.lookup fi3 = some ⟨oci3, odi3, .func (PySem.W.fnOf "__init__" "Upto.__init__" (defArgs (inClass (top 36) 0)) (defBody (inClass (top 36) 0)) (defScope (inClass (top 36) 0)) .none kVi3 dci3 pmi3 ani3 cdi3 cti3), sli3⟩)
    (ci3 : PySem.W.codeIn K cdi3 "Upto.__init__" = true) (ki3 : PySem.W.keepIn K (.ref fi3) = true)
    (zi3 : PySem.W.isFn K (.ref fi3) = true)
    (a1 : PySem.W.nsIn K mainGlobals "divisor" = some (some (.ref f1)))
    (l1 : K.lookup f1 = some ⟨oc1, od1, .func (PySem.W.fnOf "divisor" "divisor" (defArgs (top 7)) (defBody (top 7)) (defScope (top 7)) .none kV1 dc1 pm1 an1 cd1 ct1), sl1⟩)
    (c1 : PySem.W.codeIn K cd1 "divisor" = true) (k1 : PySem.W.keepIn K (.ref f1) = true)
    (a2 : PySem.W.nsIn K mainGlobals "fraction" = some (some (.ref f2)))
    (l2 : K.lookup f2 = some ⟨oc2, od2, .func (PySem.W.fnOf "fraction" "fraction" (defArgs (top 8)) (defBody (top 8)) (defScope (top 8)) .none kV2 dc2 pm2 an2 cd2 ct2), sl2⟩)
    (c2 : PySem.W.codeIn K cd2 "fraction" = true) (k2 : PySem.W.keepIn K (.ref f2) = true)
    (a3 : PySem.W.nsIn K mainGlobals "plus" = some (some (.ref f3)))
    (l3 : K.lookup f3 = some ⟨oc3, od3, .func (PySem.W.fnOf "plus" "plus" (defArgs (top 9)) (defBody (top 9)) (defScope (top 9)) .none kV3 dc3 pm3 an3 cd3 ct3), sl3⟩)
    (c3 : PySem.W.codeIn K cd3 "plus" = true) (k3 : PySem.W.keepIn K (.ref f3) = true)
    (a4 : PySem.W.nsIn K mainGlobals "minus" = some (some (.ref f4)))
    (l4 : K.lookup f4 = some ⟨oc4, od4, .func (PySem.W.fnOf "minus" "minus" (defArgs (top 10)) (defBody (top 10)) (defScope (top 10)) .none kV4 dc4 pm4 an4 cd4 ct4), sl4⟩)
    (c4 : PySem.W.codeIn K cd4 "minus" = true) (k4 : PySem.W.keepIn K (.ref f4) = true)
    (a5 : PySem.W.nsIn K mainGlobals "times" = some (some (.ref f5)))
    (l5 : K.lookup f5 = some ⟨oc5, od5, .func (PySem.W.fnOf "times" "times" (defArgs (top 11)) (defBody (top 11)) (defScope (top 11)) .none kV5 dc5 pm5 an5 cd5 ct5), sl5⟩)
    (c5 : PySem.W.codeIn K cd5 "times" = true) (k5 : PySem.W.keepIn K (.ref f5) = true)
    (a6 : PySem.W.nsIn K mainGlobals "over" = some (some (.ref f6)))
    (l6 : K.lookup f6 = some ⟨oc6, od6, .func (PySem.W.fnOf "over" "over" (defArgs (top 12)) (defBody (top 12)) (defScope (top 12)) .none kV6 dc6 pm6 an6 cd6 ct6), sl6⟩)
    (c6 : PySem.W.codeIn K cd6 "over" = true) (k6 : PySem.W.keepIn K (.ref f6) = true)
    (a7 : PySem.W.nsIn K mainGlobals "before" = some (some (.ref f7)))
    (l7 : K.lookup f7 = some ⟨oc7, od7, .func (PySem.W.fnOf "before" "before" (defArgs (top 13)) (defBody (top 13)) (defScope (top 13)) .none kV7 dc7 pm7 an7 cd7 ct7), sl7⟩)
    (c7 : PySem.W.codeIn K cd7 "before" = true) (k7 : PySem.W.keepIn K (.ref f7) = true)
    (a8 : PySem.W.nsIn K mainGlobals "amid" = some (some (.ref f8)))
    (l8 : K.lookup f8 = some ⟨oc8, od8, .func (PySem.W.fnOf "amid" "amid" (defArgs (top 16)) (defBody (top 16)) (defScope (top 16)) .none kV8 dc8 pm8 an8 cd8 ct8), sl8⟩)
    (c8 : PySem.W.codeIn K cd8 "amid" = true) (k8 : PySem.W.keepIn K (.ref f8) = true)
    (a9 : PySem.W.nsIn K mainGlobals "thinned" = some (some (.ref f9)))
    (l9 : K.lookup f9 = some ⟨oc9, od9, .func (PySem.W.fnOf "thinned" "thinned" (defArgs (top 17)) (defBody (top 17)) (defScope (top 17)) .none kV9 dc9 pm9 an9 cd9 ct9), sl9⟩)
    (c9 : PySem.W.codeIn K cd9 "thinned" = true) (k9 : PySem.W.keepIn K (.ref f9) = true)
    (a10 : PySem.W.nsIn K mainGlobals "parts_at" = some (some (.ref f10)))
    (l10 : K.lookup f10 = some ⟨oc10, od10, .func (PySem.W.fnOf "parts_at" "parts_at" (defArgs (top 18)) (defBody (top 18)) (defScope (top 18)) .none kV10 dc10 pm10 an10 cd10 ct10), sl10⟩)
    (c10 : PySem.W.codeIn K cd10 "parts_at" = true) (k10 : PySem.W.keepIn K (.ref f10) = true)
    (a11 : PySem.W.nsIn K mainGlobals "turned" = some (some (.ref f11)))
    (l11 : K.lookup f11 = some ⟨oc11, od11, .func (PySem.W.fnOf "turned" "turned" (defArgs (top 19)) (defBody (top 19)) (defScope (top 19)) .none kV11 dc11 pm11 an11 cd11 ct11), sl11⟩)
    (c11 : PySem.W.codeIn K cd11 "turned" = true) (k11 : PySem.W.keepIn K (.ref f11) = true)
    (a12 : PySem.W.nsIn K mainGlobals "behind" = some (some (.ref f12)))
    (l12 : K.lookup f12 = some ⟨oc12, od12, .func (PySem.W.fnOf "behind" "behind" (defArgs (top 20)) (defBody (top 20)) (defScope (top 20)) .none kV12 dc12 pm12 an12 cd12 ct12), sl12⟩)
    (c12 : PySem.W.codeIn K cd12 "behind" = true) (k12 : PySem.W.keepIn K (.ref f12) = true)
    (a13 : PySem.W.nsIn K mainGlobals "look_claims" = some (some (.ref f13)))
    (l13 : K.lookup f13 = some ⟨oc13, od13, .func (PySem.W.fnOf "look_claims" "look_claims" (defArgs (top 37)) (defBody (top 37)) (defScope (top 37)) .none kV13 dc13 pm13 an13 cd13 ct13), sl13⟩)
    (c13 : PySem.W.codeIn K cd13 "look_claims" = true) (k13 : PySem.W.keepIn K (.ref f13) = true)
    (a14 : PySem.W.nsIn K mainGlobals "all_of" = some (some (.ref f14)))
    (l14 : K.lookup f14 = some ⟨oc14, od14, .func (PySem.W.fnOf "all_of" "all_of" (defArgs (top 38)) (defBody (top 38)) (defScope (top 38)) .none kV14 dc14 pm14 an14 cd14 ct14), sl14⟩)
    (c14 : PySem.W.codeIn K cd14 "all_of" = true) (k14 : PySem.W.keepIn K (.ref f14) = true)
    (a15 : PySem.W.nsIn K mainGlobals "lesser" = some (some (.ref f15)))
    (l15 : K.lookup f15 = some ⟨oc15, od15, .func (PySem.W.fnOf "lesser" "lesser" (defArgs (top 39)) (defBody (top 39)) (defScope (top 39)) .none kV15 dc15 pm15 an15 cd15 ct15), sl15⟩)
    (c15 : PySem.W.codeIn K cd15 "lesser" = true) (k15 : PySem.W.keepIn K (.ref f15) = true)
    (a16 : PySem.W.nsIn K mainGlobals "risen" = some (some (.ref f16)))
    (l16 : K.lookup f16 = some ⟨oc16, od16, .func (PySem.W.fnOf "risen" "risen" (defArgs (top 40)) (defBody (top 40)) (defScope (top 40)) .none kV16 dc16 pm16 an16 cd16 ct16), sl16⟩)
    (c16 : PySem.W.codeIn K cd16 "risen" = true) (k16 : PySem.W.keepIn K (.ref f16) = true)
    (a17 : PySem.W.nsIn K mainGlobals "begin" = some (some (.ref f17)))
    (l17 : K.lookup f17 = some ⟨oc17, od17, .func (PySem.W.fnOf "begin" "begin" (defArgs (top 41)) (defBody (top 41)) (defScope (top 41)) .none kV17 dc17 pm17 an17 cd17 ct17), sl17⟩)
    (c17 : PySem.W.codeIn K cd17 "begin" = true) (k17 : PySem.W.keepIn K (.ref f17) = true)
    (a18 : PySem.W.nsIn K mainGlobals "cut" = some (some (.ref f18)))
    (l18 : K.lookup f18 = some ⟨oc18, od18, .func (PySem.W.fnOf "cut" "cut" (defArgs (top 42)) (defBody (top 42)) (defScope (top 42)) .none kV18 dc18 pm18 an18 cd18 ct18), sl18⟩)
    (c18 : PySem.W.codeIn K cd18 "cut" = true) (k18 : PySem.W.keepIn K (.ref f18) = true)
    (a19 : PySem.W.nsIn K mainGlobals "_law_cell_at" = some (some (.ref f19)))
    (l19 : K.lookup f19 = some ⟨oc19, od19, .func (PySem.W.fnOf "_law_cell_at" "_law_cell_at" (defArgs (top 45)) (defBody (top 45)) (defScope (top 45)) .none kV19 dc19 pm19 an19 cd19 ct19), sl19⟩)
    (c19 : PySem.W.codeIn K cd19 "_law_cell_at" = true) (k19 : PySem.W.keepIn K (.ref f19) = true)
    (a20 : PySem.W.nsIn K mainGlobals "_law_mixed" = some (some (.ref f20)))
    (l20 : K.lookup f20 = some ⟨oc20, od20, .func (PySem.W.fnOf "_law_mixed" "_law_mixed" (defArgs (top 46)) (defBody (top 46)) (defScope (top 46)) .none kV20 dc20 pm20 an20 cd20 ct20), sl20⟩)
    (c20 : PySem.W.codeIn K cd20 "_law_mixed" = true) (k20 : PySem.W.keepIn K (.ref f20) = true)
    (a21 : PySem.W.nsIn K mainGlobals "_law_divisor" = some (some (.ref f21)))
    (l21 : K.lookup f21 = some ⟨oc21, od21, .func (PySem.W.fnOf "_law_divisor" "_law_divisor" (defArgs (top 47)) (defBody (top 47)) (defScope (top 47)) .none kV21 dc21 pm21 an21 cd21 ct21), sl21⟩)
    (c21 : PySem.W.codeIn K cd21 "_law_divisor" = true) (k21 : PySem.W.keepIn K (.ref f21) = true)
    (a22 : PySem.W.nsIn K mainGlobals "_law_lowest" = some (some (.ref f22)))
    (l22 : K.lookup f22 = some ⟨oc22, od22, .func (PySem.W.fnOf "_law_lowest" "_law_lowest" (defArgs (top 48)) (defBody (top 48)) (defScope (top 48)) .none kV22 dc22 pm22 an22 cd22 ct22), sl22⟩)
    (c22 : PySem.W.codeIn K cd22 "_law_lowest" = true) (k22 : PySem.W.keepIn K (.ref f22) = true)
    (a23 : PySem.W.nsIn K mainGlobals "_law_whole" = some (some (.ref f23)))
    (l23 : K.lookup f23 = some ⟨oc23, od23, .func (PySem.W.fnOf "_law_whole" "_law_whole" (defArgs (top 49)) (defBody (top 49)) (defScope (top 49)) .none kV23 dc23 pm23 an23 cd23 ct23), sl23⟩)
    (c23 : PySem.W.codeIn K cd23 "_law_whole" = true) (k23 : PySem.W.keepIn K (.ref f23) = true)
    (a24 : PySem.W.nsIn K mainGlobals "_law_is_fraction" = some (some (.ref f24)))
    (l24 : K.lookup f24 = some ⟨oc24, od24, .func (PySem.W.fnOf "_law_is_fraction" "_law_is_fraction" (defArgs (top 50)) (defBody (top 50)) (defScope (top 50)) .none kV24 dc24 pm24 an24 cd24 ct24), sl24⟩)
    (c24 : PySem.W.codeIn K cd24 "_law_is_fraction" = true) (k24 : PySem.W.keepIn K (.ref f24) = true)
    (a25 : PySem.W.nsIn K mainGlobals "_law_labels" = some (some (.ref f25)))
    (l25 : K.lookup f25 = some ⟨oc25, od25, .func (PySem.W.fnOf "_law_labels" "_law_labels" (defArgs (top 51)) (defBody (top 51)) (defScope (top 51)) .none kV25 dc25 pm25 an25 cd25 ct25), sl25⟩)
    (c25 : PySem.W.codeIn K cd25 "_law_labels" = true) (k25 : PySem.W.keepIn K (.ref f25) = true)
    (a26 : PySem.W.nsIn K mainGlobals "_law_claims" = some (some (.ref f26)))
    (l26 : K.lookup f26 = some ⟨oc26, od26, .func (PySem.W.fnOf "_law_claims" "_law_claims" (defArgs (top 52)) (defBody (top 52)) (defScope (top 52)) .none kV26 dc26 pm26 an26 cd26 ct26), sl26⟩)
    (c26 : PySem.W.codeIn K cd26 "_law_claims" = true) (k26 : PySem.W.keepIn K (.ref f26) = true)
    (a27 : PySem.W.nsIn K mainGlobals "_law_even" = some (some (.ref f27)))
    (l27 : K.lookup f27 = some ⟨oc27, od27, .func (PySem.W.fnOf "_law_even" "_law_even" (defArgs (top 53)) (defBody (top 53)) (defScope (top 53)) .none kV27 dc27 pm27 an27 cd27 ct27), sl27⟩)
    (c27 : PySem.W.codeIn K cd27 "_law_even" = true) (k27 : PySem.W.keepIn K (.ref f27) = true)
    (a28 : PySem.W.nsIn K mainGlobals "_law_fits" = some (some (.ref f28)))
    (l28 : K.lookup f28 = some ⟨oc28, od28, .func (PySem.W.fnOf "_law_fits" "_law_fits" (defArgs (top 54)) (defBody (top 54)) (defScope (top 54)) .none kV28 dc28 pm28 an28 cd28 ct28), sl28⟩)
    (c28 : PySem.W.codeIn K cd28 "_law_fits" = true) (k28 : PySem.W.keepIn K (.ref f28) = true)
    (a29 : PySem.W.nsIn K mainGlobals "_law_upto_fit" = some (some (.ref f29)))
    (l29 : K.lookup f29 = some ⟨oc29, od29, .func (PySem.W.fnOf "_law_upto_fit" "_law_upto_fit" (defArgs (top 55)) (defBody (top 55)) (defScope (top 55)) .none kV29 dc29 pm29 an29 cd29 ct29), sl29⟩)
    (c29 : PySem.W.codeIn K cd29 "_law_upto_fit" = true) (k29 : PySem.W.keepIn K (.ref f29) = true)
    (a30 : PySem.W.nsIn K mainGlobals "_law_right" = some (some (.ref f30)))
    (l30 : K.lookup f30 = some ⟨oc30, od30, .func (PySem.W.fnOf "_law_right" "_law_right" (defArgs (top 58)) (defBody (top 58)) (defScope (top 58)) .none kV30 dc30 pm30 an30 cd30 ct30), sl30⟩)
    (c30 : PySem.W.codeIn K cd30 "_law_right" = true) (k30 : PySem.W.keepIn K (.ref f30) = true)
    (a31 : PySem.W.nsIn K mainGlobals "_law_rule" = some (some (.ref f31)))
    (l31 : K.lookup f31 = some ⟨oc31, od31, .func (PySem.W.fnOf "_law_rule" "_law_rule" (defArgs (top 59)) (defBody (top 59)) (defScope (top 59)) .none kV31 dc31 pm31 an31 cd31 ct31), sl31⟩)
    (c31 : PySem.W.codeIn K cd31 "_law_rule" = true) (k31 : PySem.W.keepIn K (.ref f31) = true)
    (a32 : PySem.W.nsIn K mainGlobals "_law_purse" = some (some (.ref f32)))
    (l32 : K.lookup f32 = some ⟨oc32, od32, .func (PySem.W.fnOf "_law_purse" "_law_purse" (defArgs (top 60)) (defBody (top 60)) (defScope (top 60)) .none kV32 dc32 pm32 an32 cd32 ct32), sl32⟩)
    (c32 : PySem.W.codeIn K cd32 "_law_purse" = true) (k32 : PySem.W.keepIn K (.ref f32) = true)
    (a33 : PySem.W.nsIn K mainGlobals "law" = some (some (.ref f33)))
    (l33 : K.lookup f33 = some ⟨oc33, od33, .func (PySem.W.fnOf "law" "law" (defArgs (top 61)) (defBody (top 61)) (defScope (top 61)) .none kV33 dc33 pm33 an33 cd33 ct33), sl33⟩)
    (c33 : PySem.W.codeIn K cd33 "law" = true) (k33 : PySem.W.keepIn K (.ref f33) = true)
    (l34 : K.lookup f34 = some ⟨oc34, od34, .func (PySem.W.fnOf "path" "Rule.path" (defArgs (inClass (top 27) 0)) (defBody (inClass (top 27) 0)) (defScope (inClass (top 27) 0)) .none kV34 dc34 pm34 an34 cd34 ct34), sl34⟩)
    (c34 : PySem.W.codeIn K cd34 "Rule.path" = true) (k34 : PySem.W.keepIn K (.ref f34) = true)
    (z34 : PySem.W.isFn K (.ref f34) = true)
    (l35 : K.lookup f35 = some ⟨oc35, od35, .func (PySem.W.fnOf "parts" "Rule.parts" (defArgs (inClass (top 27) 1)) (defBody (inClass (top 27) 1)) (defScope (inClass (top 27) 1)) .none kV35 dc35 pm35 an35 cd35 ct35), sl35⟩)
    (c35 : PySem.W.codeIn K cd35 "Rule.parts" = true) (k35 : PySem.W.keepIn K (.ref f35) = true)
    (z35 : PySem.W.isFn K (.ref f35) = true)
    (l36 : K.lookup f36 = some ⟨oc36, od36, .func (PySem.W.fnOf "divided" "Shares.divided" (defArgs (inClass (top 28) 1)) (defBody (inClass (top 28) 1)) (defScope (inClass (top 28) 1)) .none kV36 dc36 pm36 an36 cd36 ct36), sl36⟩)
    (c36 : PySem.W.codeIn K cd36 "Shares.divided" = true) (k36 : PySem.W.keepIn K (.ref f36) = true)
    (z36 : PySem.W.isFn K (.ref f36) = true)
    (l37 : K.lookup f37 = some ⟨oc37, od37, .func (PySem.W.fnOf "divided" "Evenly.divided" (defArgs (inClass (top 29) 1)) (defBody (inClass (top 29) 1)) (defScope (inClass (top 29) 1)) .none kV37 dc37 pm37 an37 cd37 ct37), sl37⟩)
    (c37 : PySem.W.codeIn K cd37 "Evenly.divided" = true) (k37 : PySem.W.keepIn K (.ref f37) = true)
    (z37 : PySem.W.isFn K (.ref f37) = true)
    (l38 : K.lookup f38 = some ⟨oc38, od38, .func (PySem.W.fnOf "divided" "Losses.divided" (defArgs (inClass (top 30) 1)) (defBody (inClass (top 30) 1)) (defScope (inClass (top 30) 1)) .none kV38 dc38 pm38 an38 cd38 ct38), sl38⟩)
    (c38 : PySem.W.codeIn K cd38 "Losses.divided" = true) (k38 : PySem.W.keepIn K (.ref f38) = true)
    (z38 : PySem.W.isFn K (.ref f38) = true)
    (l39 : K.lookup f39 = some ⟨oc39, od39, .func (PySem.W.fnOf "divided" "Halves.divided" (defArgs (inClass (top 31) 1)) (defBody (inClass (top 31) 1)) (defScope (inClass (top 31) 1)) .none kV39 dc39 pm39 an39 cd39 ct39), sl39⟩)
    (c39 : PySem.W.codeIn K cd39 "Halves.divided" = true) (k39 : PySem.W.keepIn K (.ref f39) = true)
    (z39 : PySem.W.isFn K (.ref f39) = true)
    (b1 : PySem.W.nsIn K mainGlobals "len" = some none)
    (b2 : PySem.W.nsIn K mainGlobals "abs" = some none)
    (b3 : PySem.W.nsIn K mainGlobals "max" = some none)
    (b4 : PySem.W.nsIn K mainGlobals "min" = some none)
    (b5 : PySem.W.nsIn K mainGlobals "sum" = some none)
    (b6 : PySem.W.nsIn K mainGlobals "sorted" = some none)
    (b7 : PySem.W.nsIn K mainGlobals "all" = some none)
    (b8 : PySem.W.nsIn K mainGlobals "int" = some none)
    (b9 : PySem.W.nsIn K mainGlobals "str" = some none)
    (b10 : PySem.W.nsIn K mainGlobals "list" = some none)
    (b11 : PySem.W.nsIn K mainGlobals "tuple" = some none)
    (b12 : PySem.W.nsIn K mainGlobals "bool" = some none)
    (b13 : PySem.W.nsIn K mainGlobals "isinstance" = some none)
    (b14 : PySem.W.nsIn K mainGlobals "range" = some none)
    (b15 : PySem.W.nsIn K mainGlobals "zip" = some none)
    (b16 : PySem.W.nsIn K mainGlobals "reversed" = some none)
    (b17 : PySem.W.nsIn K mainGlobals "set" = some none)
    (hn : PySem.W.specialIn K (.builtin "object.__class__") "__get__" = some (some (.builtin "getset_descriptor.__get__"))) (ht : PySem.W.takesIn K (.builtin "object.__class__") = some true)
    (o1 : PySem.W.nsIn K mainGlobals "Rule" = some (some (.ref O1)))
    (e1 : PySem.W.findIn K (.ref C1) "__class__" = some (some (.builtin "object.__class__")))
    (vo1_0 : PySem.W.kitOne K (.ref C1) (.ref O1) = some true)
    (e2 : PySem.W.findIn K (.ref C2) "__class__" = some (some (.builtin "object.__class__")))
    (vo2_0 : PySem.W.kitOne K (.ref C2) (.ref O1) = some true)
    (e3 : PySem.W.findIn K (.ref C3) "__class__" = some (some (.builtin "object.__class__")))
    (vo3_0 : PySem.W.kitOne K (.ref C3) (.ref O1) = some true)
    (e4 : PySem.W.findIn K (.ref C4) "__class__" = some (some (.builtin "object.__class__")))
    (vo4_0 : PySem.W.kitOne K (.ref C4) (.ref O1) = some true)
    (e5 : PySem.W.findIn K (.ref C5) "__class__" = some (some (.builtin "object.__class__")))
    (vo5_0 : PySem.W.kitOne K (.ref C5) (.ref O1) = some true)
    (e6 : PySem.W.findIn K (.ref C6) "__class__" = some (some (.builtin "object.__class__")))
    (vo6_0 : PySem.W.kitOne K (.ref C6) (.ref O1) = some true)
    (e7 : PySem.W.findIn K (.ref C7) "__class__" = some (some (.builtin "object.__class__")))
    (vo7_0 : PySem.W.kitOne K (.ref C7) (.ref O1) = some true)
    (e8 : PySem.W.findIn K (.ref C8) "__class__" = some (some (.builtin "object.__class__")))
    (vo8_0 : PySem.W.kitOne K (.ref C8) (.ref O1) = some true)
    (x1 : PySem.W.nsIn K mainGlobals "NoFraction" = some (some (.ref X1))) (q1 : PySem.W.excIn K X1 [.type "ValueError", .type "Exception", .type "BaseException", .type "object"] "ValueError.__new__" = true) (y1 : PySem.W.keepIn K (.ref X1) = true) (s1 : PySem.W.subIn K (.ref X1) (.type "BaseException") = some true) (t1 : PySem.W.typeIn K (.ref X1) = some (.type "type"))
    (x2 : PySem.W.nsIn K mainGlobals "NoPurse" = some (some (.ref X2))) (q2 : PySem.W.excIn K X2 [.type "ValueError", .type "Exception", .type "BaseException", .type "object"] "ValueError.__new__" = true) (y2 : PySem.W.keepIn K (.ref X2) = true) (s2 : PySem.W.subIn K (.ref X2) (.type "BaseException") = some true) (t2 : PySem.W.typeIn K (.ref X2) = some (.type "type"))
    (x3 : PySem.W.nsIn K mainGlobals "NoClaims" = some (some (.ref X3))) (q3 : PySem.W.excIn K X3 [.type "ValueError", .type "Exception", .type "BaseException", .type "object"] "ValueError.__new__" = true) (y3 : PySem.W.keepIn K (.ref X3) = true) (s3 : PySem.W.subIn K (.ref X3) (.type "BaseException") = some true) (t3 : PySem.W.typeIn K (.ref X3) = some (.type "type"))
    (g1 : PySem.W.nsIn K mainGlobals "NOTHING" = some (some (.ref GA1)))
    (h1 : K.lookup GA1 = some ⟨.type "tuple", gd1, .seq #[.int 0 gt1_0, .int 1 gt1_1] ge1, gs1⟩)
    (g2 : PySem.W.nsIn K mainGlobals "MOST" = some (some (.int 8 gt2)))
    (g3 : PySem.W.nsIn K mainGlobals "HALF" = some (some (.ref GA3)))
    (h3 : K.lookup GA3 = some ⟨.type "tuple", gd3, .seq #[.int 1 gt3_0, .int 2 gt3_1] ge3, gs3⟩) :
    ∃ cl ex, Facts T Dd K mg cl ex := by
  have K1 : ClK K C1 [] := ⟨⟨p1a, p1b, p1c, p1d⟩, (fun _ z => by cases z), by decide +kernel, by decide⟩
  have K2 : ClK K C2 [] := ⟨⟨p2a, p2b, p2c, p2d⟩, (fun _ z => by cases z), by decide +kernel, by decide⟩
  have K3 : ClK K C3 [] := ⟨⟨p3a, p3b, p3c, p3d⟩, (fun _ z => by cases z), by decide +kernel, by decide⟩
  have K4 : ClK K C4 [] := ⟨⟨p4a, p4b, p4c, p4d⟩, (fun _ z => by cases z), by decide +kernel, by decide⟩
  have K5 : ClK K C5 [Str.ofString "inner"] := ⟨⟨p5a, p5b, p5c, p5d⟩, List.forall_mem_cons.mpr ⟨r5_0, (fun _ z => by cases z)⟩, by decide +kernel, by decide⟩
  have K6 : ClK K C6 [Str.ofString "inner"] := ⟨⟨p6a, p6b, p6c, p6d⟩, List.forall_mem_cons.mpr ⟨r6_0, (fun _ z => by cases z)⟩, by decide +kernel, by decide⟩
  have K7 : ClK K C7 [Str.ofString "outer", Str.ofString "inner"] := ⟨⟨p7a, p7b, p7c, p7d⟩, List.forall_mem_cons.mpr ⟨r7_0, List.forall_mem_cons.mpr ⟨r7_1, (fun _ z => by cases z)⟩⟩, by decide +kernel, by decide⟩
  have K8 : ClK K C8 [Str.ofString "portion", Str.ofString "first", Str.ofString "last"] := ⟨⟨p8a, p8b, p8c, p8d⟩, List.forall_mem_cons.mpr ⟨r8_0, List.forall_mem_cons.mpr ⟨r8_1, List.forall_mem_cons.mpr ⟨r8_2, (fun _ z => by cases z)⟩⟩⟩, by decide +kernel, by decide⟩
  refine ⟨fun s => if s = "NoFraction" then some (X1, []) else if s = "NoPurse" then some (X2, []) else if s = "NoClaims" then some (X3, []) else if s = "Shares" then some (C1, []) else if s = "Evenly" then some (C2, []) else if s = "Losses" then some (C3, []) else if s = "Halves" then some (C4, []) else if s = "Other" then some (C5, [Str.ofString "inner"]) else if s = "Ranks" then some (C6, [Str.ofString "inner"]) else if s = "Groups" then some (C7, [Str.ofString "outer", Str.ofString "inner"]) else if s = "Upto" then some (C8, [Str.ofString "portion", Str.ofString "first", Str.ofString "last"]) else none, fun s => if s = "NoFraction" then some X1 else if s = "NoPurse" then some X2 else if s = "NoClaims" then some X3 else none, List.forall_mem_cons.mpr ⟨fun _ => ⟨f1, _, PySem.W.mg_of X G a1, fun_mk (st := top 7) l1 c1 k1, fun us hl => match us, hl with | [_, _], _ => rfl⟩, List.forall_mem_cons.mpr ⟨fun _ => ⟨f2, _, PySem.W.mg_of X G a2, fun_mk (st := top 8) l2 c2 k2, fun us hl => match us, hl with | [_, _], _ => rfl⟩, List.forall_mem_cons.mpr ⟨fun _ => ⟨f3, _, PySem.W.mg_of X G a3, fun_mk (st := top 9) l3 c3 k3, fun us hl => match us, hl with | [_, _], _ => rfl⟩, List.forall_mem_cons.mpr ⟨fun _ => ⟨f4, _, PySem.W.mg_of X G a4, fun_mk (st := top 10) l4 c4 k4, fun us hl => match us, hl with | [_, _], _ => rfl⟩, List.forall_mem_cons.mpr ⟨fun _ => ⟨f5, _, PySem.W.mg_of X G a5, fun_mk (st := top 11) l5 c5 k5, fun us hl => match us, hl with | [_, _], _ => rfl⟩, List.forall_mem_cons.mpr ⟨fun _ => ⟨f6, _, PySem.W.mg_of X G a6, fun_mk (st := top 12) l6 c6 k6, fun us hl => match us, hl with | [_, _], _ => rfl⟩, List.forall_mem_cons.mpr ⟨fun _ => ⟨f7, _, PySem.W.mg_of X G a7, fun_mk (st := top 13) l7 c7 k7, fun us hl => match us, hl with | [_, _], _ => rfl⟩, List.forall_mem_cons.mpr ⟨fun _ => ⟨f8, _, PySem.W.mg_of X G a8, fun_mk (st := top 16) l8 c8 k8, fun us hl => match us, hl with | [_, _, _], _ => rfl⟩, List.forall_mem_cons.mpr ⟨fun _ => ⟨f9, _, PySem.W.mg_of X G a9, fun_mk (st := top 17) l9 c9 k9, fun us hl => match us, hl with | [_], _ => rfl⟩, List.forall_mem_cons.mpr ⟨fun _ => ⟨f10, _, PySem.W.mg_of X G a10, fun_mk (st := top 18) l10 c10 k10, fun us hl => match us, hl with | [_, _], _ => rfl⟩, List.forall_mem_cons.mpr ⟨fun _ => ⟨f11, _, PySem.W.mg_of X G a11, fun_mk (st := top 19) l11 c11 k11, fun us hl => match us, hl with | [_], _ => rfl⟩, List.forall_mem_cons.mpr ⟨fun _ => ⟨f12, _, PySem.W.mg_of X G a12, fun_mk (st := top 20) l12 c12 k12, fun us hl => match us, hl with | [_, _], _ => rfl⟩, List.forall_mem_cons.mpr ⟨fun _ => ⟨f13, _, PySem.W.mg_of X G a13, fun_mk (st := top 37) l13 c13 k13, fun us hl => match us, hl with | [_], _ => rfl⟩, List.forall_mem_cons.mpr ⟨fun _ => ⟨f14, _, PySem.W.mg_of X G a14, fun_mk (st := top 38) l14 c14 k14, fun us hl => match us, hl with | [_], _ => rfl⟩, List.forall_mem_cons.mpr ⟨fun _ => ⟨f15, _, PySem.W.mg_of X G a15, fun_mk (st := top 39) l15 c15 k15, fun us hl => match us, hl with | [_, _], _ => rfl⟩, List.forall_mem_cons.mpr ⟨fun _ => ⟨f16, _, PySem.W.mg_of X G a16, fun_mk (st := top 40) l16 c16 k16, fun us hl => match us, hl with | [_, _], _ => rfl⟩, List.forall_mem_cons.mpr ⟨fun _ => ⟨f17, _, PySem.W.mg_of X G a17, fun_mk (st := top 41) l17 c17 k17, fun us hl => match us, hl with | [_], _ => rfl⟩, List.forall_mem_cons.mpr ⟨fun _ => ⟨f18, _, PySem.W.mg_of X G a18, fun_mk (st := top 42) l18 c18 k18, fun us hl => match us, hl with | [_, _], _ => rfl⟩, List.forall_mem_cons.mpr ⟨fun _ => ⟨f19, _, PySem.W.mg_of X G a19, fun_mk (st := top 45) l19 c19 k19, fun us hl => match us, hl with | [_, _], _ => rfl⟩, List.forall_mem_cons.mpr ⟨fun _ => ⟨f20, _, PySem.W.mg_of X G a20, fun_mk (st := top 46) l20 c20 k20, fun us hl => match us, hl with | [_, _], _ => rfl⟩, List.forall_mem_cons.mpr ⟨fun _ => ⟨f21, _, PySem.W.mg_of X G a21, fun_mk (st := top 47) l21 c21 k21, fun us hl => match us, hl with | [_, _], _ => rfl⟩, List.forall_mem_cons.mpr ⟨fun _ => ⟨f22, _, PySem.W.mg_of X G a22, fun_mk (st := top 48) l22 c22 k22, fun us hl => match us, hl with | [_, _], _ => rfl⟩, List.forall_mem_cons.mpr ⟨fun _ => ⟨f23, _, PySem.W.mg_of X G a23, fun_mk (st := top 49) l23 c23 k23, fun us hl => match us, hl with | [_], _ => rfl⟩, List.forall_mem_cons.mpr ⟨fun _ => ⟨f24, _, PySem.W.mg_of X G a24, fun_mk (st := top 50) l24 c24 k24, fun us hl => match us, hl with | [_], _ => rfl⟩, List.forall_mem_cons.mpr ⟨fun _ => ⟨f25, _, PySem.W.mg_of X G a25, fun_mk (st := top 51) l25 c25 k25, fun us hl => match us, hl with | [_], _ => rfl⟩, List.forall_mem_cons.mpr ⟨fun _ => ⟨f26, _, PySem.W.mg_of X G a26, fun_mk (st := top 52) l26 c26 k26, fun us hl => match us, hl with | [_, _, _, _], _ => rfl⟩, List.forall_mem_cons.mpr ⟨fun _ => ⟨f27, _, PySem.W.mg_of X G a27, fun_mk (st := top 53) l27 c27 k27, fun us hl => match us, hl with | [_, _], _ => rfl⟩, List.forall_mem_cons.mpr ⟨fun _ => ⟨f28, _, PySem.W.mg_of X G a28, fun_mk (st := top 54) l28 c28 k28, fun us hl => match us, hl with | [_, _, _], _ => rfl⟩, List.forall_mem_cons.mpr ⟨fun _ => ⟨f29, _, PySem.W.mg_of X G a29, fun_mk (st := top 55) l29 c29 k29, fun us hl => match us, hl with | [_, _, _], _ => rfl⟩, List.forall_mem_cons.mpr ⟨fun _ => ⟨f30, _, PySem.W.mg_of X G a30, fun_mk (st := top 58) l30 c30 k30, fun us hl => match us, hl with | [_, _, _, _], _ => rfl⟩, List.forall_mem_cons.mpr ⟨fun _ => ⟨f31, _, PySem.W.mg_of X G a31, fun_mk (st := top 59) l31 c31 k31, fun us hl => match us, hl with | [_], _ => rfl⟩, List.forall_mem_cons.mpr ⟨fun _ => ⟨f32, _, PySem.W.mg_of X G a32, fun_mk (st := top 60) l32 c32 k32, fun us hl => match us, hl with | [_, _], _ => rfl⟩, List.forall_mem_cons.mpr ⟨fun _ => ⟨f33, _, PySem.W.mg_of X G a33, fun_mk (st := top 61) l33 c33 k33, fun us hl => match us, hl with | [_], _ => rfl⟩, List.forall_mem_cons.mpr ⟨fun z => absurd z (by decide), List.forall_mem_cons.mpr ⟨fun z => absurd z (by decide), List.forall_mem_cons.mpr ⟨fun z => absurd z (by decide), List.forall_mem_cons.mpr ⟨fun z => absurd z (by decide), List.forall_mem_cons.mpr ⟨fun z => absurd z (by decide), List.forall_mem_cons.mpr ⟨fun z => absurd z (by decide), (fun _ z => by cases z)⟩⟩⟩⟩⟩⟩⟩⟩⟩⟩⟩⟩⟩⟩⟩⟩⟩⟩⟩⟩⟩⟩⟩⟩⟩⟩⟩⟩⟩⟩⟩⟩⟩⟩⟩⟩⟩⟩⟩, ?new, ?fld, ?meth, List.forall_mem_cons.mpr ⟨PySem.W.mg_none_of X G b1, List.forall_mem_cons.mpr ⟨PySem.W.mg_none_of X G b2, List.forall_mem_cons.mpr ⟨PySem.W.mg_none_of X G b3, List.forall_mem_cons.mpr ⟨PySem.W.mg_none_of X G b4, List.forall_mem_cons.mpr ⟨PySem.W.mg_none_of X G b5, List.forall_mem_cons.mpr ⟨PySem.W.mg_none_of X G b6, List.forall_mem_cons.mpr ⟨PySem.W.mg_none_of X G b7, List.forall_mem_cons.mpr ⟨PySem.W.mg_none_of X G b8, List.forall_mem_cons.mpr ⟨PySem.W.mg_none_of X G b9, List.forall_mem_cons.mpr ⟨PySem.W.mg_none_of X G b10, List.forall_mem_cons.mpr ⟨PySem.W.mg_none_of X G b11, List.forall_mem_cons.mpr ⟨PySem.W.mg_none_of X G b12, List.forall_mem_cons.mpr ⟨PySem.W.mg_none_of X G b13, List.forall_mem_cons.mpr ⟨PySem.W.mg_none_of X G b14, List.forall_mem_cons.mpr ⟨PySem.W.mg_none_of X G b15, List.forall_mem_cons.mpr ⟨PySem.W.mg_none_of X G b16, List.forall_mem_cons.mpr ⟨PySem.W.mg_none_of X G b17, (fun _ z => by cases z)⟩⟩⟩⟩⟩⟩⟩⟩⟩⟩⟩⟩⟩⟩⟩⟩⟩, ?gl, ?isC, ?tr, ?exCl, ?_⟩
  case new =>
    intro k hk
    have hk : k ∈ ["Shares", "Evenly", "Losses", "Halves", "Other", "Ranks", "Groups", "Upto"] := List.contains_iff_mem.mp hk
    rcases List.mem_cons.mp hk with rfl | hk
    · exact ⟨[], C1, rfl, PySem.W.mg_of X G n1, rfl, .obj rfl p1e i1 p1g p1f⟩
    rcases List.mem_cons.mp hk with rfl | hk
    · exact ⟨[], C2, rfl, PySem.W.mg_of X G n2, rfl, .obj rfl p2e i2 p2g p2f⟩
    rcases List.mem_cons.mp hk with rfl | hk
    · exact ⟨[], C3, rfl, PySem.W.mg_of X G n3, rfl, .obj rfl p3e i3 p3g p3f⟩
    rcases List.mem_cons.mp hk with rfl | hk
    · exact ⟨[], C4, rfl, PySem.W.mg_of X G n4, rfl, .obj rfl p4e i4 p4g p4f⟩
    rcases List.mem_cons.mp hk with rfl | hk
    · exact ⟨["inner"], C5, rfl, PySem.W.mg_of X G n5, rfl, .ini (N := [Str.ofString "self", Str.ofString "inner"]) (qual := Str.ofString "Lone.__init__") (by decide +kernel) ⟨p5e, i5, zi1, p5f⟩ (fun_mk (st := (inClass (top 32) 0)) li1 ci1 ki1) (fun us hl => match us, hl with | [_, _], _ => rfl)⟩
    rcases List.mem_cons.mp hk with rfl | hk
    · exact ⟨["inner"], C6, rfl, PySem.W.mg_of X G n6, rfl, .ini (N := [Str.ofString "self", Str.ofString "inner"]) (qual := Str.ofString "Lone.__init__") (by decide +kernel) ⟨p6e, i6, zi1, p6f⟩ (fun_mk (st := (inClass (top 32) 0)) li1 ci1 ki1) (fun us hl => match us, hl with | [_, _], _ => rfl)⟩
    rcases List.mem_cons.mp hk with rfl | hk
    · exact ⟨["outer", "inner"], C7, rfl, PySem.W.mg_of X G n7, rfl, .ini (N := [Str.ofString "self", Str.ofString "outer", Str.ofString "inner"]) (qual := Str.ofString "Groups.__init__") (by decide +kernel) ⟨p7e, i7, zi2, p7f⟩ (fun_mk (st := (inClass (top 35) 0)) li2 ci2 ki2) (fun us hl => match us, hl with | [_, _, _], _ => rfl)⟩
    rcases List.mem_cons.mp hk with rfl | hk
    · exact ⟨["portion", "first", "last"], C8, rfl, PySem.W.mg_of X G n8, rfl, .ini (N := [Str.ofString "self", Str.ofString "portion", Str.ofString "first", Str.ofString "last"]) (qual := Str.ofString "Upto.__init__") (by decide +kernel) ⟨p8e, i8, zi3, p8f⟩ (fun_mk (st := (inClass (top 36) 0)) li3 ci3 ki3) (fun us hl => match us, hl with | [_, _, _, _], _ => rfl)⟩
    cases hk
  case fld =>
    intro k fs h
    have h : fieldsT k = some fs := h
    by_cases w1 : k = "Shares"
    · subst w1; have h : some [] = some fs := h; cases h; exact ⟨C1, rfl, K1⟩
    by_cases w2 : k = "Evenly"
    · subst w2; have h : some [] = some fs := h; cases h; exact ⟨C2, rfl, K2⟩
    by_cases w3 : k = "Losses"
    · subst w3; have h : some [] = some fs := h; cases h; exact ⟨C3, rfl, K3⟩
    by_cases w4 : k = "Halves"
    · subst w4; have h : some [] = some fs := h; cases h; exact ⟨C4, rfl, K4⟩
    by_cases w5 : k = "Other"
    · subst w5; have h : some ["inner"] = some fs := h; cases h; exact ⟨C5, rfl, K5⟩
    by_cases w6 : k = "Ranks"
    · subst w6; have h : some ["inner"] = some fs := h; cases h; exact ⟨C6, rfl, K6⟩
    by_cases w7 : k = "Groups"
    · subst w7; have h : some ["outer", "inner"] = some fs := h; cases h; exact ⟨C7, rfl, K7⟩
    by_cases w8 : k = "Upto"
    · subst w8; have h : some ["portion", "first", "last"] = some fs := h; cases h; exact ⟨C8, rfl, K8⟩
    unfold fieldsT at h
    rw [if_neg w1, if_neg w2, if_neg w3, if_neg w4, if_neg w5, if_neg w6, if_neg w7, if_neg w8] at h
    cases h
  case meth =>
    intro k m f h
    have h : mroT k m = some f := h
    by_cases w1 : k = "Shares"
    · subst w1
      by_cases g0 : m = "parts"
      · subst g0; have h : some "Rule.parts" = some f := h; cases h; exact ⟨by decide, C1, [], f35, _, rfl, K1, by decide +kernel, ⟨m1_0, z35, k35⟩, fun_mk (st := (inClass (top 27) 1)) l35 c35 k35, fun us hl => match us, hl with | [_, _, _], _ => rfl⟩
      by_cases g1 : m = "divided"
      · subst g1; have h : some "Shares.divided" = some f := h; cases h; exact ⟨by decide, C1, [], f36, _, rfl, K1, by decide +kernel, ⟨m1_1, z36, k36⟩, fun_mk (st := (inClass (top 28) 1)) l36 c36 k36, fun us hl => match us, hl with | [_, _], _ => rfl⟩
      by_cases g2 : m = "path"
      · subst g2; have h : some "Rule.path" = some f := h; cases h; exact ⟨by decide, C1, [], f34, _, rfl, K1, by decide +kernel, ⟨m1_2, z34, k34⟩, fun_mk (st := (inClass (top 27) 0)) l34 c34 k34, fun us hl => match us, hl with | [_, _], _ => rfl⟩
      have h : (if m = "parts" then some "Rule.parts" else if m = "divided" then some "Shares.divided" else if m = "path" then some "Rule.path" else none) = some f := h
      rw [if_neg g0, if_neg g1, if_neg g2] at h
      cases h
    by_cases w2 : k = "Evenly"
    · subst w2
      by_cases g0 : m = "parts"
      · subst g0; have h : some "Rule.parts" = some f := h; cases h; exact ⟨by decide, C2, [], f35, _, rfl, K2, by decide +kernel, ⟨m2_0, z35, k35⟩, fun_mk (st := (inClass (top 27) 1)) l35 c35 k35, fun us hl => match us, hl with | [_, _, _], _ => rfl⟩
      by_cases g1 : m = "divided"
      · subst g1; have h : some "Evenly.divided" = some f := h; cases h; exact ⟨by decide, C2, [], f37, _, rfl, K2, by decide +kernel, ⟨m2_1, z37, k37⟩, fun_mk (st := (inClass (top 29) 1)) l37 c37 k37, fun us hl => match us, hl with | [_, _], _ => rfl⟩
      by_cases g2 : m = "path"
      · subst g2; have h : some "Rule.path" = some f := h; cases h; exact ⟨by decide, C2, [], f34, _, rfl, K2, by decide +kernel, ⟨m2_2, z34, k34⟩, fun_mk (st := (inClass (top 27) 0)) l34 c34 k34, fun us hl => match us, hl with | [_, _], _ => rfl⟩
      have h : (if m = "parts" then some "Rule.parts" else if m = "divided" then some "Evenly.divided" else if m = "path" then some "Rule.path" else none) = some f := h
      rw [if_neg g0, if_neg g1, if_neg g2] at h
      cases h
    by_cases w3 : k = "Losses"
    · subst w3
      by_cases g0 : m = "parts"
      · subst g0; have h : some "Rule.parts" = some f := h; cases h; exact ⟨by decide, C3, [], f35, _, rfl, K3, by decide +kernel, ⟨m3_0, z35, k35⟩, fun_mk (st := (inClass (top 27) 1)) l35 c35 k35, fun us hl => match us, hl with | [_, _, _], _ => rfl⟩
      by_cases g1 : m = "divided"
      · subst g1; have h : some "Losses.divided" = some f := h; cases h; exact ⟨by decide, C3, [], f38, _, rfl, K3, by decide +kernel, ⟨m3_1, z38, k38⟩, fun_mk (st := (inClass (top 30) 1)) l38 c38 k38, fun us hl => match us, hl with | [_, _], _ => rfl⟩
      by_cases g2 : m = "path"
      · subst g2; have h : some "Rule.path" = some f := h; cases h; exact ⟨by decide, C3, [], f34, _, rfl, K3, by decide +kernel, ⟨m3_2, z34, k34⟩, fun_mk (st := (inClass (top 27) 0)) l34 c34 k34, fun us hl => match us, hl with | [_, _], _ => rfl⟩
      have h : (if m = "parts" then some "Rule.parts" else if m = "divided" then some "Losses.divided" else if m = "path" then some "Rule.path" else none) = some f := h
      rw [if_neg g0, if_neg g1, if_neg g2] at h
      cases h
    by_cases w4 : k = "Halves"
    · subst w4
      by_cases g0 : m = "parts"
      · subst g0; have h : some "Rule.parts" = some f := h; cases h; exact ⟨by decide, C4, [], f35, _, rfl, K4, by decide +kernel, ⟨m4_0, z35, k35⟩, fun_mk (st := (inClass (top 27) 1)) l35 c35 k35, fun us hl => match us, hl with | [_, _, _], _ => rfl⟩
      by_cases g1 : m = "divided"
      · subst g1; have h : some "Halves.divided" = some f := h; cases h; exact ⟨by decide, C4, [], f39, _, rfl, K4, by decide +kernel, ⟨m4_1, z39, k39⟩, fun_mk (st := (inClass (top 31) 1)) l39 c39 k39, fun us hl => match us, hl with | [_, _], _ => rfl⟩
      by_cases g2 : m = "path"
      · subst g2; have h : some "Rule.path" = some f := h; cases h; exact ⟨by decide, C4, [], f34, _, rfl, K4, by decide +kernel, ⟨m4_2, z34, k34⟩, fun_mk (st := (inClass (top 27) 0)) l34 c34 k34, fun us hl => match us, hl with | [_, _], _ => rfl⟩
      have h : (if m = "parts" then some "Rule.parts" else if m = "divided" then some "Halves.divided" else if m = "path" then some "Rule.path" else none) = some f := h
      rw [if_neg g0, if_neg g1, if_neg g2] at h
      cases h
    by_cases w5 : k = "Other"
    · subst w5
      by_cases g0 : m = "parts"
      · subst g0; have h : some "Rule.parts" = some f := h; cases h; exact ⟨by decide, C5, [Str.ofString "inner"], f35, _, rfl, K5, by decide +kernel, ⟨m5_0, z35, k35⟩, fun_mk (st := (inClass (top 27) 1)) l35 c35 k35, fun us hl => match us, hl with | [_, _, _], _ => rfl⟩
      by_cases g1 : m = "path"
      · subst g1; have h : some "Rule.path" = some f := h; cases h; exact ⟨by decide, C5, [Str.ofString "inner"], f34, _, rfl, K5, by decide +kernel, ⟨m5_2, z34, k34⟩, fun_mk (st := (inClass (top 27) 0)) l34 c34 k34, fun us hl => match us, hl with | [_, _], _ => rfl⟩
      have h : (if m = "parts" then some "Rule.parts" else if m = "path" then some "Rule.path" else none) = some f := h
      rw [if_neg g0, if_neg g1] at h
      cases h
    by_cases w6 : k = "Ranks"
    · subst w6
      by_cases g0 : m = "parts"
      · subst g0; have h : some "Rule.parts" = some f := h; cases h; exact ⟨by decide, C6, [Str.ofString "inner"], f35, _, rfl, K6, by decide +kernel, ⟨m6_0, z35, k35⟩, fun_mk (st := (inClass (top 27) 1)) l35 c35 k35, fun us hl => match us, hl with | [_, _, _], _ => rfl⟩
      by_cases g1 : m = "path"
      · subst g1; have h : some "Rule.path" = some f := h; cases h; exact ⟨by decide, C6, [Str.ofString "inner"], f34, _, rfl, K6, by decide +kernel, ⟨m6_2, z34, k34⟩, fun_mk (st := (inClass (top 27) 0)) l34 c34 k34, fun us hl => match us, hl with | [_, _], _ => rfl⟩
      have h : (if m = "parts" then some "Rule.parts" else if m = "path" then some "Rule.path" else none) = some f := h
      rw [if_neg g0, if_neg g1] at h
      cases h
    by_cases w7 : k = "Groups"
    · subst w7
      by_cases g0 : m = "parts"
      · subst g0; have h : some "Rule.parts" = some f := h; cases h; exact ⟨by decide, C7, [Str.ofString "outer", Str.ofString "inner"], f35, _, rfl, K7, by decide +kernel, ⟨m7_0, z35, k35⟩, fun_mk (st := (inClass (top 27) 1)) l35 c35 k35, fun us hl => match us, hl with | [_, _, _], _ => rfl⟩
      by_cases g1 : m = "path"
      · subst g1; have h : some "Rule.path" = some f := h; cases h; exact ⟨by decide, C7, [Str.ofString "outer", Str.ofString "inner"], f34, _, rfl, K7, by decide +kernel, ⟨m7_2, z34, k34⟩, fun_mk (st := (inClass (top 27) 0)) l34 c34 k34, fun us hl => match us, hl with | [_, _], _ => rfl⟩
      have h : (if m = "parts" then some "Rule.parts" else if m = "path" then some "Rule.path" else none) = some f := h
      rw [if_neg g0, if_neg g1] at h
      cases h
    by_cases w8 : k = "Upto"
    · subst w8
      by_cases g0 : m = "parts"
      · subst g0; have h : some "Rule.parts" = some f := h; cases h; exact ⟨by decide, C8, [Str.ofString "portion", Str.ofString "first", Str.ofString "last"], f35, _, rfl, K8, by decide +kernel, ⟨m8_0, z35, k35⟩, fun_mk (st := (inClass (top 27) 1)) l35 c35 k35, fun us hl => match us, hl with | [_, _, _], _ => rfl⟩
      by_cases g1 : m = "path"
      · subst g1; have h : some "Rule.path" = some f := h; cases h; exact ⟨by decide, C8, [Str.ofString "portion", Str.ofString "first", Str.ofString "last"], f34, _, rfl, K8, by decide +kernel, ⟨m8_2, z34, k34⟩, fun_mk (st := (inClass (top 27) 0)) l34 c34 k34, fun us hl => match us, hl with | [_, _], _ => rfl⟩
      have h : (if m = "parts" then some "Rule.parts" else if m = "path" then some "Rule.path" else none) = some f := h
      rw [if_neg g0, if_neg g1] at h
      cases h
    unfold mroT at h
    rw [if_neg w1, if_neg w2, if_neg w3, if_neg w4, if_neg w5, if_neg w6, if_neg w7, if_neg w8] at h
    cases h
  case gl => 
    intro x d q
    change glT x = some d at q
    unfold glT at q
    by_cases e0 : x = "NOTHING"
    · subst e0; rw [if_pos rfl] at q; cases q; exact ⟨.ref GA1, _, PySem.W.mg_of X G g1, rfl, .tup (xs := [V.int 0, V.int 1]) (.inr ⟨_, _, _, h1, rfl, rfl, (by show 2 ≤ sizeLine; rw [sizeLine_eq]; decide), .cons ⟨_, rfl⟩ (.cons ⟨_, rfl⟩ (.nil))⟩) (.cons (.int _) (.cons (.int _) (RepA.nil)))⟩
    rw [if_neg e0] at q
    by_cases e1 : x = "MOST"
    · subst e1; rw [if_pos rfl] at q; cases q; exact ⟨.int 8, _, PySem.W.mg_of X G g2, ⟨_, rfl⟩, .int _⟩
    rw [if_neg e1] at q
    by_cases e2 : x = "HALF"
    · subst e2; rw [if_pos rfl] at q; cases q; exact ⟨.ref GA3, _, PySem.W.mg_of X G g3, rfl, .tup (xs := [V.int 1, V.int 2]) (.inr ⟨_, _, _, h3, rfl, rfl, (by show 2 ≤ sizeLine; rw [sizeLine_eq]; decide), .cons ⟨_, rfl⟩ (.cons ⟨_, rfl⟩ (.nil))⟩) (.cons (.int _) (.cons (.int _) (RepA.nil)))⟩
    rw [if_neg e2] at q
    cases q
  case isC =>
    intro k hk
    have hk : k ∈ ["Rule"] := List.contains_iff_mem.mp hk
    rcases List.mem_cons.mp hk with rfl | hk
    · refine ⟨.ref O1, .ref O1, .own _, rfl, .inl (PySem.W.mg_of X G o1), ?_, ?_⟩
      · intro e C ns b h1 h2
        have h2 : isxT e "Rule" = some b := h2
        unfold isxT at h2
        cases h2
      · intro e C ns b h1 h2
        by_cases w1 : e = "Shares"
        · subst w1
          have h1 : some (C1, []) = some (C, ns) := h1
          have h2 : some true = some b := h2
          cases h1; cases h2
          exact ⟨⟨⟨p1a, p1b, p1c, p1d⟩, e1, hn, ht, p1g⟩, vo1_0⟩
        by_cases w2 : e = "Evenly"
        · subst w2
          have h1 : some (C2, []) = some (C, ns) := h1
          have h2 : some true = some b := h2
          cases h1; cases h2
          exact ⟨⟨⟨p2a, p2b, p2c, p2d⟩, e2, hn, ht, p2g⟩, vo2_0⟩
        by_cases w3 : e = "Losses"
        · subst w3
          have h1 : some (C3, []) = some (C, ns) := h1
          have h2 : some true = some b := h2
          cases h1; cases h2
          exact ⟨⟨⟨p3a, p3b, p3c, p3d⟩, e3, hn, ht, p3g⟩, vo3_0⟩
        by_cases w4 : e = "Halves"
        · subst w4
          have h1 : some (C4, []) = some (C, ns) := h1
          have h2 : some true = some b := h2
          cases h1; cases h2
          exact ⟨⟨⟨p4a, p4b, p4c, p4d⟩, e4, hn, ht, p4g⟩, vo4_0⟩
        by_cases w5 : e = "Other"
        · subst w5
          have h1 : some (C5, [Str.ofString "inner"]) = some (C, ns) := h1
          have h2 : some true = some b := h2
          cases h1; cases h2
          exact ⟨⟨⟨p5a, p5b, p5c, p5d⟩, e5, hn, ht, p5g⟩, vo5_0⟩
        by_cases w6 : e = "Ranks"
        · subst w6
          have h1 : some (C6, [Str.ofString "inner"]) = some (C, ns) := h1
          have h2 : some true = some b := h2
          cases h1; cases h2
          exact ⟨⟨⟨p6a, p6b, p6c, p6d⟩, e6, hn, ht, p6g⟩, vo6_0⟩
        by_cases w7 : e = "Groups"
        · subst w7
          have h1 : some (C7, [Str.ofString "outer", Str.ofString "inner"]) = some (C, ns) := h1
          have h2 : some true = some b := h2
          cases h1; cases h2
          exact ⟨⟨⟨p7a, p7b, p7c, p7d⟩, e7, hn, ht, p7g⟩, vo7_0⟩
        by_cases w8 : e = "Upto"
        · subst w8
          have h1 : some (C8, [Str.ofString "portion", Str.ofString "first", Str.ofString "last"]) = some (C, ns) := h1
          have h2 : some true = some b := h2
          cases h1; cases h2
          exact ⟨⟨⟨p8a, p8b, p8c, p8d⟩, e8, hn, ht, p8g⟩, vo8_0⟩
        have h2 : isiT e "Rule" = some b := h2
        unfold isiT at h2
        rw [if_neg w1, if_neg w2, if_neg w3, if_neg w4, if_neg w5, if_neg w6, if_neg w7, if_neg w8] at h2
        cases h2
    cases hk
  case tr => exact fun _ z => by cases z
  case exCl =>
    intro e C h
    by_cases e1 : e = "NoFraction"
    · subst e1
      have h : some X1 = some C := h
      cases h; exact ⟨[], rfl⟩
    by_cases e2 : e = "NoPurse"
    · subst e2
      have h : some X2 = some C := h
      cases h; exact ⟨[], rfl⟩
    by_cases e3 : e = "NoClaims"
    · subst e3
      have h : some X3 = some C := h
      cases h; exact ⟨[], rfl⟩
    exfalso
    revert h
    simp only [if_neg e1, if_neg e2, if_neg e3]
    intro h; cases h
  intro k hk
  have hk : k ∈ ["NoFraction", "NoPurse", "NoClaims"] := List.contains_iff_mem.mp hk
  rcases List.mem_cons.mp hk with rfl | hk
  · exact ⟨X1, rfl, PySem.W.mg_of X G x1, q1, y1, s1, t1⟩
  rcases List.mem_cons.mp hk with rfl | hk
  · exact ⟨X2, rfl, PySem.W.mg_of X G x2, q2, y2, s2, t2⟩
  rcases List.mem_cons.mp hk with rfl | hk
  · exact ⟨X3, rfl, PySem.W.mg_of X G x3, q3, y3, s3, t3⟩
  cases hk
end K24
open PySem PySem.W PyProof.Rows
set_option maxRecDepth 100000 in
set_option maxHeartbeats 0 in
theorem PySem.Challenge.cw_shortpurse_k24_flat_rules_holds : PySem.Challenge.rw_shortpurse_k24_flat_rules.Holds := by
  w_on; o_law; k_head; (case hw => w_witness2)
  k_fill
  refine Pu.law_walk (l := PySem.Challenge.rw_shortpurse_k24_flat_rules) (T := K24.T) (Dd := K24.Dd) (x := PySem.Str.ofString "_law_script") 40 rfl rfl rfl ⟨rfl, by decide, by decide⟩ (by decide) rfl rfl K24.ok_all K24.law_true (fun w h Y => PySem.W.kIn_of Y) ?F
  case F =>
    intro w mg h KX G
    refine' K24.facts KX G ?n1 ?p1a ?p1b ?p1c ?p1d ?p1e ?p1f ?p1g ?i1 ?m1_0 ?m1_1 ?m1_2 ?n2 ?p2a ?p2b ?p2c ?p2d ?p2e ?p2f ?p2g ?i2 ?m2_0 ?m2_1 ?m2_2 ?n3 ?p3a ?p3b ?p3c ?p3d ?p3e ?p3f ?p3g ?i3 ?m3_0 ?m3_1 ?m3_2 ?n4 ?p4a ?p4b ?p4c ?p4d ?p4e ?p4f ?p4g ?i4 ?m4_0 ?m4_1 ?m4_2 ?n5 ?p5a ?p5b ?p5c ?p5d ?p5e ?p5f ?p5g ?r5_0 ?i5 ?m5_0 ?m5_2 ?n6 ?p6a ?p6b ?p6c ?p6d ?p6e ?p6f ?p6g ?r6_0 ?i6 ?m6_0 ?m6_2 ?n7 ?p7a ?p7b ?p7c ?p7d ?p7e ?p7f ?p7g ?r7_0 ?r7_1 ?i7 ?m7_0 ?m7_2 ?n8 ?p8a ?p8b ?p8c ?p8d ?p8e ?p8f ?p8g ?r8_0 ?r8_1 ?r8_2 ?i8 ?m8_0 ?m8_2 ?li1 ?ci1 ?ki1 ?zi1 ?li2 ?ci2 ?ki2 ?zi2 ?li3 ?ci3 ?ki3 ?zi3 ?a1 ?l1 ?c1 ?k1 ?a2 ?l2 ?c2 ?k2 ?a3 ?l3 ?c3 ?k3 ?a4 ?l4 ?c4 ?k4 ?a5 ?l5 ?c5 ?k5 ?a6 ?l6 ?c6 ?k6 ?a7 ?l7 ?c7 ?k7 ?a8 ?l8 ?c8 ?k8 ?a9 ?l9 ?c9 ?k9 ?a10 ?l10 ?c10 ?k10 ?a11 ?l11 ?c11 ?k11 ?a12 ?l12 ?c12 ?k12 ?a13 ?l13 ?c13 ?k13 ?a14 ?l14 ?c14 ?k14 ?a15 ?l15 ?c15 ?k15 ?a16 ?l16 ?c16 ?k16 ?a17 ?l17 ?c17 ?k17 ?a18 ?l18 ?c18 ?k18 ?a19 ?l19 ?c19 ?k19 ?a20 ?l20 ?c20 ?k20 ?a21 ?l21 ?c21 ?k21 ?a22 ?l22 ?c22 ?k22 ?a23 ?l23 ?c23 ?k23 ?a24 ?l24 ?c24 ?k24 ?a25 ?l25 ?c25 ?k25 ?a26 ?l26 ?c26 ?k26 ?a27 ?l27 ?c27 ?k27 ?a28 ?l28 ?c28 ?k28 ?a29 ?l29 ?c29 ?k29 ?a30 ?l30 ?c30 ?k30 ?a31 ?l31 ?c31 ?k31 ?a32 ?l32 ?c32 ?k32 ?a33 ?l33 ?c33 ?k33 ?l34 ?c34 ?k34 ?z34 ?l35 ?c35 ?k35 ?z35 ?l36 ?c36 ?k36 ?z36 ?l37 ?c37 ?k37 ?z37 ?l38 ?c38 ?k38 ?z38 ?l39 ?c39 ?k39 ?z39 ?b1 ?b2 ?b3 ?b4 ?b5 ?b6 ?b7 ?b8 ?b9 ?b10 ?b11 ?b12 ?b13 ?b14 ?b15 ?b16 ?b17 ?hn ?ht ?o1 ?e1 ?vo1_0 ?e2 ?vo2_0 ?e3 ?vo3_0 ?e4 ?vo4_0 ?e5 ?vo5_0 ?e6 ?vo6_0 ?e7 ?vo7_0 ?e8 ?vo8_0 ?x1 ?q1 ?y1 ?s1 ?t1 ?x2 ?q2 ?y2 ?s2 ?t2 ?x3 ?q3 ?y3 ?s3 ?t3 ?g1 ?h1 ?g2 ?g3 ?h3
    (case n1 => k_is)
    (case n2 => k_is)
    (case n3 => k_is)
    (case n4 => k_is)
    (case n5 => k_is)
    (case n6 => k_is)
    (case n7 => k_is)
    (case n8 => k_is)
    (case o1 => k_is)
    (case x1 => k_is)
    (case x2 => k_is)
    (case x3 => k_is)
    (case p1a => k_is)
    (case p1b => k_is)
    (case p1c => k_is)
    (case p1d => k_is)
    (case p1e => k_is)
    (case p1f => k_is)
    (case p1g => k_is)
    (case i1 => k_is)
    (case m1_0 => k_is)
    (case m1_1 => k_is)
    (case m1_2 => k_is)
    (case p2a => k_is)
    (case p2b => k_is)
    (case p2c => k_is)
    (case p2d => k_is)
    (case p2e => k_is)
    (case p2f => k_is)
    (case p2g => k_is)
    (case i2 => k_is)
    (case m2_0 => k_is)
    (case m2_1 => k_is)
    (case m2_2 => k_is)
    (case p3a => k_is)
    (case p3b => k_is)
    (case p3c => k_is)
    (case p3d => k_is)
    (case p3e => k_is)
    (case p3f => k_is)
    (case p3g => k_is)
    (case i3 => k_is)
    (case m3_0 => k_is)
    (case m3_1 => k_is)
    (case m3_2 => k_is)
    (case p4a => k_is)
    (case p4b => k_is)
    (case p4c => k_is)
    (case p4d => k_is)
    (case p4e => k_is)
    (case p4f => k_is)
    (case p4g => k_is)
    (case i4 => k_is)
    (case m4_0 => k_is)
    (case m4_1 => k_is)
    (case m4_2 => k_is)
    (case p5a => k_is)
    (case p5b => k_is)
    (case p5c => k_is)
    (case p5d => k_is)
    (case p5e => k_is)
    (case p5f => k_is)
    (case p5g => k_is)
    (case r5_0 => k_is)
    (case i5 => k_is)
    (case m5_0 => k_is)
    (case m5_2 => k_is)
    (case p6a => k_is)
    (case p6b => k_is)
    (case p6c => k_is)
    (case p6d => k_is)
    (case p6e => k_is)
    (case p6f => k_is)
    (case p6g => k_is)
    (case r6_0 => k_is)
    (case i6 => k_is)
    (case m6_0 => k_is)
    (case m6_2 => k_is)
    (case p7a => k_is)
    (case p7b => k_is)
    (case p7c => k_is)
    (case p7d => k_is)
    (case p7e => k_is)
    (case p7f => k_is)
    (case p7g => k_is)
    (case r7_0 => k_is)
    (case r7_1 => k_is)
    (case i7 => k_is)
    (case m7_0 => k_is)
    (case m7_2 => k_is)
    (case p8a => k_is)
    (case p8b => k_is)
    (case p8c => k_is)
    (case p8d => k_is)
    (case p8e => k_is)
    (case p8f => k_is)
    (case p8g => k_is)
    (case r8_0 => k_is)
    (case r8_1 => k_is)
    (case r8_2 => k_is)
    (case i8 => k_is)
    (case m8_0 => k_is)
    (case m8_2 => k_is)
    (case li1 => k_is)
    (case ci1 => k_is)
    (case ki1 => k_is)
    (case zi1 => k_is)
    (case li2 => k_is)
    (case ci2 => k_is)
    (case ki2 => k_is)
    (case zi2 => k_is)
    (case li3 => k_is)
    (case ci3 => k_is)
    (case ki3 => k_is)
    (case zi3 => k_is)
    (case a1 => k_is)
    (case l1 => k_is)
    (case c1 => k_is)
    (case k1 => k_is)
    (case a2 => k_is)
    (case l2 => k_is)
    (case c2 => k_is)
    (case k2 => k_is)
    (case a3 => k_is)
    (case l3 => k_is)
    (case c3 => k_is)
    (case k3 => k_is)
    (case a4 => k_is)
    (case l4 => k_is)
    (case c4 => k_is)
    (case k4 => k_is)
    (case a5 => k_is)
    (case l5 => k_is)
    (case c5 => k_is)
    (case k5 => k_is)
    (case a6 => k_is)
    (case l6 => k_is)
    (case c6 => k_is)
    (case k6 => k_is)
    (case a7 => k_is)
    (case l7 => k_is)
    (case c7 => k_is)
    (case k7 => k_is)
    (case a8 => k_is)
    (case l8 => k_is)
    (case c8 => k_is)
    (case k8 => k_is)
    (case a9 => k_is)
    (case l9 => k_is)
    (case c9 => k_is)
    (case k9 => k_is)
    (case a10 => k_is)
    (case l10 => k_is)
    (case c10 => k_is)
    (case k10 => k_is)
    (case a11 => k_is)
    (case l11 => k_is)
    (case c11 => k_is)
    (case k11 => k_is)
    (case a12 => k_is)
    (case l12 => k_is)
    (case c12 => k_is)
    (case k12 => k_is)
    (case a13 => k_is)
    (case l13 => k_is)
    (case c13 => k_is)
    (case k13 => k_is)
    (case a14 => k_is)
    (case l14 => k_is)
    (case c14 => k_is)
    (case k14 => k_is)
    (case a15 => k_is)
    (case l15 => k_is)
    (case c15 => k_is)
    (case k15 => k_is)
    (case a16 => k_is)
    (case l16 => k_is)
    (case c16 => k_is)
    (case k16 => k_is)
    (case a17 => k_is)
    (case l17 => k_is)
    (case c17 => k_is)
    (case k17 => k_is)
    (case a18 => k_is)
    (case l18 => k_is)
    (case c18 => k_is)
    (case k18 => k_is)
    (case a19 => k_is)
    (case l19 => k_is)
    (case c19 => k_is)
    (case k19 => k_is)
    (case a20 => k_is)
    (case l20 => k_is)
    (case c20 => k_is)
    (case k20 => k_is)
    (case a21 => k_is)
    (case l21 => k_is)
    (case c21 => k_is)
    (case k21 => k_is)
    (case a22 => k_is)
    (case l22 => k_is)
    (case c22 => k_is)
    (case k22 => k_is)
    (case a23 => k_is)
    (case l23 => k_is)
    (case c23 => k_is)
    (case k23 => k_is)
    (case a24 => k_is)
    (case l24 => k_is)
    (case c24 => k_is)
    (case k24 => k_is)
    (case a25 => k_is)
    (case l25 => k_is)
    (case c25 => k_is)
    (case k25 => k_is)
    (case a26 => k_is)
    (case l26 => k_is)
    (case c26 => k_is)
    (case k26 => k_is)
    (case a27 => k_is)
    (case l27 => k_is)
    (case c27 => k_is)
    (case k27 => k_is)
    (case a28 => k_is)
    (case l28 => k_is)
    (case c28 => k_is)
    (case k28 => k_is)
    (case a29 => k_is)
    (case l29 => k_is)
    (case c29 => k_is)
    (case k29 => k_is)
    (case a30 => k_is)
    (case l30 => k_is)
    (case c30 => k_is)
    (case k30 => k_is)
    (case a31 => k_is)
    (case l31 => k_is)
    (case c31 => k_is)
    (case k31 => k_is)
    (case a32 => k_is)
    (case l32 => k_is)
    (case c32 => k_is)
    (case k32 => k_is)
    (case a33 => k_is)
    (case l33 => k_is)
    (case c33 => k_is)
    (case k33 => k_is)
    (case l34 => k_is)
    (case c34 => k_is)
    (case k34 => k_is)
    (case z34 => k_is)
    (case l35 => k_is)
    (case c35 => k_is)
    (case k35 => k_is)
    (case z35 => k_is)
    (case l36 => k_is)
    (case c36 => k_is)
    (case k36 => k_is)
    (case z36 => k_is)
    (case l37 => k_is)
    (case c37 => k_is)
    (case k37 => k_is)
    (case z37 => k_is)
    (case l38 => k_is)
    (case c38 => k_is)
    (case k38 => k_is)
    (case z38 => k_is)
    (case l39 => k_is)
    (case c39 => k_is)
    (case k39 => k_is)
    (case z39 => k_is)
    (case b1 => k_is)
    (case b2 => k_is)
    (case b3 => k_is)
    (case b4 => k_is)
    (case b5 => k_is)
    (case b6 => k_is)
    (case b7 => k_is)
    (case b8 => k_is)
    (case b9 => k_is)
    (case b10 => k_is)
    (case b11 => k_is)
    (case b12 => k_is)
    (case b13 => k_is)
    (case b14 => k_is)
    (case b15 => k_is)
    (case b16 => k_is)
    (case b17 => k_is)
    (case hn => k_is)
    (case ht => k_is)
    (case e1 => k_is)
    (case vo1_0 => kit_is)
    (case e2 => k_is)
    (case vo2_0 => kit_is)
    (case e3 => k_is)
    (case vo3_0 => kit_is)
    (case e4 => k_is)
    (case vo4_0 => kit_is)
    (case e5 => k_is)
    (case vo5_0 => kit_is)
    (case e6 => k_is)
    (case vo6_0 => kit_is)
    (case e7 => k_is)
    (case vo7_0 => kit_is)
    (case e8 => k_is)
    (case vo8_0 => kit_is)
    (case q1 => k_exc)
    (case y1 => k_is)
    (case s1 => k_is)
    (case t1 => k_is)
    (case q2 => k_exc)
    (case y2 => k_is)
    (case s2 => k_is)
    (case t2 => k_is)
    (case q3 => k_exc)
    (case y3 => k_is)
    (case s3 => k_is)
    (case t3 => k_is)
    (case g1 => k_is)
    (case h1 => k_is)
    (case g2 => k_is)
    (case g3 => k_is)
    (case h3 => k_is)
#print axioms PySem.Challenge.cw_shortpurse_k24_flat_rules_holds


