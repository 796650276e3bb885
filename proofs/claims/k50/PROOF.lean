import PyProof.Rows.All
import HandS.ForMost
import HandS.ForExc
import HandS.Flow
import HandS.Wide
import HandS.Conv
import KE.KUnpack
import HandS.RevRange
import HandS.Comp
import HandS.Defaults
import HandS.ExcOwn
import HandS.WordsExc
import HandS.More
import HandS.SetFor
import HandS.IsInst
import HandS.RaiseMore
import HandS.Text
import HandS.Style
import HandS.TryOnly
import PyProof.ReprRoads
import HandS.SortInts
import HandS.SetIn
import KE.KRevSl
import HandS.Ends
import HandS.HeadEnd
import HandS.Codes
import KE.KStrBytes
import PyProof.ReprBulk
import Wide.All
import OpenK.AllK
import Wide.FinOn
import KE.KStateDown
import Lean
import HandS.Base
import HandS.Call
import HandS.Words
import HandS.Head0
import HandS.Head1
import HandS.Head2
import HandS.HeadHook1
import HandS.HeadHook2
import HandS.HeadHook3
import HandS.HeadHook4
import HandS.HeadWalk
import PySem.Challenge.RW_leftreturn_k50_places_as_text
set_option Elab.async false
section
/-! OwP: the pure part of the ownership layer: values, environments, outcomes, combinators. Core Lean alone. -/
set_option linter.all false
set_option autoImplicit false
namespace Ow

/-- a value. A list is owned (one reference leads to it, it may be changed in place) or frozen (it never changes again). -/
inductive D where
  | non
  | bl (b : Bool)
  | int (i : Int)
  | str (s : List Nat)
  | tup (ds : List D)
  | lst (own : Bool) (ds : List D)
  | obj (c : Nat) (fs : List (String × D))
  | dct (kvs : List (D × D))
  | exc (c : Nat) (fs : List (String × D))
  deriving Inhabited

abbrev Env := List (Option D)

inductive R (α : Type) where
  | ok (a : α) (e : Env)
  | ex (x : D) (e : Env)
  | no

abbrev M (α : Type) := Env → R α

inductive Fl where
  | next | brk | cont
  | ret (d : D)

abbrev S := M Fl

/-- what a call hands back: its value, and what became of the argument that it may change -/
inductive O where
  | ok (r : D) (m : D)
  | ex (x : D) (m : D)
  | no

def lineN : Nat := 16777216

/-! ### no owned part; freezing -/
mutual
def D.noOwn : D → Bool
  | .non => true
  | .bl _ => true
  | .int _ => true
  | .str _ => true
  | .tup ds => noOwnL ds
  | .lst o ds => !o && noOwnL ds
  | .obj _ _ => false
  | .dct _ => true
  | .exc _ _ => true
def noOwnL : List D → Bool
  | [] => true
  | d :: ds => D.noOwn d && noOwnL ds
end
mutual
def D.freeze : D → Option D
  | .non => some .non
  | .bl b => some (.bl b)
  | .int i => some (.int i)
  | .str s => some (.str s)
  | .tup ds => match freezeL ds with
    | some ds' => some (.tup ds')
    | none => none
  | .lst _ ds => match freezeL ds with
    | some ds' => some (.lst false ds')
    | none => none
  | .obj _ _ => none
  | .dct kvs => some (.dct kvs)
  | .exc c fs => some (.exc c fs)
def freezeL : List D → Option (List D)
  | [] => some []
  | d :: ds => match D.freeze d, freezeL ds with
    | some d', some ds' => some (d' :: ds')
    | _, _ => none
end

/-! ### environments and places -/
def gt (i : Nat) (e : Env) : Option D := (e[i]?).join
def st (i : Nat) (d : Option D) (e : Env) : Env := e.set i d

inductive Pl where
  | sl (i : Nat)
  | fd (p : Pl) (c : Nat) (f : String)

def getF (f : String) : List (String × D) → Option D
  | [] => none
  | (g, d) :: r => if g = f then some d else getF f r
def putF (f : String) (d : D) : List (String × D) → List (String × D)
  | [] => [(f, d)]
  | (g, x) :: r => if g = f then (g, d) :: r else (g, x) :: putF f d r

def Pl.get : Pl → Env → Option D
  | .sl i, e => gt i e
  | .fd p c f, e => match p.get e with
    | some (.obj c' fs) => if c' = c then getF f fs else none
    | _ => none
def Pl.put : Pl → D → Env → Env
  | .sl i, d, e => st i (some d) e
  | .fd p _ f, d, e => match p.get e with
    | some (.obj c fs) => p.put (.obj c (putF f d fs)) e
    | _ => e

/-! ### combinators -/
def ret1 {α : Type} (a : α) : M α := fun e => .ok a e
def stuck {α : Type} : M α := fun _ => .no
def bd {α β : Type} (m : M α) (k : α → M β) : M β := fun e => match m e with
  | .ok a e' => k a e'
  | .ex x e' => .ex x e'
  | .no => .no
/-- a partial operation on values -/
def op {α : Type} (o : Option α) : M α := fun e => match o with
  | some d => .ok d e
  | none => .no

/-- a constant -/
def cst (d : D) : M D := fun e => .ok d e
/-- a name read for its value: nothing owned in it -/
def rdS (i : Nat) : M D := fun e => match gt i e with
  | some d => if d.noOwn then .ok d e else .no
  | none => .no
/-- a name read for its value, frozen where it stands -/
def rdF (i : Nat) : M D := fun e => match gt i e with
  | some d => match d.freeze with
    | some d' => .ok d' (st i (some d') e)
    | none => .no
  | none => .no
/-- a name read for the last time: it moves out -/
def mv (i : Nat) : M D := fun e => match gt i e with
  | some d => .ok d (st i none e)
  | none => .no
/-- looked at where it stands -/
def bw (p : Pl) : M D := fun e => match p.get e with
  | some d => .ok d e
  | none => .no
/-- a read-only parameter, read for its value -/
def roS (d : D) : M D := fun e => if d.noOwn then .ok d e else .no
/-- a field read for its value -/
def fdS (p : Pl) : M D := fun e => match p.get e with
  | some d => if d.noOwn then .ok d e else .no
  | none => .no
/-- .. frozen where it stands -/
def fdF (p : Pl) : M D := fun e => match p.get e with
  | some d => match d.freeze with
    | some d' => .ok d' (p.put d' e)
    | none => .no
  | none => .no

/-! ### truth -/
def truD : D → Option Bool
  | .non => some false
  | .bl b => some b
  | .int i => some (i != 0)
  | .str s => if s.length ≤ lineN then some (!s.isEmpty) else none
  | .tup ds => some (!ds.isEmpty)
  | .lst _ ds => some (!ds.isEmpty)
  | .dct kvs => some (!kvs.isEmpty)
  | _ => none
def tb (m : M D) : M Bool := bd m fun d => op (truD d)
def andB (a b : M Bool) : M Bool := bd a fun x => if x then b else ret1 false
def orB (a b : M Bool) : M Bool := bd a fun x => if x then ret1 true else b
def notB (a : M Bool) : M Bool := bd a fun x => ret1 (!x)
def ofB (a : M Bool) : M D := bd a fun x => ret1 (D.bl x)
def andV (a b : M D) : M D := bd a fun x => bd (op (truD x)) fun k => if k then b else ret1 x
def orV (a b : M D) : M D := bd a fun x => bd (op (truD x)) fun k => if k then ret1 x else b
def ifE (c : M Bool) (a b : M D) : M D := bd c fun x => if x then a else b

/-! ### arithmetic and comparisons -/
def bitsOk (i j : Int) : Bool := decide (i.natAbs.log2 + j.natAbs.log2 < 1000000)
def addD : D → D → Option D
  | .int i, .int j => some (.int (i + j))
  | .str a, .str b => if a.length + b.length ≤ lineN then some (.str (a ++ b)) else none
  | .lst _ xs, .lst _ ys => if xs.length + ys.length ≤ lineN ∧ noOwnL xs ∧ noOwnL ys then some (.lst true (xs ++ ys)) else none
  | _, _ => none
def subD : D → D → Option D
  | .int i, .int j => some (.int (i - j))
  | _, _ => none
def mulD : D → D → Option D
  | .int i, .int j => if bitsOk i j then some (.int (i * j)) else none
  | .lst true xs, .int k => if -(2 ^ 63) ≤ k ∧ k < 2 ^ 63 ∧ xs.length * k.toNat ≤ lineN ∧ noOwnL xs then some (.lst true (List.replicate k.toNat xs).flatten) else none
  | .str a, .int k => if 0 ≤ k ∧ a.length * k.toNat ≤ lineN ∧ k < 2 ^ 62 then some (.str (List.replicate k.toNat a).flatten) else none
  | _, _ => none
def fdivD : D → D → Option D
  | .int i, .int j => if 0 < j ∧ j.natAbs.log2 < 9000 then some (.int (i / j)) else none
  | _, _ => none
def modD : D → D → Option D
  | .int i, .int j => if 0 < j then some (.int (i % j)) else none
  | _, _ => none
def powD : D → D → Option D
  | .int i, .int j => if 0 ≤ j ∧ j ≤ 1000000 ∧ i.natAbs < 2 ^ 64 then some (.int (i ^ j.toNat)) else none
  | _, _ => none
def negD : D → Option D
  | .int i => some (.int (-i))
  | _ => none
def ltD : D → D → Option D
  | .int i, .int j => some (.bl (decide (i < j)))
  | _, _ => none
def leD : D → D → Option D
  | .int i, .int j => some (.bl (decide (i ≤ j)))
  | _, _ => none
def gtD : D → D → Option D
  | .int i, .int j => some (.bl (decide (j < i)))
  | _, _ => none
def geD : D → D → Option D
  | .int i, .int j => some (.bl (decide (j ≤ i)))
  | _, _ => none

/-! ### data: ==, repr -/
mutual
def eqv : D → D → Bool
  | .non, .non => true
  | .bl a, .bl b => a == b
  | .bl a, .int j => (if a then 1 else 0) == j
  | .int i, .bl b => i == (if b then 1 else 0)
  | .int i, .int j => i == j
  | .str x, .str y => x == y
  | .lst _ xs, .lst _ ys => eqvL xs ys
  | .tup xs, .tup ys => eqvL xs ys
  | _, _ => false
def eqvL : List D → List D → Bool
  | [], [] => true
  | x :: xs, y :: ys => eqv x y && eqvL xs ys
  | _, _ => false
end
/-- data of a depth at most n: None, bools, ints, texts, lists, tuples -/
def sgnOk (s : List Nat) : Bool := s.all fun c => decide (c < 1114112)
mutual
def D.isData : Nat → D → Bool
  | _, .non => true
  | _, .bl _ => true
  | _, .int _ => true
  | _, .str s => sgnOk s
  | n + 1, .tup ds => isDataL n ds
  | n + 1, .lst _ ds => isDataL n ds
  | _, _ => false
def isDataL : Nat → List D → Bool
  | _, [] => true
  | n, d :: ds => D.isData n d && isDataL n ds
end
def eqD (a b : D) : Option D := if a.isData 60 && b.isData 60 then some (.bl (eqv a b)) else none
def neD (a b : D) : Option D := if a.isData 60 && b.isData 60 then some (.bl (!eqv a b)) else none
def isN (a : D) : D := match a with
  | .non => .bl true
  | _ => .bl false
def notN (a : D) : D := match a with
  | .non => .bl false
  | _ => .bl true
def isNon : D → Bool
  | .non => true
  | _ => false

/-! ### subscripts, slices -/
def pyIx (n : Nat) (i : Int) : Option Nat := if 0 ≤ i then (if i < n then some i.toNat else none) else if -(n : Int) ≤ i then some (i + n).toNat else none
def atI {α : Type} (xs : List α) (i : Int) : Option α := (pyIx xs.length i).bind fun j => xs[j]?
def clip (n d : Nat) : Option Int → Nat
  | none => d
  | some v => if v < 0 then (v + (n : Int)).toNat else min v.toNat n
def cut {α : Type} (xs : List α) (lo hi : Option Int) : List α := (xs.drop (clip xs.length 0 lo)).take (clip xs.length xs.length hi - clip xs.length 0 lo)
def ixD : D → D → Option D
  | .lst _ xs, .int i => match atI xs i with
    | some d => if d.noOwn then some d else none
    | none => none
  | .tup xs, .int i => match atI xs i with
    | some d => if d.noOwn then some d else none
    | none => none
  | .str s, .int i => if s.length ≤ lineN then (match atI s i with
    | some c => some (.str [c])
    | none => none) else none
  | _, _ => none
/-- an item of a tuple that is thrown away behind: it may be owned -/
def ixO : D → D → Option D
  | .tup xs, .int i => atI xs i
  | _, _ => none
def optI : D → Option (Option Int)
  | .non => some none
  | .int i => some (some i)
  | _ => none
def slD (d lo hi : D) : Option D := match optI lo, optI hi with
  | some l, some h => match d with
    | .lst _ xs => if noOwnL xs then some (.lst true (cut xs l h)) else none
    | .str s => if s.length ≤ lineN then some (.str (cut s l h)) else none
    | _ => none
  | _, _ => none
/-- xs[::-1] -/
def revD : D → Option D
  | .lst _ xs => if noOwnL xs then some (.lst true xs.reverse) else none
  | _ => none

/-! ### built-ins -/
def lenD : D → Option D
  | .lst _ xs => some (.int xs.length)
  | .tup xs => some (.int xs.length)
  | .str s => if s.length ≤ lineN then some (.int s.length) else none
  | _ => none
def max2 : D → D → Option D
  | .int i, .int j => some (.int (if j > i then j else i))
  | _, _ => none
def min2 : D → D → Option D
  | .int i, .int j => some (.int (if j < i then j else i))
  | _, _ => none
def ints? : List D → Option (List Int)
  | [] => some []
  | .int i :: r => match ints? r with
    | some is => some (i :: is)
    | none => none
  | _ => none
def bls? : List D → Option (List Bool)
  | [] => some []
  | .bl b :: r => match bls? r with
    | some bs => some (b :: bs)
    | none => none
  | _ => none
def strs? : List D → Option (List (List Nat))
  | [] => some []
  | .str s :: r => match strs? r with
    | some ss => some (s :: ss)
    | none => none
  | _ => none
def minL : List Int → Option Int
  | [] => none
  | x :: xs => some (xs.foldl (fun a b => if b < a then b else a) x)
def maxL : List Int → Option Int
  | [] => none
  | x :: xs => some (xs.foldl (fun a b => if b > a then b else a) x)
def minD : D → Option D
  | .lst _ xs => match ints? xs with
    | some is => (minL is).map .int
    | none => none
  | _ => none
def maxD : D → Option D
  | .lst _ xs => match ints? xs with
    | some is => (maxL is).map .int
    | none => none
  | _ => none
def sumD : D → Option D
  | .lst _ xs => match ints? xs with
    | some is => some (.int is.sum)
    | none => none
  | _ => none
def anyD : D → Option D
  | .lst _ xs => match bls? xs with
    | some bs => some (.bl (bs.any id))
    | none => none
  | _ => none
def allD : D → Option D
  | .lst _ xs => match bls? xs with
    | some bs => some (.bl (bs.all id))
    | none => none
  | _ => none
/-- list(xs), list(t) -/
def listD : D → Option D
  | .lst _ xs => if noOwnL xs then some (.lst true xs) else none
  | .tup xs => if noOwnL xs then some (.lst true xs) else none
  | _ => none
def tupleD : D → Option D
  | .lst _ xs => if noOwnL xs then some (.tup xs) else none
  | .tup xs => if noOwnL xs then some (.tup xs) else none
  | _ => none
def rangeI (lo hi : Int) : List Int := (List.range (hi - lo).toNat).map fun (k : Nat) => lo + (k : Int)
def smallI (i : Int) : Bool := decide (-(2 ^ 62) ≤ i) && decide (i < 2 ^ 62)
/-- list(range(n)) -/
def listRg : D → Option D
  | .int n => if smallI n ∧ n.toNat ≤ lineN then some (.lst true ((rangeI 0 n).map .int)) else none
  | _ => none
def intD : D → Option D
  | .int i => some (.int i)
  | .bl b => some (.int (if b then 1 else 0))
  | _ => none
/-- the digits of a number, as signs -/
def natS (n : Nat) : List Nat := (Nat.toDigits 10 n).map Char.toNat
def intS (i : Int) : List Nat := if i < 0 then 45 :: natS i.natAbs else natS i.natAbs
def strI : D → Option D
  | .int i => if i.natAbs.log2 < 1920 then some (.str (intS i)) else none
  | .str s => some (.str s)
  | _ => none
def joinS (sep : List Nat) : List (List Nat) → List Nat
  | [] => []
  | [x] => x
  | x :: r => x ++ sep ++ joinS sep r
def joinD : D → D → Option D
  | .str sep, .lst _ xs => match strs? xs with
    | some ss => if (ss.map List.length).sum + ss.length * sep.length ≤ lineN then some (.str (joinS sep ss)) else none
    | none => none
  | _, _ => none
/-- the kinds that isinstance asks for -/
inductive Kd where
  | int | bool | str | list | tuple | cls (c : Nat)

/-! ### statements -/
inductive Tg where
  | nm (i : Nat)
  | tp (ts : List Tg)
def seqOf : D → Option (List D)
  | .tup ds => some ds
  | .lst _ ds => if noOwnL ds then some ds else none
  | _ => none
mutual
def Tg.asg : Tg → D → Env → Option Env
  | .nm i, d, e => some (st i (some d) e)
  | .tp ts, d, e => match seqOf d with
    | some ds => asgL ts ds e
    | none => none
def asgL : List Tg → List D → Env → Option Env
  | [], [], e => some e
  | t :: ts, d :: ds, e => match t.asg d e with
    | some e' => asgL ts ds e'
    | none => none
  | _, _, _ => none
end
def sq (a b : S) : S := fun e => match a e with
  | .ok .next e' => b e'
  | r => r
def skip : S := ret1 .next
def brkS : S := ret1 .brk
def cntS : S := ret1 .cont
def asg (t : Tg) (m : M D) : S := bd m fun d e => match t.asg d e with
  | some e' => .ok .next e'
  | none => .no
def set (i : Nat) (m : M D) : S := bd m fun d e => .ok .next (st i (some d) e)
def drop (m : M D) : S := bd m fun _ => ret1 .next
def retS (m : M D) : S := bd m fun d => ret1 (.ret d)
def retN : S := ret1 (.ret .non)
def ifS (c : M Bool) (a b : S) : S := bd c fun x => if x then a else b
def raiS (x : D) : S := fun e => .ex x e

/-- a loop over items -/
def forL (t : Tg) (body : S) : List D → S
  | [] => ret1 .next
  | d :: ds => fun e => match t.asg d e with
    | none => .no
    | some e1 => match body e1 with
      | .ok .next e2 => forL t body ds e2
      | .ok .cont e2 => forL t body ds e2
      | .ok .brk e2 => .ok .next e2
      | r => r
def forS (its : M (List D)) (t : Tg) (body : S) : S := bd its fun ds => forL t body ds
/-- within f slot i is read only -/
def withRo {α : Type} (i : Nat) (f : D → M α) : M α := fun e => match gt i e with
  | none => .no
  | some d => match f d (st i none e) with
    | .ok a e' => .ok a (st i (some d) e')
    | .ex x e' => .ex x (st i (some d) e')
    | .no => .no
def whileS : Nat → M Bool → S → S
  | 0, _, _ => stuck
  | n + 1, c, body => fun e => match c e with
    | .ok true e1 => match body e1 with
      | .ok .next e2 => whileS n c body e2
      | .ok .cont e2 => whileS n c body e2
      | .ok .brk e2 => .ok .next e2
      | r => r
    | .ok false e1 => .ok .next e1
    | .ex x e1 => .ex x e1
    | .no => .no
/-- a comprehension's turns: own slots are its own names -/
def wipe : List Nat → Env → Env
  | [], e => e
  | i :: r, e => st i none (wipe r e)
def lcL (own : List Nat) (t : Tg) (c : M Bool) (elt : M D) : List D → List D → Env → Option (List D × Env)
  | [], acc, e => some (acc, wipe own e)
  | d :: ds, acc, e => match t.asg d (wipe own e) with
    | none => none
    | some e1 => match c e1 with
      | .ok true e2 => match elt e2 with
        | .ok v e3 => match v.freeze with
          | some v' => if acc.length < lineN then lcL own t c elt ds (acc ++ [v']) e3 else none
          | none => none
        | _ => none
      | .ok false e2 => lcL own t c elt ds acc e2
      | _ => none
def lc (own : List Nat) (its : M (List D)) (t : Tg) (c : M Bool) (elt : M D) : M D := bd its fun ds e => match lcL own t c elt ds [] e with
  | some (acc, e') => .ok (.lst true acc) e'
  | none => .no
def yes : M Bool := ret1 true

/-- what is walked: the items of a list, a tuple (nothing owned in them) -/
def itL : D → Option (List D)
  | .lst _ ds => if noOwnL ds then some ds else none
  | .tup ds => if noOwnL ds then some ds else none
  | _ => none
def itStr : D → Option (List D)
  | .str s => some (s.map fun c => .str [c])
  | _ => none
def enumL (ds : List D) : List D := (ds.zipIdx).map fun p => .tup [.int p.2, p.1]
def itEnum (d : D) : Option (List D) := (itL d).map enumL
def zipD (a b : List D) : List D := (a.zip b).map fun p => .tup [p.1, p.2]
def itZip (a b : D) : Option (List D) := match itL a, itL b with
  | some x, some y => some (zipD x y)
  | _, _ => none
def itRange1 : D → Option (List D)
  | .int n => if smallI n then some ((rangeI 0 n).map .int) else none
  | _ => none
def itRange2 : D → D → Option (List D)
  | .int a, .int b => if smallI a ∧ smallI b then some ((rangeI a b).map .int) else none
  | _, _ => none
/-- range(a, b, -1) -/
def itDown : D → D → Option (List D)
  | .int a, .int b => if smallI a ∧ smallI b then some ((List.range (a - b).toNat).map fun (k : Nat) => .int (a - (k : Int))) else none
  | _, _ => none
def itRev (d : D) : Option (List D) := (itL d).map List.reverse

/-! ### lists changed in place -/
def appD (x v : D) : Option D := match x, v.freeze with
  | .lst true xs, some v' => if xs.length < lineN then some (.lst true (xs ++ [v'])) else none
  | _, _ => none
/-- a place changed by a partial operation that hands back a value -/
def chg (p : Pl) (f : D → Option (D × D)) : M D := fun e => match p.get e with
  | some d => match f d with
    | some (r, d') => .ok r (p.put d' e)
    | none => .no
  | none => .no
def mAppend (v : D) (x : D) : Option (D × D) := (appD x v).map fun d => (.non, d)
def mPop : D → Option (D × D)
  | .lst true xs => match xs.reverse with
    | d :: r => if d.noOwn then some (d, .lst true r.reverse) else none
    | [] => none
  | _ => none
def mPopAt (i : D) (x : D) : Option (D × D) := match x, i with
  | .lst true xs, .int k => match pyIx xs.length k with
    | some j => match xs[j]? with
      | some d => if d.noOwn && decide (-(2 ^ 63) ≤ k) && decide (k < 2 ^ 63) then some (d, .lst true (xs.eraseIdx j)) else none
      | none => none
    | none => none
  | _, _ => none
def mSet (i v : D) (x : D) : Option (D × D) := match x, i, v.freeze with
  | .lst true xs, .int k, some v' => match pyIx xs.length k with
    | some j => some (.non, .lst true (xs.set j v'))
    | none => none
  | _, _, _ => none

/-! ### calls -/
def callF (F : List D → O) (as : List D) : M D := fun e => match F as with
  | .ok r _ => .ok r e
  | .ex x _ => .ex x e
  | .no => .no
/-- a call that may change what stands at p: its place among the arguments is behind pre -/
def callM (F : List D → O) (pre : List D) (p : Pl) (post : List D) : M D := fun e => match p.get e with
  | none => .no
  | some d => match F (pre ++ d :: post) with
    | .ok r d' => .ok r (p.put d' e)
    | .ex x d' => .ex x (p.put d' e)
    | .no => .no
def gtS (i : Nat) (e : Env) : D := (gt i e).getD .non
/-- a def's run: m, the slot of the parameter that it may change -/
def run (m : Option Nat) (body : S) (e : Env) : O := match body e with
  | .ok (.ret d) e' => .ok d (match m with | some i => gtS i e' | none => .non)
  | .ok .next e' => .ok .non (match m with | some i => gtS i e' | none => .non)
  | .ex x e' => .ex x (match m with | some i => gtS i e' | none => .non)
  | _ => .no
/-- try: body except the classes that c tells: h -/
def tryS (c : Nat → Bool) (body : S) (h : D → S) : S := fun e => match body e with
  | .ex (.exc k fs) e' => if c k then h (.exc k fs) e' else .ex (.exc k fs) e'
  | .ex x e' => .ex x e'
  | r => r

end Ow
end

section
set_option linter.all false
set_option autoImplicit false
set_option maxRecDepth 100000
set_option maxHeartbeats 4000000
/-! OwR: how values stand in the abstract heap of HandS; configurations; the reading TX of a pure piece. -/
namespace Ow
open PySem PySem.Spec L2
open PyProof.Rows hiding St

section
variable (K : PySem.W.Frag) (ct : Nat → Addr) (F H : Hp)
mutual
/-- the value v is d; F: what never changes; H: the heap; L: the addresses that d owns -/
inductive Rel : D → V → List Addr → Prop
  | non : Rel .non .non []
  | bl (b : Bool) : Rel (.bl b) (.bl b) []
  | int (i : Int) : Rel (.int i) (.int i) []
  | str (s : List Nat) : Rel (.str s) (.str ⟨s.toArray⟩) []
  | tup {a : Addr} {vs : List V} {ds : List D} {L : List Addr} : SqT K F a vs → RelL ds vs L → Rel (.tup ds) (.ref a) L
  | lstO {a : Addr} {vs : List V} {ds : List D} {L L' : List Addr} : H a = some (.lst vs) → RelL ds vs L' → L = a :: L' → Rel (.lst true ds) (.ref a) L
  | lstF {a : Addr} {vs : List V} {ds : List D} {L : List Addr} : SqL K F a vs → RelL ds vs L → L = [] → Rel (.lst false ds) (.ref a) L
  | obj {a dx : Addr} {vs : List (Str × V)} {c : Nat} {fs : List (String × D)} {L L' : List Addr} : H a = some (.ins (ct c) dx vs) → RelF fs vs L' → L = a :: L' → Rel (.obj c fs) (.ref a) L
  | dct {a : Addr} {ks : List (Key × V)} {kvs : List (D × D)} {L : List Addr} : F a = some (.dK ks) → RelK kvs ks → L = [] → Rel (.dct kvs) (.ref a) L
inductive RelL : List D → List V → List Addr → Prop
  | nil : RelL [] [] []
  | cons {d : D} {v : V} {ds : List D} {vs : List V} {L L1 L2 : List Addr} : Rel d v L1 → RelL ds vs L2 → L = L1 ++ L2 → RelL (d :: ds) (v :: vs) L
inductive RelF : List (String × D) → List (Str × V) → List Addr → Prop
  | nil : RelF [] [] []
  | cons {f : String} {d : D} {v : V} {fs : List (String × D)} {vs : List (Str × V)} {L L1 L2 : List Addr} : Rel d v L1 → RelF fs vs L2 → L = L1 ++ L2 → RelF ((f, d) :: fs) ((Str.ofString f, v) :: vs) L
inductive RelK : List (D × D) → List (Key × V) → Prop
  | nil : RelK [] []
  | int {i : Int} {d : D} {v : V} {ds : List (D × D)} {vs : List (Key × V)} {L : List Addr} : Rel d v L → L = [] → RelK ds vs → RelK ((.int i, d) :: ds) ((Sum.inl i, v) :: vs)
  | str {s : List Nat} {d : D} {v : V} {ds : List (D × D)} {vs : List (Key × V)} {L : List Addr} : Rel d v L → L = [] → RelK ds vs → RelK ((.str s, d) :: ds) ((Sum.inr ⟨s.toArray⟩, v) :: vs)
end
end

def Lq (F F' : Hp) : Prop := ∀ a o, F a = some o → F' a = some o
theorem Lq.refl (F : Hp) : Lq F F := fun _ _ h => h
theorem Lq.trans {F G H : Hp} (a : Lq F G) (b : Lq G H) : Lq F H := fun x o h => b x o (a x o h)
theorem Lq.rd {F F' : Hp} {a : Addr} {o : HO} (l : Lq F F') (h : Rd F a o) : Rd F' a o := by
  rcases h with h | ⟨u, h⟩
  · exact .inl (l _ _ h)
  · exact .inr ⟨u, l _ _ h⟩
theorem Lq.sqL {K : PySem.W.Frag} {F F' : Hp} {a : Addr} {xs : List V} (l : Lq F F') (h : SqL K F a xs) : SqL K F' a xs := by
  rcases h with h | h
  · exact .inl (l.rd h)
  · exact .inr h
theorem Lq.sqT {K : PySem.W.Frag} {F F' : Hp} {a : Addr} {xs : List V} (l : Lq F F') (h : SqT K F a xs) : SqT K F' a xs := by
  rcases h with h | h
  · exact .inl (l.rd h)
  · exact .inr h

section
variable {K : PySem.W.Frag} {ct : Nat → Addr} {F F' H H' : Hp}
mutual
theorem Rel.mono (l : Lq F F') : ∀ {d : D} {v : V} {L : List Addr}, (∀ a, a ∈ L → H' a = H a) → Rel K ct F H d v L → Rel K ct F' H' d v L
  | _, _, _, _, .non => .non
  | _, _, _, _, .bl b => .bl b
  | _, _, _, _, .int i => .int i
  | _, _, _, _, .str s => .str s
  | _, _, _, h, .tup q r => .tup (l.sqT q) (RelL.mono l h r)
  | _, _, _, h, .lstO q r e => .lstO ((h _ (by rw [e]; exact List.mem_cons_self)).trans q) (RelL.mono l (fun a ha => h a (by rw [e]; exact List.mem_cons_of_mem _ ha)) r) e
  | _, _, _, h, .lstF q r e => .lstF (l.sqL q) (RelL.mono l h r) e
  | _, _, _, h, .obj q r e => .obj ((h _ (by rw [e]; exact List.mem_cons_self)).trans q) (RelF.mono l (fun a ha => h a (by rw [e]; exact List.mem_cons_of_mem _ ha)) r) e
  | _, _, _, h, .dct q r e => .dct (l _ _ q) (RelK.mono l r) e
theorem RelL.mono (l : Lq F F') : ∀ {ds : List D} {vs : List V} {L : List Addr}, (∀ a, a ∈ L → H' a = H a) → RelL K ct F H ds vs L → RelL K ct F' H' ds vs L
  | _, _, _, _, .nil => .nil
  | _, _, _, h, .cons r rs e => .cons (Rel.mono l (fun a ha => h a (by rw [e]; exact List.mem_append_left _ ha)) r) (RelL.mono l (fun a ha => h a (by rw [e]; exact List.mem_append_right _ ha)) rs) e
theorem RelF.mono (l : Lq F F') : ∀ {fs : List (String × D)} {vs : List (Str × V)} {L : List Addr}, (∀ a, a ∈ L → H' a = H a) → RelF K ct F H fs vs L → RelF K ct F' H' fs vs L
  | _, _, _, _, .nil => .nil
  | _, _, _, h, .cons r rs e => .cons (Rel.mono l (fun a ha => h a (by rw [e]; exact List.mem_append_left _ ha)) r) (RelF.mono l (fun a ha => h a (by rw [e]; exact List.mem_append_right _ ha)) rs) e
theorem RelK.mono (l : Lq F F') : ∀ {kvs : List (D × D)} {ks : List (Key × V)}, RelK K ct F H kvs ks → RelK K ct F' H' kvs ks
  | _, _, .nil => .nil
  | _, _, .int r e rs => .int (Rel.mono l (fun a ha => by rw [e] at ha; exact absurd ha (by simp)) r) e (RelK.mono l rs)
  | _, _, .str r e rs => .str (Rel.mono l (fun a ha => by rw [e] at ha; exact absurd ha (by simp)) r) e (RelK.mono l rs)
end
/-- what owns nothing does not lean on H -/
theorem Rel.any {d : D} {v : V} (r : Rel K ct F H d v []) : Rel K ct F H' d v [] := r.mono (Lq.refl F) fun _ h => absurd h (by simp)
theorem RelL.any {ds : List D} {vs : List V} (r : RelL K ct F H ds vs []) : RelL K ct F H' ds vs [] := r.mono (Lq.refl F) fun _ h => absurd h (by simp)

mutual
theorem Rel.noOwn : ∀ {d : D} {v : V} {L : List Addr}, d.noOwn = true → Rel K ct F H d v L → L = []
  | _, _, _, _, .non => rfl
  | _, _, _, _, .bl _ => rfl
  | _, _, _, _, .int _ => rfl
  | _, _, _, _, .str _ => rfl
  | _, _, _, h, .tup _ r => RelL.noOwn (by simpa [D.noOwn] using h) r
  | _, _, _, h, .lstO _ _ _ => by simp [D.noOwn] at h
  | _, _, _, _, .lstF _ _ e => e
  | _, _, _, h, .obj _ _ _ => by simp [D.noOwn] at h
  | _, _, _, _, .dct _ _ e => e
theorem RelL.noOwn : ∀ {ds : List D} {vs : List V} {L : List Addr}, noOwnL ds = true → RelL K ct F H ds vs L → L = []
  | _, _, _, _, .nil => rfl
  | _, _, _, h, .cons r rs e => by
    simp [noOwnL] at h
    rw [e, Rel.noOwn h.1 r, RelL.noOwn h.2 rs]; rfl
end
theorem RelL.length : ∀ {ds : List D} {vs : List V} {L : List Addr}, RelL K ct F H ds vs L → ds.length = vs.length
  | _, _, _, .nil => rfl
  | _, _, _, .cons _ rs _ => by rw [List.length_cons, List.length_cons, RelL.length rs]
theorem RelL.append : ∀ {ds es : List D} {vs ws : List V} {L1 L2 : List Addr}, RelL K ct F H ds vs L1 → RelL K ct F H es ws L2 → RelL K ct F H (ds ++ es) (vs ++ ws) (L1 ++ L2)
  | _, _, _, _, _, _, .nil, q => q
  | _, _, _, _, _, _, .cons r rs e, q => .cons r (RelL.append rs q) (by rw [e, List.append_assoc])
/-- an item that owns nothing -/
theorem RelL.get : ∀ {ds : List D} {vs : List V} {L : List Addr} {i : Nat} {d : D}, RelL K ct F H ds vs L → ds[i]? = some d → ∃ v L1, vs[i]? = some v ∧ Rel K ct F H d v L1 ∧ ∀ a, a ∈ L1 → a ∈ L
  | _, _, _, _, _, .nil, e => by simp at e
  | _, _, _, 0, _, .cons r rs e, h => by
    simp at h; subst h
    exact ⟨_, _, rfl, r, fun a ha => by rw [e]; exact List.mem_append_left _ ha⟩
  | _, _, _, i + 1, _, .cons r rs e, h => by
    obtain ⟨v, L1, h1, h2, h3⟩ := RelL.get (i := i) rs (by simpa using h)
    exact ⟨v, L1, by simpa using h1, h2, fun a ha => by rw [e]; exact List.mem_append_right _ (h3 a ha)⟩
theorem RelL.snoc {ds : List D} {vs : List V} {L L1 : List Addr} {d : D} {v : V} (r : RelL K ct F H ds vs L) (q : Rel K ct F H d v L1) : RelL K ct F H (ds ++ [d]) (vs ++ [v]) (L ++ L1) :=
  r.append (.cons q .nil (by rw [List.append_nil]))
theorem RelL.drop : ∀ {ds : List D} {vs : List V} (n : Nat), RelL K ct F H ds vs [] → RelL K ct F H (ds.drop n) (vs.drop n) []
  | _, _, 0, r => r
  | _, _, _ + 1, .nil => .nil
  | _, _, n + 1, .cons _ rs e => RelL.drop n (by
    have := List.append_eq_nil_iff.mp e.symm
    rw [this.2] at rs; exact rs)
theorem RelL.take : ∀ {ds : List D} {vs : List V} (n : Nat), RelL K ct F H ds vs [] → RelL K ct F H (ds.take n) (vs.take n) []
  | _, _, 0, _ => .nil
  | _, _, _ + 1, .nil => .nil
  | _, _, n + 1, .cons r rs e => by
    have := List.append_eq_nil_iff.mp e.symm
    rw [this.1] at r; rw [this.2] at rs
    exact .cons r (RelL.take n rs) rfl
theorem RelL.reverse {ds : List D} {vs : List V} (r : RelL K ct F H ds vs []) : RelL K ct F H ds.reverse vs.reverse [] := by
  induction ds generalizing vs with
  | nil => cases r; exact .nil
  | cons d ds ih =>
    cases r with
    | cons q rs e =>
      have := List.append_eq_nil_iff.mp e.symm
      rw [this.1] at q; rw [this.2] at rs
      rw [List.reverse_cons, List.reverse_cons]
      exact (ih rs).snoc q
theorem RelL.eraseIdx : ∀ {ds : List D} {vs : List V} (n : Nat), RelL K ct F H ds vs [] → RelL K ct F H (ds.eraseIdx n) (vs.eraseIdx n) []
  | _, _, _, .nil => .nil
  | _, _, 0, .cons _ rs e => by
    have := List.append_eq_nil_iff.mp e.symm
    rw [this.2] at rs; exact rs
  | _, _, n + 1, .cons r rs e => by
    have := List.append_eq_nil_iff.mp e.symm
    rw [this.1] at r; rw [this.2] at rs
    exact .cons r (RelL.eraseIdx n rs) rfl
theorem RelL.set : ∀ {ds : List D} {vs : List V} (n : Nat) {d : D} {v : V}, RelL K ct F H ds vs [] → Rel K ct F H d v [] → RelL K ct F H (ds.set n d) (vs.set n v) []
  | _, _, _, _, _, .nil, _ => .nil
  | _, _, 0, _, _, .cons _ rs e, q => by
    have := List.append_eq_nil_iff.mp e.symm
    rw [this.2] at rs; exact .cons q rs rfl
  | _, _, n + 1, _, _, .cons r rs e, q => by
    have := List.append_eq_nil_iff.mp e.symm
    rw [this.1] at r; rw [this.2] at rs
    exact .cons r (RelL.set n rs q) rfl
theorem RelL.rep {ds : List D} {vs : List V} (r : RelL K ct F H ds vs []) : ∀ n : Nat, RelL K ct F H (List.replicate n ds).flatten (List.replicate n vs).flatten []
  | 0 => .nil
  | n + 1 => by
    rw [List.replicate_succ, List.replicate_succ, List.flatten_cons, List.flatten_cons]
    exact r.append (RelL.rep r n)

/-! ### what is owned stands in H, and may be written -/
mutual
theorem Rel.there : ∀ {d : D} {v : V} {L : List Addr}, Rel K ct F H d v L → ∀ a, a ∈ L → H a ≠ none
  | _, _, _, .non, _, h => absurd h (by simp)
  | _, _, _, .bl _, _, h => absurd h (by simp)
  | _, _, _, .int _, _, h => absurd h (by simp)
  | _, _, _, .str _, _, h => absurd h (by simp)
  | _, _, _, .tup _ r, a, h => RelL.there r a h
  | _, _, _, .lstO q r e, a, h => by
    rw [e] at h
    rcases List.mem_cons.mp h with h | h
    · rw [h, q]; simp
    · exact RelL.there r a h
  | _, _, _, .lstF _ _ e, _, h => by rw [e] at h; exact absurd h (by simp)
  | _, _, _, .obj q r e, a, h => by
    rw [e] at h
    rcases List.mem_cons.mp h with h | h
    · rw [h, q]; simp
    · exact RelF.there r a h
  | _, _, _, .dct _ _ e, _, h => by rw [e] at h; exact absurd h (by simp)
theorem RelL.there : ∀ {ds : List D} {vs : List V} {L : List Addr}, RelL K ct F H ds vs L → ∀ a, a ∈ L → H a ≠ none
  | _, _, _, .nil, _, h => absurd h (by simp)
  | _, _, _, .cons r rs e, a, h => by
    rw [e] at h
    rcases List.mem_append.mp h with h | h
    · exact Rel.there r a h
    · exact RelL.there rs a h
theorem RelF.there : ∀ {fs : List (String × D)} {vs : List (Str × V)} {L : List Addr}, RelF K ct F H fs vs L → ∀ a, a ∈ L → H a ≠ none
  | _, _, _, .nil, _, h => absurd h (by simp)
  | _, _, _, .cons r rs e, a, h => by
    rw [e] at h
    rcases List.mem_append.mp h with h | h
    · exact Rel.there r a h
    · exact RelF.there rs a h
end
end

/-! ### freezing -/
/-- F with what stands at L in H -/
def froz (F H : Hp) (L : List Addr) : Hp := fun a => if a ∈ L then H a else F a
theorem froz_le {F H : Hp} {L : List Addr} (h : ∀ a, a ∈ L → F a = none) : Lq F (froz F H L) := fun a o e => by
  unfold froz
  rw [if_neg]
  · exact e
  · intro q; rw [h a q] at e; cases e
theorem froz_in {F H : Hp} {L : List Addr} {a : Addr} (h : a ∈ L) : froz F H L a = H a := if_pos h
theorem froz_out {F H : Hp} {L : List Addr} {a : Addr} (h : a ∉ L) : froz F H L a = F a := if_neg h
theorem froz_sub {F H : Hp} {L : List Addr} (h : Lq F H) : Lq (froz F H L) H := fun a o e => by
  by_cases q : a ∈ L
  · rw [froz_in q] at e; exact e
  · rw [froz_out q] at e; exact h a o e
section
variable {K : PySem.W.Frag} {ct : Nat → Addr} {F H : Hp} {L0 : List Addr}
mutual
theorem Rel.freeze (l : Lq F (froz F H L0)) : ∀ {d d' : D} {v : V} {L : List Addr}, (∀ a, a ∈ L → a ∈ L0) → d.freeze = some d' → Rel K ct F H d v L → Rel K ct (froz F H L0) H d' v []
  | .non, _, _, _, _, e, r => by
    cases e; cases r; exact .non
  | .bl b, _, _, _, _, e, r => by
    cases e; cases r; exact .bl b
  | .int i, _, _, _, _, e, r => by
    cases e; cases r; exact .int i
  | .str s, _, _, _, _, e, r => by
    cases e; cases r; exact .str s
  | .tup ds, _, _, _, h, e, .tup q r => by
    cases hf : freezeL ds with
    | none => simp [D.freeze, hf] at e
    | some ds' =>
      simp [D.freeze, hf] at e
      subst e
      exact .tup (l.sqT q) (RelL.freeze l h hf r)
  | .lst _ ds, _, _, _, h, e, .lstO q r e1 => by
    cases hf : freezeL ds with
    | none => simp [D.freeze, hf] at e
    | some ds' =>
      simp [D.freeze, hf] at e
      subst e
      refine .lstF (.inl (.inl ?_)) (RelL.freeze l (fun a ha => h a (by rw [e1]; exact List.mem_cons_of_mem _ ha)) hf r) rfl
      rw [froz_in (h _ (by rw [e1]; exact List.mem_cons_self))]; exact q
  | .lst _ ds, _, _, _, h, e, .lstF q r e1 => by
    cases hf : freezeL ds with
    | none => simp [D.freeze, hf] at e
    | some ds' =>
      simp [D.freeze, hf] at e
      subst e
      exact .lstF (l.sqL q) (RelL.freeze l h hf r) rfl
  | .obj _ _, _, _, _, _, e, .obj _ _ _ => by simp [D.freeze] at e
  | .dct _, _, _, _, _, e, .dct q r e1 => by
    simp [D.freeze] at e
    subst e
    exact .dct (l _ _ q) (RelK.mono l r) rfl
theorem RelL.freeze (l : Lq F (froz F H L0)) : ∀ {ds ds' : List D} {vs : List V} {L : List Addr}, (∀ a, a ∈ L → a ∈ L0) → freezeL ds = some ds' → RelL K ct F H ds vs L → RelL K ct (froz F H L0) H ds' vs []
  | [], _, _, _, _, e, .nil => by
    cases e; exact .nil
  | d :: ds, _, _, _, h, e, .cons r rs e1 => by
    cases h1 : d.freeze with
    | none => simp [freezeL, h1] at e
    | some d1 =>
      cases h2 : freezeL ds with
      | none => simp [freezeL, h1, h2] at e
      | some ds1 =>
        simp [freezeL, h1, h2] at e
        subst e
        exact .cons (Rel.freeze l (fun a ha => h a (by rw [e1]; exact List.mem_append_left _ ha)) h1 r) (RelL.freeze l (fun a ha => h a (by rw [e1]; exact List.mem_append_right _ ha)) h2 rs) rfl
end
end

/-! ### the heap's order -/
structure WF (F H : Hp) (L : List Addr) (G : Addr → Prop) : Prop where
  sub : Lq F H
  nd : L.Nodup
  out : ∀ a, a ∈ L → F a = none ∧ H a ≠ none ∧ ¬ G a
  gd : ∀ a, G a → F a = none ∧ H a ≠ none
theorem WF.of_sub {F H : Hp} {L L' : List Addr} {G : Addr → Prop} (w : WF F H L G) (nd : L'.Nodup) (s : ∀ a, a ∈ L' → a ∈ L) : WF F H L' G := ⟨w.sub, nd, fun a h => w.out a (s a h), w.gd⟩
theorem WF.perm {F H : Hp} {L L' : List Addr} {G : Addr → Prop} (w : WF F H L G) (p : L.Perm L') : WF F H L' G := w.of_sub (p.nodup_iff.mp w.nd) fun a h => p.mem_iff.mpr h

/-! ### environments -/
section
variable (K : PySem.W.Frag) (ct : Nat → Addr) (F H : Hp)
inductive ERel : Env → L2.St → List Addr → Prop
  | nil : ERel [] [] []
  | non {v : Option V} {e : Env} {σ : St} {L : List Addr} : ERel e σ L → ERel (none :: e) (v :: σ) L
  | sm {d : D} {v : V} {e : Env} {σ : St} {L L1 L2 : List Addr} : Rel K ct F H d v L1 → ERel e σ L2 → L = L1 ++ L2 → ERel (some d :: e) (some v :: σ) L
end
section
variable {K : PySem.W.Frag} {ct : Nat → Addr} {F F' H H' : Hp}
theorem ERel.mono (l : Lq F F') : ∀ {e : Env} {σ : St} {L : List Addr}, (∀ a, a ∈ L → H' a = H a) → ERel K ct F H e σ L → ERel K ct F' H' e σ L
  | _, _, _, _, .nil => .nil
  | _, _, _, h, .non r => .non (ERel.mono l h r)
  | _, _, _, h, .sm r rs e => .sm (r.mono l fun a ha => h a (by rw [e]; exact List.mem_append_left _ ha)) (ERel.mono l (fun a ha => h a (by rw [e]; exact List.mem_append_right _ ha)) rs) e
theorem ERel.there : ∀ {e : Env} {σ : St} {L : List Addr}, ERel K ct F H e σ L → ∀ a, a ∈ L → H a ≠ none
  | _, _, _, .nil, _, h => absurd h (by simp)
  | _, _, _, .non r, a, h => ERel.there r a h
  | _, _, _, .sm r rs e, a, h => by
    rw [e] at h
    rcases List.mem_append.mp h with h | h
    · exact r.there a h
    · exact ERel.there rs a h
theorem ERel.length : ∀ {e : Env} {σ : St} {L : List Addr}, ERel K ct F H e σ L → e.length = σ.length
  | _, _, _, .nil => rfl
  | _, _, _, .non r => by simp [ERel.length r]
  | _, _, _, .sm _ r _ => by simp [ERel.length r]
theorem gt_cons0 {x : Option D} {e : Env} : gt 0 (x :: e) = x := by simp [gt]
theorem gt_succ {x : Option D} {e : Env} {i : Nat} : gt (i + 1) (x :: e) = gt i e := by simp [gt]
theorem st_cons0 {x y : Option D} {e : Env} : st 0 y (x :: e) = y :: e := rfl
theorem st_succ {x y : Option D} {e : Env} {i : Nat} : st (i + 1) y (x :: e) = x :: st i y e := rfl
theorem perm_mid {A B C : List Addr} : (A ++ (B ++ C)).Perm (B ++ (A ++ C)) := by
  rw [← List.append_assoc, ← List.append_assoc]
  exact List.perm_append_comm.append_right C
/-- slot i is taken out -/
theorem ERel.take : ∀ {e : Env} {σ : St} {L : List Addr} {i : Nat} {d : D}, ERel K ct F H e σ L → gt i e = some d →
    ∃ v L1 L2, σ[i]? = some (some v) ∧ Rel K ct F H d v L1 ∧ ERel K ct F H (st i none e) σ L2 ∧ L.Perm (L1 ++ L2)
  | _, _, _, _, _, .nil, h => by simp [gt] at h
  | _, _, _, 0, _, .non r, h => by simp [gt] at h
  | _, _, _, 0, _, .sm r rs e, h => by
    rw [gt_cons0] at h; cases h
    exact ⟨_, _, _, rfl, r, .non rs, by rw [e]⟩
  | _, _, _, i + 1, _, .non r, h => by
    rw [gt_succ] at h
    obtain ⟨v, L1, L2, h1, h2, h3, h4⟩ := ERel.take r h
    exact ⟨v, L1, L2, by simpa using h1, h2, .non h3, h4⟩
  | _, _, _, i + 1, _, .sm r rs e, h => by
    rw [gt_succ] at h
    obtain ⟨v, L1, L2, h1, h2, h3, h4⟩ := ERel.take rs h
    refine ⟨v, L1, _, by simpa using h1, h2, .sm r h3 rfl, ?_⟩
    rw [e]
    exact (List.Perm.append_left _ h4).trans perm_mid
/-- .. and something is put in -/
theorem ERel.put : ∀ {e : Env} {σ : St} {L L1 : List Addr} {i : Nat} {d : D} {v : V}, ERel K ct F H (st i none e) σ L → i < e.length → σ[i]? = some (some v) → Rel K ct F H d v L1 →
    ∃ L', ERel K ct F H (st i (some d) e) σ L' ∧ L'.Perm (L1 ++ L)
  | [], _, _, _, _, _, _, _, h, _, _ => absurd h (by simp)
  | _ :: _, _ :: σ, _, _, 0, _, _, r, _, h, q => by
    cases r with
    | non r =>
      simp at h; subst h
      exact ⟨_, .sm q r rfl, List.Perm.refl _⟩
  | x :: e, y :: σ, L, L1, i + 1, d, v, r, hl, h, q => by
    rw [st_succ] at r
    have hl' : i < e.length := by simpa using hl
    have h' : σ[i]? = some (some v) := by simpa using h
    cases r with
    | non r =>
      obtain ⟨L', h1, h2⟩ := ERel.put r hl' h' q
      exact ⟨L', .non h1, h2⟩
    | sm r rs e1 =>
      obtain ⟨L', h1, h2⟩ := ERel.put rs hl' h' q
      refine ⟨_, .sm r h1 rfl, ?_⟩
      rw [e1]
      exact (List.Perm.append_left _ h2).trans perm_mid
/-- a slot that env does not know may hold anything -/
theorem ERel.slot : ∀ {e : Env} {σ : St} {L : List Addr} {i : Nat} {x : Option V}, ERel K ct F H e σ L → gt i e = none → ERel K ct F H e (σ.set i x) L
  | _, _, _, _, _, .nil, _ => .nil
  | _, _, _, 0, _, .non r, _ => .non r
  | _, _, _, 0, _, .sm _ _ _, h => by simp [gt] at h
  | _, _, _, i + 1, _, .non r, h => .non (ERel.slot r (by simpa [gt] using h))
  | _, _, _, i + 1, _, .sm q r e, h => .sm q (ERel.slot r (by simpa [gt] using h)) e
theorem gt_st_same {e : Env} {i : Nat} {x : Option D} : i < e.length → gt i (st i x e) = x := fun h => by
  simp [gt, st, h]
theorem gt_st_ne {e : Env} {i j : Nat} {x : Option D} (h : i ≠ j) : gt j (st i x e) = gt j e := by
  simp [gt, st, List.getElem?_set_ne h]
theorem gt_lt {e : Env} {i : Nat} {d : D} (h : gt i e = some d) : i < e.length := by
  unfold gt at h
  cases q : e[i]? with
  | none => rw [q] at h; cases h
  | some x => exact (List.getElem?_eq_some_iff.mp q).1
theorem st_st {e : Env} {i : Nat} {x y : Option D} : st i y (st i x e) = st i y e := by simp [st, List.set_set]
theorem st_length {e : Env} {i : Nat} {x : Option D} : (st i x e).length = e.length := by simp [st]
theorem st_gt {e : Env} {i : Nat} : ∀ {x : Option D}, i < e.length → gt i e = x → st i x e = e := by
  intro x hl h
  unfold st gt at *
  apply List.ext_getElem?
  intro j
  by_cases hj : i = j
  · subst hj
    rw [List.getElem?_set_self hl]
    cases q : e[i]? with
    | none => rw [List.getElem?_eq_none_iff] at q; omega
    | some y => rw [q] at h; simp at h; rw [h]
  · rw [List.getElem?_set_ne hj]
/-- forgetting slot i -/
theorem ERel.forget {e : Env} {σ : St} {L : List Addr} (i : Nat) (r : ERel K ct F H e σ L) : ∃ L2, ERel K ct F H (st i none e) σ L2 ∧ (∀ a, a ∈ L2 → a ∈ L) ∧ (L.Nodup → L2.Nodup) := by
  cases h : gt i e with
  | none =>
    by_cases hl : i < e.length
    · rw [st_gt hl h]; exact ⟨L, r, fun _ h => h, id⟩
    · have : st i none e = e := by unfold st; exact List.set_eq_of_length_le (by omega)
      rw [this]; exact ⟨L, r, fun _ h => h, id⟩
  | some d =>
    obtain ⟨v, L1, L2, _, _, h3, h4⟩ := r.take h
    exact ⟨L2, h3, fun a ha => h4.mem_iff.mpr (List.mem_append_right _ ha), fun nd => (List.nodup_append.mp (h4.nodup_iff.mp nd)).2.1⟩
end

/-! ### configurations -/
/-- a value that waits for an operation: borrowed (it stands in the environment, or with the caller) or its own -/
abbrev Pend := Bool × D × V
section
variable (K : PySem.W.Frag) (ct : Nat → Addr) (F H : Hp) (In : Addr → Prop)
inductive PendR : List Pend → List Addr → Prop
  | nil : PendR [] []
  | own {d : D} {v : V} {ps : List Pend} {L L1 L2 : List Addr} : Rel K ct F H d v L1 → PendR ps L2 → L = L1 ++ L2 → PendR ((false, d, v) :: ps) L
  | bor {d : D} {v : V} {ps : List Pend} {L L1 : List Addr} : Rel K ct F H d v L1 → (∀ a, a ∈ L1 → In a) → PendR ps L → PendR ((true, d, v) :: ps) L
end
structure Cfg (K : PySem.W.Frag) (ct : Nat → Addr) (P : List (Nat × D)) (Z : List (Nat × V)) (F H : Hp) (σ : L2.St) (e : Env) (ps : List Pend) (Le Lp : List Addr) (N G : Addr → Prop) : Prop where
  wf : WF F H (Le ++ Lp) G
  er : ERel K ct F H e σ Le
  pd : PendR K ct F H (fun a => a ∈ Le ∨ N a) ps Lp
  pr : ∀ p, p ∈ P → ∃ v Lr, σ[p.1]? = some (some v) ∧ Rel K ct F H p.2 v Lr ∧ ∀ a, a ∈ Lr → N a
  ng : ∀ a, N a → G a
  zs : ∀ z, z ∈ Z → σ[z.1]? = some (some z.2)
/-- what a piece may do: F grows, what is guarded stays; a quiet piece leaves the environment and all that it owns as it stands -/
structure Stp (q : Bool) (F H F' H' : Hp) (e e' : Env) (Le Le' : List Addr) (G : Addr → Prop) : Prop where
  le : Ow.Lq F F'
  gd : ∀ a, G a → H' a = H a
  qt : q = true → e' = e ∧ Le' = Le ∧ ∀ a, a ∈ Le → H' a = H a
theorem Stp.refl {q : Bool} {F H : Hp} {e : Env} {Le : List Addr} {G : Addr → Prop} : Stp q F H F H e e Le Le G := ⟨Lq.refl F, fun _ _ => rfl, fun _ => ⟨rfl, rfl, fun _ _ => rfl⟩⟩
section
variable {K : PySem.W.Frag} {ct : Nat → Addr} {F F' H H' : Hp} {In In' : Addr → Prop}
theorem PendR.mono (l : Lq F F') : ∀ {ps : List Pend} {L : List Addr}, (∀ a, a ∈ L → H' a = H a) → ((∃ p, p ∈ ps ∧ p.1 = true) → ∀ a, In a → H' a = H a) → ((∃ p, p ∈ ps ∧ p.1 = true) → ∀ a, In a → In' a) → PendR K ct F H In ps L → PendR K ct F' H' In' ps L
  | _, _, _, _, _, .nil => .nil
  | _, _, h, hb, hi, .own r rs e => .own (r.mono l fun a ha => h a (by rw [e]; exact List.mem_append_left _ ha)) (PendR.mono l (fun a ha => h a (by rw [e]; exact List.mem_append_right _ ha)) (fun ⟨p, hp, q⟩ => hb ⟨p, List.mem_cons_of_mem _ hp, q⟩) (fun ⟨p, hp, q⟩ => hi ⟨p, List.mem_cons_of_mem _ hp, q⟩) rs) e
  | _, _, h, hb, hi, .bor r s rs => .bor (r.mono l fun a ha => hb ⟨_, List.mem_cons_self, rfl⟩ a (s a ha)) (fun a ha => hi ⟨_, List.mem_cons_self, rfl⟩ a (s a ha)) (PendR.mono l h (fun ⟨p, hp, q⟩ => hb ⟨p, List.mem_cons_of_mem _ hp, q⟩) (fun ⟨p, hp, q⟩ => hi ⟨p, List.mem_cons_of_mem _ hp, q⟩) rs)
theorem PendR.append : ∀ {ps qs : List Pend} {L1 L2 : List Addr}, PendR K ct F H In ps L1 → PendR K ct F H In qs L2 → PendR K ct F H In (ps ++ qs) (L1 ++ L2)
  | _, _, _, _, .nil, q => q
  | _, _, _, _, .own r rs e, q => .own r (PendR.append rs q) (by rw [e, List.append_assoc])
  | _, _, _, _, .bor r s rs, q => .bor r s (PendR.append rs q)
end

/-! ### the reading of a pure piece -/
/-- how a result is handed on: value, what comes of it, what waits then -/
abbrev RR (α β : Type) := α → β → List Pend → Prop
abbrev rD (b : Bool) : RR D V := fun d v pl => pl = [(b, d, v)]
abbrev rB : RR Bool Bool := fun x y pl => x = y ∧ pl = []
/-- an exception that leaves: its class, its own dict -/
def ExR (K : PySem.W.Frag) (ct : Nat → Addr) (F H : Hp) (x : D) (cls : Value) (dd : Option Addr) : Prop :=
  match x with
  | .exc c [] => cls = .ref (ct c) ∧ dd = none
  | .exc c [(f, d)] => cls = .ref (ct c) ∧ ∃ a v, dd = some a ∧ H a = some (.xd [(Str.ofString f, v)]) ∧ Rel K ct F H d v []
  | _ => False

def TX {α β : Type} (K : PySem.W.Frag) (ct : Nat → Addr) (P : List (Nat × D)) (zs : List Nat) (W : WX) (rr : RR α β) (q : Bool) (ps : List Pend) (m : M α) : L2.St → Hp → (β → Hp → Prop) → Prop := fun σ H Q =>
  ∃ F e Le Lp N G Z, Z.map (·.1) = zs ∧ Cfg K ct P Z F H σ e ps Le Lp N G ∧
    match m e with
    | .ok a e' => ∀ y F' H' Le' Lp' pl, rr a y pl → Stp q F H F' H' e e' Le Le' G → Cfg K ct P Z F' H' σ e' pl Le' Lp' N G → Q y H'
    | .ex x e' => ∀ cls dd F' H' Le', Stp false F H F' H' e e' Le Le' G → Cfg K ct P Z F' H' σ e' [] Le' [] N G → ExR K ct F' H' x cls dd → W cls dd σ H'
    | .no => False

section
variable {K : PySem.W.Frag} {ct : Nat → Addr} {P : List (Nat × D)} {zs : List Nat} {W : WX} {α β γ δ : Type}
theorem TX.bind {rr1 : RR α β} {rr2 : RR γ δ} {q q1 : Bool} {ps : List Pend} {m : M α} {k : α → M γ} {σ : L2.St} {H : Hp} {Q : δ → Hp → Prop} (hq : q = true → q1 = true) (hb : q1 = true ∨ ps.all (fun p => !p.1) = true)
    (h : TX K ct P zs W rr2 q ps (bd m k) σ H Q) :
    TX K ct P zs W rr1 q1 [] m σ H (fun y H1 => ∃ a pl, rr1 a y pl ∧ TX K ct P zs W rr2 q (pl ++ ps) (k a) σ H1 Q) := by
  obtain ⟨F, e, Le, Lp, N, G, Z, hz, C, k0⟩ := h
  have nd := List.nodup_append.mp C.wf.nd
  have disj : ∀ a, a ∈ Le → a ∉ Lp := fun a h1 h2 => nd.2.2 a h1 a h2 rfl
  refine ⟨F, e, Le, [], N, fun a => G a ∨ a ∈ Lp, Z, hz, ⟨⟨C.wf.sub, by rw [List.append_nil]; exact nd.1, fun a ha => ?_, fun a ha => ?_⟩, C.er, .nil, C.pr, fun a ha => .inl (C.ng a ha), C.zs⟩, ?_⟩
  · rw [List.append_nil] at ha
    obtain ⟨h1, h2, h3⟩ := C.wf.out a (List.mem_append_left _ ha)
    exact ⟨h1, h2, fun z => z.elim h3 (disj a ha)⟩
  · rcases ha with ha | ha
    · exact C.wf.gd a ha
    · obtain ⟨h1, h2, h3⟩ := C.wf.out a (List.mem_append_right _ ha)
      exact ⟨h1, h2⟩
  · cases hm : m e with
    | no => simp only [bd, hm] at k0
    | ex x e1 =>
      simp only [bd, hm] at k0
      intro cls dd F1 H1 Le1 s1 C1 hx
      refine k0 cls dd F1 H1 Le1 ⟨s1.le, fun a ha => s1.gd a (.inl ha), fun z => by cases z⟩ ⟨⟨C1.wf.sub, C1.wf.nd, fun a ha => ?_, fun a ha => C1.wf.gd a (.inl ha)⟩, C1.er, .nil, C1.pr, C.ng, C1.zs⟩ hx
      obtain ⟨h1, h2, h3⟩ := C1.wf.out a ha
      exact ⟨h1, h2, fun z => h3 (.inl z)⟩
    | ok a e1 =>
      simp only [bd, hm] at k0
      intro y F1 H1 Le1 Lp1 pl hr s1 C1
      have nd1 := List.nodup_append.mp C1.wf.nd
      refine ⟨a, pl, hr, F1, e1, Le1, Lp1 ++ Lp, N, G, Z, hz, ⟨⟨C1.wf.sub, ?_, fun b hb' => ?_, fun b hb' => C1.wf.gd b (.inl hb')⟩, C1.er, ?_, C1.pr, C.ng, C1.zs⟩, ?_⟩
      · rw [← List.append_assoc]
        refine List.nodup_append.mpr ⟨C1.wf.nd, nd.2.1, fun b hb1 c hb2 z => ?_⟩
        subst z
        exact (C1.wf.out b hb1).2.2 (.inr hb2)
      · rw [← List.append_assoc] at hb'
        rcases List.mem_append.mp hb' with h | h
        · obtain ⟨h1, h2, h3⟩ := C1.wf.out b h
          exact ⟨h1, h2, fun z => h3 (.inl z)⟩
        · obtain ⟨h1, h2⟩ := C1.wf.gd b (.inr h)
          exact ⟨h1, h2, (C.wf.out b (List.mem_append_right _ h)).2.2⟩
      · refine PendR.append C1.pd (PendR.mono s1.le (fun b hb' => s1.gd b (.inr hb')) (fun hex b hb' => ?_) (fun hex b hb' => ?_) C.pd)
        · rcases hb with hb | hb
          · obtain ⟨_, _, hq3⟩ := s1.qt hb
            rcases hb' with h | h
            · exact hq3 b h
            · exact s1.gd b (.inl (C.ng b h))
          · obtain ⟨p, hp, hp1⟩ := hex
            have := List.all_eq_true.mp hb p hp
            rw [hp1] at this; cases this
        · rcases hb with hb | hb
          · obtain ⟨_, hL, _⟩ := s1.qt hb
            rw [hL]; exact hb'
          · obtain ⟨p, hp, hp1⟩ := hex
            have := List.all_eq_true.mp hb p hp
            rw [hp1] at this; cases this
      · cases hk : k a e1 with
        | no => rw [hk] at k0; exact k0
        | ex x e2 =>
          rw [hk] at k0
          intro cls dd F2 H2 Le2 s2 C2 hx
          exact k0 cls dd F2 H2 Le2 ⟨s1.le.trans s2.le, fun b hb' => (s2.gd b hb').trans (s1.gd b (.inl hb')), fun z => by cases z⟩ C2 hx
        | ok c e2 =>
          rw [hk] at k0
          intro y2 F2 H2 Le2 Lp2 pl2 hr2 s2 C2
          refine k0 y2 F2 H2 Le2 Lp2 pl2 hr2 ⟨s1.le.trans s2.le, fun b hb' => (s2.gd b hb').trans (s1.gd b (.inl hb')), fun z => ?_⟩ C2
          obtain ⟨a1, a2, a3⟩ := s1.qt (hq z)
          obtain ⟨b1, b2, b3⟩ := s2.qt z
          exact ⟨b1.trans a1, b2.trans a2, fun b hb' => (b3 b (by rw [a2]; exact hb')).trans (a3 b hb')⟩
end
end Ow
end

section
set_option linter.all false
set_option autoImplicit false
set_option maxRecDepth 100000
set_option maxHeartbeats 4000000
/-! OwE: judgements for expressions, and the rules that hang on no built-in. -/
namespace Ow
open PySem PySem.Spec L2
open PyProof.Rows hiding St

theorem peImp {X : Cx} {e : Expr} {t t' : TE} (h : PE X e t) (i : ∀ σ H Q, t' σ H Q → t σ H Q) : PE X e t' := ⟨fun pins s σ H Q I q => h.run pins s σ H Q I (i σ H Q q)⟩
theorem ptImp {X : Cx} {e : Expr} {t t' : TT} (h : PT X e t) (i : ∀ σ H Q, t' σ H Q → t σ H Q) : PT X e t' := ⟨fun pins s σ H Q I q => h.run pins s σ H Q I (i σ H Q q)⟩
theorem paImp {X : Cx} {e : List Expr} {t t' : TA} (h : PA X e t) (i : ∀ σ H Q, t' σ H Q → t σ H Q) : PA X e t' := ⟨fun pos pins s σ H Q I q => h.run pos pins s σ H Q I (i σ H Q q)⟩
theorem psImp {X : Cx} {e : Stmt} {t t' : TS} (h : PS X e t) (i : ∀ D σ H, t' D σ H → t D σ H) : PS X e t' := ⟨fun pins s σ H D I q => h.run pins s σ H D I (i D σ H q)⟩
theorem pssImp {X : Cx} {e : List Stmt} {t t' : TS} (h : PSs X e t) (i : ∀ D σ H, t' D σ H → t D σ H) : PSs X e t' := ⟨fun pins s σ H D I q => h.run pins s σ H D I (i D σ H q)⟩

/-- what stands around a piece: class addresses, read-only slots, slots that stay, what is wanted of an exception -/
structure Rd where
  ct : Nat → Addr
  P : List (Nat × D)
  zs : List Nat
  W : WX
abbrev TXr {α β : Type} (X : Cx) (r : Rd) (rr : RR α β) (q : Bool) (ps : List Pend) (m : M α) := TX X.K r.ct r.P r.zs r.W rr q ps m
/-- an expression; b: its value is only borrowed; q: it is quiet -/
def JE (X : Cx) (r : Rd) (q b : Bool) (e : Expr) (m : M D) : Prop := PE X e (TXr X r (rD b) q [] m)
def JT (X : Cx) (r : Rd) (q : Bool) (e : Expr) (m : M Bool) : Prop := PT X e (TXr X r rB q [] m)
inductive rA : List Bool → List D → List V → List Pend → Prop
  | nil : rA [] [] [] []
  | cons {b : Bool} {d : D} {v : V} {bs : List Bool} {ds : List D} {vs : List V} {pl : List Pend} : rA bs ds vs pl → rA (b :: bs) (d :: ds) (v :: vs) ((b, d, v) :: pl)
def JA (X : Cx) (r : Rd) (q : Bool) (bs : List Bool) (es : List Expr) (m : M (List D)) : Prop := PA X es (TXr X r (rA bs) q [] m)

theorem TX.mono {α β : Type} {K : PySem.W.Frag} {ct : Nat → Addr} {P : List (Nat × D)} {zs : List Nat} {W : WX} {rr : RR α β} {q : Bool} {ps : List Pend} {m : M α} {σ : L2.St} {H : Hp} {Q Q' : β → Hp → Prop}
    (h : TX K ct P zs W rr q ps m σ H Q) (i : ∀ y H', Q y H' → Q' y H') : TX K ct P zs W rr q ps m σ H Q' := by
  obtain ⟨F, e, Le, Lp, N, G, Z, hz, C, k⟩ := h
  refine ⟨F, e, Le, Lp, N, G, Z, hz, C, ?_⟩
  cases hm : m e with
  | no => rw [hm] at k; exact k
  | ex x e1 => rw [hm] at k; exact k
  | ok d e1 =>
    rw [hm] at k
    intro y F1 H1 Le1 Lp1 pl hr s1 C1
    exact i y H1 (k y F1 H1 Le1 Lp1 pl hr s1 C1)

/-! ### ends -/
/-- a new value: what stood stands -/
structure New (K : PySem.W.Frag) (ct : Nat → Addr) (F H F' H' : Hp) (d : D) (v : V) (L : List Addr) : Prop where
  le : Lq F F'
  kp : ∀ a, H a ≠ none → H' a = H a ∧ F' a = F a
  sub : Lq F' H'
  rel : Rel K ct F' H' d v L
  new : ∀ a, a ∈ L → H a = none ∧ F' a = none
  nd : L.Nodup
section
variable {K : PySem.W.Frag} {ct : Nat → Addr} {P : List (Nat × D)} {zs : List Nat} {W : WX} {F F' H H' : Hp} {d : D} {v : V} {L : List Addr} {Z : List (Nat × V)} {σ : L2.St} {e : Env} {ps : List Pend} {Le Lp : List Addr} {N G : Addr → Prop} {α β : Type}
theorem New.same (s : Lq F H) (r : Rel K ct F H d v []) : New K ct F H F H d v [] := ⟨Lq.refl F, fun _ _ => ⟨rfl, rfl⟩, s, r, fun _ h => absurd h (by simp), List.nodup_nil⟩
theorem New.mono (n : New K ct F H F' H' d v L) : ∀ a, H a ≠ none → H' a = H a := fun a h => (n.kp a h).1
/-- a new list -/
theorem New.list {ds : List D} {vs : List V} {p : Addr} (s : Lq F H) (r : RelL K ct F H ds vs []) (hp : H p = none) : New K ct F H F (upd H p (.lst vs)) (.lst true ds) (.ref p) [p] := by
  have hF : F p = none := by
    cases q : F p with
    | none => rfl
    | some o => rw [s p o q] at hp; cases hp
  refine ⟨Lq.refl F, fun a ha => ⟨upd_ne (fun z => ha (by rw [z]; exact hp)), rfl⟩, fun a o q => ?_, .lstO upd_same (r.mono (Lq.refl F) fun a ha => absurd ha (by simp)) rfl, fun a ha => ?_, by simp⟩
  · rw [upd_ne]
    · exact s a o q
    · intro z; rw [z, hF] at q; cases q
  · have : a = p := by simpa using ha
    subst this
    exact ⟨hp, hF⟩
/-- a new frozen object -/
theorem upd_le {F : Hp} {p : Addr} {o : HO} (h : F p = none) : Lq F (upd F p o) := fun a u q => by
  rw [upd_ne]
  · exact q
  · intro z; rw [z, h] at q; cases q
theorem upd_both {F H : Hp} {p : Addr} {o : HO} (s : Lq F H) : Lq (upd F p o) (upd H p o) := fun a u q => by
  by_cases z : a = p
  · subst z; rw [upd_same] at q ⊢; exact q
  · rw [upd_ne z] at q ⊢; exact s a u q
theorem Lq.none {F H : Hp} (s : Lq F H) {p : Addr} (h : H p = none) : F p = none := by
  cases q : F p with
  | none => rfl
  | some o => rw [s p o q] at h; cases h
/-- the configuration behind an operation that made d -/
theorem Cfg.new (C : Cfg K ct P Z F H σ e ps Le Lp N G) (n : New K ct F H F' H' d v L) : Stp true F H F' H' e e Le Le G ∧ Cfg K ct P Z F' H' σ e [(false, d, v)] Le L N G := by
  have hk : ∀ a, a ∈ Le → H' a = H a ∧ F' a = F a := fun a ha => n.kp a (C.wf.out a (List.mem_append_left _ ha)).2.1
  have hg : ∀ a, G a → H' a = H a ∧ F' a = F a := fun a ha => n.kp a (C.wf.gd a ha).2
  refine ⟨⟨n.le, fun a ha => (hg a ha).1, fun _ => ⟨rfl, rfl, fun a ha => (hk a ha).1⟩⟩, ⟨n.sub, ?_, fun a ha => ?_, fun a ha => ?_⟩, C.er.mono n.le fun a ha => (hk a ha).1, .own n.rel .nil (by rw [List.append_nil]), fun p hp => ?_, C.ng, C.zs⟩
  · refine List.nodup_append.mpr ⟨(List.nodup_append.mp C.wf.nd).1, n.nd, fun a ha b hb z => ?_⟩
    subst z
    exact (C.wf.out a (List.mem_append_left _ ha)).2.1 (n.new a hb).1
  · rcases List.mem_append.mp ha with h | h
    · obtain ⟨h1, h2, h3⟩ := C.wf.out a (List.mem_append_left _ h)
      obtain ⟨k1, k2⟩ := hk a h
      exact ⟨by rw [k2]; exact h1, by rw [k1]; exact h2, h3⟩
    · obtain ⟨h1, h2⟩ := n.new a h
      exact ⟨h2, n.rel.there a h, fun g => (C.wf.gd a g).2 h1⟩
  · obtain ⟨h1, h2⟩ := C.wf.gd a ha
    obtain ⟨k1, k2⟩ := hg a ha
    exact ⟨by rw [k2]; exact h1, by rw [k1]; exact h2⟩
  · obtain ⟨w, Lr, h1, h2, h3⟩ := C.pr p hp
    exact ⟨w, Lr, h1, h2.mono n.le fun a ha => (hg a (C.ng a (h3 a ha))).1, h3⟩
theorem Stp.weak {q : Bool} {Le' : List Addr} {e' : Env} (s : Stp true F H F' H' e e' Le Le' G) : Stp q F H F' H' e e' Le Le' G := ⟨s.le, s.gd, fun _ => s.qt rfl⟩
/-- an operation: what waits, and how it goes on -/
theorem TX.opD {q : Bool} {o : Option D} {Q : V → Hp → Prop} (h : TX K ct P zs W (rD false) q ps (op o) σ H Q) :
    ∃ F e Le Lp N G Z d, o = some d ∧ Cfg K ct P Z F H σ e ps Le Lp N G ∧ ∀ v F' H' L, New K ct F H F' H' d v L → Q v H' := by
  obtain ⟨F, e, Le, Lp, N, G, Z, hz, C, k⟩ := h
  cases o with
  | none => exact (show False from k).elim
  | some d =>
    refine ⟨F, e, Le, Lp, N, G, Z, d, rfl, C, fun v F' H' L n => ?_⟩
    have k' : ∀ y F' H' Le' Lp' pl, rD false d y pl → Stp q F H F' H' e e Le Le' G → Cfg K ct P Z F' H' σ e pl Le' Lp' N G → Q y H' := k
    obtain ⟨s, c⟩ := C.new n
    exact k' v F' H' Le L _ rfl s.weak c
/-- .. that hands back a plain answer -/
theorem TX.opB {q : Bool} {o : Option Bool} {Q : Bool → Hp → Prop} (h : TX K ct P zs W rB q ps (op o) σ H Q) :
    ∃ F e Le Lp N G Z k, o = some k ∧ Cfg K ct P Z F H σ e ps Le Lp N G ∧ Q k H := by
  obtain ⟨F, e, Le, Lp, N, G, Z, hz, C, k⟩ := h
  cases o with
  | none => exact (show False from k).elim
  | some b =>
    refine ⟨F, e, Le, Lp, N, G, Z, b, rfl, C, ?_⟩
    have k' : ∀ y F' H' Le' Lp' pl, rB b y pl → Stp q F H F' H' e e Le Le' G → Cfg K ct P Z F' H' σ e pl Le' Lp' N G → Q y H' := k
    have nd := List.nodup_append.mp C.wf.nd
    exact k' b F H Le [] [] ⟨rfl, rfl⟩ Stp.refl ⟨C.wf.of_sub (by rw [List.append_nil]; exact nd.1) (fun a ha => by rw [List.append_nil] at ha; exact List.mem_append_left _ ha), C.er, .nil, C.pr, C.ng, C.zs⟩
/-- a value that waits, as it stands now -/
theorem PendR.head {In : Addr → Prop} {b : Bool} {Lp : List Addr} (h : PendR K ct F H In ((b, d, v) :: ps) Lp) : (∃ L, Rel K ct F H d v L) ∧ ∃ L, PendR K ct F H In ps L := by
  cases h with
  | own r rs _ => exact ⟨⟨_, r⟩, _, rs⟩
  | bor r _ rs => exact ⟨⟨_, r⟩, _, rs⟩
theorem Cfg.one {b : Bool} (C : Cfg K ct P Z F H σ e ((b, d, v) :: ps) Le Lp N G) : ∃ L, Rel K ct F H d v L := C.pd.head.1
theorem Cfg.two {b b2 : Bool} {d2 : D} {v2 : V} (C : Cfg K ct P Z F H σ e ((b, d, v) :: (b2, d2, v2) :: ps) Le Lp N G) : (∃ L, Rel K ct F H d v L) ∧ ∃ L, Rel K ct F H d2 v2 L := by
  obtain ⟨h, _, h2⟩ := C.pd.head
  exact ⟨h, h2.head.1⟩
end

/-! ### values by operations: what the rules of HandS ask, told of D -/
/-- a two-place operation of HandS (R2) does what f tells -/
def Op2 (K : PySem.W.Frag) (ct : Nat → Addr) (r : R2) (f : D → D → Option D) : Prop :=
  ∀ (F H : Hp) (d1 d2 d : D) (v1 v2 : V) (L1 L2 : List Addr) (Q : VK), Lq F H → Rel K ct F H d1 v1 L1 → Rel K ct F H d2 v2 L2 → f d1 d2 = some d → (∀ v F' H' L, New K ct F H F' H' d v L → Q v H') → r v1 v2 H Q
def Op1 (K : PySem.W.Frag) (ct : Nat → Addr) (r : V → Hp → VK → Prop) (f : D → Option D) : Prop :=
  ∀ (F H : Hp) (d1 d : D) (v1 : V) (L1 : List Addr) (Q : VK), Lq F H → Rel K ct F H d1 v1 L1 → f d1 = some d → (∀ v F' H' L, New K ct F H F' H' d v L → Q v H') → r v1 H Q
/-- the answer of an operation that makes nothing -/
theorem to_int {K : PySem.W.Frag} {ct : Nat → Addr} {F H : Hp} {Q : VK} {i : Int} (s : Lq F H) (k : ∀ v F' H' L, New K ct F H F' H' (.int i) v L → Q v H') : Q (.int i) H := k _ _ _ _ (.same s (.int i))
theorem to_bl {K : PySem.W.Frag} {ct : Nat → Addr} {F H : Hp} {Q : VK} {i : Bool} (s : Lq F H) (k : ∀ v F' H' L, New K ct F H F' H' (.bl i) v L → Q v H') : Q (.bl i) H := k _ _ _ _ (.same s (.bl i))
theorem to_str {K : PySem.W.Frag} {ct : Nat → Addr} {F H : Hp} {Q : VK} {i : List Nat} (s : Lq F H) (k : ∀ v F' H' L, New K ct F H F' H' (.str i) v L → Q v H') : Q (.str ⟨i.toArray⟩) H := k _ _ _ _ (.same s (.str i))
theorem to_non {K : PySem.W.Frag} {ct : Nat → Addr} {F H : Hp} {Q : VK} (s : Lq F H) (k : ∀ v F' H' L, New K ct F H F' H' .non v L → Q v H') : Q .non H := k _ _ _ _ (.same s .non)

section
variable {X : Cx} {r : Rd} {a b c : Expr} {ma mb mc : M D} {pos : Pos} {qa qb qc ba bb bc : Bool}
theorem hb_of {q : Bool} {ps : List Pend} (h : q = true ∨ ps.all (fun p => !p.1) = true) : q = true ∨ ps.all (fun p => !p.1) = true := h
/-- two operands, from the left -/
theorem TX.two {q : Bool} {σ : L2.St} {H : Hp} {Q : V → Hp → Prop} {f : D → D → Option D} (hq : q = true → qa = true ∧ qb = true) (hb : qb = true ∨ ba = false)
    (h : TXr X r (rD false) q [] (bd ma fun x => bd mb fun y => Ow.op (f x y)) σ H Q) {R : R2} (hR : Op2 X.K r.ct R f) :
    TXr X r (rD ba) qa [] ma σ H fun v H1 => TXr X r (rD bb) qb [] mb σ H1 fun w H2 => R v w H2 Q := by
  refine (TX.bind (rr1 := rD ba) (q1 := qa) (fun z => (hq z).1) (.inr rfl) h).mono fun v H1 ⟨d, pl, hr, h2⟩ => ?_
  subst hr
  refine (TX.bind (rr1 := rD bb) (q1 := qb) (fun z => (hq z).2) ?_ h2).mono fun w H2 ⟨dd, pl2, hr2, h4⟩ => ?_
  · rcases hb with hb | hb
    · exact .inl hb
    · exact .inr (by rw [hb]; rfl)
  subst hr2
  obtain ⟨F5, e5, Le5, Lp5, N5, G5, Z5, d5, ho, C5, k5⟩ := h4.opD
  obtain ⟨⟨L1, r1⟩, ⟨L2, r2⟩⟩ := Cfg.two C5
  exact hR F5 H2 d dd d5 v w L2 L1 Q C5.wf.sub r2 r1 ho k5
theorem TX.one {q : Bool} {σ : L2.St} {H : Hp} {Q : V → Hp → Prop} {f : D → Option D} (hq : q = true → qa = true)
    (h : TXr X r (rD false) q [] (bd ma fun x => Ow.op (f x)) σ H Q) {R : V → Hp → VK → Prop} (hR : Op1 X.K r.ct R f) :
    TXr X r (rD ba) qa [] ma σ H fun v H1 => R v H1 Q := by
  refine (TX.bind (rr1 := rD ba) (q1 := qa) hq (.inr rfl) h).mono fun v H1 ⟨d, pl, hr, h2⟩ => ?_
  subst hr
  obtain ⟨F5, e5, Le5, Lp5, N5, G5, Z5, d5, ho, C5, k5⟩ := h2.opD
  obtain ⟨L1, r1⟩ := Cfg.one C5
  exact hR F5 H1 d d5 v L1 Q C5.wf.sub r1 ho k5

/-! ### operators -/
abbrev both (a b : Bool) : Bool := a && b
theorem both_l {a b : Bool} (h : (a && b) = true) : a = true ∧ b = true := by simpa using h
theorem je_bin {op : Operator} {R : R2} {f : D → D → Option D} (ho : OpR X (binaryOp op) R) (hR : Op2 X.K r.ct R f) (ha : JE X r qa ba a ma) (hb : JE X r qb bb b mb) (hc : qb = true ∨ ba = false := by first | exact .inl rfl | exact .inr rfl) :
    JE X r (qa && qb) false (.BinOp a op b pos) (bd ma fun x => bd mb fun y => Ow.op (f x y)) :=
  peImp (pe_op ho ha hb) fun _ _ _ h => TX.two both_l hc h hR
theorem je_cmp {op : CmpOp} {R : R2} {f : D → D → Option D} (ho : OpR X (compareOp op) R) (hR : Op2 X.K r.ct R f) (ha : JE X r qa ba a ma) (hb : JE X r qb bb b mb) (hm : behindInMarks op b = false) (hc : qb = true ∨ ba = false := by first | exact .inl rfl | exact .inr rfl) :
    JE X r (qa && qb) false (.Compare a [op] [b] pos) (bd ma fun x => bd mb fun y => Ow.op (f x y)) :=
  peImp (pe_cmpR ho ha hb hm) fun _ _ _ h => TX.two both_l hc h hR
theorem je_un {op : UnaryOp} {R : V → Hp → VK → Prop} {f : D → Option D} (ho : UnR X (unaryOp op) R) (hR : Op1 X.K r.ct R f) (ha : JE X r qa ba a ma) :
    JE X r qa false (.UnaryOp op a pos) (bd ma fun x => Ow.op (f x)) :=
  peImp (pe_un ho ha) fun _ _ _ h => TX.one (fun z => z) h hR

/-! ### constants -/
theorem TX.cst {q b : Bool} {d : D} {v : V} {σ : L2.St} {H : Hp} {Q : V → Hp → Prop} (hv : ∀ F H, Rel X.K r.ct F H d v []) (h : TXr X r (rD b) q [] (cst d) σ H Q) : Q v H := by
  obtain ⟨F, e, Le, Lp, N, G, Z, hz, C, k⟩ := h
  refine k v F H Le [] _ rfl Stp.refl ⟨C.wf.of_sub (by rw [List.append_nil]; exact (List.nodup_append.mp C.wf.nd).1) (fun a ha => by rw [List.append_nil] at ha; exact List.mem_append_left _ ha), C.er, ?_, C.pr, C.ng, C.zs⟩
  cases b with
  | false => exact .own (hv F H) .nil rfl
  | true => exact .bor (hv F H) (fun a ha => absurd ha (by simp)) .nil
theorem je_int {i : Int} {j : Nat} : JE X r true false (.Constant (.int i) j pos) (cst (.int i)) := peImp pe_int fun _ _ _ h => TX.cst (fun _ _ => .int i) h
theorem je_bl {b : Bool} {j : Nat} : JE X r true false (.Constant (.bool b) j pos) (cst (.bl b)) := peImp pe_bl fun _ _ _ h => TX.cst (fun _ _ => .bl b) h
theorem je_non {j : Nat} : JE X r true false (.Constant .none j pos) (cst .non) := peImp pe_non fun _ _ _ h => TX.cst (fun _ _ => .non) h
theorem je_str {x : Str} {j : Nat} {s : List Nat} (hs : x = ⟨s.toArray⟩) : JE X r true false (.Constant (.str x) j pos) (cst (.str s)) := peImp pe_str fun _ _ _ h => by
  subst hs
  exact TX.cst (fun _ _ => .str s) h
/-- a module's constant -/
theorem je_glob {x : Str} {v : V} {u : Value} {d : D} (hg : Gl X x) (hm : X.mg x = some u) (hr : RelV v u) (hv : ∀ F H, Rel X.K r.ct F H d v []) (hd : (x == ("__debug__" : Str)) = false := by decide) : JE X r true false (.Name x pos) (cst d) :=
  peImp (pe_glob hg hm hr hd) fun _ _ _ h => TX.cst hv h

/-! ### names -/
theorem rd_var {i : Nat} {x : Str} (hN : X.N[i]? = some x) (hv : Vis X.env.scope x) (hd : (x == ("__debug__" : Str)) = false := by decide) (hcd : (x == ("__classdict__" : Str)) = false := by decide) : PE X (.Name x pos) (tVar i) := pe_var hN hv hd hcd
/-- borrowed: it stands in slot i -/
theorem je_bw {i : Nat} {x : Str} (hx : PE X (.Name x pos) (tVar i)) : JE X r true true (.Name x pos) (bw (.sl i)) := peImp hx fun σ H Q h => by
  obtain ⟨F, e, Le, Lp, N, G, Z, hz, C, k⟩ := h
  cases hg : gt i e with
  | none =>
    have hb : bw (.sl i) e = .no := by simp [bw, Pl.get, hg]
    rw [hb] at k; exact k.elim
  | some d =>
    have hb : bw (.sl i) e = .ok d e := by simp [bw, Pl.get, hg]
    rw [hb] at k
    obtain ⟨v, L1, L2, h1, h2, h3, h4⟩ := C.er.take hg
    refine ⟨v, h1, k v F H Le [] _ rfl Stp.refl ⟨C.wf.of_sub (by rw [List.append_nil]; exact (List.nodup_append.mp C.wf.nd).1) (fun a ha => by rw [List.append_nil] at ha; exact List.mem_append_left _ ha), C.er, ?_, C.pr, C.ng, C.zs⟩⟩
    exact .bor h2 (fun a ha => .inl (h4.mem_iff.mpr (List.mem_append_left _ ha))) .nil
/-- a read-only slot, borrowed -/
theorem je_ro {i : Nat} {x : Str} {d : D} (hx : PE X (.Name x pos) (tVar i)) (hp : (i, d) ∈ r.P) : JE X r true true (.Name x pos) (cst d) := peImp hx fun σ H Q h => by
  obtain ⟨F, e, Le, Lp, N, G, Z, hz, C, k⟩ := h
  obtain ⟨v, Lr, h1, h2, h3⟩ := C.pr _ hp
  refine ⟨v, h1, k v F H Le [] _ rfl Stp.refl ⟨C.wf.of_sub (by rw [List.append_nil]; exact (List.nodup_append.mp C.wf.nd).1) (fun a ha => by rw [List.append_nil] at ha; exact List.mem_append_left _ ha), C.er, ?_, C.pr, C.ng, C.zs⟩⟩
  exact .bor h2 (fun a ha => .inr (h3 a ha)) .nil
/-- a read-only slot, for its value -/
theorem je_roS {i : Nat} {x : Str} {d : D} (hx : PE X (.Name x pos) (tVar i)) (hp : (i, d) ∈ r.P) : JE X r true false (.Name x pos) (roS d) := peImp hx fun σ H Q h => by
  obtain ⟨F, e, Le, Lp, N, G, Z, hz, C, k⟩ := h
  obtain ⟨v, Lr, h1, h2, h3⟩ := C.pr _ hp
  cases ho : d.noOwn with
  | false =>
    have hb : roS d e = .no := by simp [roS, ho]
    rw [hb] at k; exact k.elim
  | true =>
    have hb : roS d e = .ok d e := by simp [roS, ho]
    rw [hb] at k
    refine ⟨v, h1, k v F H Le [] _ rfl Stp.refl ⟨C.wf.of_sub (by rw [List.append_nil]; exact (List.nodup_append.mp C.wf.nd).1) (fun a ha => by rw [List.append_nil] at ha; exact List.mem_append_left _ ha), C.er, ?_, C.pr, C.ng, C.zs⟩⟩
    exact .own (by rw [Rel.noOwn ho h2] at h2; exact h2) .nil rfl
/-- a slot read for its value, nothing owned in it -/
theorem je_rdS {i : Nat} {x : Str} (hx : PE X (.Name x pos) (tVar i)) : JE X r true false (.Name x pos) (rdS i) := peImp hx fun σ H Q h => by
  obtain ⟨F, e, Le, Lp, N, G, Z, hz, C, k⟩ := h
  cases hg : gt i e with
  | none =>
    have hb : rdS i e = .no := by simp [rdS, hg]
    rw [hb] at k; exact k.elim
  | some d =>
    cases ho : d.noOwn with
    | false =>
      have hb : rdS i e = .no := by simp [rdS, hg, ho]
      rw [hb] at k; exact k.elim
    | true =>
      have hb : rdS i e = .ok d e := by simp [rdS, hg, ho]
      rw [hb] at k
      obtain ⟨v, L1, L2, h1, h2, h3, h4⟩ := C.er.take hg
      refine ⟨v, h1, k v F H Le [] _ rfl Stp.refl ⟨C.wf.of_sub (by rw [List.append_nil]; exact (List.nodup_append.mp C.wf.nd).1) (fun a ha => by rw [List.append_nil] at ha; exact List.mem_append_left _ ha), C.er, ?_, C.pr, C.ng, C.zs⟩⟩
      exact .own (by rw [Rel.noOwn ho h2] at h2; exact h2) .nil rfl
/-- a slot read for the last time -/
theorem je_mv {i : Nat} {x : Str} (hx : PE X (.Name x pos) (tVar i)) : JE X r false false (.Name x pos) (mv i) := peImp hx fun σ H Q h => by
  obtain ⟨F, e, Le, Lp, N, G, Z, hz, C, k⟩ := h
  cases hg : gt i e with
  | none =>
    have hb : mv i e = .no := by simp [mv, hg]
    rw [hb] at k; exact k.elim
  | some d =>
    have hb : mv i e = .ok d (st i none e) := by simp [mv, hg]
    rw [hb] at k
    obtain ⟨v, L1, L2, h1, h2, h3, h4⟩ := C.er.take hg
    have nd := (List.nodup_append.mp C.wf.nd).1
    refine ⟨v, h1, k v F H L2 L1 _ rfl ⟨Lq.refl F, fun _ _ => rfl, fun z => by cases z⟩ ⟨C.wf.of_sub ?_ (fun a ha => ?_), h3, .own h2 .nil (by rw [List.append_nil]), C.pr, C.ng, C.zs⟩⟩
    · exact (h4.trans List.perm_append_comm).nodup_iff.mp nd
    · exact List.mem_append_left _ (h4.mem_iff.mpr (List.mem_append.mpr ((List.mem_append.mp ha).symm)))
/-- a slot read for its value, frozen where it stands -/
theorem je_rdF {i : Nat} {x : Str} (hx : PE X (.Name x pos) (tVar i)) : JE X r false false (.Name x pos) (rdF i) := peImp hx fun σ H Q h => by
  obtain ⟨F, e, Le, Lp, N, G, Z, hz, C, k⟩ := h
  cases hg : gt i e with
  | none =>
    have hb : rdF i e = .no := by simp [rdF, hg]
    rw [hb] at k; exact k.elim
  | some d =>
    cases hf : d.freeze with
    | none =>
      have hb : rdF i e = .no := by simp [rdF, hg, hf]
      rw [hb] at k; exact k.elim
    | some d' =>
      have hb : rdF i e = .ok d' (st i (some d') e) := by simp [rdF, hg, hf]
      rw [hb] at k
      obtain ⟨v, L1, L2, h1, h2, h3, h4⟩ := C.er.take hg
      have nd := (List.nodup_append.mp C.wf.nd).1
      have nd2 := List.nodup_append.mp (h4.nodup_iff.mp nd)
      have inL : ∀ a, a ∈ L1 → a ∈ Le := fun a ha => h4.mem_iff.mpr (List.mem_append_left _ ha)
      have inL2 : ∀ a, a ∈ L2 → a ∈ Le := fun a ha => h4.mem_iff.mpr (List.mem_append_right _ ha)
      have hl : Lq F (froz F H L1) := froz_le fun a ha => (C.wf.out a (List.mem_append_left _ (inL a ha))).1
      have hr := h2.freeze hl (fun a ha => ha) hf
      obtain ⟨L', h5, h6⟩ := (h3.mono hl fun _ _ => rfl).put (gt_lt hg) h1 hr
      have h7 : L'.Perm L2 := by simpa using h6
      refine ⟨v, h1, k v (froz F H L1) H L' [] _ rfl ⟨hl, fun _ _ => rfl, fun z => by cases z⟩ ⟨⟨froz_sub C.wf.sub, ?_, fun a ha => ?_, fun a ha => ?_⟩, h5, .own hr .nil rfl, fun p hp => ?_, C.ng, C.zs⟩⟩
      · rw [List.append_nil]; exact h7.nodup_iff.mpr nd2.2.1
      · rw [List.append_nil] at ha
        have ha2 := h7.mem_iff.mp ha
        obtain ⟨o1, o2, o3⟩ := C.wf.out a (List.mem_append_left _ (inL2 a ha2))
        refine ⟨?_, o2, o3⟩
        rw [froz_out (fun z => nd2.2.2 a z a ha2 rfl)]; exact o1
      · obtain ⟨o1, o2⟩ := C.wf.gd a ha
        refine ⟨?_, o2⟩
        rw [froz_out (fun z => (C.wf.out a (List.mem_append_left _ (inL a z))).2.2 ha)]; exact o1
      · obtain ⟨w, Lr, g1, g2, g3⟩ := C.pr p hp
        exact ⟨w, Lr, g1, g2.mono hl fun _ _ => rfl, g3⟩

/-! ### configurations: drop, permute, hand back -/
theorem PendR.sub {K : PySem.W.Frag} {ct : Nat → Addr} {F H : Hp} {In : Addr → Prop} : ∀ {ps : List Pend} {L : List Addr}, PendR K ct F H In ps L → ∀ p : Pend, ∀ qs, ps = p :: qs → ∃ L2, PendR K ct F H In qs L2 ∧ (∀ a, a ∈ L2 → a ∈ L) ∧ (L.Nodup → L2.Nodup)
  | _, _, .nil, _, _, h => by cases h
  | _, _, .own _ rs e, _, _, h => by
    cases h
    exact ⟨_, rs, fun a ha => by rw [e]; exact List.mem_append_right _ ha, fun nd => by rw [e] at nd; exact (List.nodup_append.mp nd).2.1⟩
  | _, _, .bor _ _ rs, _, _, h => by
    cases h
    exact ⟨_, rs, fun _ ha => ha, fun nd => nd⟩
theorem PendR.perm {K : PySem.W.Frag} {ct : Nat → Addr} {F H : Hp} {In : Addr → Prop} {ps qs : List Pend} (h : ps.Perm qs) : ∀ {L : List Addr}, PendR K ct F H In ps L → ∃ L2, PendR K ct F H In qs L2 ∧ L.Perm L2 := by
  induction h with
  | nil => intro L r; exact ⟨L, r, List.Perm.refl _⟩
  | cons x _ ih =>
    intro L r
    cases r with
    | own q rs e =>
      obtain ⟨L2, h1, h2⟩ := ih rs
      exact ⟨_, .own q h1 rfl, by rw [e]; exact List.Perm.append_left _ h2⟩
    | bor q s rs =>
      obtain ⟨L2, h1, h2⟩ := ih rs
      exact ⟨_, .bor q s h1, h2⟩
  | swap x y l =>
    intro L r
    cases r with
    | own q rs e =>
      cases rs with
      | own q2 rs2 e2 => exact ⟨_, .own q2 (.own q rs2 rfl) rfl, by rw [e, e2]; exact perm_mid⟩
      | bor q2 s2 rs2 => exact ⟨_, .bor q2 s2 (.own q rs2 rfl), by rw [e]⟩
    | bor q s rs =>
      cases rs with
      | own q2 rs2 e2 => exact ⟨_, .own q2 (.bor q s rs2) rfl, by rw [e2]⟩
      | bor q2 s2 rs2 => exact ⟨_, .bor q2 s2 (.bor q s rs2), List.Perm.refl _⟩
  | trans _ _ ih1 ih2 =>
    intro L r
    obtain ⟨L2, h1, h2⟩ := ih1 r
    obtain ⟨L3, h3, h4⟩ := ih2 h1
    exact ⟨L3, h3, h2.trans h4⟩
/-- what waits is owned all in all -/
theorem PendR.rels {K : PySem.W.Frag} {ct : Nat → Addr} {F H : Hp} {In : Addr → Prop} : ∀ {bs : List Bool} {ds : List D} {vs : List V} {pl : List Pend} {L : List Addr}, bs.all (fun b => !b) = true → rA bs ds vs pl → PendR K ct F H In pl L → RelL K ct F H ds vs L
  | _, _, _, _, _, _, .nil, .nil => .nil
  | _, _, _, _, _, h, .cons ra, .own r rs e => .cons r (PendR.rels (by simpa using h) ra rs) e
  | _, _, _, _, _, h, .cons ra, .bor _ _ _ => by simp at h
section
variable {K : PySem.W.Frag} {ct : Nat → Addr} {P : List (Nat × D)} {Z : List (Nat × V)} {zs : List Nat} {W : WX} {F F' H H' : Hp} {d : D} {v : V} {L : List Addr} {σ : L2.St} {e : Env} {ps qs : List Pend} {Le Lp : List Addr} {N G : Addr → Prop} {α β : Type} {rr : RR α β} {q : Bool} {m : M α} {Q : β → Hp → Prop} {p : Pend}
theorem Cfg.drop (C : Cfg K ct P Z F H σ e (p :: ps) Le Lp N G) : ∃ Lp', Cfg K ct P Z F H σ e ps Le Lp' N G := by
  obtain ⟨L2, h1, h2, h3⟩ := C.pd.sub p ps rfl
  have nd := List.nodup_append.mp C.wf.nd
  exact ⟨L2, C.wf.of_sub (List.nodup_append.mpr ⟨nd.1, h3 nd.2.1, fun a ha b hb' => nd.2.2 a ha b (h2 b hb')⟩) (fun a ha => (List.mem_append.mp ha).elim (fun z => List.mem_append_left _ z) fun z => List.mem_append_right _ (h2 a z)), C.er, h1, C.pr, C.ng, C.zs⟩
theorem Cfg.perm (C : Cfg K ct P Z F H σ e ps Le Lp N G) (h : ps.Perm qs) : ∃ Lp', Cfg K ct P Z F H σ e qs Le Lp' N G := by
  obtain ⟨L2, h1, h2⟩ := C.pd.perm h
  exact ⟨L2, C.wf.perm (List.Perm.append_left _ h2), C.er, h1, C.pr, C.ng, C.zs⟩
theorem Cfg.clear : ∀ {ps : List Pend} {Lp : List Addr}, Cfg K ct P Z F H σ e ps Le Lp N G → Cfg K ct P Z F H σ e [] Le [] N G
  | [], Lp, C => by
    have e := C.pd
    cases e
    exact C
  | _ :: _, _, C => let ⟨_, C'⟩ := C.drop; C'.clear
theorem TX.drop (h : TX K ct P zs W rr q (p :: ps) m σ H Q) : TX K ct P zs W rr q ps m σ H Q := by
  obtain ⟨F, e, Le, Lp, N, G, Z, hz, C, k⟩ := h
  obtain ⟨Lp', C'⟩ := C.drop
  exact ⟨F, e, Le, Lp', N, G, Z, hz, C', k⟩
theorem TX.perm (h : TX K ct P zs W rr q ps m σ H Q) (hp : ps.Perm qs) : TX K ct P zs W rr q qs m σ H Q := by
  obtain ⟨F, e, Le, Lp, N, G, Z, hz, C, k⟩ := h
  obtain ⟨Lp', C'⟩ := C.perm hp
  exact ⟨F, e, Le, Lp', N, G, Z, hz, C', k⟩
/-- what waits is the result -/
theorem TX.ret {a : α} {y : β} (h : TX K ct P zs W rr q ps (ret1 a) σ H Q) (hr : rr a y ps) : Q y H := by
  obtain ⟨F, e, Le, Lp, N, G, Z, hz, C, k⟩ := h
  exact k y F H Le Lp ps hr Stp.refl C
end


section
variable {K : PySem.W.Frag} {ct : Nat → Addr} {P : List (Nat × D)} {Z : List (Nat × V)} {zs : List Nat} {W : WX} {H : Hp} {σ : L2.St} {ps : List Pend} {α β γ : Type} {rr : RR α β} {q q1 : Bool} {m : M α} {Q : β → Hp → Prop}
theorem TX.weakq (hq : q = true → q1 = true) (h : TX K ct P zs W rr q ps m σ H Q) : TX K ct P zs W rr q1 ps m σ H Q := by
  obtain ⟨F, e, Le, Lp, N, G, Z, hz, C, k⟩ := h
  refine ⟨F, e, Le, Lp, N, G, Z, hz, C, ?_⟩
  cases hm : m e with
  | no => rw [hm] at k; exact k
  | ex x e1 => rw [hm] at k; exact k
  | ok d e1 =>
    rw [hm] at k
    intro y F1 H1 Le1 Lp1 pl hr s1 C1
    exact k y F1 H1 Le1 Lp1 pl hr ⟨s1.le, s1.gd, fun z => s1.qt (hq z)⟩ C1
theorem TX.opk {o : Option γ} {k : γ → M α} (h : TX K ct P zs W rr q ps (bd (Ow.op o) k) σ H Q) : ∃ x, o = some x ∧ TX K ct P zs W rr q ps (k x) σ H Q ∧ ∃ F e Le Lp N G Z, Cfg K ct P Z F H σ e ps Le Lp N G := by
  obtain ⟨F, e, Le, Lp, N, G, Z, hz, C, k0⟩ := h
  cases o with
  | none => exact (show False from k0).elim
  | some x => exact ⟨x, rfl, ⟨F, e, Le, Lp, N, G, Z, hz, C, k0⟩, F, e, Le, Lp, N, G, Z, C⟩
end
/-! ### tests -/
theorem tru_of {K : PySem.W.Frag} {ct : Nat → Addr} {F H : Hp} {d : D} {v : V} {L : List Addr} {k : Bool} (s : Lq F H) (r : Rel K ct F H d v L) (h : truD d = some k) : TruV K v H k := by
  cases r with
  | non => cases h; rfl
  | bl b => cases h; rfl
  | int i => cases h; rfl
  | str x =>
    simp only [truD] at h
    split at h
    · rename_i hl
      cases h
      refine ⟨by rw [sizeLine_eq]; simpa [Str.length, lineN] using hl, ?_⟩
      cases x <;> simp [Str.length]
      omega
    · cases h
  | tup q rs =>
    cases h
    refine .inr (.inl ⟨_, s.sqT q, ?_⟩)
    have := rs.length
    cases rs <;> rfl
  | lstO q rs e =>
    cases h
    refine .inl ⟨_, SqL.of q, ?_⟩
    cases rs <;> rfl
  | lstF q rs e =>
    cases h
    refine .inl ⟨_, s.sqL q, ?_⟩
    cases rs <;> rfl
  | obj _ _ _ => cases h
  | dct q rk e =>
    cases h
    refine .inr (.inr ⟨_, s _ _ q, ?_⟩)
    cases rk <;> rfl
section
variable {X : Cx} {r : Rd} {a b c : Expr} {es : List Expr} {ma mb mc : M D} {ta tb' tc : M Bool} {pos : Pos} {q qa qb qc ba bb bc : Bool}
/-- an expression as a test, by its value's truth -/
theorem jt_val (ha : JE X r q ba a ma) (he : ∀ whole, isTrue a X.env whole = (do let v ← whole; standAt a.pos; holding [v] (truthy v)) := by intro _; rfl) : JT X r q a (tb ma) :=
  ptImp (pt_truth ha he) fun σ H Q h => by
    refine (TX.bind (rr1 := rD ba) (q1 := q) (fun z => z) (.inr rfl) h).mono fun v H1 ⟨d, pl, hr, h2⟩ => ?_
    subst hr
    obtain ⟨F5, e5, Le5, Lp5, N5, G5, Z5, k, ho, C5, q5⟩ := h2.opB
    obtain ⟨L1, r1⟩ := Cfg.one C5
    exact ⟨k, tru_of C5.wf.sub r1 ho, q5⟩
/-- a comparison as a test: its answer is a bool -/
def blOf : D → Option Bool
  | .bl b => some b
  | _ => none
def tbB (m : M D) : M Bool := bd m fun d => op (blOf d)
theorem jt_bool {t : TE} (hp : PT X a (tTest t)) (hi : ∀ σ H Q, TXr X r (rD false) q [] ma σ H Q → t σ H Q) : JT X r q a (tbB ma) := ptImp hp fun σ H Q h => by
  refine hi σ H _ ((TX.bind (rr1 := rD false) (q1 := q) (fun z => z) (.inr rfl) h).mono fun v H1 ⟨d, pl, hr, h2⟩ => ?_)
  subst hr
  obtain ⟨F5, e5, Le5, Lp5, N5, G5, Z5, k, ho, C5, q5⟩ := h2.opB
  obtain ⟨L1, r1⟩ := Cfg.one C5
  cases d with
  | bl b =>
    cases ho
    cases r1
    exact ⟨_, rfl, q5⟩
  | _ => cases ho
theorem jt_cmp {op : CmpOp} {R : R2} {f : D → D → Option D} (ho : OpR X (compareOp op) R) (hR : Op2 X.K r.ct R f) (ha : JE X r qa ba a ma) (hb : JE X r qb bb b mb) (hm : behindInMarks op b = false) (hc : qb = true ∨ ba = false := by first | exact .inl rfl | exact .inr rfl) :
    JT X r (qa && qb) (.Compare a [op] [b] pos) (tbB (bd ma fun x => bd mb fun y => Ow.op (f x y))) :=
  jt_bool (pt_cmpR ho ha hb hm) fun _ _ _ h => TX.two both_l hc h hR
theorem jt_not (ha : JT X r q a ta) : JT X r q (.UnaryOp .Not a pos) (notB ta) := ptImp (pt_not ha) fun σ H Q h => by
  refine (TX.bind (rr1 := rB) (q1 := q) (fun z => z) (.inr rfl) h).mono fun v H1 ⟨d, pl, ⟨e1, e2⟩, h2⟩ => ?_
  subst e1 e2
  exact TX.ret h2 ⟨rfl, rfl⟩
def JW (X : Cx) (r : Rd) (q : Bool) (e : Expr) (m : M Bool) : Prop := PW X e (TXr X r rB q [] m)
theorem pwImp {X : Cx} {e : Expr} {t t' : TT} (h : PW X e t) (i : ∀ σ H Q, t' σ H Q → t σ H Q) : PW X e t' := ⟨fun wh pins s σ H Q I q => h.run wh pins s σ H Q I (i σ H Q q)⟩
theorem jw_and1 (ha : JT X r q a ta) : JW X r q (.BoolOp .And [a] pos) ta := pw_and1 ha
theorem jw_or1 (ha : JT X r q a ta) : JW X r q (.BoolOp .Or [a] pos) ta := pw_or1 ha
theorem jw_and (ha : JT X r qa a ta) (hb : JW X r qb (.BoolOp .And (b :: es) pos) tb') : JW X r (qa && qb) (.BoolOp .And (a :: b :: es) pos) (andB ta tb') := pwImp (pw_and ha hb) fun σ H Q h => by
  refine (TX.bind (rr1 := rB) (q1 := qa) (fun z => (both_l z).1) (.inr rfl) h).mono fun v H1 ⟨d, pl, ⟨e1, e2⟩, h2⟩ => ?_
  subst e1 e2
  cases d with
  | false => exact TX.ret h2 ⟨rfl, rfl⟩
  | true => exact TX.weakq (fun z => (both_l z).2) h2
theorem jw_or (ha : JT X r qa a ta) (hb : JW X r qb (.BoolOp .Or (b :: es) pos) tb') : JW X r (qa && qb) (.BoolOp .Or (a :: b :: es) pos) (orB ta tb') := pwImp (pw_or ha hb) fun σ H Q h => by
  refine (TX.bind (rr1 := rB) (q1 := qa) (fun z => (both_l z).1) (.inr rfl) h).mono fun v H1 ⟨d, pl, ⟨e1, e2⟩, h2⟩ => ?_
  subst e1 e2
  cases d with
  | true => exact TX.ret h2 ⟨rfl, rfl⟩
  | false => exact TX.weakq (fun z => (both_l z).2) h2
theorem JW.jt (h : JW X r q a ta) : JT X r q a ta := PW.pt h
/-- a test's answer as a value -/
theorem je_ifE (hc : JT X r qc c tc) (ha : JE X r qa ba a ma) (hb : JE X r qb ba b mb) : JE X r (qc && (qa && qb)) ba (.IfExp c a b pos) (ifE tc ma mb) := peImp (pe_ifExp hc ha hb) fun σ H Q h => by
  refine (TX.bind (rr1 := rB) (q1 := qc) (fun z => (both_l z).1) (.inr rfl) h).mono fun v H1 ⟨d, pl, ⟨e1, e2⟩, h2⟩ => ?_
  subst e1 e2
  cases d with
  | true => exact TX.weakq (fun z => (both_l (both_l z).2).1) h2
  | false => exact TX.weakq (fun z => (both_l (both_l z).2).2) h2
/-- x and y, x or y as values, by truth -/
theorem je_and (ha : JE X r qa ba a ma) (hb : JE X r qb ba (.BoolOp .And (b :: es) pos) mb) : JE X r (qa && qb) ba (.BoolOp .And (a :: b :: es) pos) (andV ma mb) := peImp (pe_andT ha hb) fun σ H Q h => by
  refine (TX.bind (rr1 := rD ba) (q1 := qa) (fun z => (both_l z).1) (.inr rfl) h).mono fun v H1 ⟨d, pl, hr, h2⟩ => ?_
  subst hr
  obtain ⟨k, hk, h3, F5, e5, Le5, Lp5, N5, G5, Z5, C5⟩ := h2.opk
  obtain ⟨L1, r1⟩ := Cfg.one C5
  refine ⟨k, tru_of C5.wf.sub r1 hk, ?_⟩
  cases k with
  | true => exact TX.weakq (fun z => (both_l z).2) (TX.drop h3)
  | false => exact TX.ret h3 rfl
theorem je_or (ha : JE X r qa ba a ma) (hb : JE X r qb ba (.BoolOp .Or (b :: es) pos) mb) : JE X r (qa && qb) ba (.BoolOp .Or (a :: b :: es) pos) (orV ma mb) := peImp (pe_orT ha hb) fun σ H Q h => by
  refine (TX.bind (rr1 := rD ba) (q1 := qa) (fun z => (both_l z).1) (.inr rfl) h).mono fun v H1 ⟨d, pl, hr, h2⟩ => ?_
  subst hr
  obtain ⟨k, hk, h3, F5, e5, Le5, Lp5, N5, G5, Z5, C5⟩ := h2.opk
  obtain ⟨L1, r1⟩ := Cfg.one C5
  refine ⟨k, tru_of C5.wf.sub r1 hk, ?_⟩
  cases k with
  | false => exact TX.weakq (fun z => (both_l z).2) (TX.drop h3)
  | true => exact TX.ret h3 rfl
theorem je_one {op : BoolOp} (ha : JE X r q ba a ma) : JE X r q ba (.BoolOp op [a] pos) ma := pe_one ha
theorem je_not (ha : JE X r q ba a ma) : JE X r q false (.UnaryOp .Not a pos) (bd (tb ma) fun k => ret1 (D.bl (!k))) := peImp (pe_notT ha) fun σ H Q h => by
  have h' : TXr X r (rD false) q [] (bd ma fun d => bd (Ow.op (truD d)) fun k => ret1 (D.bl (!k))) σ H Q := by
    have e : (bd (tb ma) fun k => ret1 (D.bl (!k))) = (bd ma fun d => bd (Ow.op (truD d)) fun k => ret1 (D.bl (!k))) := by
      funext e
      simp only [bd, tb]
      cases ma e <;> rfl
    rw [e] at h
    exact h
  refine (TX.bind (rr1 := rD ba) (q1 := q) (fun z => z) (.inr rfl) h').mono fun v H1 ⟨d, pl, hr, h2⟩ => ?_
  subst hr
  obtain ⟨k, hk, h3, F5, e5, Le5, Lp5, N5, G5, Z5, C5⟩ := h2.opk
  obtain ⟨L1, r1⟩ := Cfg.one C5
  exact ⟨k, tru_of C5.wf.sub r1 hk, TX.cst (fun _ _ => .bl _) (TX.drop h3)⟩
end
end
end Ow
end

section
set_option linter.all false
set_option autoImplicit false
set_option maxRecDepth 100000
set_option maxHeartbeats 4000000
/-! OwB: operators and built-ins. -/
namespace Ow
open PySem PySem.Spec L2
open PyProof.Rows hiding St

theorem lineN_eq : lineN = sizeLine := by rw [sizeLine_eq]; rfl
theorem str_append (a b : List Nat) : ((⟨a.toArray⟩ : Str) ++ (⟨b.toArray⟩ : Str)) = ⟨(a ++ b).toArray⟩ := by
  show Str.append _ _ = _
  simp [Str.append]
theorem str_length (a : List Nat) : (⟨a.toArray⟩ : Str).length = a.length := by simp [Str.length]
section
variable {K : PySem.W.Frag} {ct : Nat → Addr} {F H : Hp} {d : D} {v : V} {L : List Addr}
/-! ### inversion -/
theorem Rel.int_inv {i : Int} (r : Rel K ct F H (.int i) v L) : v = .int i := by cases r; rfl
theorem Rel.bl_inv {b : Bool} (r : Rel K ct F H (.bl b) v L) : v = .bl b := by cases r; rfl
theorem Rel.non_inv (r : Rel K ct F H .non v L) : v = .non := by cases r; rfl
theorem Rel.str_inv {s : List Nat} (r : Rel K ct F H (.str s) v L) : v = .str ⟨s.toArray⟩ := by cases r; rfl
/-- a list, owned or not, is to be read -/
theorem Rel.lst_inv {o : Bool} {ds : List D} (s : Lq F H) (r : Rel K ct F H (.lst o ds) v L) : ∃ a vs L', v = .ref a ∧ SqL K H a vs ∧ RelL K ct F H ds vs L' ∧ ∀ x, x ∈ L' → x ∈ L := by
  cases r with
  | lstO q rs e => exact ⟨_, _, _, rfl, SqL.of q, rs, fun x hx => by rw [e]; exact List.mem_cons_of_mem _ hx⟩
  | lstF q rs e => exact ⟨_, _, _, rfl, s.sqL q, rs, fun x hx => hx⟩
theorem Rel.tup_inv {ds : List D} (s : Lq F H) (r : Rel K ct F H (.tup ds) v L) : ∃ a vs, v = .ref a ∧ SqT K H a vs ∧ RelL K ct F H ds vs L := by
  cases r with
  | tup q rs => exact ⟨_, _, rfl, s.sqT q, rs⟩
theorem RelL.ints : ∀ {ds : List D} {vs : List V} {L : List Addr} {is : List Int}, RelL K ct F H ds vs L → ints? ds = some is → vs = is.map V.int
  | _, _, _, _, .nil, e => by cases e; rfl
  | .int i :: ds, _, _, _, .cons q rs e1, e => by
    simp only [ints?] at e
    cases h : ints? ds with
    | none => rw [h] at e; cases e
    | some is =>
      rw [h] at e; cases e
      rw [q.int_inv, rs.ints h]; rfl
  | .non :: _, _, _, _, .cons _ _ _, e => by cases e
  | .bl _ :: _, _, _, _, .cons _ _ _, e => by cases e
  | .str _ :: _, _, _, _, .cons _ _ _, e => by cases e
  | .tup _ :: _, _, _, _, .cons _ _ _, e => by cases e
  | .lst _ _ :: _, _, _, _, .cons _ _ _, e => by cases e
  | .obj _ _ :: _, _, _, _, .cons _ _ _, e => by cases e
  | .dct _ :: _, _, _, _, .cons _ _ _, e => by cases e
  | .exc _ _ :: _, _, _, _, .cons _ _ _, e => by cases e
theorem RelL.bls : ∀ {ds : List D} {vs : List V} {L : List Addr} {is : List Bool}, RelL K ct F H ds vs L → bls? ds = some is → vs = is.map V.bl
  | _, _, _, _, .nil, e => by cases e; rfl
  | .bl i :: ds, _, _, _, .cons q rs e1, e => by
    simp only [bls?] at e
    cases h : bls? ds with
    | none => rw [h] at e; cases e
    | some is =>
      rw [h] at e; cases e
      rw [q.bl_inv, rs.bls h]; rfl
  | .non :: _, _, _, _, .cons _ _ _, e => by cases e
  | .int _ :: _, _, _, _, .cons _ _ _, e => by cases e
  | .str _ :: _, _, _, _, .cons _ _ _, e => by cases e
  | .tup _ :: _, _, _, _, .cons _ _ _, e => by cases e
  | .lst _ _ :: _, _, _, _, .cons _ _ _, e => by cases e
  | .obj _ _ :: _, _, _, _, .cons _ _ _, e => by cases e
  | .dct _ :: _, _, _, _, .cons _ _ _, e => by cases e
  | .exc _ _ :: _, _, _, _, .cons _ _ _, e => by cases e
def toStr (s : List Nat) : Str := ⟨s.toArray⟩
theorem RelL.strs : ∀ {ds : List D} {vs : List V} {L : List Addr} {is : List (List Nat)}, RelL K ct F H ds vs L → strs? ds = some is → vs = (is.map toStr).map V.str
  | _, _, _, _, .nil, e => by cases e; rfl
  | .str i :: ds, _, _, _, .cons q rs e1, e => by
    simp only [strs?] at e
    cases h : strs? ds with
    | none => rw [h] at e; cases e
    | some is =>
      rw [h] at e; cases e
      rw [q.str_inv, rs.strs h]; rfl
  | .non :: _, _, _, _, .cons _ _ _, e => by cases e
  | .int _ :: _, _, _, _, .cons _ _ _, e => by cases e
  | .bl _ :: _, _, _, _, .cons _ _ _, e => by cases e
  | .tup _ :: _, _, _, _, .cons _ _ _, e => by cases e
  | .lst _ _ :: _, _, _, _, .cons _ _ _, e => by cases e
  | .obj _ _ :: _, _, _, _, .cons _ _ _, e => by cases e
  | .dct _ :: _, _, _, _, .cons _ _ _, e => by cases e
  | .exc _ _ :: _, _, _, _, .cons _ _ _, e => by cases e
end

/-! ### + -/
section
variable {X : Cx}
def rCatS (K : PySem.W.Frag) : R2 := fun x y H Q => ∃ l b xs zs, x = .ref l ∧ y = .ref b ∧ SqL K H l xs ∧ SqL K H b zs ∧ xs.length + zs.length ≤ sizeLine ∧ ∀ p, H p = none → Q (.ref p) (upd H p (.lst (xs ++ zs)))
theorem op_catS : OpR X (binaryOp .Add) (rCatS X.K) := by
  intro pins s σ H x y v u Q I rx ry h
  obtain ⟨l, b, xs, zs, rfl, rfl, hH, hB, hz, q⟩ := h
  cases rx
  cases ry
  obtain ⟨its, r, pl, _⟩ := I.list hH
  obtain ⟨its2, r2, pl2, _⟩ := I.list hB
  obtain ⟨⟨cls, dd, data, sl⟩, n, ho, hc, _, hd⟩ := pl
  obtain ⟨⟨cls2, dd2, data2, sl2⟩, n2, ho2, hc2, _, hd2⟩ := pl2
  simp only at hc hd hc2 hd2
  subst hc hd hc2 hd2
  have e : its.toArray ++ its2.toArray = (its ++ its2).toArray := by simp
  have hl := r.length
  have hl2 := r2.length
  refine concat_meets ⟨_, ho, rfl⟩ ⟨_, ho2, rfl⟩ noFill_list_add seq_list_add PySem.F.slot_list_add PySem.F.entry_list_add (PySem.F.args_list_add_2 _ _) (PyProof.Rows.list_addW l b its.toArray its2.toArray n n2 dd dd2 sl sl2 (by simp only [List.size_toArray]; omega)) ⟨ho, ho2, ?_⟩
  rw [e]
  exact ⟨.ref _, _, I.lnew (t' := s.toks) (r.append r2) (by rw [List.length_append]; omega), rfl, q _ I.fresh⟩
abbrev rAddA (K : PySem.W.Frag) : R2 := fun x y H Q => (rI0 (fun i j => .int (i + j)) x y H Q ∨ (∃ i j, x = .str i ∧ y = .str j ∧ i.length + j.length ≤ sizeLine ∧ Q (.str (i ++ j)) H)) ∨ rCatS K x y H Q
theorem o_add : OpR X (binaryOp .Add) (rAddA X.K) := (op_add.or op_add_str).or op_catS
end
section
variable {K : PySem.W.Frag} {ct : Nat → Addr}
theorem noOwn_nil {F H : Hp} {ds : List D} {vs : List V} {L : List Addr} (h : noOwnL ds = true) (r : RelL K ct F H ds vs L) : RelL K ct F H ds vs [] := by
  have e := RelL.noOwn h r
  rw [e] at r
  exact r
theorem a_add : Op2 K ct (rAddA K) addD := by
  intro F H d1 d2 d v1 v2 L1 L2 Q s r1 r2 h k
  cases d1 with
  | int i =>
    cases d2 with
    | int j => cases h; cases r1; cases r2; exact .inl (.inl ⟨_, _, rfl, rfl, to_int s k⟩)
    | _ => cases h
  | str i =>
    cases d2 with
    | str j =>
      simp only [addD] at h
      split at h
      · rename_i hl
        cases h; cases r1; cases r2
        refine .inl (.inr ⟨_, _, rfl, rfl, ?_, ?_⟩)
        · rw [str_length, str_length, ← lineN_eq]; exact hl
        · rw [str_append]; exact to_str s k
      · cases h
    | _ => cases h
  | lst o xs =>
    cases d2 with
    | lst o2 ys =>
      simp only [addD] at h
      split at h
      · rename_i hl
        obtain ⟨hl, n1, n2⟩ := hl
        cases h
        obtain ⟨a, vs, L', rfl, q1, rs1, _⟩ := r1.lst_inv s
        obtain ⟨a2, vs2, L2', rfl, q2, rs2, _⟩ := r2.lst_inv s
        refine .inr ⟨a, a2, vs, vs2, rfl, rfl, q1, q2, ?_, fun p hp => ?_⟩
        · rw [← rs1.length, ← rs2.length, ← lineN_eq]; exact hl
        · exact k _ _ _ _ (New.list s ((noOwn_nil n1 rs1).append (noOwn_nil n2 rs2)) hp)
      · cases h
    | _ => cases h
  | _ => cases h
theorem a_sub : Op2 K ct (rI0 fun i j => .int (i - j)) subD := by
  intro F H d1 d2 d v1 v2 L1 L2 Q s r1 r2 h k
  cases d1 <;> first
    | (cases h; done)
    | (cases d2 <;> first | (cases h; done) | (cases h; cases r1; cases r2; exact ⟨_, _, rfl, rfl, to_int s k⟩))
/-- * : ints together below a million bits, a list times an int -/
abbrev rMulA : R2 := fun x y H Q => rI CMulW (fun i j => .int (i * j)) x y H Q ∨ rRep x y H Q
theorem o_mul {X : Cx} : OpR X (binaryOp .Mult) rMulA := op_mulW.or op_rep
def mulI : D → D → Option D
  | .int i, .int j => if bitsOk i j then some (.int (i * j)) else none
  | .lst true xs, .int k => if -(2 ^ 63) ≤ k ∧ k < 2 ^ 63 ∧ xs.length * k.toNat ≤ lineN ∧ noOwnL xs then some (.lst true (List.replicate k.toNat xs).flatten) else none
  | _, _ => none
theorem a_mul : Op2 K ct rMulA mulI := by
  intro F H d1 d2 d v1 v2 L1 L2 Q s r1 r2 h k
  cases d1 with
  | int i =>
    cases d2 with
    | int j =>
      simp only [mulI] at h
      split at h
      · rename_i hb
        cases h; cases r1; cases r2
        exact .inl ⟨_, _, rfl, rfl, (show i.natAbs.log2 + j.natAbs.log2 < 1000000 from by simpa [bitsOk] using hb), to_int s k⟩
      · cases h
    | _ => cases h
  | lst o xs =>
    cases o with
    | false => cases d2 <;> cases h
    | true =>
      cases d2 with
      | int j =>
        simp only [mulI] at h
        split at h
        · rename_i hb
          obtain ⟨h1, h2, h3, h4⟩ := hb
          cases h
          cases r2
          cases r1 with
          | lstO q rs e =>
            refine .inr ⟨_, _, _, rfl, rfl, q, h1, h2, ?_, fun p hp => ?_⟩
            · rw [← rs.length, ← lineN_eq]; exact h3
            · exact k _ _ _ _ (New.list s ((noOwn_nil h4 rs).rep _) hp)
        · cases h
      | _ => cases h
  | _ => cases h
theorem a_fdiv : Op2 K ct (rI CDivW fun i j => .int (i / j)) fdivD := by
  intro F H d1 d2 d v1 v2 L1 L2 Q s r1 r2 h k
  cases d1 with
  | int i =>
    cases d2 with
    | int j =>
      simp only [fdivD] at h
      split at h
      · rename_i hb
        cases h; cases r1; cases r2
        exact ⟨_, _, rfl, rfl, hb, to_int s k⟩
      · cases h
    | _ => cases h
  | _ => cases h
theorem a_mod : Op2 K ct (rI (fun _ j => 0 < j) fun i j => .int (i % j)) modD := by
  intro F H d1 d2 d v1 v2 L1 L2 Q s r1 r2 h k
  cases d1 with
  | int i =>
    cases d2 with
    | int j =>
      simp only [modD] at h
      split at h
      · rename_i hb
        cases h; cases r1; cases r2
        exact ⟨_, _, rfl, rfl, hb, to_int s k⟩
      · cases h
    | _ => cases h
  | _ => cases h
theorem a_pow : Op2 K ct (rI CPow fun i j => .int (i ^ j.toNat)) powD := by
  intro F H d1 d2 d v1 v2 L1 L2 Q s r1 r2 h k
  cases d1 with
  | int i =>
    cases d2 with
    | int j =>
      simp only [powD] at h
      split at h
      · rename_i hb
        cases h; cases r1; cases r2
        exact ⟨_, _, rfl, rfl, hb, to_int s k⟩
      · cases h
    | _ => cases h
  | _ => cases h
theorem a_neg : Op1 K ct (rU fun i => .int (-i)) negD := by
  intro F H d1 d v1 L1 Q s r1 h k
  cases d1 with
  | int i => cases h; cases r1; exact ⟨_, rfl, to_int s k⟩
  | _ => cases h
theorem a_lt : Op2 K ct (rI0 fun i j => .bl (decide (i < j))) ltD := by
  intro F H d1 d2 d v1 v2 L1 L2 Q s r1 r2 h k
  cases d1 <;> first
    | (cases h; done)
    | (cases d2 <;> first | (cases h; done) | (cases h; cases r1; cases r2; exact ⟨_, _, rfl, rfl, to_bl s k⟩))
theorem a_le : Op2 K ct (rI0 fun i j => .bl (decide (i ≤ j))) leD := by
  intro F H d1 d2 d v1 v2 L1 L2 Q s r1 r2 h k
  cases d1 <;> first
    | (cases h; done)
    | (cases d2 <;> first | (cases h; done) | (cases h; cases r1; cases r2; exact ⟨_, _, rfl, rfl, to_bl s k⟩))
theorem a_gt : Op2 K ct (rI0 fun i j => .bl (decide (j < i))) gtD := by
  intro F H d1 d2 d v1 v2 L1 L2 Q s r1 r2 h k
  cases d1 <;> first
    | (cases h; done)
    | (cases d2 <;> first | (cases h; done) | (cases h; cases r1; cases r2; exact ⟨_, _, rfl, rfl, to_bl s k⟩))
theorem a_ge : Op2 K ct (rI0 fun i j => .bl (decide (j ≤ i))) geD := by
  intro F H d1 d2 d v1 v2 L1 L2 Q s r1 r2 h k
  cases d1 <;> first
    | (cases h; done)
    | (cases d2 <;> first | (cases h; done) | (cases h; cases r1; cases r2; exact ⟨_, _, rfl, rfl, to_bl s k⟩))

/-! ### ==, != of data -/
mutual
def toPy : D → PyData
  | .non => .none
  | .bl b => .bool b
  | .int i => .int i
  | .str s => .str ⟨s.toArray⟩
  | .tup ds => .tuple (toPyL ds)
  | .lst _ ds => .list (toPyL ds)
  | .obj _ _ => .none
  | .dct _ => .none
  | .exc _ _ => .none
def toPyL : List D → List PyData
  | [] => []
  | d :: ds => toPy d :: toPyL ds
end
mutual
theorem dp_of {F H : Hp} (s : Lq F H) : ∀ {n : Nat} {d : D} {v : V} {L : List Addr}, d.isData n = true → Rel K ct F H d v L → Dp K H v (toPy d)
  | _, _, _, _, _, .non => .non
  | _, _, _, _, _, .bl b => .bl b
  | _, _, _, _, _, .int i => .int i
  | _, _, _, _, _, .str x => .str _
  | n, .tup ds, _, _, h, .tup q rs => by
    cases n with
    | zero => cases h
    | succ n => exact .tup (s.sqT q) (dp_ofL s (by simpa [D.isData] using h) rs)
  | n, .lst _ ds, _, _, h, .lstO q rs e => by
    cases n with
    | zero => cases h
    | succ n => exact .lst (SqL.of q) (dp_ofL s (by simpa [D.isData] using h) rs)
  | n, .lst _ ds, _, _, h, .lstF q rs e => by
    cases n with
    | zero => cases h
    | succ n => exact .lst (s.sqL q) (dp_ofL s (by simpa [D.isData] using h) rs)
  | n, .obj _ _, _, _, h, .obj _ _ _ => by cases n <;> cases h
  | n, .dct _, _, _, h, .dct _ _ _ => by cases n <;> cases h
theorem dp_ofL {F H : Hp} (s : Lq F H) : ∀ {n : Nat} {ds : List D} {vs : List V} {L : List Addr}, isDataL n ds = true → RelL K ct F H ds vs L → DpAll K H vs (toPyL ds)
  | _, _, _, _, _, .nil => .nil
  | n, d :: ds, _, _, h, .cons r rs e => by
    have h' : d.isData n = true ∧ isDataL n ds = true := by
      cases n <;> simpa [isDataL] using h
    exact .cons (dp_of s h'.1 r) (dp_ofL s h'.2 rs)
end
mutual
theorem can_of : ∀ (n : Nat) (d : D), d.isData n = true → (toPy d).canLay0 = true ∧ (toPy d).depth ≤ n
  | n, .non, _ => by simp [toPy, PyData.canLay0, PyData.depth]
  | n, .bl _, _ => by simp [toPy, PyData.canLay0, PyData.depth]
  | n, .int _, _ => by simp [toPy, PyData.canLay0, PyData.depth]
  | n, .str x, h => by
    have h' : sgnOk x = true := by cases n <;> exact h
    refine ⟨?_, by simp [toPy, PyData.depth]⟩
    simp only [toPy, PyData.canLay0, PyData.strOk]
    unfold sgnOk at h'
    rw [List.all_eq_true] at h'
    rw [Array.all_eq_true_iff_forall_mem]
    intro c hc
    have := h' c (by simpa using hc)
    simpa using this
  | 0, .tup ds, h => by cases h
  | n + 1, .tup ds, h => by
    obtain ⟨h1, h2⟩ := can_ofL n ds (by simpa [D.isData] using h)
    simp only [toPy, PyData.canLay0, PyData.depth]
    exact ⟨h1, by omega⟩
  | 0, .lst _ ds, h => by cases h
  | n + 1, .lst _ ds, h => by
    obtain ⟨h1, h2⟩ := can_ofL n ds (by simpa [D.isData] using h)
    simp only [toPy, PyData.canLay0, PyData.depth]
    exact ⟨h1, by omega⟩
  | n, .obj _ _, h => by cases n <;> cases h
  | n, .dct _, h => by cases n <;> cases h
  | n, .exc _ _, h => by cases n <;> cases h
theorem can_ofL : ∀ (n : Nat) (ds : List D), isDataL n ds = true → PyData.canLayAll0 (toPyL ds) = true ∧ PyData.depthAll (toPyL ds) ≤ n
  | n, [], _ => by simp [toPyL, PyData.canLayAll0, PyData.depthAll]
  | n, d :: ds, h => by
    have h' : d.isData n = true ∧ isDataL n ds = true := by
      cases n <;> simpa [isDataL] using h
    obtain ⟨a1, a2⟩ := can_of n d h'.1
    obtain ⟨b1, b2⟩ := can_ofL n ds h'.2
    simp only [toPyL, PyData.canLayAll0, PyData.depthAll]
    exact ⟨by rw [a1, b1]; rfl, by omega⟩
end
theorem shaped_of {d : D} (h : d.isData 60 = true) : SeqAt.shaped (toPy d) = true := by
  obtain ⟨h1, h2⟩ := can_of 60 d h
  unfold SeqAt.shaped
  rw [h1]
  simp; omega
theorem strb (a b : List Nat) : ((⟨a.toArray⟩ : Str) == ⟨b.toArray⟩) = (a == b) := by
  by_cases h : a = b
  · subst h; simp
  · have : (a == b) = false := by simpa using h
    rw [this]
    simpa using h
mutual
theorem eqv_of : ∀ (n m : Nat) (a b : D), a.isData n = true → b.isData m = true → PyData.eqv (toPy a) (toPy b) = eqv a b
  | n, m, a, b, ha, hb => by
    cases a with
    | obj _ _ => cases n <;> cases ha
    | dct _ => cases n <;> cases ha
    | exc _ _ => cases n <;> cases ha
    | non => cases b with
      | obj _ _ => cases m <;> cases hb
      | dct _ => cases m <;> cases hb
      | exc _ _ => cases m <;> cases hb
      | _ => simp [toPy, PyData.eqv, eqv]
    | bl x => cases b with
      | obj _ _ => cases m <;> cases hb
      | dct _ => cases m <;> cases hb
      | exc _ _ => cases m <;> cases hb
      | _ => simp [toPy, PyData.eqv, eqv]
    | int x => cases b with
      | obj _ _ => cases m <;> cases hb
      | dct _ => cases m <;> cases hb
      | exc _ _ => cases m <;> cases hb
      | _ => simp [toPy, PyData.eqv, eqv]
    | str x => cases b with
      | obj _ _ => cases m <;> cases hb
      | dct _ => cases m <;> cases hb
      | exc _ _ => cases m <;> cases hb
      | str y => simp only [toPy, PyData.eqv, eqv]; exact strb x y
      | _ => simp [toPy, PyData.eqv, eqv]
    | tup xs =>
      cases n with
      | zero => cases ha
      | succ n =>
        cases b with
        | obj _ _ => cases m <;> cases hb
        | dct _ => cases m <;> cases hb
        | exc _ _ => cases m <;> cases hb
        | tup ys =>
          cases m with
          | zero => cases hb
          | succ m =>
            simp only [toPy, PyData.eqv, eqv]
            exact eqvL_of n m xs ys (by simpa [D.isData] using ha) (by simpa [D.isData] using hb)
        | _ => simp [toPy, PyData.eqv, eqv]
    | lst o xs =>
      cases n with
      | zero => cases ha
      | succ n =>
        cases b with
        | obj _ _ => cases m <;> cases hb
        | dct _ => cases m <;> cases hb
        | exc _ _ => cases m <;> cases hb
        | lst o2 ys =>
          cases m with
          | zero => cases hb
          | succ m =>
            simp only [toPy, PyData.eqv, eqv]
            exact eqvL_of n m xs ys (by simpa [D.isData] using ha) (by simpa [D.isData] using hb)
        | _ => simp [toPy, PyData.eqv, eqv]
theorem eqvL_of : ∀ (n m : Nat) (as bs : List D), isDataL n as = true → isDataL m bs = true → PyData.eqvAll (toPyL as) (toPyL bs) = eqvL as bs
  | n, m, [], [], _, _ => by simp [toPyL, PyData.eqvAll, eqvL]
  | n, m, [], _ :: _, _, _ => by simp [toPyL, PyData.eqvAll, eqvL]
  | n, m, _ :: _, [], _, _ => by simp [toPyL, PyData.eqvAll, eqvL]
  | n, m, a :: as, b :: bs, ha, hb => by
    have ha' : a.isData n = true ∧ isDataL n as = true := by
      cases n <;> simpa [isDataL] using ha
    have hb' : b.isData m = true ∧ isDataL m bs = true := by
      cases m <;> simpa [isDataL] using hb
    simp only [toPyL, PyData.eqvAll, eqvL]
    rw [eqv_of n m a b ha'.1 hb'.1, eqvL_of n m as bs ha'.2 hb'.2]
end
theorem a_eq : Op2 K ct (rEqD K) eqD := by
  intro F H d1 d2 d v1 v2 L1 L2 Q s r1 r2 h k
  unfold eqD at h
  split at h
  · rename_i hb
    cases h
    have hb' : d1.isData 60 = true ∧ d2.isData 60 = true := by simpa using hb
    refine ⟨_, _, dp_of s hb'.1 r1, dp_of s hb'.2 r2, shaped_of hb'.1, shaped_of hb'.2, ?_⟩
    rw [eqv_of 60 60 d1 d2 hb'.1 hb'.2]
    exact to_bl s k
  · cases h
theorem a_ne : Op2 K ct (rNeD K) neD := by
  intro F H d1 d2 d v1 v2 L1 L2 Q s r1 r2 h k
  unfold neD at h
  split at h
  · rename_i hb
    cases h
    have hb' : d1.isData 60 = true ∧ d2.isData 60 = true := by simpa using hb
    refine ⟨_, _, dp_of s hb'.1 r1, dp_of s hb'.2 r2, shaped_of hb'.1, shaped_of hb'.2, ?_⟩
    rw [eqv_of 60 60 d1 d2 hb'.1 hb'.2]
    exact to_bl s k
  · cases h
/-- is None, is not None -/
def isND (a b : D) : Option D := match b with
  | .non => some (isN a)
  | _ => none
def notND (a b : D) : Option D := match b with
  | .non => some (notN a)
  | _ => none
theorem non_iff {F H : Hp} {d : D} {v : V} {L : List Addr} (r : Rel K ct F H d v L) : decide (v = .non) = isNon d := by
  cases r <;> simp [isNon]
theorem a_isN : Op2 K ct (fun x y H Q => y = .non ∧ Q (.bl (decide (x = .non))) H) isND := by
  intro F H d1 d2 d v1 v2 L1 L2 Q s r1 r2 h k
  cases d2 with
  | non =>
    cases h; cases r2
    refine ⟨rfl, ?_⟩
    rw [non_iff r1]
    have e : isN d1 = .bl (isNon d1) := by cases d1 <;> rfl
    rw [e] at k
    exact to_bl s k
  | _ => cases h
theorem a_notN : Op2 K ct (fun x y H Q => y = .non ∧ Q (.bl (!decide (x = .non))) H) notND := by
  intro F H d1 d2 d v1 v2 L1 L2 Q s r1 r2 h k
  cases d2 with
  | non =>
    cases h; cases r2
    refine ⟨rfl, ?_⟩
    rw [non_iff r1]
    have e : notN d1 = .bl (!isNon d1) := by cases d1 <;> rfl
    rw [e] at k
    exact to_bl s k
  | _ => cases h

/-! ### subscripts -/
theorem ixN_eq (n : Nat) (i : Int) : L2.ixN n i = pyIx n i := rfl
theorem atI_rel {F H : Hp} {ds : List D} {vs : List V} {L : List Addr} {i : Int} {d : D} (r : RelL K ct F H ds vs L) (h : atI ds i = some d) : ∃ v L1, L2.atI vs i = some v ∧ Rel K ct F H d v L1 ∧ ∀ a, a ∈ L1 → a ∈ L := by
  unfold atI at h
  unfold L2.atI
  rw [ixN_eq, ← r.length]
  cases hp : pyIx ds.length i with
  | none => rw [hp] at h; cases h
  | some j =>
    rw [hp] at h
    obtain ⟨v, L1, h1, h2, h3⟩ := r.get (show ds[j]? = some d from h)
    exact ⟨v, L1, h1, h2, h3⟩
theorem a_ix : Op2 K ct (rIx K) ixD := by
  intro F H d1 d2 d v1 v2 L1 L2 Q s r1 r2 h k
  cases d2 with
  | int i =>
    cases r2
    cases d1 with
    | lst o xs =>
      obtain ⟨a, vs, L', rfl, q1, rs, _⟩ := r1.lst_inv s
      simp only [ixD] at h
      cases hx : atI xs i with
      | none => rw [hx] at h; cases h
      | some x =>
        rw [hx] at h
        simp only at h
        split at h
        · rename_i ho
          cases h
          obtain ⟨v, Lv, h1, h2, _⟩ := atI_rel rs hx
          rw [Rel.noOwn ho h2] at h2
          exact .inl ⟨a, vs, i, v, rfl, rfl, q1, h1, k _ _ _ _ (.same s h2)⟩
        · cases h
    | tup xs =>
      obtain ⟨a, vs, rfl, q1, rs⟩ := r1.tup_inv s
      simp only [ixD] at h
      cases hx : atI xs i with
      | none => rw [hx] at h; cases h
      | some x =>
        rw [hx] at h
        simp only at h
        split at h
        · rename_i ho
          cases h
          obtain ⟨v, Lv, h1, h2, _⟩ := atI_rel rs hx
          rw [Rel.noOwn ho h2] at h2
          exact .inr (.inl ⟨a, vs, i, v, rfl, rfl, q1, h1, k _ _ _ _ (.same s h2)⟩)
        · cases h
    | str x =>
      cases r1
      simp only [ixD] at h
      split at h
      · rename_i hl
        cases hx : atI x i with
        | none => rw [hx] at h; cases h
        | some c =>
          rw [hx] at h
          cases h
          refine .inr (.inr ⟨_, i, c, rfl, rfl, ?_, ?_, to_str (i := [c]) s k⟩)
          · rw [str_length, ← lineN_eq]; exact hl
          · exact hx
      · cases h
    | _ => cases h
  | _ => cases d1 <;> cases h
end
end Ow
end

section
set_option linter.all false
set_option autoImplicit false
set_option maxRecDepth 100000
set_option maxHeartbeats 4000000
/-! OwC: argument lists, displays, slices, calls of built-ins, places and what changes them. -/
namespace Ow
open PySem PySem.Spec L2
open PyProof.Rows hiding St

section
variable {X : Cx} {r : Rd} {a b c : Expr} {es : List Expr} {ma mb mc : M D} {ms : M (List D)} {pos p : Pos} {q qa qb qc ba bb : Bool} {bs : List Bool}

/-! ### argument lists -/
def argN : M (List D) := ret1 []
def argC (m : M D) (ms : M (List D)) : M (List D) := bd m fun d => bd ms fun ds => ret1 (d :: ds)
theorem ja_nil : JA X r true [] [] argN := paImp pa_nil fun _ _ _ h => TX.ret h .nil
theorem rA.app : ∀ {bs : List Bool} {ds : List D} {vs : List V} {pl : List Pend}, rA bs ds vs pl → rA bs ds vs pl := fun h => h
theorem ja_cons (ha : JE X r qa ba a ma) (hb : JA X r qb bs es ms) (hc : qb = true ∨ ba = false := by first | exact .inl rfl | exact .inr rfl) (hs : starEach (a :: es) X.env = (false, eval a X.env) :: starEach es X.env := by rfl) :
    JA X r (qa && qb) (ba :: bs) (a :: es) (argC ma ms) := paImp (pa_cons ha hb hs) fun σ H Q h => by
  refine (TX.bind (rr1 := rD ba) (q1 := qa) (fun z => (both_l z).1) (.inr rfl) h).mono fun v H1 ⟨d, pl, hr, h2⟩ => ?_
  subst hr
  refine (TX.bind (rr1 := rA bs) (q1 := qb) (fun z => (both_l z).2) ?_ h2).mono fun vs H2 ⟨ds, pl2, hr2, h4⟩ => ?_
  · rcases hc with hb | hb
    · exact .inl hb
    · exact .inr (by rw [hb]; rfl)
  exact TX.ret (h4.perm (List.perm_append_comm)) (.cons hr2)

/-! ### displays -/
def mkL (ds : List D) : Option D := match freezeL ds with
  | some ds' => if ds'.length ≤ lineN then some (.lst true ds') else none
  | none => none
def mkT (ds : List D) : Option D := if ds.length ≤ lineN then some (.tup ds) else none
theorem freezeL_length : ∀ {ds ds' : List D}, freezeL ds = some ds' → ds'.length = ds.length
  | [], _, h => by cases h; rfl
  | d :: ds, _, h => by
    simp only [freezeL] at h
    cases h1 : d.freeze with
    | none => rw [h1] at h; cases h
    | some d1 =>
      rw [h1] at h
      cases h2 : freezeL ds with
      | none => rw [h2] at h; cases h
      | some ds1 =>
        rw [h2] at h
        cases h
        simp [freezeL_length h2]
/-- a new object made of what waits -/
theorem Cfg.made {K : PySem.W.Frag} {ct : Nat → Addr} {P : List (Nat × D)} {Z : List (Nat × V)} {F F' H H' : Hp} {d : D} {v : V} {L : List Addr} {σ : L2.St} {e : Env} {ps : List Pend} {Le Lp : List Addr} {N G : Addr → Prop}
    (C : Cfg K ct P Z F H σ e ps Le Lp N G) (le : Lq F F') (sub : Lq F' H') (kp : ∀ a, a ∈ Le ∨ G a → H' a = H a ∧ F' a = none) (rel : Rel K ct F' H' d v L) (new : ∀ a, a ∈ L → F' a = none ∧ a ∉ Le ∧ ¬ G a) (nd : L.Nodup) :
    Stp true F H F' H' e e Le Le G ∧ Cfg K ct P Z F' H' σ e [(false, d, v)] Le L N G := by
  refine ⟨⟨le, fun a ha => (kp a (.inr ha)).1, fun _ => ⟨rfl, rfl, fun a ha => (kp a (.inl ha)).1⟩⟩, ⟨sub, ?_, fun a ha => ?_, fun a ha => ?_⟩, C.er.mono le fun a ha => (kp a (.inl ha)).1, .own rel .nil (by rw [List.append_nil]), fun p hp => ?_, C.ng, C.zs⟩
  · refine List.nodup_append.mpr ⟨(List.nodup_append.mp C.wf.nd).1, nd, fun a ha b hb z => ?_⟩
    subst z
    exact (new a hb).2.1 ha
  · rcases List.mem_append.mp ha with h | h
    · obtain ⟨h1, h2, h3⟩ := C.wf.out a (List.mem_append_left _ h)
      obtain ⟨k1, k2⟩ := kp a (.inl h)
      exact ⟨k2, by rw [k1]; exact h2, h3⟩
    · obtain ⟨h1, h2, h3⟩ := new a h
      exact ⟨h1, rel.there a h, h3⟩
  · obtain ⟨h1, h2⟩ := C.wf.gd a ha
    obtain ⟨k1, k2⟩ := kp a (.inr ha)
    exact ⟨k2, by rw [k1]; exact h2⟩
  · obtain ⟨w, Lr, h1, h2, h3⟩ := C.pr p hp
    exact ⟨w, Lr, h1, h2.mono le fun a ha => (kp a (.inr (C.ng a (h3 a ha)))).1, h3⟩
/-- an operation on what waits: the whole configuration is handed out -/
theorem TX.opC {K : PySem.W.Frag} {ct : Nat → Addr} {P : List (Nat × D)} {zs : List Nat} {W : WX} {H : Hp} {σ : L2.St} {ps : List Pend} {q : Bool} {o : Option D} {Q : V → Hp → Prop} (h : TX K ct P zs W (rD false) q ps (Ow.op o) σ H Q) :
    ∃ F e Le Lp N G Z d, o = some d ∧ Cfg K ct P Z F H σ e ps Le Lp N G ∧ ∀ v F' H' L, Stp true F H F' H' e e Le Le G → Cfg K ct P Z F' H' σ e [(false, d, v)] Le L N G → Q v H' := by
  obtain ⟨F, e, Le, Lp, N, G, Z, hz, C, k⟩ := h
  cases o with
  | none => exact (show False from k).elim
  | some d =>
    refine ⟨F, e, Le, Lp, N, G, Z, d, rfl, C, fun v F' H' L s c => ?_⟩
    have k' : ∀ y F' H' Le' Lp' pl, rD false d y pl → Stp q F H F' H' e e Le Le' G → Cfg K ct P Z F' H' σ e pl Le' Lp' N G → Q y H' := k
    exact k' v F' H' Le L _ rfl s.weak c
theorem je_lst (hb : JA X r q bs es ms) (hall : bs.all (fun b => !b) = true := by rfl) : JE X r q false (.List es pos) (bd ms fun ds => Ow.op (mkL ds)) := peImp (pe_lst hb) fun σ H Q h => by
  refine (TX.bind (rr1 := rA bs) (q1 := q) (fun z => z) (.inr rfl) h).mono fun vs H1 ⟨ds, pl, hr, h2⟩ => ?_
  rw [List.append_nil] at h2
  obtain ⟨F, e, Le, Lp, N, G, Z, d, ho, C, k⟩ := h2.opC
  simp only [mkL] at ho
  cases hf : freezeL ds with
  | none => rw [hf] at ho; cases ho
  | some ds' =>
    rw [hf] at ho
    simp only at ho
    split at ho
    · rename_i hl
      cases ho
      have rs := PendR.rels hall hr C.pd
      have nd := List.nodup_append.mp C.wf.nd
      have hle : Lq F (froz F H1 Lp) := froz_le fun a ha => (C.wf.out a (List.mem_append_right _ ha)).1
      have rs' := RelL.freeze hle (fun a ha => ha) hf rs
      refine ⟨by rw [← rs.length, ← freezeL_length hf, ← lineN_eq]; exact hl, fun p hp => ?_⟩
      have hsub := froz_sub (L := Lp) C.wf.sub
      have n := New.list (ct := r.ct) hsub rs' hp
      have k1 : ∀ a, a ∈ Le ∨ G a → upd H1 p (.lst vs) a = H1 a ∧ froz F H1 Lp a = none := fun a ha => by
        have hne : H1 a ≠ none := by
          rcases ha with ha | ha
          · exact (C.wf.out a (List.mem_append_left _ ha)).2.1
          · exact (C.wf.gd a ha).2
        refine ⟨n.mono a hne, ?_⟩
        have : a ∉ Lp := fun z => by
          rcases ha with ha | ha
          · exact nd.2.2 a ha a z rfl
          · exact (C.wf.out a (List.mem_append_right _ z)).2.2 ha
        rw [froz_out this]
        rcases ha with ha | ha
        · exact (C.wf.out a (List.mem_append_left _ ha)).1
        · exact (C.wf.gd a ha).1
      have hm := C.made (F' := froz F H1 Lp) (H' := upd H1 p (.lst vs)) (d := .lst true ds') (v := .ref p) (L := [p]) hle n.sub k1 n.rel (fun a ha => by
        obtain ⟨h1, h2⟩ := n.new a ha
        exact ⟨h2, fun z => (C.wf.out a (List.mem_append_left _ z)).2.1 h1, fun z => (C.wf.gd a z).2 h1⟩) n.nd
      exact k _ _ _ _ hm.1 hm.2
    · cases ho
theorem je_tup {x1 : Nat} (hb : JA X r q bs es ms) (hall : bs.all (fun b => !b) = true := by rfl) : JE X r q false (.Tuple es x1 pos) (bd ms fun ds => Ow.op (mkT ds)) := peImp (pe_tup hb) fun σ H Q h => by
  refine (TX.bind (rr1 := rA bs) (q1 := q) (fun z => z) (.inr rfl) h).mono fun vs H1 ⟨ds, pl, hr, h2⟩ => ?_
  rw [List.append_nil] at h2
  obtain ⟨F, e, Le, Lp, N, G, Z, d, ho, C, k⟩ := h2.opC
  simp only [mkT] at ho
  split at ho
  · rename_i hl
    cases ho
    have rs := PendR.rels hall hr C.pd
    have nd := List.nodup_append.mp C.wf.nd
    refine ⟨by rw [← rs.length, ← lineN_eq]; exact hl, fun p hp => ?_⟩
    have hF := C.wf.sub.none hp
    have hnp : ∀ a, H1 a ≠ none → a ≠ p := fun a ha z => ha (by rw [z]; exact hp)
    have inL : ∀ a, a ∈ Lp → F a = none ∧ H1 a ≠ none ∧ ¬ G a := fun a ha => C.wf.out a (List.mem_append_right _ ha)
    have k1 : ∀ a, a ∈ Le ∨ G a → upd H1 p (.tup vs) a = H1 a ∧ upd F p (.tup vs) a = none := fun a ha => by
      have hne : H1 a ≠ none ∧ F a = none := by
        rcases ha with ha | ha
        · obtain ⟨x1, x2, x3⟩ := C.wf.out a (List.mem_append_left _ ha)
          exact ⟨x2, x1⟩
        · obtain ⟨x1, x2⟩ := C.wf.gd a ha
          exact ⟨x2, x1⟩
      exact ⟨upd_ne (hnp a hne.1), by rw [upd_ne (hnp a hne.1)]; exact hne.2⟩
    have hm := C.made (F' := upd F p (.tup vs)) (H' := upd H1 p (.tup vs)) (d := .tup ds) (v := .ref p) (L := Lp) (upd_le hF) (upd_both C.wf.sub) k1
      (.tup (SqT.of upd_same) (rs.mono (upd_le hF) fun a ha => upd_ne (hnp a (inL a ha).2.1))) (fun a ha => by
        obtain ⟨x1, x2, x3⟩ := inL a ha
        exact ⟨by rw [upd_ne (hnp a x2)]; exact x1, fun z => nd.2.2 a z a ha rfl, x3⟩) nd.2.1
    exact k _ _ _ _ hm.1 hm.2
  · cases ho

/-! ### subscripts, slices -/
theorem je_ix (ha : JE X r qa ba a ma) (hb : JE X r qb bb b mb) (hs : PlainIx b) (hc : qb = true ∨ ba = false := by first | exact .inl rfl | exact .inr rfl) :
    JE X r (qa && qb) false (.Subscript a b pos) (bd ma fun x => bd mb fun y => Ow.op (ixD x y)) :=
  peImp (pe_ix ix_seq ha hb hs) fun _ _ _ h => TX.two both_l hc h a_ix
abbrev rO : RR (Option Int) (Option Int) := fun x y pl => x = y ∧ pl = []
def intOf : D → Option (Option Int)
  | .int i => some (some i)
  | _ => none
def optN : M (Option Int) := ret1 none
def optE (m : M D) : M (Option Int) := bd m fun x => Ow.op (intOf x)
def JO (X : Cx) (r : Rd) (q : Bool) (e : Option Expr) (m : M (Option Int)) : Prop := ∃ t, PO X e t ∧ ∀ σ H Q, TXr X r rO q [] m σ H Q → t σ H Q
theorem jo_none : JO X r true none optN := ⟨_, po_none, fun σ H Q h => TX.ret h ⟨rfl, rfl⟩⟩
theorem TX.opO {K : PySem.W.Frag} {ct : Nat → Addr} {P : List (Nat × D)} {zs : List Nat} {W : WX} {H : Hp} {σ : L2.St} {ps : List Pend} {q : Bool} {α : Type} {o : Option α} {Q : α → Hp → Prop} (h : TX K ct P zs W (fun x y pl => x = y ∧ pl = []) q ps (Ow.op o) σ H Q) :
    ∃ F e Le Lp N G Z k, o = some k ∧ Cfg K ct P Z F H σ e ps Le Lp N G ∧ Q k H := by
  obtain ⟨F, e, Le, Lp, N, G, Z, hz, C, k⟩ := h
  cases o with
  | none => exact (show False from k).elim
  | some b =>
    refine ⟨F, e, Le, Lp, N, G, Z, b, rfl, C, ?_⟩
    have k' : ∀ (y : α) F' H' Le' Lp' pl, (b = y ∧ pl = []) → Stp q F H F' H' e e Le Le' G → Cfg K ct P Z F' H' σ e pl Le' Lp' N G → Q y H' := k
    exact k' b F H Le [] [] ⟨rfl, rfl⟩ Stp.refl C.clear
theorem jo_some (ha : JE X r q ba a ma) : JO X r q (some a) (optE ma) := ⟨_, po_some ha, fun σ H Q h => by
  refine (TX.bind (rr1 := rD ba) (q1 := q) (fun z => z) (.inr rfl) h).mono fun v H1 ⟨d, pl, hr, h2⟩ => ?_
  subst hr
  obtain ⟨F5, e5, Le5, Lp5, N5, G5, Z5, k, ho, C5, q5⟩ := h2.opO
  obtain ⟨L1, r1⟩ := Cfg.one C5
  cases d with
  | int i =>
    cases ho; cases r1
    exact ⟨_, rfl, q5⟩
  | _ => cases ho⟩
def slO (d : D) (l h : Option Int) : Option D := match d with
  | .lst _ xs => if noOwnL xs then some (.lst true (cut xs l h)) else none
  | .str s => if s.length ≤ lineN then some (.str (cut s l h)) else none
  | _ => none
theorem clip_eq (n d : Nat) (o : Option Int) : HT.sIx n d o = clip n d o := by cases o <;> rfl
theorem cutV_eq {K : PySem.W.Frag} {ct : Nat → Addr} {F H : Hp} {xs : List D} {vs : List V} (r : RelL K ct F H xs vs []) (l h : Option Int) : RelL K ct F H (cut xs l h) (cutV vs l h) [] := by
  unfold cut cutV
  rw [clip_eq, clip_eq, ← r.length]
  exact (r.drop _).take _
theorem cutS_eq (s : List Nat) (l h : Option Int) : L2.cutS ⟨s.toArray⟩ l h = ⟨(cut s l h).toArray⟩ := by
  unfold L2.cutS cut
  rw [str_length, clip_eq, clip_eq]
theorem a_sl {K : PySem.W.Frag} {ct : Nat → Addr} {F H : Hp} {d1 d : D} {v1 : V} {L1 : List Addr} {l h : Option Int} {Q : VK} (s : Lq F H) (r1 : Rel K ct F H d1 v1 L1) (ho : slO d1 l h = some d) (k : ∀ v F' H' L, New K ct F H F' H' d v L → Q v H') :
    rSlL K v1 l h H Q ∨ rSlS v1 l h H Q := by
  cases d1 with
  | lst o xs =>
    simp only [slO] at ho
    split at ho
    · rename_i hn
      cases ho
      obtain ⟨a, vs, L', rfl, q1, rs, _⟩ := r1.lst_inv s
      exact .inl ⟨a, vs, rfl, q1, fun p hp => k _ _ _ _ (New.list s (cutV_eq (noOwn_nil hn rs) l h) hp)⟩
    · cases ho
  | str x =>
    simp only [slO] at ho
    split at ho
    · rename_i hn
      cases ho; cases r1
      refine .inr ⟨_, rfl, by rw [str_length, ← lineN_eq]; exact hn, ?_⟩
      rw [cutS_eq]
      exact to_str s k
    · cases ho
  | _ => cases ho
def slE (m : M D) (l h : M (Option Int)) : M D := bd m fun x => bd l fun i => bd h fun j => Ow.op (slO x i j)
theorem je_sl {lo hi : Option Expr} {ml mh : M (Option Int)} {p2 : Pos} {ql qh : Bool} (ha : JE X r qa ba a ma) (hl : JO X r ql lo ml) (hh : JO X r qh hi mh) (hc : (ql = true ∧ qh = true) ∨ ba = false := by first | exact .inl ⟨rfl, rfl⟩ | exact .inr rfl) :
    JE X r (qa && (ql && qh)) false (.Subscript a (.Slice lo hi none p2) pos) (slE ma ml mh) := by
  obtain ⟨tl, pl0, il⟩ := hl
  obtain ⟨th, ph, ih⟩ := hh
  refine peImp (pe_slice (sl_list.or sl_str) ha pl0 ph) fun σ H Q h => ?_
  refine (TX.bind (rr1 := rD ba) (q1 := qa) (fun z => (both_l z).1) (.inr rfl) h).mono fun v H1 ⟨d, pl, hr, h2⟩ => ?_
  subst hr
  refine il _ _ _ ((TX.bind (rr1 := rO) (q1 := ql) (fun z => (both_l (both_l z).2).1) ?_ h2).mono fun i H2 ⟨i', pl2, ⟨e1, e2⟩, h3⟩ => ?_)
  · rcases hc with hc | hc
    · exact .inl hc.1
    · exact .inr (by rw [hc]; rfl)
  subst e1 e2
  refine ih _ _ _ ((TX.bind (rr1 := rO) (q1 := qh) (fun z => (both_l (both_l z).2).2) ?_ h3).mono fun j H3 ⟨j', pl3, ⟨e1, e2⟩, h4⟩ => ?_)
  · rcases hc with hc | hc
    · exact .inl hc.2
    · exact .inr (by rw [hc]; rfl)
  subst e1 e2
  obtain ⟨F5, e5, Le5, Lp5, N5, G5, Z5, d5, ho, C5, k5⟩ := h4.opD
  obtain ⟨L1, r1⟩ := Cfg.one C5
  exact a_sl C5.wf.sub r1 ho k5

/-! ### calls of built-ins -/
/-- a built-in of one argument -/
def OpC (K : PySem.W.Frag) (ct : Nat → Addr) (R : List V → Hp → VK → Prop) (f : D → Option D) : Prop :=
  ∀ (F H : Hp) (d1 d : D) (v1 : V) (L1 : List Addr) (Q : VK), Lq F H → Rel K ct F H d1 v1 L1 → f d1 = some d → (∀ v F' H' L, New K ct F H F' H' d v L → Q v H') → R [v1] H Q
def OpC2 (K : PySem.W.Frag) (ct : Nat → Addr) (R : List V → Hp → VK → Prop) (f : D → D → Option D) : Prop :=
  ∀ (F H : Hp) (d1 d2 d : D) (v1 v2 : V) (L1 L2 : List Addr) (Q : VK), Lq F H → Rel K ct F H d1 v1 L1 → Rel K ct F H d2 v2 L2 → f d1 d2 = some d → (∀ v F' H' L, New K ct F H F' H' d v L → Q v H') → R [v1, v2] H Q
theorem je_call1 {x : Str} {id : String} {R : List V → Hp → VK → Prop} {f : D → Option D} (hcl : CallR X (.builtin id) R) (hR : OpC X.K r.ct R f) (hg : Gl X x) (hm : X.mg x = none) (hv : bootBuiltins x = some (.builtin id)) (ha : JE X r q ba a ma)
    (hn : x ≠ "__name__" := by decide) (hdb : (x == ("__debug__" : Str)) = false := by decide) (hs : starEach [a] X.env = (false, eval a X.env) :: starEach [] X.env := by rfl) (hpl : (backTo pos (starEach [] X.env)).any (·.1) = false := by rfl) :
    JE X r q false (.Call (.Name x p) [a] [] pos) (bd ma fun x => Ow.op (f x)) :=
  peImp (pe_callB hcl hg hm hv (pa_cons ha pa_nil hs) hn hdb hs hpl) fun σ H Q h => by
    refine (TX.bind (rr1 := rD ba) (q1 := q) (fun z => z) (.inr rfl) h).mono fun v H1 ⟨d, pl, hr, h2⟩ => ?_
    subst hr
    obtain ⟨F5, e5, Le5, Lp5, N5, G5, Z5, d5, ho, C5, k5⟩ := h2.opD
    obtain ⟨L1, r1⟩ := Cfg.one C5
    exact hR F5 H1 d d5 v L1 Q C5.wf.sub r1 ho k5
theorem je_callT1 {x : Str} {T : String} {R : List V → Hp → VK → Prop} {f : D → Option D} (hcl : CallR X (.type T) R) (hR : OpC X.K r.ct R f) (hg : Gl X x) (hm : X.mg x = none) (hv : bootBuiltins x = some (.type T)) (ha : JE X r q ba a ma)
    (hn : x ≠ "__name__" := by decide) (hdb : (x == ("__debug__" : Str)) = false := by decide) (hs : starEach [a] X.env = (false, eval a X.env) :: starEach [] X.env := by rfl) (hpl : (backTo pos (starEach [] X.env)).any (·.1) = false := by rfl) :
    JE X r q false (.Call (.Name x p) [a] [] pos) (bd ma fun x => Ow.op (f x)) :=
  peImp (pe_callTy hcl hg hm hv (pa_cons ha pa_nil hs) hn hdb hs hpl) fun σ H Q h => by
    refine (TX.bind (rr1 := rD ba) (q1 := q) (fun z => z) (.inr rfl) h).mono fun v H1 ⟨d, pl, hr, h2⟩ => ?_
    subst hr
    obtain ⟨F5, e5, Le5, Lp5, N5, G5, Z5, d5, ho, C5, k5⟩ := h2.opD
    obtain ⟨L1, r1⟩ := Cfg.one C5
    exact hR F5 H1 d d5 v L1 Q C5.wf.sub r1 ho k5
theorem je_call2 {x : Str} {id : String} {R : List V → Hp → VK → Prop} {f : D → D → Option D} (hcl : CallR X (.builtin id) R) (hR : OpC2 X.K r.ct R f) (hg : Gl X x) (hm : X.mg x = none) (hv : bootBuiltins x = some (.builtin id)) (ha : JE X r qa ba a ma) (hb : JE X r qb bb b mb) (hc : qb = true ∨ ba = false := by first | exact .inl rfl | exact .inr rfl)
    (hn : x ≠ "__name__" := by decide) (hdb : (x == ("__debug__" : Str)) = false := by decide) (hs : starEach [a, b] X.env = (false, eval a X.env) :: starEach [b] X.env := by rfl) (hs2 : starEach [b] X.env = (false, eval b X.env) :: starEach [] X.env := by rfl) (hpl : (backTo pos (starEach [b] X.env)).any (·.1) = false := by rfl) :
    JE X r (qa && qb) false (.Call (.Name x p) [a, b] [] pos) (bd ma fun x => bd mb fun y => Ow.op (f x y)) :=
  peImp (pe_callB hcl hg hm hv (pa_cons ha (pa_cons hb pa_nil hs2) hs) hn hdb hs hpl) fun σ H Q h =>
    TX.two (R := fun v w H Q => R [v, w] H Q) both_l hc h fun F H d1 d2 d v1 v2 L1 L2 Q s r1 r2 ho k => hR F H d1 d2 d v1 v2 L1 L2 Q s r1 r2 ho k
end
section
variable {K : PySem.W.Frag} {ct : Nat → Addr}
theorem c_len : OpC K ct (fun xs H Q => ∃ x n, xs = [x] ∧ LenV K x H n ∧ Q (.int n) H) lenD := by
  intro F H d1 d v1 L1 Q s r1 h k
  cases d1 with
  | lst o xs =>
    cases h
    obtain ⟨a, vs, L', rfl, q1, rs, _⟩ := r1.lst_inv s
    exact ⟨_, xs.length, rfl, .inl ⟨vs, q1, rs.length⟩, to_int s k⟩
  | tup xs =>
    cases h
    obtain ⟨a, vs, rfl, q1, rs⟩ := r1.tup_inv s
    exact ⟨_, xs.length, rfl, .inr ⟨vs, q1, rs.length⟩, to_int s k⟩
  | str x =>
    simp only [lenD] at h
    split at h
    · rename_i hl
      cases h; cases r1
      refine ⟨_, x.length, rfl, ⟨?_, ?_⟩, to_int s k⟩
      · rw [str_length, ← lineN_eq]; exact hl
      · rw [str_length]
    · cases h
  | _ => cases h
theorem c_list : OpC K ct (fun xs H Q => ∃ p ys, xs = [.ref p] ∧ (SqL K H p ys ∨ SqT K H p ys) ∧ ∀ l, H l = none → Q (.ref l) (upd H l (.lst ys))) listD := by
  intro F H d1 d v1 L1 Q s r1 h k
  cases d1 with
  | lst o xs =>
    simp only [listD] at h
    split at h
    · rename_i hn
      cases h
      obtain ⟨a, vs, L', rfl, q1, rs, _⟩ := r1.lst_inv s
      exact ⟨a, vs, rfl, .inl q1, fun p hp => k _ _ _ _ (New.list s (noOwn_nil hn rs) hp)⟩
    · cases h
  | tup xs =>
    simp only [listD] at h
    split at h
    · rename_i hn
      cases h
      obtain ⟨a, vs, rfl, q1, rs⟩ := r1.tup_inv s
      exact ⟨a, vs, rfl, .inr q1, fun p hp => k _ _ _ _ (New.list s (noOwn_nil hn rs) hp)⟩
    · cases h
  | _ => cases h
/-- a new tuple of what stands -/
theorem New.tuple {F H : Hp} {ds : List D} {vs : List V} {p : Addr} (s : Lq F H) (r : RelL K ct F H ds vs []) (hp : H p = none) : New K ct F H (upd F p (.tup vs)) (upd H p (.tup vs)) (.tup ds) (.ref p) [] := by
  have hF := s.none hp
  refine ⟨upd_le hF, fun a ha => ?_, upd_both s, .tup (SqT.of upd_same) (r.mono (upd_le hF) fun a ha => absurd ha (by simp)), fun a ha => absurd ha (by simp), List.nodup_nil⟩
  have : a ≠ p := fun z => ha (by rw [z]; exact hp)
  exact ⟨upd_ne this, upd_ne this⟩
theorem c_tuple : OpC K ct (fun xs H Q => ∃ p ys, xs = [.ref p] ∧ ((SqL K H p ys ∧ ∀ l, H l = none → Q (.ref l) (upd H l (.tup ys))) ∨ (SqT K H p ys ∧ Q (.ref p) H))) tupleD := by
  intro F H d1 d v1 L1 Q s r1 h k
  cases d1 with
  | lst o xs =>
    simp only [tupleD] at h
    split at h
    · rename_i hn
      cases h
      obtain ⟨a, vs, L', rfl, q1, rs, _⟩ := r1.lst_inv s
      exact ⟨a, vs, rfl, .inl ⟨q1, fun p hp => k _ _ _ _ (New.tuple s (noOwn_nil hn rs) hp)⟩⟩
    · cases h
  | tup xs =>
    simp only [tupleD] at h
    split at h
    · rename_i hn
      cases h
      have e := r1.noOwn (by simpa [D.noOwn] using hn)
      subst e
      obtain ⟨a, vs, rfl, q1, rs⟩ := r1.tup_inv s
      exact ⟨a, vs, rfl, .inr ⟨q1, k _ _ _ _ (.same s r1)⟩⟩
    · cases h
  | _ => cases h
theorem c_int : OpC K ct (fun xs H Q => (∃ i, xs = [.int i] ∧ Q (.int i) H) ∨ ∃ k, xs = [.bl k] ∧ Q (.int (if k then 1 else 0)) H) intD := by
  intro F H d1 d v1 L1 Q s r1 h k
  cases d1 with
  | int i => cases h; cases r1; exact .inl ⟨_, rfl, to_int s k⟩
  | bl i => cases h; cases r1; exact .inr ⟨_, rfl, to_int s k⟩
  | _ => cases h
theorem c_sum : OpC K ct (rSum K) sumD := by
  intro F H d1 d v1 L1 Q s r1 h k
  cases d1 with
  | lst o xs =>
    obtain ⟨a, vs, L', rfl, q1, rs, _⟩ := r1.lst_inv s
    simp only [sumD] at h
    cases hi : ints? xs with
    | none => rw [hi] at h; cases h
    | some is =>
      rw [hi] at h; cases h
      have e := rs.ints hi
      subst e
      exact ⟨a, is, rfl, q1, to_int s k⟩
  | _ => cases h
theorem c_any : OpC K ct (rAny K) anyD := by
  intro F H d1 d v1 L1 Q s r1 h k
  cases d1 with
  | lst o xs =>
    obtain ⟨a, vs, L', rfl, q1, rs, _⟩ := r1.lst_inv s
    simp only [anyD] at h
    cases hi : bls? xs with
    | none => rw [hi] at h; cases h
    | some is =>
      rw [hi] at h; cases h
      have e := rs.bls hi
      subst e
      exact ⟨a, is, rfl, q1, to_bl s k⟩
  | _ => cases h
theorem c_all : OpC K ct (rAll K) allD := by
  intro F H d1 d v1 L1 Q s r1 h k
  cases d1 with
  | lst o xs =>
    obtain ⟨a, vs, L', rfl, q1, rs, _⟩ := r1.lst_inv s
    simp only [allD] at h
    cases hi : bls? xs with
    | none => rw [hi] at h; cases h
    | some is =>
      rw [hi] at h; cases h
      have e := rs.bls hi
      subst e
      exact ⟨a, is, rfl, q1, to_bl s k⟩
  | _ => cases h
theorem c_max2 : OpC2 K ct (fun xs H Q => ∃ i j, xs = [.int i, .int j] ∧ Q (.int (if j > i then j else i)) H) max2 := by
  intro F H d1 d2 d v1 v2 L1 L2 Q s r1 r2 h k
  cases d1 <;> first
    | (cases h; done)
    | (cases d2 <;> first | (cases h; done) | (cases h; cases r1; cases r2; exact ⟨_, _, rfl, to_int s k⟩))
theorem c_min2 : OpC2 K ct (fun xs H Q => ∃ i j, xs = [.int i, .int j] ∧ Q (.int (if j < i then j else i)) H) min2 := by
  intro F H d1 d2 d v1 v2 L1 L2 Q s r1 r2 h k
  cases d1 <;> first
    | (cases h; done)
    | (cases d2 <;> first | (cases h; done) | (cases h; cases r1; cases r2; exact ⟨_, _, rfl, to_int s k⟩))
end
end Ow
end

section
set_option linter.all false
set_option autoImplicit false
set_option maxRecDepth 100000
set_option maxHeartbeats 4000000
/-! OwS: statements, targets, loops. -/
namespace Ow
open PySem PySem.Spec L2
open PyProof.Rows hiding St

abbrev Cf (X : Cx) (r : Rd) (Z : List (Nat × V)) (F H : Hp) (σ : L2.St) (e : Env) (ps : List Pend) (Le Lp : List Addr) (N G : Addr → Prop) := Cfg X.K r.ct r.P Z F H σ e ps Le Lp N G
/-- how a statement's outcome goes on -/
def KS (X : Cx) (r : Rd) (N G : Addr → Prop) (Z : List (Nat × V)) (F H : Hp) (e : Env) (Le : List Addr) (D : Ends) (res : R Fl) : Prop :=
  match res with
  | .ok .next e' => ∀ σ' F' H' Le', Stp false F H F' H' e e' Le Le' G → Cf X r Z F' H' σ' e' [] Le' [] N G → D.nx σ' H'
  | .ok .brk e' => ∀ σ' F' H' Le', Stp false F H F' H' e e' Le Le' G → Cf X r Z F' H' σ' e' [] Le' [] N G → D.bk σ' H'
  | .ok .cont e' => ∀ σ' F' H' Le', Stp false F H F' H' e e' Le Le' G → Cf X r Z F' H' σ' e' [] Le' [] N G → D.ct σ' H'
  | .ok (.ret d) e' => ∀ σ' F' H' Le' Lp' v, Stp false F H F' H' e e' Le Le' G → Cf X r Z F' H' σ' e' [(false, d, v)] Le' Lp' N G → D.rt v H'
  | .ex x e' => ∀ σ' cls dd F' H' Le', Stp false F H F' H' e e' Le Le' G → Cf X r Z F' H' σ' e' [] Le' [] N G → ExR X.K r.ct F' H' x cls dd → r.W cls dd σ' H'
  | .no => False
theorem Stp.trans {F H F1 H1 F2 H2 : Hp} {e e1 e2 : Env} {Le Le1 Le2 : List Addr} {G : Addr → Prop} (a : Stp false F H F1 H1 e e1 Le Le1 G) (b : Stp false F1 H1 F2 H2 e1 e2 Le1 Le2 G) : Stp false F H F2 H2 e e2 Le Le2 G :=
  ⟨a.le.trans b.le, fun x h => (b.gd x h).trans (a.gd x h), fun z => by cases z⟩
theorem Stp.off {q : Bool} {F H F1 H1 : Hp} {e e1 : Env} {Le Le1 : List Addr} {G : Addr → Prop} (a : Stp q F H F1 H1 e e1 Le Le1 G) : Stp false F H F1 H1 e e1 Le Le1 G := ⟨a.le, a.gd, fun z => by cases z⟩
theorem Stp.sub {q : Bool} {F H F1 H1 : Hp} {e e1 : Env} {Le Le1 : List Addr} {G G' : Addr → Prop} (a : Stp q F H F1 H1 e e1 Le Le1 G) (h : ∀ x, G' x → G x) : Stp q F H F1 H1 e e1 Le Le1 G' := ⟨a.le, fun x g => a.gd x (h x g), a.qt⟩
section
variable {X : Cx} {r : Rd} {N G : Addr → Prop} {Z : List (Nat × V)} {F H F1 H1 : Hp} {e e1 : Env} {Le Le1 : List Addr} {D : Ends} {res : R Fl}
theorem KS.step (s : Stp false F H F1 H1 e e1 Le Le1 G) (k : KS X r N G Z F H e Le D res) : KS X r N G Z F1 H1 e1 Le1 D res := by
  cases res with
  | no => exact k
  | ex x e' => exact fun σ' cls dd F' H' Le' s' c h => k σ' cls dd F' H' Le' (s.trans s') c h
  | ok f e' =>
    cases f with
    | next => exact fun σ' F' H' Le' s' c => k σ' F' H' Le' (s.trans s') c
    | brk => exact fun σ' F' H' Le' s' c => k σ' F' H' Le' (s.trans s') c
    | cont => exact fun σ' F' H' Le' s' c => k σ' F' H' Le' (s.trans s') c
    | ret d => exact fun σ' F' H' Le' Lp' v s' c => k σ' F' H' Le' Lp' v (s.trans s') c
theorem Cfg.guard {K : PySem.W.Frag} {ct : Nat → Addr} {P : List (Nat × Ow.D)} {σ : L2.St} {ps : List Pend} {Lp : List Addr} {G' : Addr → Prop} (C : Cfg K ct P Z F H σ e ps Le Lp N G) (h : ∀ x, G' x → G x) (hn : ∀ x, N x → G' x) : Cfg K ct P Z F H σ e ps Le Lp N G' :=
  ⟨⟨C.wf.sub, C.wf.nd, fun a ha => let ⟨x, y, z⟩ := C.wf.out a ha; ⟨x, y, fun g => z (h a g)⟩, fun a ha => C.wf.gd a (h a ha)⟩, C.er, C.pd, C.pr, hn, C.zs⟩
/-- under a larger guard the way on is the easier -/
theorem KS.guard {G' : Addr → Prop} (h : ∀ x, G x → G' x) (hn : ∀ x, N x → G x) (k : KS X r N G Z F H e Le D res) : KS X r N G' Z F H e Le D res := by
  cases res with
  | no => exact k
  | ex x e' => exact fun σ' cls dd F' H' Le' s' c hx => k σ' cls dd F' H' Le' (s'.sub h) (c.guard h hn) hx
  | ok f e' =>
    cases f with
    | next => exact fun σ' F' H' Le' s' c => k σ' F' H' Le' (s'.sub h) (c.guard h hn)
    | brk => exact fun σ' F' H' Le' s' c => k σ' F' H' Le' (s'.sub h) (c.guard h hn)
    | cont => exact fun σ' F' H' Le' s' c => k σ' F' H' Le' (s'.sub h) (c.guard h hn)
    | ret d => exact fun σ' F' H' Le' Lp' v s' c => k σ' F' H' Le' Lp' v (s'.sub h) (c.guard h hn)
end
def TSx (X : Cx) (r : Rd) (m : S) : TS := fun D σ H => ∃ F e Le N G Z, Z.map (·.1) = r.zs ∧ Cf X r Z F H σ e [] Le [] N G ∧ KS X r N G Z F H e Le D (m e)
def JS (X : Cx) (r : Rd) (st : Stmt) (m : S) : Prop := PS X st (TSx X r m)
def JSs (X : Cx) (r : Rd) (st : List Stmt) (m : S) : Prop := PSs X st (TSx X r m)

section
variable {X : Cx} {r : Rd} {a b c : Expr} {sts : List Stmt} {s0 : Stmt} {ma mb mc : M D} {tc : M Bool} {m1 m2 : S} {pos p : Pos} {q qa qb qc ba bb : Bool}
theorem TSx.seq {D : Ends} {σ : L2.St} {H : Hp} (h : TSx X r (sq m1 m2) D σ H) : TSx X r m1 { D with nx := TSx X r m2 D } σ H := by
  obtain ⟨F, e, Le, N, G, Z, hz, C, k⟩ := h
  refine ⟨F, e, Le, N, G, Z, hz, C, ?_⟩
  cases hm : m1 e with
  | no => simp only [sq, hm] at k; exact k
  | ex x e' => simp only [sq, hm] at k; exact k
  | ok f e' =>
    cases f with
    | next =>
      simp only [sq, hm] at k
      exact fun σ' F' H' Le' s c => ⟨F', e', Le', N, G, Z, hz, c, k.step s⟩
    | brk => simp only [sq, hm] at k; exact k
    | cont => simp only [sq, hm] at k; exact k
    | ret d => simp only [sq, hm] at k; exact k
theorem TSx.fin {D : Ends} {σ : L2.St} {H : Hp} {f : Fl} (h : TSx X r (ret1 f) D σ H) : ∃ F e Le N G Z, Cf X r Z F H σ e [] Le [] N G ∧ KS X r N G Z F H e Le D (.ok f e) := by
  obtain ⟨F, e, Le, N, G, Z, hz, C, k⟩ := h
  exact ⟨F, e, Le, N, G, Z, C, k⟩
theorem js_nil : JSs X r [] skip := pssImp pss_nil fun D σ H h => by
  obtain ⟨F, e, Le, N, G, Z, C, k⟩ := h.fin
  exact k σ F H Le Stp.refl C
theorem js_cons (h1 : JS X r s0 m1) (h2 : JSs X r sts m2) : JSs X r (s0 :: sts) (sq m1 m2) := pssImp (pss_cons h1 h2) fun D σ H h => h.seq
theorem js_one (h1 : JS X r s0 m1) : JSs X r [s0] m1 := pss_one h1
theorem js_pass : JS X r (.Pass pos) skip := psImp ps_pass fun D σ H h => by
  obtain ⟨F, e, Le, N, G, Z, C, k⟩ := h.fin
  exact k σ F H Le Stp.refl C
theorem js_break : JS X r (.Break pos) brkS := psImp ps_break fun D σ H h => by
  obtain ⟨F, e, Le, N, G, Z, C, k⟩ := h.fin
  exact k σ F H Le Stp.refl C
theorem js_continue : JS X r (.Continue pos) cntS := psImp ps_continue fun D σ H h => by
  obtain ⟨F, e, Le, N, G, Z, C, k⟩ := h.fin
  exact k σ F H Le Stp.refl C
theorem js_doc {x : Str} {j : Nat} : JS X r (.Expr (.Constant (.str x) j p) pos) skip := psImp ps_doc fun D σ H h => by
  obtain ⟨F, e, Le, N, G, Z, C, k⟩ := h.fin
  exact k σ F H Le Stp.refl C
/-- a value, then the rest of the statement -/
theorem TSx.val {α β : Type} {rr : RR α β} {m : M α} {k0 : α → S} {D : Ends} {σ : L2.St} {H : Hp} (h : TSx X r (bd m k0) D σ H) :
    TXr X r rr q [] m σ H fun y H1 => ∃ d pl F e Le Lp N G Z, rr d y pl ∧ Z.map (·.1) = r.zs ∧ Cf X r Z F H1 σ e pl Le Lp N G ∧ KS X r N G Z F H1 e Le D (k0 d e) := by
  obtain ⟨F, e, Le, N, G, Z, hz, C, k⟩ := h
  refine ⟨F, e, Le, [], N, G, Z, hz, C, ?_⟩
  cases hm : m e with
  | no => simp only [bd, hm] at k; exact k
  | ex x e' =>
    simp only [bd, hm] at k
    exact fun cls dd F' H' Le' s c hx => k σ cls dd F' H' Le' s c hx
  | ok d e' =>
    simp only [bd, hm] at k
    exact fun y F' H' Le' Lp' pl hr s c => ⟨d, pl, F', e', Le', Lp', N, G, Z, hr, hz, c, k.step s.off⟩
theorem js_expr (ha : JE X r q ba a ma) (hs : swapsWith a none pos.line X.env = pure false := by rfl) : JS X r (.Expr a pos) (drop ma) := psImp (ps_expr ha hs) fun D σ H h => by
  refine (TSx.val (q := q) (rr := rD ba) h).mono fun v H1 ⟨d, pl, F, e, Le, Lp, N, G, Z, hr, hz, C, k⟩ => ?_
  exact k σ F H1 Le Stp.refl C.clear
theorem js_ret (ha : JE X r q false a ma) : JS X r (.Return (some a) pos) (retS ma) := psImp (ps_ret ha) fun D σ H h => by
  refine (TSx.val (q := q) (rr := rD false) h).mono fun v H1 ⟨d, pl, F, e, Le, Lp, N, G, Z, hr, hz, C, k⟩ => ?_
  subst hr
  exact k σ F H1 Le Lp v Stp.refl C
theorem js_retN : JS X r (.Return none pos) retN := psImp ps_retN fun D σ H h => by
  obtain ⟨F, e, Le, N, G, Z, C, k⟩ := h.fin
  refine k σ F H Le [] .non Stp.refl ⟨C.wf, C.er, .own .non .nil rfl, C.pr, C.ng, C.zs⟩
theorem js_if {x y : List Stmt} (hc : JT X r q c tc) (ha : JSs X r x m1) (hb : JSs X r y m2) : JS X r (.If c x y pos) (ifS tc m1 m2) := psImp (ps_if hc ha hb) fun D σ H h => by
  refine (TSx.val (q := q) (rr := rB) h).mono fun v H1 ⟨d, pl, F, e, Le, Lp, N, G, Z, ⟨e1, e2⟩, hz, C, k⟩ => ?_
  subst e1 e2
  cases d with
  | true => exact ⟨F, e, Le, N, G, Z, hz, C.clear, k⟩
  | false => exact ⟨F, e, Le, N, G, Z, hz, C.clear, k⟩

/-! ### targets -/
/-- slot i may be stored to -/
def Rd.open (r : Rd) (i : Nat) : Bool := r.P.all (fun p => p.1 != i) && !r.zs.contains i
theorem Rd.open_P {i : Nat} (h : r.open i = true) : ∀ p, p ∈ r.P → p.1 ≠ i := fun p hp z => by
  unfold Rd.open at h
  have h1 := (Bool.and_eq_true_iff.mp h).1
  have := List.all_eq_true.mp h1 p hp
  simp [z] at this
theorem Rd.open_Z {i : Nat} {Z : List (Nat × V)} (h : r.open i = true) (hz : Z.map (·.1) = r.zs) : ∀ z, z ∈ Z → z.1 ≠ i := fun z hz1 q => by
  unfold Rd.open at h
  have h2 := (Bool.and_eq_true_iff.mp h).2
  have : i ∈ r.zs := by rw [← hz, ← q]; exact List.mem_map_of_mem hz1
  simp [this] at h2
mutual
def Tg.slots : Tg → List Nat
  | .nm i => [i]
  | .tp ts => slotsL ts
def slotsL : List Tg → List Nat
  | [] => []
  | t :: ts => t.slots ++ slotsL ts
end
/-- a state that differs at most at vs -/
def Off (vs : List Nat) (σ σ' : L2.St) : Prop := σ'.length = σ.length ∧ ∀ i, i ∉ vs → σ'[i]? = σ[i]?
theorem Off.refl {vs : List Nat} {σ : L2.St} : Off vs σ σ := ⟨rfl, fun _ _ => rfl⟩
theorem Off.app {vs ws : List Nat} {σ σ1 σ2 : L2.St} (a : Off vs σ σ1) (b : Off ws σ1 σ2) : Off (vs ++ ws) σ σ2 := ⟨b.1.trans a.1, fun i hi => (b.2 i fun z => hi (List.mem_append_right _ z)).trans (a.2 i fun z => hi (List.mem_append_left _ z))⟩
/-- what is to be stored waits -/
def TGx (X : Cx) (r : Rd) (t : Tg) : TG := fun v σ H Q => ∃ F e Le Lp N G Z d, Z.map (·.1) = r.zs ∧ Cf X r Z F H σ e [(false, d, v)] Le Lp N G ∧ ∃ e', t.asg d e = some e' ∧ ∀ σ' Le', Off t.slots σ σ' → Cf X r Z F H σ' e' [] Le' [] N G → Q σ' H
def TGsx (X : Cx) (r : Rd) (ts : List Tg) : TGs := fun vs σ H Q => ∃ F e Le Lp N G Z ds bs pl, bs.all (fun b => !b) = true ∧ rA bs ds vs pl ∧ Z.map (·.1) = r.zs ∧ Cf X r Z F H σ e pl Le Lp N G ∧ ∃ e', asgL ts ds e = some e' ∧ ∀ σ' Le', Off (slotsL ts) σ σ' → Cf X r Z F H σ' e' [] Le' [] N G → Q σ' H
def JG (X : Cx) (r : Rd) (e : Expr) (t : Tg) : Prop := PG X e (TGx X r t)
def JGs (X : Cx) (r : Rd) (e : List Expr) (t : List Tg) : Prop := PGs X e (TGsx X r t)
theorem pgImp {e : Expr} {t t' : TG} (h : PG X e t) (i : ∀ v σ H Q, t' v σ H Q → t v σ H Q) : PG X e t' := ⟨fun pins s σ H v u Q I rv q => h.run pins s σ H v u Q I rv (i v σ H Q q)⟩
theorem pgsImp {e : List Expr} {t t' : TGs} (h : PGs X e t) (i : ∀ v σ H Q, t' v σ H Q → t v σ H Q) : PGs X e t' := ⟨fun pins s σ H v u Q I rv q => h.run pins s σ H v u Q I rv (i v σ H Q q)⟩
/-- a value goes to slot i -/
theorem Cfg.store {K : PySem.W.Frag} {ct : Nat → Addr} {P : List (Nat × D)} {Z : List (Nat × V)} {F H : Hp} {σ : L2.St} {e : Env} {d : D} {v : V} {Le Lp : List Addr} {N G : Addr → Prop} {i : Nat}
    (C : Cfg K ct P Z F H σ e [(false, d, v)] Le Lp N G) (hi : i < e.length) (hP : ∀ p, p ∈ P → p.1 ≠ i) (hZ : ∀ z, z ∈ Z → z.1 ≠ i) : ∃ Le', Cfg K ct P Z F H (σ.set i (some v)) (st i (some d) e) [] Le' [] N G := by
  obtain ⟨L2, f1, f2, f3⟩ := C.er.forget i
  have nd := List.nodup_append.mp C.wf.nd
  have pd := C.pd
  cases pd with
  | own rel rs e1 =>
    cases rs
    rw [List.append_nil] at e1
    subst e1
    have hl := C.er.length
    obtain ⟨L', p1, p2⟩ := (f1.slot (x := some v) (gt_st_same hi)).put hi (by rw [List.getElem?_set_self (by omega)]) rel
    refine ⟨L', ⟨?_, p1, .nil, fun p hp => ?_, C.ng, fun z hz => ?_⟩⟩
    · rw [List.append_nil]
      refine C.wf.of_sub ?_ fun a ha => ?_
      · refine p2.nodup_iff.mpr (List.nodup_append.mpr ⟨nd.2.1, f3 nd.1, fun a ha b hb z => ?_⟩)
        subst z
        exact nd.2.2 a (f2 a hb) a ha rfl
      · rcases List.mem_append.mp (p2.mem_iff.mp ha) with h | h
        · exact List.mem_append_right _ h
        · exact List.mem_append_left _ (f2 a h)
    · obtain ⟨w, Lr, h1, h2, h3⟩ := C.pr p hp
      exact ⟨w, Lr, by rw [List.getElem?_set_ne (fun z => hP p hp z.symm)]; exact h1, h2, h3⟩
    · rw [List.getElem?_set_ne (fun q => hZ z hz q.symm)]
      exact C.zs z hz
theorem jg_nm {i : Nat} {x : Str} (hN : X.N.Nodup) (hi : X.N[i]? = some x) (hx : Loc X.env.scope x) (ho : r.open i = true := by rfl) (hf : X.fn x = true ∨ X.env.scope.names.lookup x = some .local := by first | exact .inl rfl | exact .inr rfl | assumption) : JG X r (.Name x pos) (.nm i) := by
  refine ⟨fun pins s σ H v u Q I rv h => ?_⟩
  obtain ⟨F, e, Le, Lp, N, G, Z, d, hz, C, e', he, k⟩ := h
  refine (pg_name hN hi hx hf).run pins s σ H v u Q I rv ?_
  cases he
  have hl := C.er.length
  have hil : i < e.length := by
    rw [hl, I.len]
    exact (List.getElem?_eq_some_iff.mp hi).1
  obtain ⟨Le', C'⟩ := C.store hil (Rd.open_P ho) (Rd.open_Z ho hz)
  exact k _ Le' ⟨List.length_set, fun j hj => List.getElem?_set_ne fun z => hj (by simp [Tg.slots, z])⟩ C'
theorem jgs_nil : JGs X r [] [] := pgsImp pgs_nil fun vs σ H Q h => by
  obtain ⟨F, e, Le, Lp, N, G, Z, ds, bs, pl, hb, ra, hz, C, e', he, k⟩ := h
  cases ra with
  | nil =>
    cases he
    exact ⟨rfl, k σ Le Off.refl C.clear⟩
  | cons ra => cases he
theorem rA.noB : ∀ {bs : List Bool} {ds : List D} {vs : List V} {pl : List Pend}, rA bs ds vs pl → bs.all (fun b => !b) = true → ∀ p, p ∈ pl → p.1 = false
  | _, _, _, _, .nil, _, _, hp => absurd hp (by simp)
  | _, _, _, _, .cons ra, h, p, hp => by
    have h' := Bool.and_eq_true_iff.mp (show ((!_) && _) = true from h)
    rcases List.mem_cons.mp hp with q | q
    · subst q; simpa using h'.1
    · exact ra.noB h'.2 p q
theorem jgs_cons {t : Tg} {ts : List Tg} {es : List Expr} (h1 : JG X r a t) (h2 : JGs X r es ts) (hs : (assignEach (a :: es) X.env).map (·.2) = assign a X.env :: (assignEach es X.env).map (·.2) := by rfl) : JGs X r (a :: es) (t :: ts) := pgsImp (pgs_cons h1 h2 hs) fun vs σ H Q h => by
  obtain ⟨F, e, Le, Lp, N, G, Z, ds, bs, pl, hb, ra, hz, C, e', he, k⟩ := h
  cases ra with
  | nil => cases he
  | @cons b d v bs ds vs pl ra =>
    have hb' : b = false ∧ bs.all (fun b => !b) = true := by simpa using hb
    obtain ⟨hb1, hb2⟩ := hb'
    subst hb1
    refine ⟨v, vs, rfl, ?_⟩
    simp only [asgL] at he
    cases ht : t.asg d e with
    | none => rw [ht] at he; cases he
    | some e1 =>
      rw [ht] at he
      have nd := List.nodup_append.mp C.wf.nd
      have pd := C.pd
      cases pd with
      | @own _ _ _ _ L1 L2 rel rs e0 =>
        subst e0
        have nd2 := List.nodup_append.mp nd.2.1
        have inP : ∀ x, x ∈ L2 → F x = none ∧ H x ≠ none ∧ ¬ G x := fun x hx => C.wf.out x (List.mem_append_right _ (List.mem_append_right _ hx))
        refine ⟨F, e, Le, L1, N, fun x => G x ∨ x ∈ L2, Z, d, hz, ⟨⟨C.wf.sub, ?_, fun x hx => ?_, fun x hx => ?_⟩, C.er, .own rel .nil (by rw [List.append_nil]), C.pr, fun x hx => .inl (C.ng x hx), C.zs⟩, e1, ht, fun σ1 Le1 o1 C1 => ?_⟩
        · exact List.nodup_append.mpr ⟨nd.1, nd2.1, fun x hx y hy => nd.2.2 x hx y (List.mem_append_left _ hy)⟩
        · have hx' : x ∈ Le ++ (L1 ++ L2) := by
            rcases List.mem_append.mp hx with h | h
            · exact List.mem_append_left _ h
            · exact List.mem_append_right _ (List.mem_append_left _ h)
          obtain ⟨o1, o2, o3⟩ := C.wf.out x hx'
          refine ⟨o1, o2, fun z => z.elim o3 fun z => ?_⟩
          rcases List.mem_append.mp hx with h | h
          · exact nd.2.2 x h x (List.mem_append_right _ z) rfl
          · exact nd2.2.2 x h x z rfl
        · rcases hx with h | h
          · exact C.wf.gd x h
          · obtain ⟨o1, o2, _⟩ := inP x h
            exact ⟨o1, o2⟩
        · have nd3 := C1.wf.nd
          rw [List.append_nil] at nd3
          refine ⟨F, e1, Le1, L2, N, G, Z, ds, bs, pl, hb2, ra, hz, ⟨⟨C1.wf.sub, ?_, fun x hx => ?_, fun x hx => C1.wf.gd x (.inl hx)⟩, C1.er, ?_, C1.pr, C.ng, C1.zs⟩, e', he, fun σ2 Le2 o2 => k σ2 Le2 (o1.app o2)⟩
          · refine List.nodup_append.mpr ⟨nd3, nd2.2.1, fun x hx y hy z => ?_⟩
            subst z
            exact (C1.wf.out x (by rw [List.append_nil]; exact hx)).2.2 (.inr hy)
          · rcases List.mem_append.mp hx with h | h
            · obtain ⟨o1, o2, o3⟩ := C1.wf.out x (by rw [List.append_nil]; exact h)
              exact ⟨o1, o2, fun z => o3 (.inl z)⟩
            · exact inP x h
          · have hnob : ¬ ∃ p, p ∈ pl ∧ p.1 = true := fun ⟨p, hp, hp1⟩ => by
              rw [ra.noB hb2 p hp] at hp1; cases hp1
            exact rs.mono (Lq.refl F) (fun _ _ => rfl) (fun z => absurd z hnob) (fun z => absurd z hnob)

/-- (a, b, ..) = a tuple or a list of that length -/
def gSeq (K : PySem.W.Frag) (n : Nat) (t : TGs) : TG := fun v σ H Q => ∃ a xs, v = .ref a ∧ (SqT K H a xs ∨ SqL K H a xs) ∧ xs.length = n ∧ t xs σ H Q
theorem pg_seq {es : List Expr} {k : Nat} {t : TGs} {n : Nat} (hc : X.calm = true) (h : PGs X es t) (hn : (assignEach es X.env).length = n := by rfl) (hst : (assignEach es X.env).findIdx? (·.1) = none := by rfl) : PG X (.Tuple es k pos) (gSeq X.K n t) := by
  refine ⟨fun pins s σ H v u Q I rv hw => ?_⟩
  obtain ⟨a, xs, e1, hq | hq, hl, hw⟩ := hw
  · exact (pg_tup hc h hn hst).run pins s σ H v u Q I rv ⟨a, xs, e1, hq, hl, hw⟩
  · subst e1
    cases rv
    obtain ⟨its, rv, ht, hz⟩ := I.list hq
    have hlen : (assignEach es X.env).length = its.toArray.size := by rw [hn, ← hl, List.size_toArray]; exact rv.length
    rw [PyProof.Rows.assign_Tuple]
    refine wpAny_bind (wpAny_standAt ?_)
    unfold unpack
    rw [hlen, hst]
    refine wpAny_bind (wpAny_holding (PySem.W.kun_itemsOf (I.ok.hd hc) ht.isList fun h' hx => ?_))
    have I1 : Inv X pins σ H { s with heap := h' } := I.kept (t' := s.toks) fun b o e => hx b o (Nat.ne_of_lt (Heap.lt_size e)) e
    exact h.run pins _ σ H xs _ Q I1 (by simpa using rv) hw
theorem asgL_length : ∀ {ts : List Tg} {ds : List D} {e e' : Env}, asgL ts ds e = some e' → ts.length = ds.length
  | [], [], _, _, _ => rfl
  | [], _ :: _, _, _, h => by simp [asgL] at h
  | _ :: _, [], _, _, h => by simp [asgL] at h
  | t :: ts, d :: ds, e, _, h => by
    simp only [asgL] at h
    cases ht : t.asg d e with
    | none => rw [ht] at h; cases h
    | some e1 => rw [ht] at h; simp [asgL_length h]
/-- values side by side, each owned by itself -/
theorem PendR.split {K : PySem.W.Frag} {ct : Nat → Addr} {F H : Hp} {In : Addr → Prop} : ∀ {ds : List D} {vs : List V} {L : List Addr}, RelL K ct F H ds vs L → ∃ bs pl, bs.all (fun b => !b) = true ∧ rA bs ds vs pl ∧ PendR K ct F H In pl L
  | _, _, _, .nil => ⟨[], [], rfl, .nil, .nil⟩
  | _, _, _, .cons r rs e => by
    obtain ⟨bs, pl, h1, h2, h3⟩ := PendR.split rs
    exact ⟨false :: bs, _, by simpa using h1, .cons h2, .own r h3 e⟩
theorem jg_tp {ts : List Tg} {es : List Expr} {k : Nat} (hc : X.calm = true) (h : JGs X r es ts) (hn : (assignEach es X.env).length = ts.length := by rfl) (hst : (assignEach es X.env).findIdx? (·.1) = none := by rfl) : JG X r (.Tuple es k pos) (.tp ts) := pgImp (pg_seq hc h hn hst) fun v σ H Q h => by
  obtain ⟨F, e, Le, Lp, N, G, Z, d, hz, C, e', he, k⟩ := h
  simp only [Tg.asg] at he
  cases hs : seqOf d with
  | none => rw [hs] at he; cases he
  | some ds =>
    rw [hs] at he
    have pd := C.pd
    cases pd with
    | @own _ _ _ _ L1 L2 rel rs e0 =>
      cases rs
      rw [List.append_nil] at e0
      subst e0
      have fin : ∀ {vs : List V} {L' : List Addr}, RelL X.K r.ct F H ds vs L' → (∀ x, x ∈ L' → x ∈ Lp) → L'.Nodup → vs.length = ts.length ∧ TGsx X r ts vs σ H Q := fun {vs L'} rl hin hnd => by
        refine ⟨by rw [← rl.length, asgL_length he], ?_⟩
        obtain ⟨bs, pl, h1, h2, h3⟩ := PendR.split (In := fun a => a ∈ Le ∨ N a) rl
        have nd := List.nodup_append.mp C.wf.nd
        exact ⟨F, e, Le, L', N, G, Z, ds, bs, pl, h1, h2, hz, ⟨C.wf.of_sub (List.nodup_append.mpr ⟨nd.1, hnd, fun x hx y hy => nd.2.2 x hx y (hin y hy)⟩) (fun x hx => (List.mem_append.mp hx).elim (fun z => List.mem_append_left _ z) fun z => List.mem_append_right _ (hin x z)), C.er, h3, C.pr, C.ng, C.zs⟩, e', he, k⟩
      have nd := (List.nodup_append.mp C.wf.nd).2.1
      cases d with
      | tup xs =>
        cases hs
        obtain ⟨a, vs, rfl, q1, rl⟩ := rel.tup_inv C.wf.sub
        obtain ⟨f1, f2⟩ := fin rl (fun x h => h) nd
        exact ⟨a, vs, rfl, .inl q1, f1, f2⟩
      | lst o xs =>
        simp only [seqOf] at hs
        split at hs
        · rename_i hno
          cases hs
          obtain ⟨a, vs, L', rfl, q1, rl, _⟩ := rel.lst_inv C.wf.sub
          obtain ⟨f1, f2⟩ := fin (noOwn_nil hno rl) (fun x h => absurd h (by simp)) List.nodup_nil
          exact ⟨a, vs, rfl, .inr q1, f1, f2⟩
        · cases hs
      | _ => cases hs
/-- target = value -/
theorem js_asg {tg : Expr} {t : Tg} (ha : JE X r q false a ma) (hg : JG X r tg t) (hs : swapsWithSole [tg] a pos.line X.env = pure false := by rfl) (hw : swappedStores [tg] a X.env = pure none := by rfl) (h1 : (assignEach [tg] X.env).map (·.2) = [assign tg X.env] := by rfl) :
    JS X r (.Assign [tg] a pos) (asg t ma) := psImp (ps_asg ha hg hs hw h1) fun D σ H h => by
  refine (TSx.val (q := q) (rr := rD false) h).mono fun v H1 ⟨d, pl, F, e, Le, Lp, N, G, Z, hr, hz, C, k⟩ => ?_
  subst hr
  cases ht : t.asg d e with
  | none => rw [ht] at k; exact (show False from k).elim
  | some e' =>
    rw [ht] at k
    refine ⟨F, e, Le, Lp, N, G, Z, d, hz, C, e', ht, fun σ' Le' _ C' => ?_⟩
    exact k σ' F H1 Le' ⟨Lq.refl F, fun _ _ => rfl, fun z => by cases z⟩ C'
/-- name = value, where ps_asg does not hold (a comprehension on the line) or for short -/
theorem js_set {i : Nat} {x : Str} {pos' : Pos} (hN : X.N.Nodup) (hi : X.N[i]? = some x) (hx : Loc X.env.scope x) (ha : JE X r q false a ma) (ho : r.open i = true := by rfl) (hs : swapsWith a (some (.Name x pos')) pos.line X.env = pure false := by rfl)
    (hf : X.fn x = true ∨ X.env.scope.names.lookup x = some .local := by first | exact .inl rfl | exact .inr rfl | assumption) : JS X r (.Assign [.Name x pos'] a pos) (asg (.nm i) ma) := by
  refine ⟨fun pins s σ H D I h => (ps_set hN hi hx ha hs hf).run pins s σ H D I ?_⟩
  have hlσ := I.len
  refine (TSx.val (q := q) (rr := rD false) h).mono fun v H1 ⟨d, pl, F, e, Le, Lp, N, G, Z, hr, hz, C, k⟩ => ?_
  subst hr
  have hl := C.er.length
  have hil : i < e.length := by
    rw [hl, hlσ]
    exact (List.getElem?_eq_some_iff.mp hi).1
  obtain ⟨Le', C'⟩ := C.store hil (Rd.open_P ho) (Rd.open_Z ho hz)
  exact k _ F H1 Le' ⟨Lq.refl F, fun _ _ => rfl, fun z => by cases z⟩ C'

end
end Ow
end

section
set_option linter.all false
set_option autoImplicit false
set_option maxRecDepth 100000
set_option maxHeartbeats 4000000
/-! OwL: loops, comprehensions, read-only scopes. -/
namespace Ow
open PySem PySem.Spec L2
open PyProof.Rows hiding St

/-- the items ds come, one after another, from the heap F, H on, while what is guarded stays -/
def Feed (K : PySem.W.Frag) (ct : Nat → Addr) (J : It) (ds : List D) (F H : Hp) (G : Addr → Prop) : Prop :=
  ∀ (k : Nat) (F' H' : Hp), Lq F F' → (∀ a, G a → H' a = H a) → Lq F' H' → (∀ d, ds[k]? = some d → J.go k H' ∧ ∀ x H2, J.yld k H' x H2 → ∃ F2, New K ct F' H' F2 H2 d x []) ∧ (ds.length ≤ k → J.stop k H')
section
variable {K : PySem.W.Frag} {ct : Nat → Addr} {F H : Hp} {G : Addr → Prop} {L L2 : List Addr} {ds ds2 : List D} {a b : Addr} {o o2 : Bool}
theorem noOwn_get : ∀ {ds : List D} {i : Nat} {d : D}, noOwnL ds = true → ds[i]? = some d → d.noOwn = true
  | [], _, _, _, h => by simp at h
  | x :: ds, 0, d, h, e => by
    simp [noOwnL] at h
    simp at e; subst e; exact h.1
  | x :: ds, i + 1, d, h, e => by
    simp [noOwnL] at h
    exact noOwn_get (i := i) h.2 (by simpa using e)
theorem feed_list (r : Rel K ct F H (.lst o ds) (.ref a) L) (hn : noOwnL ds = true) (hg : ∀ x, x ∈ L → G x) : Feed K ct (Itl K a) ds F H G := fun k F' H' l g s => by
  have r' := r.mono l fun x hx => g x (hg x hx)
  obtain ⟨a', vs, L', e, q, rs, _⟩ := r'.lst_inv s
  cases e
  refine ⟨fun d hd => ?_, fun hk => ⟨vs, q, by rw [← rs.length]; exact hk⟩⟩
  obtain ⟨v, L1, h1, h2, _⟩ := rs.get hd
  refine ⟨⟨vs, v, q, h1⟩, fun x H2 hy => ?_⟩
  obtain ⟨e1, e2⟩ := hy
  subst e1
  have := e2 vs q
  rw [h1] at this
  cases this
  rw [Rel.noOwn (noOwn_get hn hd) h2] at h2
  exact ⟨F', .same s h2⟩
theorem feed_tup (r : Rel K ct F H (.tup ds) (.ref a) L) (hn : noOwnL ds = true) : Feed K ct (Itt K a) ds F H G := fun k F' H' l g s => by
  have e0 := r.noOwn (show D.noOwn (.tup ds) = true by simpa [D.noOwn] using hn)
  subst e0
  have r' := (r.mono (F' := F') (H' := H') l fun x hx => absurd hx (by simp))
  obtain ⟨a', vs, e, q, rs⟩ := r'.tup_inv s
  cases e
  refine ⟨fun d hd => ?_, fun hk => ⟨vs, q, by rw [← rs.length]; exact hk⟩⟩
  obtain ⟨v, L1, h1, h2, _⟩ := rs.get hd
  refine ⟨⟨vs, v, q, h1⟩, fun x H2 hy => ?_⟩
  obtain ⟨e1, e2⟩ := hy
  subst e1
  have := e2 vs q
  rw [h1] at this
  cases this
  rw [Rel.noOwn (noOwn_get hn hd) h2] at h2
  exact ⟨F', .same s h2⟩
theorem enumL_get (ds : List D) (k : Nat) : (enumL ds)[k]? = (ds[k]?).map fun d => D.tup [.int k, d] := by
  unfold enumL
  rw [List.getElem?_map, List.getElem?_zipIdx]
  cases ds[k]? <;> simp
theorem enumL_length (ds : List D) : (enumL ds).length = ds.length := by simp [enumL]
theorem feed_enum (r : Rel K ct F H (.lst o ds) (.ref a) L) (hn : noOwnL ds = true) (hg : ∀ x, x ∈ L → G x) : Feed K ct (Ite K a) (enumL ds) F H G := fun k F' H' l g s => by
  have r' := r.mono l fun x hx => g x (hg x hx)
  obtain ⟨a', vs, L', e, q, rs, _⟩ := r'.lst_inv s
  cases e
  refine ⟨fun d hd => ?_, fun hk => ⟨vs, q, by rw [← rs.length]; rw [enumL_length] at hk; exact hk⟩⟩
  rw [enumL_get] at hd
  cases hd0 : ds[k]? with
  | none => rw [hd0] at hd; cases hd
  | some d0 =>
    rw [hd0] at hd
    cases hd
    obtain ⟨v, L1, h1, h2, _⟩ := rs.get hd0
    refine ⟨⟨vs, v, q, h1⟩, fun x H2 hy => ?_⟩
    obtain ⟨T, x0, e1, hT, e2, e3⟩ := hy
    subst e1 e2
    have := e3 vs q
    rw [h1] at this
    cases this
    rw [Rel.noOwn (noOwn_get hn hd0) h2] at h2
    exact ⟨_, New.tuple s (.cons (.int _) (.cons h2 .nil rfl) rfl) hT⟩
theorem zipD_get (ds es : List D) (k : Nat) {d : D} (h : (zipD ds es)[k]? = some d) : ∃ x y, ds[k]? = some x ∧ es[k]? = some y ∧ d = .tup [x, y] := by
  unfold zipD at h
  rw [List.getElem?_map] at h
  cases hz : (ds.zip es)[k]? with
  | none => rw [hz] at h; cases h
  | some p =>
    rw [hz] at h
    cases h
    have := List.getElem?_zip_eq_some.mp hz
    exact ⟨p.1, p.2, this.1, this.2, rfl⟩
theorem feed_zip (r : Rel K ct F H (.lst o ds) (.ref a) L) (r2 : Rel K ct F H (.lst o2 ds2) (.ref b) L2) (hn : noOwnL ds = true) (hn2 : noOwnL ds2 = true) (hg : ∀ x, x ∈ L → G x) (hg2 : ∀ x, x ∈ L2 → G x) :
    Feed K ct (Itz K a b) (zipD ds ds2) F H G := fun k F' H' l g s => by
  have r' := r.mono l fun x hx => g x (hg x hx)
  have r2' := r2.mono l fun x hx => g x (hg2 x hx)
  obtain ⟨a', vs, L', e, q, rs, _⟩ := r'.lst_inv s
  cases e
  obtain ⟨b', vs2, L2', e, q2, rs2, _⟩ := r2'.lst_inv s
  cases e
  refine ⟨fun d hd => ?_, fun hk => ⟨vs, vs2, q, q2, ?_⟩⟩
  · obtain ⟨x, y, hx, hy, hd'⟩ := zipD_get ds ds2 k hd
    subst hd'
    obtain ⟨v, L1, h1, h2, _⟩ := rs.get hx
    obtain ⟨v2, L12, h12, h22, _⟩ := rs2.get hy
    refine ⟨⟨vs, vs2, v, v2, q, q2, h1, h12⟩, fun z H2 hyy => ?_⟩
    obtain ⟨T, x0, y0, e1, hT, e2, e3, e4⟩ := hyy
    subst e1 e2
    have t1 := e3 vs q
    have t2 := e4 vs2 q2
    rw [h1] at t1
    rw [h12] at t2
    cases t1; cases t2
    rw [Rel.noOwn (noOwn_get hn hx) h2] at h2
    rw [Rel.noOwn (noOwn_get hn2 hy) h22] at h22
    exact ⟨_, New.tuple s (.cons h2 (.cons h22 .nil rfl) rfl) hT⟩
  · simp only [zipD, List.length_map, List.length_zip] at hk
    rw [← rs.length, ← rs2.length]
    omega
theorem rangeI_get (lo hi : Int) (k : Nat) {d : D} (h : ((rangeI lo hi).map D.int)[k]? = some d) : k < (hi - lo).toNat ∧ d = .int (lo + k) := by
  unfold rangeI at h
  rw [List.getElem?_map, List.getElem?_map] at h
  by_cases hk : k < (hi - lo).toNat
  · rw [List.getElem?_range hk] at h
    cases h
    exact ⟨hk, rfl⟩
  · rw [List.getElem?_eq_none (by simpa using hk)] at h
    cases h
theorem feed_range (lo hi : Int) : Feed K ct (Itr lo (hi - lo).toNat) ((rangeI lo hi).map .int) F H G := fun k F' H' l g s => by
  refine ⟨fun d hd => ?_, fun hk => (show (hi - lo).toNat ≤ k by simpa [rangeI] using hk)⟩
  obtain ⟨h1, h2⟩ := rangeI_get lo hi k hd
  subst h2
  refine ⟨h1, fun x H2 hy => ?_⟩
  obtain ⟨e1, e2⟩ := hy
  subst e1 e2
  exact ⟨F', .same s (.int _)⟩
theorem feed_rev (r : Rel K ct F H (.lst o ds) (.ref a) L) (hn : noOwnL ds = true) (hg : ∀ x, x ∈ L → G x) : Feed K ct (Itv K a ds.length) ds.reverse F H G := fun k F' H' l g s => by
  have r' := r.mono l fun x hx => g x (hg x hx)
  obtain ⟨a', vs, L', e, q, rs, _⟩ := r'.lst_inv s
  cases e
  refine ⟨fun d hd => ?_, fun hk => (show ds.length ≤ k by simpa using hk)⟩
  have hk : k < ds.length := by
    have := (List.getElem?_eq_some_iff.mp hd).1
    simpa using this
  rw [List.getElem?_reverse hk] at hd
  obtain ⟨v, L1, h1, h2, _⟩ := rs.get hd
  refine ⟨⟨hk, vs, v, q, h1⟩, fun x H2 hy => ?_⟩
  obtain ⟨e1, e2⟩ := hy
  subst e1
  have := e2 vs q
  rw [h1] at this
  cases this
  rw [Rel.noOwn (noOwn_get hn hd) h2] at h2
  exact ⟨F', .same s h2⟩
theorem feed_str (s0 : List Nat) : Feed K ct (Its ⟨s0.toArray⟩) (s0.map fun c => .str [c]) F H G := fun k F' H' l g s => by
  refine ⟨fun d hd => ?_, fun hk => ?_⟩
  · rw [List.getElem?_map] at hd
    cases hc : s0[k]? with
    | none => rw [hc] at hd; cases hd
    | some c =>
      rw [hc] at hd; cases hd
      refine ⟨?_, fun x H2 hy => ?_⟩
      · show k < (s0.toArray).size
        have := (List.getElem?_eq_some_iff.mp hc).1
        simpa using this
      · obtain ⟨e1, c', e2, e3⟩ := hy
        subst e1 e3
        have e4 : s0[k]? = some c' := by simpa using e2
        rw [hc] at e4
        cases e4
        exact ⟨F', .same s (.str [c])⟩
  · show (s0.toArray).size ≤ k
    simpa using hk
end

section
variable {X : Cx} {r : Rd} {a b c iter tg : Expr} {sts : List Stmt} {s0 : Stmt} {ma mb mc : M D} {ms : M (List D)} {tc : M Bool} {m1 m2 : S} {pos p : Pos} {q qa qb qc ba bb : Bool}
def TIx (X : Cx) (r : Rd) (q : Bool) (m : M (List D)) : TI := fun σ H R => ∃ F e Le N G Z, Z.map (·.1) = r.zs ∧ Cf X r Z F H σ e [] Le [] N G ∧
  match m e with
  | .ok ds e' => ∀ J F' H' Le' G', Stp q F H F' H' e e' Le Le' G → (∀ x, G x → G' x) → Cf X r Z F' H' σ e' [] Le' [] N G' → Feed X.K r.ct J ds F' H' G' → R J H'
  | .ex x e' => ∀ cls dd F' H' Le', Stp false F H F' H' e e' Le Le' G → Cf X r Z F' H' σ e' [] Le' [] N G → ExR X.K r.ct F' H' x cls dd → r.W cls dd σ H'
  | .no => False
def JI (X : Cx) (r : Rd) (q : Bool) (tg iter : Expr) (m : M (List D)) : Prop := PI X tg iter (TIx X r q m)
theorem piImp {t t' : TI} (h : PI X tg iter t) (i : ∀ σ H R, t' σ H R → t σ H R) : PI X tg iter t' := ⟨fun pins s σ H R I q => h.run pins s σ H R I (i σ H R q)⟩
/-- a walk over what an operation on a value tells -/
theorem TIx.val {α β : Type} {rr : RR α β} {m : M α} {f : α → Option (List D)} {σ : L2.St} {H : Hp} {R : It → Hp → Prop} (h : TIx X r q (bd m fun d => Ow.op (f d)) σ H R) :
    TXr X r rr q [] m σ H fun y H1 => ∃ d pl F e Le Lp N G Z ds, rr d y pl ∧ f d = some ds ∧ Z.map (·.1) = r.zs ∧ Cf X r Z F H1 σ e pl Le Lp N G ∧ ∀ J, Feed X.K r.ct J ds F H1 (fun x => G x ∨ x ∈ Lp) → R J H1 := by
  obtain ⟨F, e, Le, N, G, Z, hz, C, k⟩ := h
  refine ⟨F, e, Le, [], N, G, Z, hz, C, ?_⟩
  cases hm : m e with
  | no => simp only [bd, hm] at k
  | ex x e' =>
    simp only [bd, hm] at k
    exact fun cls dd F' H' Le' s c hx => k cls dd F' H' Le' s c hx
  | ok d e' =>
    simp only [bd, hm] at k
    intro y F' H' Le' Lp' pl hr s c
    cases hf : f d with
    | none => rw [hf] at k; exact (show False from k).elim
    | some ds =>
      rw [hf] at k
      refine ⟨d, pl, F', e', Le', Lp', N, G, Z, ds, hr, hf, hz, c, fun J hJ => ?_⟩
      have k' : ∀ J F' H' Le' G', Stp q F H F' H' e e' Le Le' G → (∀ x, G x → G' x) → Cf X r Z F' H' σ e' [] Le' [] N G' → Feed X.K r.ct J ds F' H' G' → R J H' := k
      have nd := List.nodup_append.mp c.wf.nd
      refine k' J F' H' Le' (fun x => G x ∨ x ∈ Lp') s (fun x hx => .inl hx) ⟨⟨c.wf.sub, by rw [List.append_nil]; exact nd.1, fun x hx => ?_, fun x hx => ?_⟩, c.er, .nil, c.pr, fun x hx => .inl (c.ng x hx), c.zs⟩ hJ
      · rw [List.append_nil] at hx
        obtain ⟨o1, o2, o3⟩ := c.wf.out x (List.mem_append_left _ hx)
        exact ⟨o1, o2, fun z => z.elim o3 fun z => nd.2.2 x hx x z rfl⟩
      · rcases hx with h | h
        · exact c.wf.gd x h
        · obtain ⟨o1, o2, _⟩ := c.wf.out x (List.mem_append_right _ h)
          exact ⟨o1, o2⟩
/-- for .. in: the list or tuple that stands there -/
def iSeq (K : PySem.W.Frag) (tl : TE) : TI := fun σ H R => tl σ H fun x H1 => ∃ a, x = .ref a ∧ (((∃ xs, SqL K H1 a xs) ∧ R (Itl K a) H1) ∨ ((∃ xs, SqT K H1 a xs) ∧ R (Itt K a) H1))
theorem pi_seq {l : Expr} {tl : TE} (hl : PE X l tl) : PI X tg l (iSeq X.K tl) := by
  refine ⟨fun pins s σ H R I h => ?_⟩
  refine thn (hl.run pins s σ H _ I h) fun v s1 ⟨x, H1, I1, r1, q1⟩ => ?_
  obtain ⟨a, e, ⟨⟨xs, hq⟩, q⟩ | ⟨⟨xs, hq⟩, q⟩⟩ := q1
  · subst e
    cases r1
    obtain ⟨its, rv, p, hz⟩ := I1.list hq
    refine wpAny_pyIter_list p.isList ?_
    refine ⟨s1.heap.objs.size, [s1.heap.objs.size], _, _, H1, rfl, I1.kept (t' := s1.toks) fun b o e => Heap.get?_push_of_some _ e, turn_list a _, ⟨_, Heap.get?_push_size _ rfl, rfl, rfl⟩, fun b hb => ?_, q⟩
    have e : b = s1.heap.objs.size := by simpa using hb
    subst e
    exact I1.fpOk (Nat.le_refl _) (I1.hok.fresh (Nat.le_refl _))
  · subst e
    cases r1
    obtain ⟨its, rv, p, hz⟩ := I1.tuple hq
    refine wpAny_pyIter_tuple (show s1.heap.IsTuple a its.toArray from p) ?_
    refine ⟨s1.heap.objs.size, [s1.heap.objs.size], _, _, H1, rfl, I1.kept (t' := s1.toks) fun b o e => Heap.get?_push_of_some _ e, turn_tuple a _, ⟨_, Heap.get?_push_size _ rfl, rfl, rfl⟩, fun b hb => ?_, q⟩
    have e : b = s1.heap.objs.size := by simpa using hb
    subst e
    exact I1.fpOk (Nat.le_refl _) (I1.hok.fresh (Nat.le_refl _))
/-- where an own value's parts stand -/
theorem own_in {K : PySem.W.Frag} {ct : Nat → Addr} {F H : Hp} {In : Addr → Prop} {d : D} {v : V} {ps : List Pend} {Lp : List Addr} (h : PendR K ct F H In ((false, d, v) :: ps) Lp) : ∃ L, Rel K ct F H d v L ∧ ∀ x, x ∈ L → x ∈ Lp := by
  cases h with
  | own r rs e => exact ⟨_, r, fun x hx => by rw [e]; exact List.mem_append_left _ hx⟩
theorem itL_cases {d : D} {ds : List D} (h : itL d = some ds) : noOwnL ds = true ∧ ((∃ o, d = .lst o ds) ∨ d = .tup ds) := by
  cases d with
  | lst o xs =>
    simp only [itL] at h
    split at h
    · rename_i hn; cases h; exact ⟨hn, .inl ⟨o, rfl⟩⟩
    · cases h
  | tup xs =>
    simp only [itL] at h
    split at h
    · rename_i hn; cases h; exact ⟨hn, .inr rfl⟩
    · cases h
  | _ => cases h
def walkE (m : M D) : M (List D) := bd m fun d => op (itL d)
theorem ji_val (ha : JE X r q false a ma) : JI X r q tg a (walkE ma) := piImp (pi_seq ha) fun σ H R h => by
  refine (TIx.val (rr := rD false) h).mono fun v H1 ⟨d, pl, F, e, Le, Lp, N, G, Z, ds, hr, hf, hz, C, k⟩ => ?_
  subst hr
  obtain ⟨L, rel, hin⟩ := own_in C.pd
  obtain ⟨hn, ⟨o, hd⟩ | hd⟩ := itL_cases hf
  · subst hd
    obtain ⟨a', vs, L', rfl, q1, rs, _⟩ := rel.lst_inv C.wf.sub
    exact ⟨a', rfl, .inl ⟨⟨vs, q1⟩, k _ (feed_list rel hn fun x hx => .inr (hin x hx))⟩⟩
  · subst hd
    obtain ⟨a', vs, rfl, q1, rs⟩ := rel.tup_inv C.wf.sub
    exact ⟨a', rfl, .inr ⟨⟨vs, q1⟩, k _ (feed_tup rel hn)⟩⟩
/-- a read-only slot that waits: its parts stand under the guard -/
theorem ro_in {i : Nat} {x : Str} {d : D} (hx : PE X (.Name x pos) (tVar i)) (hp : (i, d) ∈ r.P) {σ : L2.St} {H : Hp} {Q : V → Hp → Prop} {Z : List (Nat × V)} {F : Hp} {e : Env} {ps : List Pend} {Le Lp : List Addr} {N G : Addr → Prop} (C : Cf X r Z F H σ e ps Le Lp N G)
    (h : ∀ v L, Rel X.K r.ct F H d v L → (∀ y, y ∈ L → N y) → Q v H) : tVar i σ H Q := by
  obtain ⟨v, Lr, h1, h2, h3⟩ := C.pr _ hp
  exact ⟨v, h1, h v Lr h2 h3⟩
def walkR (d : D) : M (List D) := op (itL d)
theorem ji_ro {i : Nat} {x : Str} {d : D} (hx : PE X (.Name x pos) (tVar i)) (hp : (i, d) ∈ r.P) : JI X r true tg (.Name x pos) (walkR d) := piImp (pi_seq hx) fun σ H R h => by
  obtain ⟨F, e, Le, N, G, Z, hz, C, k⟩ := h
  refine ro_in (X := X) (pos := pos) hx hp C fun v L rel hin => ?_
  cases hf : itL d with
  | none =>
    have hb : walkR d e = .no := by simp [walkR, op, hf]
    rw [hb] at k; exact k.elim
  | some ds =>
    have hb : walkR d e = .ok ds e := by simp [walkR, op, hf]
    rw [hb] at k
    obtain ⟨hn, ⟨o, hd⟩ | hd⟩ := itL_cases hf
    · subst hd
      obtain ⟨a', vs, L', rfl, q1, rs, _⟩ := rel.lst_inv C.wf.sub
      exact ⟨a', rfl, .inl ⟨⟨vs, q1⟩, k _ F H Le G Stp.refl (fun _ h => h) C (feed_list rel hn fun x hx => C.ng x (hin x hx))⟩⟩
    · subst hd
      obtain ⟨a', vs, rfl, q1, rs⟩ := rel.tup_inv C.wf.sub
      exact ⟨a', rfl, .inr ⟨⟨vs, q1⟩, k _ F H Le G Stp.refl (fun _ h => h) C (feed_tup rel hn)⟩⟩

/-! ### for -/
theorem forL_cons {t : Tg} {body : S} {d : D} {ds : List D} {e : Env} : forL t body (d :: ds) e = match t.asg d e with
    | none => .no
    | some e1 => match body e1 with
      | .ok .next e2 => forL t body ds e2
      | .ok .cont e2 => forL t body ds e2
      | .ok .brk e2 => .ok .next e2
      | r => r := rfl
theorem js_for {t : Tg} (hp : PassesOwn (model X.prog X.w) X.A X.env X.xe) (hc : X.calm = true) (hi : JI X r q tg iter ms) (hg : JG X r tg t) (hb : JSs X r sts m1) (hs : ∀ x, foldedSetIterable iter X.env x = pure x := by intro _; rfl) :
    JS X r (.For tg iter sts [] pos) (forS ms t m1) := psImp (ps_for hp hc hi hg hb hs) fun D σ H h => by
  obtain ⟨F, e, Le, N, G, Z, hz, C, k⟩ := h
  refine ⟨F, e, Le, N, G, Z, hz, C, ?_⟩
  cases hm : ms e with
  | no => simp only [forS, bd, hm] at k; exact k
  | ex x e' =>
    simp only [forS, bd, hm] at k
    exact fun cls dd F' H' Le' s c hx => k σ cls dd F' H' Le' s c hx
  | ok ds e' =>
    simp only [forS, bd, hm] at k
    intro J F0 H0 Le0 G1 s0 hGG C0 hJ
    refine ⟨fun i m σ' H' => m = ds.length - i ∧ i ≤ ds.length ∧ ∃ F' e2 Le', Lq F0 F' ∧ (∀ a, G1 a → H' a = H0 a) ∧ Cf X r Z F' H' σ' e2 [] Le' [] N G1 ∧ KS X r N G Z F' H' e2 Le' D (forL t m1 (ds.drop i) e2),
      ⟨ds.length, by simp, Nat.zero_le _, F0, e', Le0, Lq.refl _, fun _ _ => rfl, C0, by simpa using KS.step s0.off k⟩, ?_⟩
    rintro i m σ' H' ⟨hm', hi', F', e2, Le', lF, gH, C', k'⟩
    obtain ⟨f1, f2⟩ := hJ i F' H' lF gH C'.wf.sub
    by_cases hlt : i < ds.length
    · refine .inr ?_
      have hd : ds[i]? = some ds[i] := List.getElem?_eq_getElem hlt
      obtain ⟨g1, g2⟩ := f1 _ hd
      rw [List.drop_eq_getElem_cons hlt, forL_cons] at k'
      cases ht : t.asg ds[i] e2 with
      | none => rw [ht] at k'; exact (show False from k').elim
      | some e3 =>
        rw [ht] at k'
        dsimp only at k'
        refine ⟨g1, fun σ2 H2 => ∃ m2, m2 < m ∧ (m2 = ds.length - (i + 1) ∧ i + 1 ≤ ds.length ∧ ∃ F' e2 Le', Lq F0 F' ∧ (∀ a, G1 a → H2 a = H0 a) ∧ Cf X r Z F' H2 σ2 e2 [] Le' [] N G1 ∧ KS X r N G Z F' H2 e2 Le' D (forL t m1 (ds.drop (i + 1)) e2)), fun σ2 H2 hN => hN, fun x H2 hy => ?_⟩
        obtain ⟨F2, n⟩ := g2 x H2 hy
        obtain ⟨s1, c1⟩ := C'.new n
        refine ⟨F2, e2, Le', [], N, G1, Z, ds[i], hz, c1, e3, ht, fun σ3 Le3 _ c3 => ?_⟩
        have st3 : Stp false F' H' F2 H2 e2 e3 Le' Le3 G1 := ⟨s1.le, s1.gd, fun z => by cases z⟩
        have lF2 : Lq F0 F2 := lF.trans s1.le
        have gH2 : ∀ a, G1 a → H2 a = H0 a := fun a ha => (s1.gd a ha).trans (gH a ha)
        have back : ∀ {e4 : Env} {σ4 : L2.St} {F4 H4 : Hp} {Le4 : List Addr}, Stp false F2 H2 F4 H4 e3 e4 Le3 Le4 G1 → Cf X r Z F4 H4 σ4 e4 [] Le4 [] N G1 → KS X r N G Z F' H' e2 Le' D (forL t m1 (ds.drop (i + 1)) e4) →
            ∃ m2, m2 < m ∧ (m2 = ds.length - (i + 1) ∧ i + 1 ≤ ds.length ∧ ∃ F' e2 Le', Lq F0 F' ∧ (∀ a, G1 a → H4 a = H0 a) ∧ Cf X r Z F' H4 σ4 e2 [] Le' [] N G1 ∧ KS X r N G Z F' H4 e2 Le' D (forL t m1 (ds.drop (i + 1)) e2)) := fun {e4 σ4 F4 H4 Le4} s4 c4 k4 =>
          ⟨ds.length - (i + 1), by omega, rfl, hlt, F4, e4, Le4, lF2.trans s4.le, fun a ha => (s4.gd a ha).trans (gH2 a ha), c4, KS.step ((st3.trans s4).sub hGG) k4⟩
        refine ⟨F2, e3, Le3, N, G1, Z, hz, c3, ?_⟩
        cases hbo : m1 e3 with
        | no => rw [hbo] at k'; exact k'
        | ex x e4 =>
          rw [hbo] at k'
          exact fun σ4 cls dd F4 H4 Le4 s4 c4 hx => k' σ4 cls dd F4 H4 Le4 ((st3.trans s4).sub hGG) (c4.guard hGG C.ng) hx
        | ok f e4 =>
          cases f with
          | next =>
            rw [hbo] at k'
            exact fun σ4 F4 H4 Le4 s4 c4 => back s4 c4 k'
          | cont =>
            rw [hbo] at k'
            exact fun σ4 F4 H4 Le4 s4 c4 => back s4 c4 k'
          | brk =>
            rw [hbo] at k'
            exact fun σ4 F4 H4 Le4 s4 c4 => k' σ4 F4 H4 Le4 ((st3.trans s4).sub hGG) (c4.guard hGG C.ng)
          | ret d =>
            rw [hbo] at k'
            exact fun σ4 F4 H4 Le4 Lp4 v s4 c4 => k' σ4 F4 H4 Le4 Lp4 v ((st3.trans s4).sub hGG) (c4.guard hGG C.ng)
    · refine .inl ⟨f2 (by omega), ?_⟩
      have : i = ds.length := by omega
      subst this
      rw [List.drop_length] at k'
      exact k' σ' F' H' Le' Stp.refl (C'.guard hGG C.ng)
end
end Ow
end

section
set_option linter.all false
set_option autoImplicit false
set_option maxRecDepth 100000
set_option maxHeartbeats 4000000
/-! OwM: more walks, while, read-only scopes, comprehensions. -/
namespace Ow
open PySem PySem.Spec L2
open PyProof.Rows hiding St

section
variable {X : Cx} {r : Rd} {a b c iter tg : Expr} {sts : List Stmt} {s0 : Stmt} {ma mb mc : M D} {ms : M (List D)} {tc : M Bool} {m1 m2 : S} {pos p : Pos} {q qa qb qc ba bb : Bool}
/-! ### walks that a built-in makes -/
/-- an argument that is walked: owned by itself, or a read-only slot -/
def JV (X : Cx) (r : Rd) (q : Bool) (e : Expr) (m : M D) : Prop := JE X r q false e m ∨ ∃ i d x pos, e = .Name x pos ∧ PE X e (tVar i) ∧ (i, d) ∈ r.P ∧ m = cst d ∧ q = true
theorem jv_val (h : JE X r q false a ma) : JV X r q a ma := .inl h
theorem jv_ro {i : Nat} {x : Str} {d : D} (hx : PE X (.Name x pos) (tVar i)) (hp : (i, d) ∈ r.P) : JV X r true (.Name x pos) (cst d) := .inr ⟨i, d, x, pos, rfl, hx, hp, rfl, rfl⟩
/-- its reading: the value waits, its parts under a guard -/
theorem JV.run (h : JV X r q a ma) : ∃ t : TE, PE X a t ∧ ∀ {σ : L2.St} {H : Hp} {f : D → Option (List D)} {R : It → Hp → Prop} {Q : V → Hp → Prop}, TIx X r q (bd ma fun d => Ow.op (f d)) σ H R →
    (∀ v H1 d F e Le Lp N G ps Z ds L, f d = some ds → Cf X r Z F H1 σ e ps Le Lp N G → Rel X.K r.ct F H1 d v L → (∀ x, x ∈ L → G x ∨ x ∈ Lp) → (∀ J, Feed X.K r.ct J ds F H1 (fun x => G x ∨ x ∈ Lp) → R J H1) → Q v H1) → t σ H Q := by
  rcases h with h | ⟨i, d, x, pos, e1, hx, hp, e2, e3⟩
  · refine ⟨_, h, fun {σ H f R Q} ht k => ?_⟩
    refine (TIx.val (rr := rD false) ht).mono fun v H1 ⟨d, pl, F, e, Le, Lp, N, G, Z, ds, hr, hf, hz, C, k2⟩ => ?_
    subst hr
    obtain ⟨L, rel, hin⟩ := own_in C.pd
    exact k v H1 d F e Le Lp N G _ Z ds L hf C rel (fun x hx => .inr (hin x hx)) k2
  · subst e1 e2 e3
    refine ⟨_, hx, fun {σ H f R Q} ht k => ?_⟩
    obtain ⟨F, e, Le, N, G, Z, hz, C, k2⟩ := ht
    refine ro_in (X := X) (pos := pos) hx hp C fun v L rel hin => ?_
    cases hf : f d with
    | none =>
      have hb : (bd (cst d) fun d => Ow.op (f d)) e = .no := by simp [bd, cst, op, hf]
      rw [hb] at k2; exact k2.elim
    | some ds =>
      have hb : (bd (cst d) fun d => Ow.op (f d)) e = .ok ds e := by simp [bd, cst, op, hf]
      rw [hb] at k2
      exact k v H d F e Le [] N G [] Z ds L hf C rel (fun x hx => .inl (C.ng x (hin x hx))) fun J hJ => k2 J F H Le G Stp.refl (fun _ h => h) C fun k F' H' l g s => hJ k F' H' l (fun a ha => g a (ha.elim id fun z => absurd z (by simp))) s
def itEnumL (d : D) : Option (List D) := match d with
  | .lst _ ds => if noOwnL ds then some (enumL ds) else none
  | _ => none
def enumE (m : M D) : M (List D) := bd m fun d => op (itEnumL d)
theorem ji_enum {elts : List Expr} {kk : Nat} {tpos : Pos} (hg : Gl X "enumerate") (hm : X.mg "enumerate" = none) (ha : JV X r q a ma) (hs : starEach [a] X.env = [(false, eval a X.env)] := by rfl) : JI X r q (.Tuple elts kk tpos) (.Call (.Name "enumerate" p) [a] [] pos) (enumE ma) := by
  obtain ⟨t, ht, k⟩ := ha.run
  refine piImp (pi_enum hg hm (pa_cons ht pa_nil (by rw [hs]; rfl)) hs) fun σ H R h => ?_
  refine k h fun v H1 d F e Le Lp N G ps Z ds L hf C rel hin k2 => ?_
  cases d with
  | lst o xs =>
    simp only [itEnumL] at hf
    split at hf
    · rename_i hn
      cases hf
      obtain ⟨a', vs, L', rfl, q1, rs, _⟩ := rel.lst_inv C.wf.sub
      exact ⟨a', vs, rfl, q1, k2 _ (feed_enum rel hn hin)⟩
    · cases hf
  | _ => cases hf
def itRevL (d : D) : Option (List D) := match d with
  | .lst _ ds => if noOwnL ds then some ds.reverse else none
  | _ => none
def revE (m : M D) : M (List D) := bd m fun d => op (itRevL d)
theorem ji_rev (hg : Gl X "reversed") (hm : X.mg "reversed" = none) (ha : JV X r q a ma) (hs : starEach [a] X.env = [(false, eval a X.env)] := by rfl) : JI X r q tg (.Call (.Name "reversed" p) [a] [] pos) (revE ma) := by
  obtain ⟨t, ht, k⟩ := ha.run
  refine piImp (pi_reversed hg hm (pa_cons ht pa_nil (by rw [hs]; rfl)) hs) fun σ H R h => ?_
  refine k h fun v H1 d F e Le Lp N G ps Z ds L hf C rel hin k2 => ?_
  cases d with
  | lst o xs =>
    simp only [itRevL] at hf
    split at hf
    · rename_i hn
      cases hf
      obtain ⟨a', vs, L', rfl, q1, rs, _⟩ := rel.lst_inv C.wf.sub
      refine ⟨a', vs, rfl, q1, k2 _ ?_⟩
      rw [← rs.length]
      exact feed_rev rel hn hin
    · cases hf
  | _ => cases hf
def strE (m : M D) : M (List D) := bd m fun d => op (itStr d)
theorem ji_str (ha : JV X r q a ma) : JI X r q tg a (strE ma) := by
  obtain ⟨t, ht, k⟩ := ha.run
  refine piImp (pi_str ht) fun σ H R h => ?_
  refine k h fun v H1 d F e Le Lp N G ps Z ds L hf C rel hin k2 => ?_
  cases d with
  | str s =>
    cases hf
    cases rel
    exact ⟨_, rfl, k2 _ (feed_str s)⟩
  | _ => cases hf
def rng1E (m : M D) : M (List D) := bd m fun d => op (itRange1 d)
theorem ji_range1 (hg : Gl X "range") (hm : X.mg "range" = none) (ha : JE X r q ba a ma) (hs : starEach [a] X.env = [(false, eval a X.env)] := by rfl) : JI X r q tg (.Call (.Name "range" p) [a] [] pos) (rng1E ma) :=
  piImp (pi_range1 hg hm (pa_cons ha pa_nil (by rw [hs]; rfl)) hs) fun σ H R h => by
    refine (TIx.val (rr := rD ba) h).mono fun v H1 ⟨d, pl, F, e, Le, Lp, N, G, Z, ds, hr, hf, hz, C, k⟩ => ?_
    subst hr
    obtain ⟨L1, r1⟩ := Cfg.one C
    cases d with
    | int n =>
      simp only [itRange1] at hf
      split at hf
      · rename_i hn
        cases hf; cases r1
        have hn' : -(2 ^ 62) ≤ n ∧ n < 2 ^ 62 := by simpa [smallI] using hn
        refine ⟨n, rfl, hn'.1, hn'.2, ?_⟩
        have := k _ (feed_range (F := F) (H := H1) 0 n)
        simpa using this
      · cases hf
    | _ => cases hf
def rng2E (m m' : M D) : M (List D) := bd m fun d => bd m' fun d' => op (itRange2 d d')
/-- a walk made of two values -/
theorem TIx.two {f : D → D → Option (List D)} {σ : L2.St} {H : Hp} {R : It → Hp → Prop} (hc : qb = true ∨ ba = false) (h : TIx X r (qa && qb) (bd ma fun d => bd mb fun d' => Ow.op (f d d')) σ H R) :
    TXr X r (rD ba) qa [] ma σ H fun v H1 => TXr X r (rD bb) qb [] mb σ H1 fun w H2 => ∃ d d' F e Le Lp N G Z ds, f d d' = some ds ∧ Z.map (·.1) = r.zs ∧ Cf X r Z F H2 σ e [(bb, d', w), (ba, d, v)] Le Lp N G ∧ ∀ J, Feed X.K r.ct J ds F H2 (fun x => G x ∨ x ∈ Lp) → R J H2 := by
  -- through a pair of both
  have h' : TIx X r (qa && qb) (bd (bd ma fun d => bd mb fun d' => ret1 (d, d')) fun p => Ow.op (f p.1 p.2)) σ H R := by
    have e : (bd (bd ma fun d => bd mb fun d' => ret1 (d, d')) fun p => Ow.op (f p.1 p.2)) = (bd ma fun d => bd mb fun d' => Ow.op (f d d')) := by
      funext e
      simp only [bd]
      cases ma e with
      | no => rfl
      | ex x e' => rfl
      | ok d e' =>
        dsimp only
        cases mb e' <;> rfl
    rw [e]; exact h
  have h2 := TIx.val (rr := fun (p : D × D) (y : V × V) (pl : List Pend) => pl = [(bb, p.2, y.2), (ba, p.1, y.1)]) h'
  refine (TX.bind (rr1 := rD ba) (q1 := qa) (fun z => (both_l z).1) (.inr rfl) h2).mono fun v H1 ⟨d, pl, hr, h3⟩ => ?_
  subst hr
  refine (TX.bind (rr1 := rD bb) (q1 := qb) (fun z => (both_l z).2) ?_ h3).mono fun w H2 ⟨d', pl2, hr2, h4⟩ => ?_
  · rcases hc with hb | hb
    · exact .inl hb
    · exact .inr (by rw [hb]; rfl)
  subst hr2
  obtain ⟨p, pl3, F, e, Le, Lp, N, G, Z, ds, hr3, hf, hz, C, k⟩ := TX.ret (y := (v, w)) h4 rfl
  subst hr3
  exact ⟨p.1, p.2, F, e, Le, Lp, N, G, Z, ds, hf, hz, C, k⟩
theorem ji_range2 (hg : Gl X "range") (hm : X.mg "range" = none) (ha : JE X r qa ba a ma) (hb : JE X r qb bb b mb) (hc : qb = true ∨ ba = false := by first | exact .inl rfl | exact .inr rfl) (hs : starEach [a, b] X.env = [(false, eval a X.env), (false, eval b X.env)] := by rfl) (hs2 : starEach [b] X.env = [(false, eval b X.env)] := by rfl) :
    JI X r (qa && qb) tg (.Call (.Name "range" p) [a, b] [] pos) (rng2E ma mb) := by
  refine piImp (pi_range2 hg hm (pa_cons ha (pa_cons hb pa_nil (by rw [hs2]; rfl)) (by rw [hs, hs2])) hs hs2) fun σ H R h => ?_
  refine (TIx.two hc h).mono fun v H1 h2 => h2.mono fun w H2 ⟨d, d', F, e, Le, Lp, N, G, Z, ds, hf, hz, C, k⟩ => ?_
  obtain ⟨⟨L1, r1⟩, ⟨L2, r2⟩⟩ := Cfg.two C
  cases d with
  | int i =>
    cases d' with
    | int j =>
      simp only [itRange2] at hf
      split at hf
      · rename_i hn
        cases hf; cases r1; cases r2
        have hn' : (-(2 ^ 62) ≤ i ∧ i < 2 ^ 62) ∧ (-(2 ^ 62) ≤ j ∧ j < 2 ^ 62) := by simpa [smallI] using hn
        exact ⟨i, j, rfl, ⟨hn'.1.1, hn'.1.2, hn'.2.1, hn'.2.2⟩, k _ (feed_range (F := F) (H := H2) i j)⟩
      · cases hf
    | _ => cases hf
  | _ => cases hf

/-! ### while -/
theorem whileS_succ {n : Nat} {tc : M Bool} {m : S} {e : Env} : whileS (n + 1) tc m e = match tc e with
    | .ok true e1 => match m e1 with
      | .ok .next e2 => whileS n tc m e2
      | .ok .cont e2 => whileS n tc m e2
      | .ok .brk e2 => .ok .next e2
      | r => r
    | .ok false e1 => .ok .next e1
    | .ex x e1 => .ex x e1
    | .no => .no := rfl
theorem js_while {n : Nat} (hp : PassesOwn (model X.prog X.w) X.A X.env X.xe) (hc : JT X r q c tc) (hb : JSs X r sts m1) : JS X r (.While c sts [] pos) (whileS n tc m1) := psImp (ps_while hp hc hb) fun D σ H h => by
  obtain ⟨F, e, Le, N, G, Z, hz, C, k⟩ := h
  refine ⟨fun m σ' H' => ∃ F' e' Le', Cf X r Z F' H' σ' e' [] Le' [] N G ∧ KS X r N G Z F' H' e' Le' D (whileS m tc m1 e'), ⟨n, F, e, Le, C, k⟩, ?_⟩
  rintro m σ' H' ⟨F', e', Le', C', k'⟩
  cases m with
  | zero => exact (show False from k').elim
  | succ m =>
    rw [whileS_succ] at k'
    refine ⟨F', e', Le', [], N, G, Z, hz, C', ?_⟩
    cases ht : tc e' with
    | no => rw [ht] at k'; exact k'
    | ex x e1 =>
      rw [ht] at k'
      exact fun cls dd F1 H1 Le1 s1 c1 hx => k' σ' cls dd F1 H1 Le1 s1 c1 hx
    | ok bv e1 =>
      rw [ht] at k'
      intro y F1 H1 Le1 Lp1 pl hr s1 c1
      obtain ⟨e0, e2⟩ := hr
      subst e0 e2
      have c1' := c1.clear
      cases bv with
      | false =>
        rw [if_neg Bool.false_ne_true]
        exact k' σ' F1 H1 Le1 s1.off c1'
      | true =>
        rw [if_pos rfl]
        refine ⟨fun σ2 H2 => ∃ F' e' Le', Cf X r Z F' H2 σ2 e' [] Le' [] N G ∧ KS X r N G Z F' H2 e' Le' D (whileS m tc m1 e'), fun σ2 H2 h => ⟨m, Nat.lt_succ_self _, h⟩, ?_⟩
        refine ⟨F1, e1, Le1, N, G, Z, hz, c1', ?_⟩
        dsimp only at k'
        cases hm : m1 e1 with
        | no => rw [hm] at k'; exact k'
        | ex x e4 =>
          rw [hm] at k'
          exact fun σ4 cls dd F4 H4 Le4 s4 c4 hx => k' σ4 cls dd F4 H4 Le4 (s1.off.trans s4) c4 hx
        | ok f e4 =>
          rw [hm] at k'
          cases f with
          | next => exact fun σ4 F4 H4 Le4 s4 c4 => ⟨F4, e4, Le4, c4, KS.step (s1.off.trans s4) k'⟩
          | cont => exact fun σ4 F4 H4 Le4 s4 c4 => ⟨F4, e4, Le4, c4, KS.step (s1.off.trans s4) k'⟩
          | brk => exact fun σ4 F4 H4 Le4 s4 c4 => k' σ4 F4 H4 Le4 (s1.off.trans s4) c4
          | ret d => exact fun σ4 F4 H4 Le4 Lp4 v s4 c4 => k' σ4 F4 H4 Le4 Lp4 v (s1.off.trans s4) c4

/-! ### a slot that is read only for a while -/
/-- r with slot i read only, its value d -/
def Rd.ro (r : Rd) (i : Nat) (d : D) : Rd := { r with P := (i, d) :: r.P, zs := i :: r.zs }
theorem Cfg.lend {Z : List (Nat × V)} {F H : Hp} {σ : L2.St} {e : Env} {ps : List Pend} {Le Lp : List Addr} {N G : Addr → Prop} {i : Nat} {d : D} (C : Cf X r Z F H σ e [] Le [] N G) (hg : gt i e = some d) :
    ∃ v L1 L2, σ[i]? = some (some v) ∧ Rel X.K r.ct F H d v L1 ∧ (∀ x, x ∈ L1 → x ∈ Le) ∧ (∀ x, x ∈ L2 → x ∈ Le) ∧ (L1 ++ L2).Nodup ∧ Cf X (r.ro i d) ((i, v) :: Z) F H σ (st i none e) [] L2 [] (fun x => N x ∨ x ∈ L1) (fun x => G x ∨ x ∈ L1) := by
  obtain ⟨v, L1, L2, h1, h2, h3, h4⟩ := C.er.take hg
  have nd0 := C.wf.nd
  rw [List.append_nil] at nd0
  have nd := h4.nodup_iff.mp nd0
  have nd2 := List.nodup_append.mp nd
  have i1 : ∀ x, x ∈ L1 → x ∈ Le := fun x hx => h4.mem_iff.mpr (List.mem_append_left _ hx)
  have i2 : ∀ x, x ∈ L2 → x ∈ Le := fun x hx => h4.mem_iff.mpr (List.mem_append_right _ hx)
  have out : ∀ x, x ∈ Le → F x = none ∧ H x ≠ none ∧ ¬ G x := fun x hx => C.wf.out x (List.mem_append_left _ hx)
  refine ⟨v, L1, L2, h1, h2, i1, i2, nd, ⟨⟨C.wf.sub, by rw [List.append_nil]; exact nd2.2.1, fun x hx => ?_, fun x hx => ?_⟩, h3, .nil, fun p hp => ?_, fun x hx => ?_, fun z hz => ?_⟩⟩
  · rw [List.append_nil] at hx
    obtain ⟨o1, o2, o3⟩ := out x (i2 x hx)
    exact ⟨o1, o2, fun z => z.elim o3 fun z => nd2.2.2 x z x hx rfl⟩
  · rcases hx with h | h
    · exact C.wf.gd x h
    · obtain ⟨o1, o2, _⟩ := out x (i1 x h)
      exact ⟨o1, o2⟩
  · rcases List.mem_cons.mp hp with q | q
    · subst q
      exact ⟨v, L1, h1, h2, fun x hx => .inr hx⟩
    · obtain ⟨w, Lr, g1, g2, g3⟩ := C.pr p q
      exact ⟨w, Lr, g1, g2, fun x hx => .inl (g3 x hx)⟩
  · exact hx.elim (fun z => .inl (C.ng x z)) .inr
  · rcases List.mem_cons.mp hz with q | q
    · subst q; exact h1
    · exact C.zs z q
/-- .. and comes back -/
theorem Cfg.unlend {Z : List (Nat × V)} {F F' H H' : Hp} {σ : L2.St} {e : Env} {ps : List Pend} {Le Lp : List Addr} {N G : Addr → Prop} {i : Nat} {d : D} {v : V} {L1 : List Addr} (C : Cf X (r.ro i d) ((i, v) :: Z) F' H' σ e ps Le Lp (fun x => N x ∨ x ∈ L1) (fun x => G x ∨ x ∈ L1))
    (hps : ps.all (fun p => !p.1) = true) (rel : Rel X.K r.ct F H d v L1) (l : Lq F F') (g : ∀ x, x ∈ L1 → H' x = H x) (nd : L1.Nodup) (hr : ∀ p, p ∈ r.P → ∃ v Lr, σ[p.1]? = some (some v) ∧ Rel X.K r.ct F' H' p.2 v Lr ∧ ∀ a, a ∈ Lr → N a) (ng : ∀ x, N x → G x) (hi : i < e.length) (hL : ∀ x, x ∈ L1 → ¬ G x) :
    ∃ Le', Cf X r Z F' H' σ (st i (some d) e) ps Le' Lp N G ∧ ∀ x, x ∈ Le' → x ∈ Le ∨ x ∈ L1 := by
  have h1 := C.zs (i, v) List.mem_cons_self
  obtain ⟨L2, f1, f2, f3⟩ := C.er.forget i
  have rel' := rel.mono l g
  obtain ⟨L', p1, p2⟩ := f1.put hi h1 rel'
  have nd0 := List.nodup_append.mp C.wf.nd
  have disj : ∀ x, x ∈ L1 → x ∉ Le ∧ x ∉ Lp := fun x hx => ⟨fun z => (C.wf.out x (List.mem_append_left _ z)).2.2 (.inr hx), fun z => (C.wf.out x (List.mem_append_right _ z)).2.2 (.inr hx)⟩
  have mem : ∀ x, x ∈ L' → x ∈ Le ∨ x ∈ L1 := fun x hx => (List.mem_append.mp (p2.mem_iff.mp hx)).elim .inr fun z => .inl (f2 x z)
  refine ⟨L', ⟨⟨C.wf.sub, ?_, fun x hx => ?_, fun x hx => C.wf.gd x (.inl hx)⟩, p1, ?_, hr, ng, fun z hz => C.zs z (List.mem_cons_of_mem _ hz)⟩, mem⟩
  · refine List.nodup_append.mpr ⟨p2.nodup_iff.mpr (List.nodup_append.mpr ⟨nd, f3 nd0.1, fun x hx y hy z => ?_⟩), nd0.2.1, fun x hx y hy z => ?_⟩
    · subst z; exact (disj x hx).1 (f2 x hy)
    · subst z
      rcases mem x hx with h | h
      · exact nd0.2.2 x h x hy rfl
      · exact (disj x h).2 hy
  · rcases List.mem_append.mp hx with h | h
    · rcases mem x h with h | h
      · obtain ⟨o1, o2, o3⟩ := C.wf.out x (List.mem_append_left _ h)
        exact ⟨o1, o2, fun z => o3 (.inl z)⟩
      · obtain ⟨o1, o2⟩ := C.wf.gd x (.inr h)
        exact ⟨o1, o2, hL x h⟩
    · obtain ⟨o1, o2, o3⟩ := C.wf.out x (List.mem_append_right _ h)
      exact ⟨o1, o2, fun z => o3 (.inl z)⟩
  · have hnb : ¬ ∃ p, p ∈ ps ∧ p.1 = true := fun ⟨p, hp, hp1⟩ => by
      have := List.all_eq_true.mp hps p hp
      rw [hp1] at this; cases this
    exact C.pd.mono (Lq.refl F') (fun _ _ => rfl) (fun z => absurd z hnb) (fun z => absurd z hnb)
end
end Ow
end

section
set_option linter.all false
set_option autoImplicit false
set_option maxRecDepth 100000
set_option maxHeartbeats 4000000
/-! OwN: list comprehensions. -/
namespace Ow
open PySem PySem.Spec L2
open PyProof.Rows hiding St

theorem gt_st_none {e : Env} {i : Nat} : gt i (st i none e) = none := by
  by_cases h : i < e.length
  · exact gt_st_same h
  · unfold gt st
    rw [List.getElem?_eq_none (by simpa using h)]
    rfl
theorem ERel.ext {K : PySem.W.Frag} {ct : Nat → Addr} {F H : Hp} : ∀ {e : Env} {σ σ' : L2.St} {L : List Addr}, ERel K ct F H e σ L → σ'.length = σ.length → (∀ i, gt i e ≠ none → σ'[i]? = σ[i]?) → ERel K ct F H e σ' L
  | _, _, [], _, .nil, _, _ => .nil
  | _, _, _ :: _, _, .nil, h, _ => by simp at h
  | _, _, [], _, .non _, h, _ => by simp at h
  | _, _, x :: σ', _, .non r, h, g => .non (ERel.ext r (by simpa using h) fun i hi => by
      have := g (i + 1) (by rw [gt_succ]; exact hi)
      simpa using this)
  | _, _, [], _, .sm _ _ _, h, _ => by simp at h
  | _, _, x :: σ', _, .sm q r e, h, g => by
    have h0 := g 0 (by rw [gt_cons0]; exact fun z => by cases z)
    simp at h0
    subst h0
    exact .sm q (ERel.ext r (by simpa using h) fun i hi => by
      have := g (i + 1) (by rw [gt_succ]; exact hi)
      simpa using this) e
theorem gt_wipe {e : Env} {i : Nat} : ∀ {vs : List Nat}, i ∈ vs → gt i (wipe vs e) = none
  | [], h => absurd h (by simp)
  | v :: vs, h => by
    show gt i (st v none (wipe vs e)) = none
    by_cases q : v = i
    · subst q; exact gt_st_none
    · rw [gt_st_ne q]
      rcases List.mem_cons.mp h with z | z
      · exact absurd z.symm q
      · exact gt_wipe z
theorem wipe_at {σ : L2.St} {i : Nat} : ∀ {vs : List Nat}, i ∈ vs → (L2.wipe σ vs)[i]? = if i < σ.length then some none else none
  | [], h => absurd h (by simp)
  | v :: vs, h => by
    show ((L2.wipe σ vs).set v none)[i]? = _
    by_cases q : v = i
    · subst q
      rw [List.getElem?_set]
      simp only [L2.wipe_length, if_true]
    · rw [List.getElem?_set_ne q]
      rcases List.mem_cons.mp h with z | z
      · exact absurd z.symm q
      · exact wipe_at z
theorem wipe_off {σ σ' : L2.St} {vs ws : List Nat} (h : Off ws σ σ') (hw : ∀ i, i ∈ ws → i ∈ vs) : L2.wipe σ' vs = L2.wipe σ vs := by
  apply List.ext_getElem?
  intro i
  by_cases q : i ∈ vs
  · rw [wipe_at q, wipe_at q, h.1]
  · rw [L2.wipe_out q, L2.wipe_out q, h.2 i fun z => q (hw i z)]
theorem wipe_wipe {σ : L2.St} {vs : List Nat} : L2.wipe (L2.wipe σ vs) vs = L2.wipe σ vs := by
  apply List.ext_getElem?
  intro i
  by_cases q : i ∈ vs
  · rw [wipe_at q, wipe_at q, L2.wipe_length]
  · rw [L2.wipe_out q]

section
variable {X : Cx} {r : Rd} {Z : List (Nat × V)} {F H : Hp} {σ : L2.St} {e : Env} {ps : List Pend} {Le Lp : List Addr} {N G : Addr → Prop} {own : List Nat}
theorem Cfg.wipe (hz : Z.map (·.1) = r.zs) : ∀ {own : List Nat}, (∀ i, i ∈ own → r.open i = true) → Cf X r Z F H σ e [] Le [] N G → ∃ Le', Cf X r Z F H (L2.wipe σ own) (Ow.wipe own e) [] Le' [] N G ∧ ∀ x, x ∈ Le' → x ∈ Le
  | [], _, C => ⟨Le, C, fun _ h => h⟩
  | i :: own, ho, C => by
    obtain ⟨L1, C1, h1⟩ := Cfg.wipe hz (own := own) (fun j hj => ho j (List.mem_cons_of_mem _ hj)) C
    obtain ⟨L2, f1, f2, f3⟩ := C1.er.forget i
    have hP := Rd.open_P (ho i List.mem_cons_self)
    have hZ := Rd.open_Z (ho i List.mem_cons_self) hz
    refine ⟨L2, ⟨C1.wf.of_sub (by rw [List.append_nil]; exact f3 (by have := C1.wf.nd; rwa [List.append_nil] at this)) (fun x hx => by rw [List.append_nil] at hx ⊢; exact f2 x hx), f1.slot gt_st_none, .nil, fun p hp => ?_, C1.ng, fun z hz => ?_⟩, fun x hx => h1 x (f2 x hx)⟩
    · obtain ⟨v, Lr, g1, g2, g3⟩ := C1.pr p hp
      exact ⟨v, Lr, by rw [← g1]; exact List.getElem?_set_ne fun z => hP p hp z.symm, g2, g3⟩
    · rw [← C1.zs z hz]
      exact List.getElem?_set_ne fun q => hZ z hz q.symm
/-- the block's names are not read behind it -/
theorem Cfg.unwipe (hz : Z.map (·.1) = r.zs) (ho : ∀ i, i ∈ own → r.open i = true) (hn : ∀ i, i ∈ own → gt i e = none) (C : Cf X r Z F H (L2.wipe σ own) e ps Le Lp N G) : Cf X r Z F H σ e ps Le Lp N G := by
  have out : ∀ i, i ∉ own → σ[i]? = (L2.wipe σ own)[i]? := fun i hi => (L2.wipe_out hi).symm
  refine ⟨C.wf, C.er.ext (L2.wipe_length σ own).symm fun i hi => out i fun z => hi (hn i z), C.pd, fun p hp => ?_, C.ng, fun z hz' => ?_⟩
  · obtain ⟨v, Lr, g1, g2, g3⟩ := C.pr p hp
    exact ⟨v, Lr, by rw [out p.1 fun z => Rd.open_P (ho p.1 z) p hp rfl]; exact g1, g2, g3⟩
  · rw [out z.1 fun q => Rd.open_Z (ho z.1 q) hz z hz' rfl]
    exact C.zs z hz'
/-- what is guarded, and neither frozen nor read only, may change -/
theorem Cfg.poke {p : Addr} {o : HO} (C : Cf X r Z F H σ e ps Le Lp N G) (hp : ps = []) (hg : G p) (hn : ¬ N p) : Cf X r Z F (upd H p o) σ e ps Le Lp N G := by
  subst hp
  have ne : ∀ a, a ∈ Le ++ Lp → a ≠ p := fun a ha z => by subst z; exact (C.wf.out a ha).2.2 hg
  have hF : F p = none := (C.wf.gd p hg).1
  refine ⟨⟨fun a u q => ?_, C.wf.nd, fun a ha => ?_, fun a ha => ⟨(C.wf.gd a ha).1, ?_⟩⟩, C.er.mono (Lq.refl F) fun a ha => upd_ne (ne a (List.mem_append_left _ ha)), ?_, fun q hq => ?_, C.ng, C.zs⟩
  · rw [upd_ne]
    · exact C.wf.sub a u q
    · intro z; rw [z, hF] at q; cases q
  · obtain ⟨o1, o2, o3⟩ := C.wf.out a ha
    exact ⟨o1, by rw [upd_ne (ne a ha)]; exact o2, o3⟩
  · by_cases z : a = p
    · subst z; rw [upd_same]; exact fun q => by cases q
    · rw [upd_ne z]; exact (C.wf.gd a ha).2
  · have := C.pd
    cases this
    exact .nil
  · obtain ⟨v, Lr, g1, g2, g3⟩ := C.pr q hq
    exact ⟨v, Lr, g1, g2.mono (Lq.refl F) fun a ha => upd_ne fun z => hn (by rw [← z]; exact g3 a ha), g3⟩
/-- a value that waits, frozen -/
theorem Cfg.freeze {d d' : D} {v : V} (C : Cf X r Z F H σ e [(false, d, v)] Le Lp N G) (hf : d.freeze = some d') : ∃ F', Lq F F' ∧ Rel X.K r.ct F' H d' v [] ∧ Cf X r Z F' H σ e [] Le [] N G := by
  have pd := C.pd
  cases pd with
  | own rel rs e1 =>
    cases rs
    rw [List.append_nil] at e1
    subst e1
    have nd := List.nodup_append.mp C.wf.nd
    have hl : Lq F (froz F H Lp) := froz_le fun a ha => (C.wf.out a (List.mem_append_right _ ha)).1
    refine ⟨froz F H Lp, hl, rel.freeze hl (fun a ha => ha) hf, ⟨froz_sub C.wf.sub, by rw [List.append_nil]; exact nd.1, fun a ha => ?_, fun a ha => ?_⟩, C.er.mono hl fun _ _ => rfl, .nil, fun p hp => ?_, C.ng, C.zs⟩
    · rw [List.append_nil] at ha
      obtain ⟨o1, o2, o3⟩ := C.wf.out a (List.mem_append_left _ ha)
      rw [froz_out fun z => nd.2.2 a ha a z rfl]
      exact ⟨o1, o2, o3⟩
    · obtain ⟨o1, o2⟩ := C.wf.gd a ha
      rw [froz_out fun z => (C.wf.out a (List.mem_append_right _ z)).2.2 ha]
      exact ⟨o1, o2⟩
    · obtain ⟨w, Lr, g1, g2, g3⟩ := C.pr p hp
      exact ⟨w, Lr, g1, g2.mono hl fun _ _ => rfl, g3⟩
end

/-- nothing may be raised in a comprehension -/
def Rd.blk (r : Rd) : Rd := { r with W := fun _ _ _ _ => False }
def JTs (X : Cx) (r : Rd) (q : Bool) (ifs : List Expr) (c : M Bool) : Prop := PTs X ifs (TXr X r rB q [] c)
section
variable {X : Cx} {r : Rd} {a b c iter tg : Expr} {ma mb mc : M D} {ms : M (List D)} {tc : M Bool} {m1 m2 : S} {pos p : Pos} {q qa qb qc ba bb : Bool} {t : Tg}
theorem jts_nil : JTs X r q [] yes := ⟨fun pins s σ H Q I h => pts_nil.run pins s σ H Q I (by
  obtain ⟨F, e, Le, Lp, N, G, Z, hz, C, k⟩ := h
  have k' : ∀ y F' H' Le' Lp' pl, rB true y pl → Stp q F H F' H' e e Le Le' G → Cfg X.K r.ct r.P Z F' H' σ e pl Le' Lp' N G → Q y H' := k
  exact k' true F H Le Lp [] ⟨rfl, rfl⟩ Stp.refl C)⟩
theorem jts_one (h : JT X r q c tc) : JTs X r q [c] tc := pts_one h
theorem lcL_cons {own : List Nat} {t : Tg} {c : M Bool} {elt : M D} {d : D} {ds acc : List D} {e : Env} : lcL own t c elt (d :: ds) acc e = match t.asg d (Ow.wipe own e) with
    | none => none
    | some e1 => match c e1 with
      | .ok true e2 => match elt e2 with
        | .ok v e3 => match v.freeze with
          | some v' => if acc.length < lineN then lcL own t c elt ds (acc ++ [v']) e3 else none
          | none => none
        | _ => none
      | .ok false e2 => lcL own t c elt ds acc e2
      | _ => none := rfl
/-- how a comprehension goes on -/
def KL (X : Cx) (r : Rd) (N G : Addr → Prop) (Z : List (Nat × V)) (F0 H0 : Hp) (σ : L2.St) (Q : V → Hp → Prop) (res : Option (List D × Env)) : Prop :=
  match res with
  | some (acc, e') => ∀ v F' H' Le' Lp', Lq F0 F' → (∀ x, G x → H' x = H0 x) → Cf X r Z F' H' σ e' [(false, .lst true acc, v)] Le' Lp' N G → Q v H'
  | none => False
/-- the core: what tLc asks, of the mirror -/
theorem lc_run {own : List Nat} {g : TG} {tt : TT} {te : TE} (hsl : t.slots.all (own.contains ·) = true) (ho : own.all r.open = true)
    (hg : ∀ v σ H Q, TGx X r.blk t v σ H Q → g v σ H Q) (hc : ∀ σ H Q, TXr X r.blk rB false [] tc σ H Q → tt σ H Q) (he : ∀ σ H Q, TXr X r.blk (rD false) false [] mb σ H Q → te σ H Q)
    {σ : L2.St} {H : Hp} {Q : V → Hp → Prop} (h : TXr X r (rD false) false [] (lc own ms t tc mb) σ H Q) :
    TIx X r false ms σ H fun J H1 => ∀ D, H1 D = none → ∃ W : Nat → Nat → Hp → Prop, (∃ m, W 0 m (upd H1 D (.lst []))) ∧ ∀ i m H, W i m H →
      (J.stop i H ∧ Q (.ref D) H) ∨ (J.go i H ∧ ∃ Nx : Hp → Prop, (∀ H', Nx H' → ∃ m', m' < m ∧ W (i + 1) m' H') ∧ ∀ x H', J.yld i H x H' → g x (L2.wipe σ own) H' fun σ2 H2 => L2.wipe σ2 own = L2.wipe σ own ∧ tt σ2 H2 fun b H3 =>
        if b = true then te σ2 H3 fun y H4 => ∃ acc, H4 D = some (.lst acc) ∧ acc.length < sizeLine ∧ Nx (upd H4 D (.lst (acc ++ [y]))) else Nx H3) := by
  obtain ⟨F, e, Le, Lp, N, G, Z, hz, C, k⟩ := h
  have ho' : ∀ i, i ∈ own → r.open i = true := fun i hi => List.all_eq_true.mp ho i hi
  have hsl' : ∀ i, i ∈ t.slots → i ∈ own := fun i hi => by simpa using List.all_eq_true.mp hsl i hi
  refine ⟨F, e, Le, N, G, Z, hz, C.clear, ?_⟩
  cases hm : ms e with
  | no => simp only [lc, bd, hm] at k
  | ex x e' =>
    simp only [lc, bd, hm] at k
    exact fun cls dd F' H' Le' s c hx => k cls dd F' H' Le' s c hx
  | ok ds e0 =>
    simp only [lc, bd, hm] at k
    intro J F0 H0 Le0 G1 s0 hGG C0 hJ D hD
    have k0 : KL X r N G Z F0 H0 σ Q (lcL own t tc mb ds [] e0) := by
      cases hl : lcL own t tc mb ds [] e0 with
      | none => rw [hl] at k; exact k
      | some p =>
        obtain ⟨acc, e9⟩ := p
        rw [hl] at k
        exact fun v F' H' Le' Lp' l g C' => k v F' H' Le' Lp' _ rfl ⟨s0.le.trans l, fun x hx => (g x hx).trans (s0.gd x hx), fun z => by cases z⟩ C'
    have hDN : ¬ N D := fun z => (C0.wf.gd D (C0.ng D z)).2 hD
    have hDF : F0 D = none := C0.wf.sub.none hD
    have hDG : ¬ G1 D := fun z => (C0.wf.gd D z).2 hD
    let G2 : Addr → Prop := fun x => G1 x ∨ x = D
    -- the turn's state
    refine ⟨fun i m H' => m = ds.length - i ∧ i ≤ ds.length ∧ ∃ F' e2 Le' acc accV, Lq F0 F' ∧ (∀ a, G1 a → H' a = H0 a) ∧ H' D = some (.lst accV) ∧ RelL X.K r.ct F' H' acc accV [] ∧ Cf X r.blk Z F' H' (L2.wipe σ own) (Ow.wipe own e2) [] Le' [] N G2 ∧ KL X r N G Z F0 H0 σ Q (lcL own t tc mb (ds.drop i) acc e2), ?_, ?_⟩
    · obtain ⟨Le1, C1, hin⟩ := Cfg.wipe hz ho' C0
      refine ⟨ds.length, by simp, Nat.zero_le _, F0, e0, Le1, [], [], Lq.refl _, fun a ha => upd_ne fun z => hDG (by rw [← z]; exact ha), upd_same, .nil, ?_, by simpa using k0⟩
      have ne : ∀ a, a ∈ Le1 → a ≠ D := fun a ha z => by subst z; exact (C0.wf.out a (List.mem_append_left _ (hin a ha))).2.1 hD
      refine ⟨⟨fun a u q => ?_, C1.wf.nd, fun a ha => ?_, fun a ha => ?_⟩, C1.er.mono (Lq.refl _) fun a ha => upd_ne (ne a ha), .nil, fun p hp => ?_, fun a ha => .inl (C1.ng a ha), C1.zs⟩
      · rw [upd_ne]
        · exact C0.wf.sub a u q
        · intro z; rw [z, hDF] at q; cases q
      · rw [List.append_nil] at ha
        obtain ⟨o1, o2, o3⟩ := C1.wf.out a (List.mem_append_left _ ha)
        refine ⟨o1, by rw [upd_ne (ne a ha)]; exact o2, fun z => z.elim o3 (ne a ha)⟩
      · rcases ha with h | h
        · obtain ⟨o1, o2⟩ := C0.wf.gd a h
          exact ⟨o1, by rw [upd_ne fun z => hDG (by rw [← z]; exact h)]; exact o2⟩
        · subst h; exact ⟨hDF, by rw [upd_same]; exact fun z => by cases z⟩
      · obtain ⟨v, Lr, g1, g2, g3⟩ := C1.pr p hp
        exact ⟨v, Lr, g1, g2.mono (Lq.refl _) fun a ha => upd_ne fun z => hDN (by rw [← z]; exact g3 a ha), g3⟩
    · rintro i m H' ⟨hm', hi', F', e2, Le', acc, accV, lF, gH, hDa, ra, C', k'⟩
      obtain ⟨f1, f2⟩ := hJ i F' H' lF gH C'.wf.sub
      by_cases hlt : i < ds.length
      · refine .inr ?_
        have hd : ds[i]? = some ds[i] := List.getElem?_eq_getElem hlt
        obtain ⟨g1, g2⟩ := f1 _ hd
        rw [List.drop_eq_getElem_cons hlt, lcL_cons] at k'
        cases ht : t.asg ds[i] (Ow.wipe own e2) with
        | none => rw [ht] at k'; exact (show False from k').elim
        | some e3 =>
          rw [ht] at k'
          dsimp only at k'
          refine ⟨g1, fun H9 => ∃ m9, m9 < m ∧ (m9 = ds.length - (i + 1) ∧ i + 1 ≤ ds.length ∧ ∃ F' e2 Le' acc accV, Lq F0 F' ∧ (∀ a, G1 a → H9 a = H0 a) ∧ H9 D = some (.lst accV) ∧ RelL X.K r.ct F' H9 acc accV [] ∧ Cf X r.blk Z F' H9 (L2.wipe σ own) (Ow.wipe own e2) [] Le' [] N G2 ∧ KL X r N G Z F0 H0 σ Q (lcL own t tc mb (ds.drop (i + 1)) acc e2)), fun H9 h => h, fun x H2 hy => ?_⟩
          obtain ⟨F2, n⟩ := g2 x H2 hy
          obtain ⟨s1, c1⟩ := C'.new n
          have hD2 : H2 D = some (.lst accV) := (s1.gd D (.inr rfl)).trans hDa
          have lF2 : Lq F0 F2 := lF.trans s1.le
          have gH2 : ∀ a, G1 a → H2 a = H0 a := fun a ha => (s1.gd a (.inl ha)).trans (gH a ha)
          refine hg x _ H2 _ ⟨F2, Ow.wipe own e2, Le', [], N, G2, Z, ds[i], hz, c1, e3, ht, fun σ3 Le3 off c3 => ⟨(wipe_off off hsl').trans wipe_wipe, ?_⟩⟩
          have wσ : L2.wipe σ3 own = L2.wipe σ own := (wipe_off off hsl').trans wipe_wipe
          refine hc σ3 H2 _ ⟨F2, e3, Le3, [], N, G2, Z, hz, c3, ?_⟩
          cases hcc : tc e3 with
          | no => rw [hcc] at k'; exact k'
          | ex x e4 => rw [hcc] at k'; exact (show False from k').elim
          | ok bv e4 =>
            rw [hcc] at k'
            intro y F4 H4 Le4 Lp4 pl hr s4 c4
            obtain ⟨q0, q1⟩ := hr
            subst q0 q1
            have lF4 : Lq F0 F4 := lF2.trans s4.le
            have gH4 : ∀ a, G1 a → H4 a = H0 a := fun a ha => (s4.gd a (.inl ha)).trans (gH2 a ha)
            have hD4 : H4 D = some (.lst accV) := (s4.gd D (.inr rfl)).trans hD2
            have ra4 : RelL X.K r.ct F4 H4 acc accV [] := ra.mono (s1.le.trans s4.le) fun _ z => absurd z (by simp)
            -- a turn's end
            have fin : ∀ {F5 H5 : Hp} {σ5 : L2.St} {e5 : Env} {Le5 : List Addr} {acc5 : List Ow.D} {accV5 : List V}, L2.wipe σ5 own = L2.wipe σ own → Lq F0 F5 → (∀ a, G1 a → H5 a = H0 a) → H5 D = some (.lst accV5) → RelL X.K r.ct F5 H5 acc5 accV5 [] → Cf X r.blk Z F5 H5 σ5 e5 [] Le5 [] N G2 → KL X r N G Z F0 H0 σ Q (lcL own t tc mb (ds.drop (i + 1)) acc5 e5) →
                ∃ m9, m9 < m ∧ (m9 = ds.length - (i + 1) ∧ i + 1 ≤ ds.length ∧ ∃ F' e2 Le' acc accV, Lq F0 F' ∧ (∀ a, G1 a → H5 a = H0 a) ∧ H5 D = some (.lst accV) ∧ RelL X.K r.ct F' H5 acc accV [] ∧ Cf X r.blk Z F' H5 (L2.wipe σ own) (Ow.wipe own e2) [] Le' [] N G2 ∧ KL X r N G Z F0 H0 σ Q (lcL own t tc mb (ds.drop (i + 1)) acc e2)) := fun {F5 H5 σ5 e5 Le5 acc5 accV5} w5 l5 g5 hd5 r5 c5 k5 => by
              obtain ⟨Le6, c6, _⟩ := Cfg.wipe (r := r.blk) hz ho' c5
              rw [w5] at c6
              exact ⟨ds.length - (i + 1), by omega, rfl, hlt, F5, e5, Le6, acc5, accV5, l5, g5, hd5, r5, c6, k5⟩
            cases bv with
            | false =>
              dsimp only at k'
              rw [if_neg Bool.false_ne_true]
              exact fin wσ lF4 gH4 hD4 ra4 c4.clear k'
            | true =>
              dsimp only at k'
              rw [if_pos rfl]
              refine he σ3 H4 _ ⟨F4, e4, Le4, [], N, G2, Z, hz, c4.clear, ?_⟩
              cases hme : mb e4 with
              | no => rw [hme] at k'; exact k'
              | ex x e5 => rw [hme] at k'; exact (show False from k').elim
              | ok v e5 =>
                rw [hme] at k'
                dsimp only at k'
                intro y F5 H5 Le5 Lp5 pl hr s5 c5
                subst hr
                cases hf : v.freeze with
                | none => rw [hf] at k'; exact (show False from k').elim
                | some v' =>
                  rw [hf] at k'
                  dsimp only at k'
                  split at k'
                  · rename_i hl
                    obtain ⟨F6, l6, rel6, c6⟩ := c5.freeze hf
                    have hD5 : H5 D = some (.lst accV) := (s5.gd D (.inr rfl)).trans hD4
                    have gH5 : ∀ a, G1 a → H5 a = H0 a := fun a ha => (s5.gd a (.inl ha)).trans (gH4 a ha)
                    refine ⟨accV, hD5, by rw [← ra.length, ← lineN_eq]; exact hl, ?_⟩
                    refine fin (F5 := F6) (acc5 := acc ++ [v']) wσ (lF4.trans (s5.le.trans l6)) (fun a ha => ?_) upd_same ?_ (Cfg.poke c6 rfl (.inr rfl) hDN) k'
                    · rw [upd_ne fun z => hDG (by rw [← z]; exact ha)]
                      exact gH5 a ha
                    · exact (RelL.snoc (ra4.mono (s5.le.trans l6) fun _ z => absurd z (by simp)) rel6).any
                  · exact (show False from k').elim
      · refine .inl ⟨f2 (by omega), ?_⟩
        have : i = ds.length := by omega
        subst this
        rw [List.drop_length] at k'
        refine k' (.ref D) F' H' Le' [D] lF (fun x hx => gH x (hGG x hx)) ?_
        have C2 := Cfg.unwipe (r := r.blk) hz ho' (fun i hi => gt_wipe hi) C'
        have out : ∀ a, a ∈ Le' → F' a = none ∧ H' a ≠ none ∧ ¬ G2 a := fun a ha => C2.wf.out a (List.mem_append_left _ ha)
        have nd := C2.wf.nd
        rw [List.append_nil] at nd
        refine ⟨⟨C2.wf.sub, List.nodup_append.mpr ⟨nd, by simp, fun a ha b hb z => ?_⟩, fun a ha => ?_, fun a ha => C2.wf.gd a (.inl (hGG a ha))⟩, C2.er, .own (.lstO hDa ra rfl) .nil rfl, C2.pr, C.ng, C2.zs⟩
        · subst z
          exact (out a ha).2.2 (.inr (by simpa using hb))
        · rcases List.mem_append.mp ha with h | h
          · obtain ⟨o1, o2, o3⟩ := out a h
            exact ⟨o1, o2, fun z => o3 (.inl (hGG a z))⟩
          · have : a = D := by simpa using h
            subst this
            obtain ⟨o1, o2⟩ := C2.wf.gd a (.inr rfl)
            exact ⟨o1, o2, fun z => hDG (hGG a z)⟩
theorem TIx.weak {σ : L2.St} {H : Hp} {R : It → Hp → Prop} (h : TIx X r false ms σ H R) : TIx X r q ms σ H R := by
  obtain ⟨F, e, Le, N, G, Z, hz, C, k⟩ := h
  refine ⟨F, e, Le, N, G, Z, hz, C, ?_⟩
  cases hm : ms e with
  | no => rw [hm] at k; exact k
  | ex x e' => rw [hm] at k; exact k
  | ok ds e' =>
    rw [hm] at k
    exact fun J F' H' Le' G' s g c f => k J F' H' Le' G' s.off g c f
abbrev BlkE (X : Cx) (scope : Scope) (j : Cx → Prop) : Prop := ∀ (s : Shared) (H : Hp) (C : Addr) (cl : List (Str × Addr)) (fp : List Addr), j (X.blk s H scope (compEnvC scope cl C X.env) fp)
theorem je_lc {elt : Expr} {ifs : List Expr} {scope : Scope} {own : List (Str × Nat)} (hc : X.calm = true) (hN : X.N.Nodup) (hi : JI X r q tg iter ms) (ok : BlkOk X.N X.env.scope scope own)
    (hg : BlkE X scope fun X => JG X r.blk tg t) (ht : BlkE X scope fun X => JTs X r.blk qc ifs tc) (he : BlkE X scope fun X => JE X r.blk qb false elt mb)
    (hsl : t.slots.all ((own.map (·.2)).contains ·) = true := by rfl) (ho : (own.map (·.2)).all r.open = true := by rfl) (hs : ∀ x, foldedSetIterable iter X.env x = pure x := by intro _; rfl) :
    JE X r false false (.ListComp elt [⟨tg, iter, ifs, 0⟩] scope pos) (lc (own.map (·.2)) ms t tc mb) :=
  peImp (pe_lc (wi := TIx X r false ms) (g := TGx X r.blk t) (tt := TXr X r.blk rB false [] tc) (te := TXr X r.blk (rD false) false [] mb) hc hN (piImp hi fun σ H R h => TIx.weak h) ok (fun s H C cl fp => hg s H C cl fp) (fun s H C cl fp => ⟨fun pins s' σ H' Q I h => (ht s H C cl fp).run pins s' σ H' Q I (TX.weakq (fun z => by cases z) h)⟩) (fun s H C cl fp => peImp (he s H C cl fp) fun σ H Q h => TX.weakq (fun z => by cases z) h) hs) fun σ H Q h =>
    lc_run hsl ho (fun v σ H Q h => h) (fun σ H Q h => h) (fun σ H Q h => h) h
theorem js_setLc {elt : Expr} {ifs : List Expr} {scope : Scope} {own : List (Str × Nat)} {i : Nat} {y : Str} {py spos : Pos} (hc : X.calm = true) (hN : X.N.Nodup) (hy : X.N[i]? = some y) (hyl : X.env.scope.names.lookup y = some .local)
    (hsw : swapsWith (.ListComp elt [⟨tg, iter, ifs, 0⟩] scope pos) (some (.Name y py)) spos.line X.env = pure true) (hi : JI X r q tg iter ms) (ok : BlkOk X.N X.env.scope scope own)
    (hg : BlkE X scope fun X => JG X r.blk tg t) (ht : BlkE X scope fun X => JTs X r.blk qc ifs tc) (he : BlkE X scope fun X => JE X r.blk qb false elt mb)
    (hoy : r.open i = true := by rfl)
    (hsl : t.slots.all ((own.map (·.2)).contains ·) = true := by rfl) (ho : (own.map (·.2)).all r.open = true := by rfl) (hs : ∀ x, foldedSetIterable iter X.env x = pure x := by intro _; rfl) :
    JS X r (.Assign [.Name y py] (.ListComp elt [⟨tg, iter, ifs, 0⟩] scope pos) spos) (asg (.nm i) (lc (own.map (·.2)) ms t tc mb)) := by
  refine ⟨fun pins s σ H D I h => (ps_setLc (wi := TIx X r false ms) (g := TGx X r.blk t) (tt := TXr X r.blk rB false [] tc) (te := TXr X r.blk (rD false) false [] mb) hc hN hy hyl hsw (piImp hi fun σ H R h => TIx.weak h) ok (fun s H C cl fp => hg s H C cl fp) (fun s H C cl fp => ⟨fun pins s' σ H' Q I h => (ht s H C cl fp).run pins s' σ H' Q I (TX.weakq (fun z => by cases z) h)⟩) (fun s H C cl fp => peImp (he s H C cl fp) fun σ H Q h => TX.weakq (fun z => by cases z) h) hs).run pins s σ H D I ?_⟩
  have hlσ := I.len
  refine lc_run (Q := fun x H1 => gName i x σ H1 D.nx) hsl ho (fun v σ H Q h => h) (fun σ H Q h => h) (fun σ H Q h => h) ((TSx.val (q := false) (rr := rD false) h).mono fun v H1 ⟨d, pl, F, e, Le, Lp, N, G, Z, hr, hz, C, k⟩ => ?_)
  subst hr
  have hl := C.er.length
  have hil : i < e.length := by
    rw [hl, hlσ]
    exact (List.getElem?_eq_some_iff.mp hy).1
  obtain ⟨Le', C'⟩ := C.store hil (Rd.open_P hoy) (Rd.open_Z hoy hz)
  exact k _ F H1 Le' ⟨Lq.refl F, fun _ _ => rfl, fun z => by cases z⟩ C'
end
end Ow
end

section
set_option linter.all false
set_option autoImplicit false
set_option maxRecDepth 100000
set_option maxHeartbeats 4000000
/-! OwF: defs and calls. -/
namespace Ow
open PySem PySem.Spec L2
open PyProof.Rows hiding St

/-- how a def takes a parameter: it only reads it, or it takes it over -/
inductive Pm where
  | ro | va
def withM {α : Type} (mu : Bool) (x : α) (l : List α) : List α := if mu then x :: l else l
def argsE : List Pm → List D → Env
  | .ro :: ms, _ :: ds => none :: argsE ms ds
  | .va :: ms, d :: ds => some d :: argsE ms ds
  | _, _ => []
/-- the slots at the entry -/
def env0 (mu : Bool) (dm : D) (ms : List Pm) (ds : List D) (n : Nat) : Env := withM mu (some dm) (argsE ms ds) ++ List.replicate n none
def roP : Nat → List Pm → List D → List (Nat × D)
  | k, .ro :: ms, d :: ds => (k, d) :: roP (k + 1) ms ds
  | k, .va :: ms, _ :: ds => roP (k + 1) ms ds
  | _, _, _ => []
def roZ : Nat → List Pm → List Nat
  | k, .ro :: ms => k :: roZ (k + 1) ms
  | k, .va :: ms => roZ (k + 1) ms
  | _, [] => []
def k0 (mu : Bool) : Nat := if mu then 1 else 0
/-- a def's run; mu: the first parameter may be changed in place -/
def runF (mu : Bool) (body : S) (e : Env) : O := match body e with
  | .ok (.ret d) e' => if mu then (match gt 0 e' with | some m => .ok d m | none => .no) else .ok d .non
  | .ok .next e' => if mu then (match gt 0 e' with | some m => .ok .non m | none => .no) else .ok .non .non
  | .ex x e' => if mu then (match gt 0 e' with | some m => .ex x m | none => .no) else .ex x .non
  | _ => .no

section
variable (K : PySem.W.Frag) (ct : Nat → Addr) (F H : Hp) (N : Addr → Prop)
inductive ArgR : List Pm → List D → List V → List Addr → Prop
  | nil : ArgR [] [] [] []
  | ro {d : D} {v : V} {L La : List Addr} {ms : List Pm} {ds : List D} {vs : List V} : Rel K ct F H d v L → (∀ a, a ∈ L → N a) → ArgR ms ds vs La → ArgR (.ro :: ms) (d :: ds) (v :: vs) La
  | va {d : D} {v : V} {L La L0 : List Addr} {ms : List Pm} {ds : List D} {vs : List V} : Rel K ct F H d v L → ArgR ms ds vs La → L0 = L ++ La → ArgR (.va :: ms) (d :: ds) (v :: vs) L0
end
def MuR (K : PySem.W.Frag) (ct : Nat → Addr) (mu : Bool) (F H : Hp) (d : D) (v : V) (L : List Addr) : Prop := if mu then Rel K ct F H d v L else L = []
/-- how a call goes on -/
def KF (K : PySem.W.Frag) (ct : Nat → Addr) (mu : Bool) (vm : V) (F H : Hp) (G : Addr → Prop) (Q : VK) (E : XK) (o : O) : Prop := match o with
  | .ok d m => ∀ v F' H' Lm Lr, Lq F F' → (∀ a, G a → H' a = H a) → WF F' H' (Lm ++ Lr) G → Rel K ct F' H' d v Lr → MuR K ct mu F' H' m vm Lm → Q v H'
  | .ex x m => ∀ cls dd F' H' Lm, Lq F F' → (∀ a, G a → H' a = H a) → WF F' H' Lm G → ExR K ct F' H' x cls dd → MuR K ct mu F' H' m vm Lm → E cls dd H'
  | .no => False
/-- what a def promises: it does what g tells -/
def SpW (K : PySem.W.Frag) (ct : Nat → Addr) (mu : Bool) (ms : List Pm) (g : List D → O) : Sp := fun vs0 H Q E => vs0.length = k0 mu + ms.length ∧
  ∃ F dm vm ds vs Lm La N G, vs0 = withM mu vm vs ∧ MuR K ct mu F H dm vm Lm ∧ ArgR K ct F H N ms ds vs La ∧ WF F H (Lm ++ La) G ∧ (∀ a, N a → G a) ∧ KF K ct mu vm F H G Q E (g (withM mu dm ds))

section
variable {K : PySem.W.Frag} {ct : Nat → Addr} {F H : Hp} {N : Addr → Prop}
theorem ArgR.len {ms : List Pm} {ds : List D} {vs : List V} {La : List Addr} (h : ArgR K ct F H N ms ds vs La) : ds.length = ms.length ∧ vs.length = ms.length := by
  induction h with
  | nil => exact ⟨rfl, rfl⟩
  | ro _ _ _ ih => simp [ih.1, ih.2]
  | va _ _ _ ih => simp [ih.1, ih.2]
theorem ERel.reps : ∀ {n : Nat}, ERel K ct F H (List.replicate n none) (List.replicate n none) []
  | 0 => .nil
  | n + 1 => by rw [List.replicate_succ, List.replicate_succ]; exact .non ERel.reps
theorem ERel.args {ms : List Pm} {ds : List D} {vs : List V} {La : List Addr} {n : Nat} (h : ArgR K ct F H N ms ds vs La) : ERel K ct F H (argsE ms ds ++ List.replicate n none) (vs.map some ++ List.replicate n none) La := by
  induction h with
  | nil => exact ERel.reps
  | ro _ _ _ ih => exact .non ih
  | va r _ e ih => exact .sm r ih e
/-- the read-only ones stand -/
theorem ArgR.ros {ms : List Pm} {ds : List D} {vs : List V} {La : List Addr} (h : ArgR K ct F H N ms ds vs La) : ∀ {k : Nat} {p : Nat × D}, p ∈ roP k ms ds → ∃ i v Lr, p.1 = k + i ∧ vs[i]? = some v ∧ Rel K ct F H p.2 v Lr ∧ ∀ a, a ∈ Lr → N a := by
  induction h with
  | nil => intro k p hp; cases hp
  | ro r hN _ ih =>
    intro k p hp
    rcases List.mem_cons.mp hp with q | q
    · subst q; exact ⟨0, _, _, rfl, rfl, r, hN⟩
    · obtain ⟨i, v, Lr, h1, h2, h3⟩ := ih q
      exact ⟨i + 1, v, Lr, by omega, by simpa using h2, h3⟩
  | va r _ _ ih =>
    intro k p hp
    obtain ⟨i, v, Lr, h1, h2, h3⟩ := ih hp
    exact ⟨i + 1, v, Lr, by omega, by simpa using h2, h3⟩
def roV : Nat → List Pm → List V → List (Nat × V)
  | k, .ro :: ms, v :: vs => (k, v) :: roV (k + 1) ms vs
  | k, .va :: ms, _ :: vs => roV (k + 1) ms vs
  | _, _, _ => []
theorem roV_keys : ∀ {k : Nat} {ms : List Pm} {vs : List V}, vs.length = ms.length → (roV k ms vs).map (·.1) = roZ k ms
  | _, [], _, _ => by simp [roV, roZ]
  | _, _ :: _, [], h => by simp at h
  | k, .ro :: ms, v :: vs, h => by simp [roV, roZ, roV_keys (k := k + 1) (ms := ms) (vs := vs) (by simpa using h)]
  | k, .va :: ms, v :: vs, h => by simp [roV, roZ, roV_keys (k := k + 1) (ms := ms) (vs := vs) (by simpa using h)]
theorem roV_at : ∀ {k : Nat} {ms : List Pm} {vs : List V} {z : Nat × V}, z ∈ roV k ms vs → ∃ i, z.1 = k + i ∧ vs[i]? = some z.2
  | _, [], _, _, h => by simp [roV] at h
  | _, .ro :: _, [], _, h => by simp [roV] at h
  | _, .va :: _, [], _, h => by simp [roV] at h
  | k, .ro :: ms, v :: vs, z, h => by
    rcases List.mem_cons.mp h with q | q
    · subst q; exact ⟨0, rfl, rfl⟩
    · obtain ⟨i, h1, h2⟩ := roV_at q
      exact ⟨i + 1, by omega, by simpa using h2⟩
  | k, .va :: ms, v :: vs, z, h => by
    obtain ⟨i, h1, h2⟩ := roV_at (k := k + 1) (ms := ms) (vs := vs) h
    exact ⟨i + 1, by omega, by simpa using h2⟩
end
/-- what stands around a def's body -/
abbrev rdFn (ct : Nat → Addr) (mu : Bool) (ms : List Pm) (ds : List D) (E : XK) : Rd := ⟨ct, roP (k0 mu) ms ds, withM mu 0 (roZ (k0 mu) ms), fun cls dd _ H => E cls dd H⟩
section
variable {P : Program} {w : World} {K : PySem.W.Frag} {mg : Str → Option Value} {base : Heap} {ct : Nat → Addr}
/-- the whole at a def's entry -/
theorem body_ok {X : Cx} {mu : Bool} {ms : List Pm} {g : List D → O} {m : List D → S} {n : Nat} {N : List Str} {vs0 : List V} {H : Hp} {Q : VK} {E : XK} (hn : N.length = k0 mu + ms.length + n)
    (hf : ∀ dm ds, ds.length = ms.length → g (withM mu dm ds) = runF mu (m ds) (env0 mu dm ms ds n)) (h : SpW X.K ct mu ms g vs0 H Q E) :
    ∃ ds, ds.length = ms.length ∧ TSx X (rdFn ct mu ms ds E) (m ds) { nx := fun _ H' => Q .non H', rt := Q } (L2.start N vs0) H := by
  obtain ⟨hl, F, dm, vm, ds, vs, Lm, La, N0, G, rfl, hmu, ra, wf, ng, k⟩ := h
  obtain ⟨l1, l2⟩ := ra.len
  refine ⟨ds, l1, F, env0 mu dm ms ds n, Lm ++ La, N0, G, withM mu (0, vm) (roV (k0 mu) ms vs), ?_, ?_, ?_⟩
  · cases mu with
    | false => exact roV_keys l2
    | true => exact congrArg (0 :: ·) (roV_keys l2)
  · have hst : L2.start N (withM mu vm vs) = withM mu (some vm) (vs.map some) ++ List.replicate n none := by
      have : N.length - (withM mu vm vs).length = n := by rw [hl, hn]; omega
      unfold L2.start
      rw [this]
      cases mu <;> rfl
    rw [hst]
    refine ⟨by rw [List.append_nil]; exact wf, ?_, .nil, fun p hp => ?_, ng, fun z hz => ?_⟩
    · cases mu with
      | false =>
        have : Lm = [] := hmu
        subst this
        exact ERel.args ra
      | true => exact .sm (show Rel X.K ct F H dm vm Lm from hmu) (ERel.args ra) rfl
    · obtain ⟨i, v, Lr, h1, h2, h3⟩ := ra.ros hp
      refine ⟨v, Lr, ?_, h3⟩
      have hi := (List.getElem?_eq_some_iff.mp h2).1
      rw [h1]
      cases mu with
      | false =>
        show (vs.map some ++ _)[0 + i]? = _
        rw [Nat.zero_add, List.getElem?_append_left (by simpa using hi), List.getElem?_map, h2]; rfl
      | true =>
        show (some vm :: (vs.map some ++ _))[1 + i]? = _
        rw [Nat.add_comm, List.getElem?_cons_succ, List.getElem?_append_left (by simpa using hi), List.getElem?_map, h2]; rfl
    · have at_ : ∀ i v, vs[i]? = some v → (vs.map some ++ List.replicate n none)[i]? = some (some v) := fun i v h2 => by
        have hi := (List.getElem?_eq_some_iff.mp h2).1
        rw [List.getElem?_append_left (by simpa using hi), List.getElem?_map, h2]; rfl
      cases mu with
      | false =>
        obtain ⟨i, h1, h2⟩ := roV_at (show z ∈ roV 0 ms vs from hz)
        show (vs.map some ++ _)[z.1]? = _
        rw [h1, Nat.zero_add]
        exact at_ i _ h2
      | true =>
        rcases List.mem_cons.mp (show z ∈ (0, vm) :: roV 1 ms vs from hz) with q | q
        · subst q; rfl
        · obtain ⟨i, h1, h2⟩ := roV_at q
          show (some vm :: (vs.map some ++ _))[z.1]? = _
          rw [h1, Nat.add_comm, List.getElem?_cons_succ]
          exact at_ i _ h2
  · rw [hf dm ds l1] at k
    -- what the slot of the changed parameter holds at the end
    have fin : ∀ {σ' : L2.St} {F' H' : Hp} {e' : Env} {Le' Lp' : List Addr} {ps : List Pend} {dm' : D}, mu = true → gt 0 e' = some dm' → Cf X (rdFn ct mu ms ds E) (withM mu (0, vm) (roV (k0 mu) ms vs)) F' H' σ' e' ps Le' Lp' N0 G → ∃ L1, Rel X.K ct F' H' dm' vm L1 ∧ L1.Nodup ∧ ∀ x, x ∈ L1 → x ∈ Le' := fun {σ' F' H' e' Le' Lp' ps dm'} hm hg c => by
      subst hm
      obtain ⟨v1, L1, L2, t1, t2, t3, t4⟩ := c.er.take hg
      have z1 : σ'[0]? = some (some vm) := c.zs (0, vm) List.mem_cons_self
      have : v1 = vm := by
        rw [z1] at t1
        exact (Option.some.inj (Option.some.inj t1)).symm
      subst this
      exact ⟨L1, t2, (List.nodup_append.mp (t4.nodup_iff.mp (List.nodup_append.mp c.wf.nd).1)).1, fun x hx => t4.mem_iff.mpr (List.mem_append_left _ hx)⟩
    unfold runF at k
    cases hm : m ds (env0 mu dm ms ds n) with
    | no => rw [hm] at k; exact k
    | ex x e' =>
      rw [hm] at k
      intro σ' cls dd F' H' Le' s c hx
      cases mu with
      | false =>
        exact k cls dd F' H' [] s.le s.gd (c.wf.of_sub List.nodup_nil fun a ha => absurd ha (by simp)) hx rfl
      | true =>
        dsimp only at k
        rw [if_pos rfl] at k
        cases hg : gt 0 e' with
        | none => rw [hg] at k; exact (show False from k).elim
        | some dm' =>
          rw [hg] at k
          obtain ⟨L1, r1, n1, i1⟩ := fin rfl hg c
          exact k cls dd F' H' L1 s.le s.gd (c.wf.of_sub n1 fun a ha => List.mem_append_left _ (i1 a ha)) hx r1
    | ok f e' =>
      rw [hm] at k
      cases f with
      | brk => exact k.elim
      | cont => exact k.elim
      | next =>
        intro σ' F' H' Le' s c
        cases mu with
        | false => exact k .non F' H' [] [] s.le s.gd (c.wf.of_sub List.nodup_nil fun a ha => absurd ha (by simp)) .non rfl
        | true =>
          dsimp only at k
          rw [if_pos rfl] at k
          cases hg : gt 0 e' with
          | none => rw [hg] at k; exact k.elim
          | some dm' =>
            rw [hg] at k
            obtain ⟨L1, r1, n1, i1⟩ := fin rfl hg c
            exact k .non F' H' L1 [] s.le s.gd (c.wf.of_sub (by rw [List.append_nil]; exact n1) fun a ha => by rw [List.append_nil] at ha; exact List.mem_append_left _ (i1 a ha)) .non r1
      | ret d =>
        intro σ' F' H' Le' Lp' v s c
        have pd := c.pd
        cases pd with
        | own rel rs e1 =>
          cases rs
          rw [List.append_nil] at e1
          subst e1
          have nd := List.nodup_append.mp c.wf.nd
          cases mu with
          | false => exact k v F' H' [] Lp' s.le s.gd (c.wf.of_sub nd.2.1 fun a ha => List.mem_append_right _ ha) rel rfl
          | true =>
            dsimp only at k
            rw [if_pos rfl] at k
            cases hg : gt 0 e' with
            | none => rw [hg] at k; exact k.elim
            | some dm' =>
              rw [hg] at k
              obtain ⟨L1, r1, n1, i1⟩ := fin rfl hg c
              refine k v F' H' L1 Lp' s.le s.gd (c.wf.of_sub (List.nodup_append.mpr ⟨n1, nd.2.1, fun a ha b hb z => nd.2.2 a (i1 a ha) b hb z⟩) fun a ha => ?_) rel r1
              rcases List.mem_append.mp ha with h | h
              · exact List.mem_append_left _ (i1 a h)
              · exact List.mem_append_right _ h
/-- a def keeps a promise, wherever no repr is under way -/
structure FnG (P : Program) (w : World) (K : PySem.W.Frag) (mg : Str → Option Value) (base : Heap) (k : Nat) (f : Addr) (fd : FuncData) (ps : List Str) (sp : Sp) : Prop where
  len : ∀ vs H Q E, sp vs H Q E → vs.length = ps.length
  run : ∀ (A : Around) (outer : List PySem.Env) (s : Shared) (H : Hp) (args : Args) (us : List Value) (vs : List V) (Q : VK) (E : XK), Room k A → A.guards = some [] → Env0 P w K mg base A outer s H → BindsTo s fd args (ps.zip us) → Vals vs us → sp vs H Q E →
    codeAny (model P w) A (.call (.ref f) args) (CR (L2.CX P w) outer P w H s Q E) s
theorem FnG.mono {j k : Nat} {f : Addr} {fd : FuncData} {ps : List Str} {sp : Sp} (F : FnG P w K mg base j f fd ps sp) (h : j ≤ k) : FnG P w K mg base k f fd ps sp := ⟨F.len, fun A outer s H args us vs Q E hr => F.run A outer s H args us vs Q E (hr.mono h)⟩
theorem fnG_of {k : Nat} {x qual : Str} {params : Arguments} {body : List Stmt} {scope : Scope} {dvs : List V} {kws : List (Str × V)} {f : Addr} {fd : FuncData} {Ns ps : List Str} {sp : Sp}
    (Fd : FunD K x qual params body scope dvs kws f fd) (S : FnScope Ns ps scope) (len : ∀ vs H Q E, sp vs H Q E → vs.length = ps.length)
    (hbody : ∀ (cdv : Value) (A : Around) (outer : List PySem.Env) (s : Shared) (H : Hp) (vs : List V) (Q : VK) (E : XK), Room k (A.deeper (envOfC qual scope s.heap.objs.size f cdv)) → A.guards = some [] → sp vs H Q E →
      ∃ t, PSs (cxOf (L2.CX P w) P w K mg base Ns qual scope f cdv A outer s H E) body t ∧ t { nx := fun _ H' => Q .non H', rt := Q } (L2.start Ns vs) H) : FnG P w K mg base (k + 1) f fd ps sp := by
  obtain ⟨oc, od, dV, kV, doc, pm, an, cdv, ctv, osl, rfl, lk, hcd, _, _⟩ := Fd.ex
  refine ⟨len, fun A outer s H args us vs Q E hr hg e0 hb rv hsp => ?_⟩
  have hl := len _ _ _ _ hsp
  have lim : s.heap.NoLimit := e0.mod.nolimit.keeps fun b o e => (e0.bs b o e).1
  have KX : K.In s.heap := e0.mod.kin.keeps fun b o e => (e0.bs b o e).1
  have kinds : ∀ y ∈ ps.zip us, scope.names.lookup y.1 = some .local ∨ (scope.names.lookup y.1 = some .cell ∧ ((cellsFrom (s.heap.objs.size + 1) scope.names []).lookup y.1).isSome = true) := by
    rintro ⟨n, v⟩ hy
    exact (S.par n (List.of_mem_zip hy).1).imp id fun q => ⟨q, PySem.W.cellsFrom_some _ _ _ (.inl q)⟩
  refine codeAny_call_function hr.depth (KX _ _ lk) rfl S.co S.gen rfl (PySem.W.codeRec_of KX hcd) (hb _ _ _ _ (wpAny_newFunctionEnv_cells S.kind kinds fun env he s1 x => ?_))
  subst he
  refine ⟨lim.keeps x.toInCall.keep, codeAny_func ?_⟩
  obtain ⟨t, ht, hq⟩ := hbody cdv A outer s H vs Q E (hr.deeper _) hg hsp
  refine wpAny_mono (ht.run [] s1 (L2.start Ns vs) H _ (inv_start S hr.hd e0 hl rv x) hq) (fun fl s' hs => ?_) fun e s' hs => hs
  cases fl with
  | ret u =>
    obtain ⟨v, σ', H', J, rv', q⟩ := hs
    exact ⟨v, H', J.os, J.bare, J.base, J.hok, rv', q⟩
  | next =>
    obtain ⟨σ', H', J, q⟩ := hs
    exact ⟨.non, H', J.os, J.bare, J.base, J.hok, rfl, q⟩
  | brk =>
    obtain ⟨_, _, _, z⟩ := hs
    exact (show False from z).elim
  | cont =>
    obtain ⟨_, _, _, z⟩ := hs
    exact (show False from z).elim
/-- what calls need of a body's context -/
structure Cal (X : Cx) (r : Rd) (k : Nat) : Prop where
  rm : Room k X.A
  gd : X.A.guards = some []
  tk : Takes X r.W
  cm : X.calm = true
theorem Cal.mono {X : Cx} {r : Rd} {j k : Nat} (c : Cal X r k) (h : j ≤ k) : Cal X r j := ⟨c.rm.mono h, c.gd, c.tk, c.cm⟩
theorem Cal.blk {X : Cx} {r : Rd} {k : Nat} (c : Cal X r k) {s : Shared} {H : Hp} {scope : Scope} {cenv : PySem.Env} {fp : List Addr} : Cal (X.blk s H scope cenv fp) r.blk k := ⟨c.rm, c.gd, takes0, c.cm⟩
/-- THE RULE for a def -/
theorem fn_ow {x qual : Str} {params : Arguments} {body : List Stmt} {scope : Scope} {dvs : List V} {kws : List (Str × V)} {f : Addr} {fd : FuncData} {Ns ps : List Str} {k : Nat} {mu : Bool} {ms : List Pm} {g : List D → O} {m : List D → S} {n : Nat}
    (Fd : FunD K x qual params body scope dvs kws f fd) (S : FnScope Ns ps scope) (hp : ps.length = k0 mu + ms.length) (hn : Ns.length = k0 mu + ms.length + n)
    (hf : ∀ dm ds, ds.length = ms.length → g (withM mu dm ds) = runF mu (m ds) (env0 mu dm ms ds n))
    (hd : ∀ (cdv : Value) (A : Around) (outer : List PySem.Env) (s : Shared) (H : Hp) (E : XK), ∀ ds, ds.length = ms.length → Cal (cxOf (L2.CX P w) P w K mg base Ns qual scope f cdv A outer s H E) (rdFn ct mu ms ds E) k →
      JSs (cxOf (L2.CX P w) P w K mg base Ns qual scope f cdv A outer s H E) (rdFn ct mu ms ds E) body (m ds)) : FnG P w K mg base (k + 1) f fd ps (SpW K ct mu ms g) := by
  refine fnG_of Fd S (fun vs H Q E h => by rw [h.1, hp]) fun cdv A outer s H vs Q E hr hg hsp => ?_
  obtain ⟨ds, hl, ht⟩ := body_ok (X := cxOf (L2.CX P w) P w K mg base Ns qual scope f cdv A outer s H E) (N := Ns) (m := m) hn hf hsp
  exact ⟨_, hd cdv A outer s H E ds hl ⟨hr, hg, takes_of rfl rfl rfl rfl, rfl⟩, ht⟩
/-- a global def, as calls use it -/
structure Glb (P : Program) (w : World) (K : PySem.W.Frag) (mg : Str → Option Value) (base : Heap) (x : Str) (k : Nat) (dvs : List V) (sp : Sp) : Prop where
  ex : ∃ f fd ps ds, FnG P w K mg base k f fd ps sp ∧ mg x = some (.ref f) ∧ PySem.W.keepIn K (.ref f) = true ∧ L2.Binds K fd ps ds ∧ Vals dvs ds
/-- a method of the class at C -/
structure Mth (P : Program) (w : World) (K : PySem.W.Frag) (mg : Str → Option Value) (base : Heap) (C : Addr) (m : Str) (k : Nat) (dvs : List V) (sp : Sp) : Prop where
  ex : ∃ f fd ps ds, FnG P w K mg base k f fd ps sp ∧ Meth K C m f ∧ L2.Binds K fd ps ds ∧ Vals dvs ds
  cls : Cls K C
/-- a class by its name, and its __init__ -/
structure Mkr (P : Program) (w : World) (K : PySem.W.Frag) (mg : Str → Option Value) (base : Heap) (x : Str) (C : Addr) (k : Nat) (dvs : List V) (sp : Sp) : Prop where
  ex : ∃ f fd ps ds, FnG P w K mg base k f fd ps sp ∧ Mk K C f ∧ mg x = some (.ref C) ∧ L2.Binds K fd ps ds ∧ Vals dvs ds
theorem Glb.mono {x : Str} {j k : Nat} {dvs : List V} {sp : Sp} (B : Glb P w K mg base x j dvs sp) (h : j ≤ k) : Glb P w K mg base x k dvs sp := let ⟨f, fd, ps, ds, F, a, b, c, d⟩ := B.ex; ⟨f, fd, ps, ds, F.mono h, a, b, c, d⟩
theorem Mth.mono {C : Addr} {x : Str} {j k : Nat} {dvs : List V} {sp : Sp} (B : Mth P w K mg base C x j dvs sp) (h : j ≤ k) : Mth P w K mg base C x k dvs sp := let ⟨f, fd, ps, ds, F, a, b, c⟩ := B.ex; ⟨⟨f, fd, ps, ds, F.mono h, a, b, c⟩, B.cls⟩
theorem Mkr.mono {C : Addr} {x : Str} {j k : Nat} {dvs : List V} {sp : Sp} (B : Mkr P w K mg base x C j dvs sp) (h : j ≤ k) : Mkr P w K mg base x C k dvs sp := let ⟨f, fd, ps, ds, F, a, b, c, d⟩ := B.ex; ⟨f, fd, ps, ds, F.mono h, a, b, c, d⟩
end
end Ow
end

section
set_option linter.all false
set_option autoImplicit false
set_option maxRecDepth 100000
set_option maxHeartbeats 4000000
/-! OwG: places, fields, what changes a list or an object in place. -/
namespace Ow
open PySem PySem.Spec L2
open PyProof.Rows hiding St

/-! ### names of fields -/
theorem map_toNat : ∀ {a b : List Char}, a.map Char.toNat = b.map Char.toNat → a = b
  | [], [], _ => rfl
  | [], _ :: _, h => by simp at h
  | _ :: _, [], h => by simp at h
  | x :: a, y :: b, h => by
    simp only [List.map_cons, List.cons.injEq] at h
    have : x = y := by
      apply Char.ext
      apply UInt32.toNat_inj.mp
      exact h.1
    rw [this, map_toNat h.2]
theorem ofS_inj {a b : String} (h : Str.ofString a = Str.ofString b) : a = b := by
  rw [Str.ofString_eq_toList, Str.ofString_eq_toList] at h
  have h1 : (a.toList.map Char.toNat).toArray = (b.toList.map Char.toNat).toArray := by
    injection h
  have h2 := congrArg Array.toList h1
  exact String.ext (map_toNat (by simpa using h2))

section
variable {K : PySem.W.Frag} {ct : Nat → Addr} {F H : Hp}
/-- one field: what it owns, and how it is put back -/
theorem RelF.focus {f : String} {d : D} : ∀ {fs : List (String × D)} {vs : List (Str × V)} {L : List Addr}, RelF K ct F H fs vs L → getF f fs = some d →
    ∃ v L1 R, vs.lookup (Str.ofString f) = some v ∧ Rel K ct F H d v L1 ∧ L.Perm (L1 ++ R) ∧ ∀ F' H' d' L', Lq F F' → (∀ a, a ∈ R → H' a = H a) → Rel K ct F' H' d' v L' → ∃ L2, RelF K ct F' H' (putF f d' fs) vs L2 ∧ L2.Perm (L' ++ R)
  | _, _, _, .nil, h => by cases h
  | _, _, _, @RelF.cons _ _ _ _ g d0 v0 fs vs L LA LB r rs e, h => by
    subst e
    simp only [getF] at h
    by_cases q : g = f
    · subst q
      rw [if_pos rfl] at h
      cases h
      refine ⟨v0, LA, LB, by simp [List.lookup], r, List.Perm.refl _, fun F' H' d' L' l g r' => ⟨L' ++ LB, ?_, List.Perm.refl _⟩⟩
      simp only [putF, if_true]
      exact .cons r' (rs.mono l g) rfl
    · rw [if_neg q] at h
      obtain ⟨v, L1, R, h1, h2, h3, h4⟩ := RelF.focus rs h
      refine ⟨v, L1, LA ++ R, ?_, h2, (List.Perm.append_left _ h3).trans perm_mid, fun F' H' d' L' l g r' => ?_⟩
      · have : (Str.ofString f == Str.ofString g) = false := beq_eq_false_iff_ne.mpr fun z => q (ofS_inj z).symm
        rw [List.lookup_cons, this]; exact h1
      · obtain ⟨L2, k1, k2⟩ := h4 F' H' d' L' l (fun a ha => g a (List.mem_append_right _ ha)) r'
        refine ⟨LA ++ L2, ?_, (List.Perm.append_left _ k2).trans perm_mid⟩
        simp only [putF, if_neg q]
        exact .cons (r.mono l fun a ha => g a (List.mem_append_left _ ha)) k1 rfl
/-- a field is stored -/
theorem RelF.store {f : String} {d : D} {v : V} {L1 : List Addr} (q : Rel K ct F H d v L1) : ∀ {fs : List (String × D)} {vs : List (Str × V)} {L : List Addr}, RelF K ct F H fs vs L →
    ∃ L9 R, RelF K ct F H (putF f d fs) (L2.putF (Str.ofString f) v vs) L9 ∧ L9.Perm (L1 ++ R) ∧ (∀ a, a ∈ R → a ∈ L) ∧ (L.Nodup → R.Nodup)
  | _, _, _, .nil => ⟨L1 ++ [], [], .cons q .nil rfl, List.Perm.refl _, fun _ h => h, fun h => h⟩
  | _, _, _, @RelF.cons _ _ _ _ g d0 v0 fs vs L LA LB r rs e => by
    subst e
    simp only [putF, L2.putF]
    by_cases z : g = f
    · subst z
      rw [if_pos rfl, if_pos rfl]
      exact ⟨L1 ++ LB, LB, .cons q rs rfl, List.Perm.refl _, fun a ha => List.mem_append_right _ ha, fun nd => (List.nodup_append.mp nd).2.1⟩
    · rw [if_neg z, if_neg fun y => z (ofS_inj y)]
      obtain ⟨L2, R, k1, k2, k3, k4⟩ := RelF.store q rs
      refine ⟨LA ++ L2, LA ++ R, .cons r k1 rfl, (List.Perm.append_left _ k2).trans perm_mid, fun a ha => ?_, fun nd => ?_⟩
      · rcases List.mem_append.mp ha with h | h
        · exact List.mem_append_left _ h
        · exact List.mem_append_right _ (k3 a h)
      · have n := List.nodup_append.mp nd
        exact List.nodup_append.mpr ⟨n.1, k4 n.2.1, fun a ha b hb => n.2.2 a ha b (k3 b hb)⟩
theorem RelF.length : ∀ {fs : List (String × D)} {vs : List (Str × V)} {L : List Addr}, RelF K ct F H fs vs L → fs.length = vs.length
  | _, _, _, .nil => rfl
  | _, _, _, .cons _ rs _ => by simp [RelF.length rs]
theorem RelF.none {f : String} : ∀ {fs : List (String × D)} {vs : List (Str × V)} {L : List Addr}, RelF K ct F H fs vs L → getF f fs = none → vs.lookup (Str.ofString f) = none
  | _, _, _, .nil, _ => rfl
  | _, _, _, @RelF.cons _ _ _ _ g d0 v0 fs vs L LA LB r rs e, h => by
    simp only [getF] at h
    by_cases q : g = f
    · rw [if_pos q] at h; cases h
    · rw [if_neg q] at h
      have : (Str.ofString f == Str.ofString g) = false := beq_eq_false_iff_ne.mpr fun z => q (ofS_inj z).symm
      rw [List.lookup_cons, this]
      exact RelF.none rs h
theorem Rel.obj_inv {c : Nat} {fs : List (String × D)} {v : V} {L : List Addr} (r : Rel K ct F H (.obj c fs) v L) : ∃ a dx vs L', v = .ref a ∧ H a = some (.ins (ct c) dx vs) ∧ RelF K ct F H fs vs L' ∧ L = a :: L' := by
  cases r with
  | obj h rf e => exact ⟨_, _, _, _, rfl, h, rf, e⟩

/-! ### places -/
def PAt (ct : Nat → Addr) (H : Hp) (σ : L2.St) : Pl → Env → V → D → Prop
  | .sl i, e, v, d => σ[i]? = some (some v) ∧ gt i e = some d
  | .fd p c f, e, v, d => ∃ a dx vs fs, PAt ct H σ p e (.ref a) (.obj c fs) ∧ H a = some (.ins (ct c) dx vs) ∧ vs.lookup (Str.ofString f) = some v ∧ getF f fs = some d
theorem PAt.get {σ : L2.St} : ∀ {p : Pl} {e : Env} {v : V} {d : D}, PAt ct H σ p e v d → p.get e = some d
  | .sl i, _, _, _, h => h.2
  | .fd p c f, _, _, _, h => by
    obtain ⟨a, dx, vs, fs, h1, h2, h3, h4⟩ := h
    simp only [Pl.get, h1.get, if_true]
    exact h4
theorem ERel.focus {σ : L2.St} {e : Env} {L : List Addr} (r : ERel K ct F H e σ L) : ∀ {p : Pl} {v : V} {d : D}, PAt ct H σ p e v d →
    ∃ L1 R, Rel K ct F H d v L1 ∧ L.Perm (L1 ++ R) ∧ ∀ F' H' d' L', Lq F F' → (∀ a, a ∈ R → H' a = H a) → Rel K ct F' H' d' v L' → ∃ Le', ERel K ct F' H' (p.put d' e) σ Le' ∧ Le'.Perm (L' ++ R)
  | .sl i, v, d, h => by
    obtain ⟨h1, h2⟩ := h
    obtain ⟨v1, L1, R, t1, t2, t3, t4⟩ := r.take h2
    rw [h1] at t1
    cases t1
    refine ⟨L1, R, t2, t4, fun F' H' d' L' l g r' => ?_⟩
    obtain ⟨Le', k1, k2⟩ := (t3.mono l g).put (gt_lt h2) h1 r'
    exact ⟨Le', k1, k2⟩
  | .fd p c f, v, d, h => by
    obtain ⟨a, dx, vs, fs, h1, h2, h3, h4⟩ := h
    obtain ⟨L0, R0, r0, p0, put0⟩ := ERel.focus r h1
    obtain ⟨a', dx', vs', L', e1, e2, rf, e3⟩ := r0.obj_inv
    cases e1
    rw [h2] at e2
    cases e2
    obtain ⟨v', L1, R1, k1, k2, k3, k4⟩ := rf.focus h4
    rw [h3] at k1
    cases k1
    subst e3
    have pm : L.Perm (L1 ++ (a :: (R1 ++ R0))) := by
      refine p0.trans ?_
      show (a :: (L' ++ R0)).Perm _
      have q1 : (L' ++ R0).Perm (L1 ++ (R1 ++ R0)) := (List.Perm.append_right _ k3).trans (by rw [List.append_assoc])
      exact (List.Perm.cons a q1).trans List.perm_middle.symm
    refine ⟨L1, a :: (R1 ++ R0), k2, pm, fun F' H' d' L2 l g r' => ?_⟩
    obtain ⟨L3, m1, m2⟩ := k4 F' H' d' L2 l (fun b hb => g b (List.mem_cons_of_mem _ (List.mem_append_left _ hb))) r'
    have ro : Rel K ct F' H' (.obj c (putF f d' fs)) (.ref a) (a :: L3) := .obj ((g a List.mem_cons_self).trans h2) m1 rfl
    obtain ⟨Le', n1, n2⟩ := put0 F' H' _ _ l (fun b hb => g b (List.mem_cons_of_mem _ (List.mem_append_right _ hb))) ro
    refine ⟨Le', ?_, n2.trans ?_⟩
    · show ERel K ct F' H' (match p.get e with
        | some (.obj c fs) => p.put (.obj c (putF f d' fs)) e
        | _ => e) σ Le'
      rw [h1.get]
      exact n1
    · show (a :: (L3 ++ R0)).Perm _
      have q1 : (L3 ++ R0).Perm (L2 ++ (R1 ++ R0)) := (List.Perm.append_right _ m2).trans (by rw [List.append_assoc])
      exact (List.Perm.cons a q1).trans List.perm_middle.symm
theorem ERel.pat {σ : L2.St} {e : Env} {L : List Addr} (r : ERel K ct F H e σ L) : ∀ {p : Pl} {d : D}, p.get e = some d → ∃ v, PAt ct H σ p e v d
  | .sl i, d, h => by
    obtain ⟨v, L1, L2, h1, _⟩ := r.take h
    exact ⟨v, h1, h⟩
  | .fd p c f, d, h => by
    simp only [Pl.get] at h
    cases hp : p.get e with
    | none => rw [hp] at h; cases h
    | some d0 =>
      rw [hp] at h
      cases d0 with
      | obj c' fs =>
        by_cases q : c' = c
        · subst q
          simp only [if_true] at h
          obtain ⟨v0, h0⟩ := ERel.pat r hp
          obtain ⟨L0, R0, r0, _, _⟩ := r.focus h0
          obtain ⟨a', dx', vs', L', e1, e2, rf, e3⟩ := r0.obj_inv
          subst e1
          obtain ⟨v', L1, R1, k1, _⟩ := rf.focus h
          exact ⟨v', a', dx', vs', fs, h0, e2, k1, h⟩
        · simp only [if_neg q] at h; cases h
      | _ => cases h
theorem PAt.stay {σ : L2.St} {e : Env} {L : List Addr} {H' : Hp} (r : ERel K ct F H e σ L) (g : ∀ a, a ∈ L → H' a = H a) : ∀ {p : Pl} {v : V} {d : D}, PAt ct H σ p e v d → PAt ct H' σ p e v d
  | .sl i, v, d, h => h
  | .fd p c f, v, d, h => by
    obtain ⟨a, dx, vs, fs, h1, h2, h3, h4⟩ := h
    obtain ⟨L0, R0, r0, p0, _⟩ := r.focus h1
    obtain ⟨a', dx', vs', L', e1, e2, rf, e3⟩ := r0.obj_inv
    cases e1
    exact ⟨a, dx, vs, fs, PAt.stay r g h1, (g a (p0.mem_iff.mpr (List.mem_append_left _ (by rw [e3]; exact List.mem_cons_self)))).trans h2, h3, h4⟩
end
def Pl.isSl : Pl → Bool
  | .sl _ => true
  | .fd _ _ _ => false
section
variable {X : Cx} {r : Rd} {a b c o : Expr} {es : List Expr} {ma mb mc : M D} {ms : M (List D)} {pos apos cpos p0 : Pos} {q qa qb qc ba bb : Bool} {bs : List Bool} {p : Pl}
/-- an expression that names a place -/
def JPl (X : Cx) (r : Rd) (e : Expr) (p : Pl) : Prop := ∃ t, PE X e t ∧ ∀ {σ : L2.St} {H : Hp} {Q : V → Hp → Prop} {v : V} {d : D} {env : Env} {F : Hp} {L : List Addr}, ERel X.K r.ct F H env σ L → PAt r.ct H σ p env v d → Q v H → t σ H Q
theorem jpl_sl {i : Nat} {x : Str} (hx : PE X (.Name x pos) (tVar i)) : JPl X r (.Name x pos) (.sl i) := ⟨_, hx, fun {σ H Q v d env F L} _ h k => ⟨v, h.1, k⟩⟩
theorem jpl_fd {f : String} {cn : Nat} (h : JPl X r o p) (cls : Cls X.K (r.ct cn)) (na : NoAttr X.K (r.ct cn) (Str.ofString f)) (hb : attributeBase o (Str.ofString f) X.env (eval o X.env) = eval o X.env := by rfl) : JPl X r (.Attribute o (Str.ofString f) pos) (.fd p cn f) := by
  obtain ⟨t, ht, k⟩ := h
  refine ⟨_, pe_fld ht hb, fun {σ H Q v d env F L} er h kk => ?_⟩
  obtain ⟨a, dx, vs, fs, h1, h2, h3, h4⟩ := h
  exact k er h1 ⟨a, _, dx, vs, v, rfl, h2, cls, na, h3, kk⟩
/-- the place as it stands behind a piece -/
theorem pat_again {F H F1 H1 : Hp} {e e1 : Env} {Le Le1 Lp1 : List Addr} {N G G' : Addr → Prop} {σ : L2.St} {v : V} {d d1 : D} {Z : List (Nat × V)} {ps : List Pend} (hp : q = true ∨ p.isSl = true) (er : ERel X.K r.ct F H e σ Le) (h : PAt r.ct H σ p e v d) (s : Stp q F H F1 H1 e e1 Le Le1 G) (C1 : Cf X r Z F1 H1 σ e1 ps Le1 Lp1 N G')
    (hg : p.get e1 = some d1) : PAt r.ct H1 σ p e1 v d1 := by
  rcases hp with hp | hp
  · obtain ⟨s1, s2, s3⟩ := s.qt hp
    subst s1 s2
    have h' := PAt.stay er s3 h
    rw [h'.get] at hg
    cases hg
    exact h'
  · cases p with
    | sl i => exact ⟨h.1, hg⟩
    | fd _ _ _ => cases hp

/-! ### fields read -/
def getC (c : Nat) (f : String) : D → Option D
  | .obj c' fs => if c' = c then getF f fs else none
  | _ => none
def fldE (c : Nat) (f : String) (m : M D) : M D := bd m fun d => op (getC c f d)
theorem getC_inv {cn : Nat} {f : String} {d d' : D} (h : getC cn f d = some d') : ∃ fs, d = .obj cn fs ∧ getF f fs = some d' := by
  cases d with
  | obj c' fs =>
    simp only [getC] at h
    split at h
    · rename_i q; subst q; exact ⟨fs, rfl, h⟩
    · cases h
  | _ => cases h
/-- of a borrowed object, borrowed; of an own one, its own -/
theorem je_fld {f : String} {cn : Nat} (ha : JE X r q ba a ma) (cls : Cls X.K (r.ct cn)) (na : NoAttr X.K (r.ct cn) (Str.ofString f)) (hb : attributeBase a (Str.ofString f) X.env (eval a X.env) = eval a X.env := by rfl) :
    JE X r q ba (.Attribute a (Str.ofString f) pos) (fldE cn f ma) := peImp (pe_fld ha hb) fun σ H Q h => by
  refine (TX.bind (rr1 := rD ba) (q1 := q) (fun z => z) (.inr rfl) h).mono fun v H1 ⟨d, pl, hr, h2⟩ => ?_
  subst hr
  obtain ⟨F, e, Le, Lp, N, G, Z, hz, C, k⟩ := h2
  cases hg : getC cn f d with
  | none => simp only [op, hg] at k
  | some d' =>
    simp only [op, hg] at k
    obtain ⟨fs, rfl, hf⟩ := getC_inv hg
    have nd := List.nodup_append.mp C.wf.nd
    have pd := C.pd
    cases pd with
    | own rel rs e1 =>
      cases rs
      rw [List.append_nil] at e1
      subst e1
      obtain ⟨x, dx, vs, L', rfl, e2, rf, e3⟩ := rel.obj_inv
      obtain ⟨v', L1, R, k1, k2, k3, _⟩ := rf.focus hf
      have inL : ∀ y, y ∈ L1 → y ∈ Lp := fun y hy => by rw [e3]; exact List.mem_cons_of_mem _ (k3.mem_iff.mpr (List.mem_append_left _ hy))
      refine ⟨x, _, dx, vs, v', rfl, e2, cls, na, k1, k v' F H1 Le L1 _ rfl Stp.refl ⟨C.wf.of_sub ?_ fun y hy => ?_, C.er, .own k2 .nil (by rw [List.append_nil]), C.pr, C.ng, C.zs⟩⟩
      · have nd2 : L'.Nodup := by
          have := nd.2.1
          rw [e3] at this
          exact (List.nodup_cons.mp this).2
        exact List.nodup_append.mpr ⟨nd.1, (List.nodup_append.mp (k3.nodup_iff.mp nd2)).1, fun y hy z hz => nd.2.2 y hy z (inL z hz)⟩
      · exact (List.mem_append.mp hy).elim (fun z => List.mem_append_left _ z) fun z => List.mem_append_right _ (inL y z)
    | bor rel hin rs =>
      cases rs
      obtain ⟨x, dx, vs, L', rfl, e2, rf, e3⟩ := rel.obj_inv
      obtain ⟨v', L1, R, k1, k2, k3, _⟩ := rf.focus hf
      refine ⟨x, _, dx, vs, v', rfl, e2, cls, na, k1, k v' F H1 Le [] _ rfl Stp.refl ⟨C.wf, C.er, .bor k2 (fun y hy => hin y ?_) .nil, C.pr, C.ng, C.zs⟩⟩
      rw [e3]; exact List.mem_cons_of_mem _ (k3.mem_iff.mpr (List.mem_append_left _ hy))
/-- a borrowed value without owned parts, for its value -/
def cpE (m : M D) : M D := bd m fun d => op (if d.noOwn then some d else none)
theorem je_cp (ha : JE X r q true a ma) : JE X r q false a (cpE ma) := peImp ha fun σ H Q h => by
  refine (TX.bind (rr1 := rD true) (q1 := q) (fun z => z) (.inr rfl) h).mono fun v H1 ⟨d, pl, hr, h2⟩ => ?_
  subst hr
  obtain ⟨F, e, Le, Lp, N, G, Z, hz, C, k⟩ := h2
  cases ho : d.noOwn with
  | false => simp only [op, ho, if_neg Bool.false_ne_true] at k
  | true =>
    simp only [op, ho, if_true] at k
    have pd := C.pd
    cases pd with
    | bor rel hin rs =>
      cases rs
      rw [rel.noOwn ho] at rel
      exact k v F H1 Le [] _ rfl Stp.refl ⟨C.wf, C.er, .own rel .nil rfl, C.pr, C.ng, C.zs⟩

/-! ### a list changed in place -/
/-- arguments, then the change of what stands at p; the arguments are frozen -/
def chgA (p : Pl) (f : List D → D → Option (D × D)) (m : M (List D)) : M D := fun e => match p.get e with
  | some (.lst _ _) => (bd m fun ds e1 => match freezeL ds, p.get e1 with
    | some as, some x => match f as x with
      | some (res, x') => .ok res (p.put x' e1)
      | none => .no
    | _, _ => .no) e
  | _ => .no
/-- what an operation on a list must do -/
def MO (X : Cx) (r : V → List V → Hp → VK → Prop) (f : List D → D → Option (D × D)) : Prop := ∀ (ct : Nat → Addr) (F H : Hp) (x : D) (v0 : V) (L0 : List Addr) (as : List D) (vs : List V) (res x' : D) (Q : V → Hp → Prop), Lq F H → Rel X.K ct F H x v0 L0 → RelL X.K ct F H as vs [] → f as x = some (res, x') →
  (∀ v H', (∀ a, a ∉ L0 → H' a = H a) → Rel X.K ct F H' x' v0 L0 → Rel X.K ct F H' res v [] → Q v H') → r v0 vs H Q
theorem tyV_list {F H : Hp} {v : V} {L : List Addr} {o : Bool} {ds : List D} (s : Lq F H) (rel : Rel X.K r.ct F H (.lst o ds) v L) : tyV X.K "list" v H := by
  obtain ⟨a, vs, L', rfl, q, _, _⟩ := rel.lst_inv s
  exact .inl ⟨rfl, vs, q⟩
/-- from pending values to a list of related ones -/
theorem rA.rels {K : PySem.W.Frag} {ct : Nat → Addr} {F H : Hp} {In : Addr → Prop} : ∀ {bs : List Bool} {ds : List D} {vs : List V} {pl : List Pend} {L : List Addr}, rA bs ds vs pl → bs.all (fun b => !b) = true → PendR K ct F H In pl L → RelL K ct F H ds vs L
  | _, _, _, _, _, .nil, _, .nil => .nil
  | _, _, _, _, _, .cons ra, h, .own r rs e => .cons r (rA.rels ra (by simpa using h) rs) e
  | _, _, _, _, _, .cons ra, h, .bor r s rs => by simp at h
/-- all that waits is frozen -/
theorem Cfg.freezeA {Z : List (Nat × V)} {F H : Hp} {σ : L2.St} {e : Env} {Le Lp : List Addr} {N G : Addr → Prop} {ds as : List D} {vs : List V} {pl : List Pend} (C : Cf X r Z F H σ e pl Le Lp N G) (ra : rA bs ds vs pl) (hb : bs.all (fun b => !b) = true) (hf : freezeL ds = some as) :
    ∃ F', Lq F F' ∧ RelL X.K r.ct F' H as vs [] ∧ Cf X r Z F' H σ e [] Le [] N G := by
  have rl := ra.rels hb C.pd
  have nd := List.nodup_append.mp C.wf.nd
  have hl : Lq F (froz F H Lp) := froz_le fun a ha => (C.wf.out a (List.mem_append_right _ ha)).1
  refine ⟨froz F H Lp, hl, rl.freeze hl (fun a ha => ha) hf, ⟨froz_sub C.wf.sub, by rw [List.append_nil]; exact nd.1, fun a ha => ?_, fun a ha => ?_⟩, C.er.mono hl fun _ _ => rfl, .nil, fun p hp => ?_, C.ng, C.zs⟩
  · rw [List.append_nil] at ha
    obtain ⟨o1, o2, o3⟩ := C.wf.out a (List.mem_append_left _ ha)
    rw [froz_out fun z => nd.2.2 a ha a z rfl]
    exact ⟨o1, o2, o3⟩
  · obtain ⟨o1, o2⟩ := C.wf.gd a ha
    rw [froz_out fun z => (C.wf.out a (List.mem_append_right _ z)).2.2 ha]
    exact ⟨o1, o2⟩
  · obtain ⟨w, Lr, g1, g2, g3⟩ := C.pr p hp
    exact ⟨w, Lr, g1, g2.mono hl fun _ _ => rfl, g3⟩
/-- a place has changed: the configuration behind it -/
theorem Cfg.changed {Z : List (Nat × V)} {F H H' : Hp} {σ : L2.St} {e : Env} {Le : List Addr} {N G : Addr → Prop} {d' : D} {v : V} {L0 : List Addr} {R : List Addr} (C : Cf X r Z F H σ e [] Le [] N G) (pm : Le.Perm (L0 ++ R))
    (put : ∀ F' H' d' L', Lq F F' → (∀ a, a ∈ R → H' a = H a) → Rel X.K r.ct F' H' d' v L' → ∃ Le', ERel X.K r.ct F' H' (p.put d' e) σ Le' ∧ Le'.Perm (L' ++ R))
    (off : ∀ a, a ∉ L0 → H' a = H a) (rel : Rel X.K r.ct F H' d' v L0) : ∃ Le', Stp false F H F H' e (p.put d' e) Le Le' G ∧ Cf X r Z F H' σ (p.put d' e) [] Le' [] N G := by
  have nd := C.wf.nd
  rw [List.append_nil] at nd
  have nd2 := List.nodup_append.mp (pm.nodup_iff.mp nd)
  have inL : ∀ a, a ∈ L0 → a ∈ Le := fun a ha => pm.mem_iff.mpr (List.mem_append_left _ ha)
  have out : ∀ a, a ∈ Le → F a = none ∧ H a ≠ none ∧ ¬ G a := fun a ha => C.wf.out a (List.mem_append_left _ ha)
  have nG : ∀ a, G a → a ∉ L0 := fun a ha z => (out a (inL a z)).2.2 ha
  obtain ⟨Le', k1, k2⟩ := put F H' d' L0 (Lq.refl F) (fun a ha => off a fun z => nd2.2.2 a z a ha rfl) rel
  refine ⟨Le', ⟨Lq.refl F, fun a ha => off a (nG a ha), fun z => by cases z⟩, ⟨fun a u q => ?_, ?_, fun a ha => ?_, fun a ha => ?_⟩, k1, .nil, fun p hp => ?_, C.ng, C.zs⟩
  · have : a ∉ L0 := fun z => by rw [(out a (inL a z)).1] at q; cases q
    rw [off a this]; exact C.wf.sub a u q
  · rw [List.append_nil]; exact (k2.trans pm.symm).nodup_iff.mpr nd
  · rw [List.append_nil] at ha
    have hm := k2.mem_iff.mp ha
    obtain ⟨o1, o2, o3⟩ := out a (pm.mem_iff.mpr hm)
    exact ⟨o1, k1.there a ha, o3⟩
  · obtain ⟨o1, o2⟩ := C.wf.gd a ha
    exact ⟨o1, by rw [off a (nG a ha)]; exact o2⟩
  · obtain ⟨w, Lr, g1, g2, g3⟩ := C.pr p hp
    exact ⟨w, Lr, g1, g2.mono (Lq.refl F) fun a ha => off a (nG a (C.ng a (g3 a ha))), g3⟩
theorem je_bm {id : String} {name : Str} {rr : V → List V → Hp → VK → Prop} {f : List D → D → Option (D × D)} {e0 : Expr} (slot : Slot "list" name id) (hty : typeOf (.builtin id) = pure (.type "method_descriptor")) (hm : MtR X id rr) (mo : MO X rr f)
    (ho : JPl X r o p) (ha : JA X r q bs (e0 :: es) ms) (hb : bs.all (fun b => !b) = true := by rfl) (hp : q = true ∨ p.isSl = true := by first | exact .inl rfl | exact .inr rfl)
    (hbase : attributeBase o name X.env (eval o X.env) = eval o X.env := by rfl)
    (hfew : ((backTo cpos (starEach (e0 :: es) X.env)).all (fun x => !x.1) && (backToKw cpos (keywordEach [] X.env)).all (fun x => x.1.isSome)
      && decide ((e0 :: es).length + ([] : List Keyword).length + (if ([] : List Keyword).isEmpty then 0 else 1) < 30)) = true := by rfl)
    (hline : (apos.endLine == cpos.line) = true := by rfl) (hs : starEach (e0 :: es) X.env = (false, eval e0 X.env) :: starEach es X.env := by rfl) (hplain : (backTo cpos (starEach es X.env)).any (·.1) = false := by rfl) :
    JE X r false false (.Call (.Attribute o name apos) (e0 :: es) [] cpos) (chgA p f ms) := by
  obtain ⟨t, ht, hk⟩ := ho
  refine peImp (pe_bm PySem.F.plainAttrs_list slot hty hm ht ha hbase hfew hline hs hplain) fun σ H Q h => ?_
  obtain ⟨F, e, Le, Lp, N, G, Z, hz, C, k⟩ := h
  cases hg : p.get e with
  | none => simp only [chgA, hg] at k
  | some d0 =>
    cases d0 with
    | lst ow xs =>
      obtain ⟨v0, pa⟩ := C.er.pat hg
      obtain ⟨L0, R0, r0, _, _⟩ := C.er.focus pa
      refine hk C.er pa ⟨tyV_list C.wf.sub r0, ?_⟩
      refine ⟨F, e, Le, Lp, N, G, Z, hz, C, ?_⟩
      cases hme : ms e with
      | no => simp only [chgA, hg, bd, hme] at k
      | ex x e1 =>
        simp only [chgA, hg, bd, hme] at k
        exact k
      | ok ds e1 =>
        simp only [chgA, hg, bd, hme] at k
        intro vs F1 H1 Le1 Lp1 pl hr s1 C1
        cases hf : freezeL ds with
        | none => simp only [hf] at k
        | some as =>
          cases hg1 : p.get e1 with
          | none => simp only [hf, hg1] at k
          | some x =>
            cases hfx : f as x with
            | none => simp only [hf, hg1, hfx] at k
            | some rx =>
              obtain ⟨res, x'⟩ := rx
              simp only [hf, hg1, hfx] at k
              obtain ⟨F2, l2, ras, C2⟩ := C1.freezeA hr hb hf
              have pa1 := pat_again hp C.er pa s1 C1 hg1
              obtain ⟨L1, R1, r1, pm1, put1⟩ := C2.er.focus pa1
              refine mo r.ct F2 H1 x v0 L1 as vs res x' Q C2.wf.sub r1 ras hfx fun v H' off rel' relr => ?_
              obtain ⟨Le', s3, C3⟩ := C2.changed pm1 put1 off rel'
              refine k v F2 H' Le' [] _ rfl ⟨s1.le.trans l2, fun a ha => (s3.gd a ha).trans (s1.gd a ha), fun z => by cases z⟩ ⟨C3.wf, C3.er, .own relr .nil rfl, C3.pr, C3.ng, C3.zs⟩
    | _ => simp only [chgA, hg] at k
theorem je_bm0 {id : String} {name : Str} {rr : V → List V → Hp → VK → Prop} {f : List D → D → Option (D × D)} (slot : Slot "list" name id) (hty : typeOf (.builtin id) = pure (.type "method_descriptor")) (hm : MtR X id rr) (mo : MO X rr f)
    (ho : JPl X r o p) (hbase : attributeBase o name X.env (eval o X.env) = eval o X.env := by rfl) (hline : (apos.endLine == cpos.line) = true := by rfl) :
    JE X r false false (.Call (.Attribute o name apos) [] [] cpos) (chgA p f argN) := by
  obtain ⟨t, ht, hk⟩ := ho
  refine peImp (pe_bm0 PySem.F.plainAttrs_list slot hty hm ht hbase hline) fun σ H Q h => ?_
  obtain ⟨F, e, Le, Lp, N, G, Z, hz, C, k⟩ := h
  cases hg : p.get e with
  | none => simp only [chgA, hg] at k
  | some d0 =>
    cases d0 with
    | lst ow xs =>
      obtain ⟨v0, pa⟩ := C.er.pat hg
      obtain ⟨L0, R0, r0, pm0, put0⟩ := C.er.focus pa
      refine hk C.er pa ⟨tyV_list C.wf.sub r0, ?_⟩
      simp only [chgA, hg, bd, argN, ret1, freezeL] at k
      cases hfx : f [] (.lst ow xs) with
      | none => simp only [hfx] at k
      | some rx =>
        obtain ⟨res, x'⟩ := rx
        simp only [hfx] at k
        have C2 := C.clear
        refine mo r.ct F H (.lst ow xs) v0 L0 [] [] res x' Q C2.wf.sub r0 .nil hfx fun v H' off rel' relr => ?_
        obtain ⟨Le', s3, C3⟩ := C2.changed pm0 put0 off rel'
        exact k v F H' Le' [] _ rfl s3 ⟨C3.wf, C3.er, .own relr .nil rfl, C3.pr, C3.ng, C3.zs⟩
    | _ => simp only [chgA, hg] at k

/-! ### stores -/
def setAt (i v' x : D) : Option D := match x, i with
  | .lst true xs, .int k => match pyIx xs.length k with
    | some j => if noOwnL xs then some (.lst true (xs.set j v')) else none
    | none => none
  | _, _ => none
/-- o[i] = value -/
def subS (p : Pl) (mv mi : M D) : S := bd mv fun v e => match v.freeze, p.get e with
  | some v', some _ => (bd mi fun i e1 => match p.get e1 with
    | some x => match setAt i v' x with
      | some x' => .ok .next (p.put x' e1)
      | none => .no
    | none => .no) e
  | _, _ => .no
theorem pyIx_ixN {n : Nat} {k : Int} {j : Nat} (h : pyIx n k = some j) : ixN n k = some j := by
  unfold pyIx at h
  unfold ixN
  by_cases h0 : 0 ≤ k
  · rw [if_pos h0] at h
    by_cases h1 : k < n
    · rw [if_pos h1] at h
      cases h
      simp [h0, h1]
    · rw [if_neg h1] at h; cases h
  · rw [if_neg h0] at h
    by_cases h1 : -(n : Int) ≤ k
    · rw [if_pos h1] at h
      cases h
      simp [h0, h1]
    · rw [if_neg h1] at h; cases h
theorem js_sub {i : Expr} {mi : M D} (hv : JE X r q false a ma) (ho : JPl X r o p) (hi : JE X r true false i mi) (hs : swapsWithSole [.Subscript o i p0] a pos.line X.env = pure false := by rfl) (hw : swappedStores [.Subscript o i p0] a X.env = pure none := by rfl) (h1 : (assignEach [.Subscript o i p0] X.env).map (·.2) = [assign (.Subscript o i p0) X.env] := by rfl)
    (hass : ∀ v, assign (.Subscript o i p0) X.env v = (do
      let ov ← holding [v] (eval o X.env)
      let iv ← holding [v, ov] (eval i X.env)
      standAt p0
      holding [v, ov, iv] (setItem ov iv v)
      release [v, ov, iv] []) := by intro _; rfl) :
    JS X r (.Assign [.Subscript o i p0] a pos) (subS p ma mi) := by
  obtain ⟨t, ht, hk⟩ := ho
  refine psImp (ps_asg hv (pg_sub ht hi set_list hass) hs hw h1) fun D σ H h => ?_
  refine (TSx.val (q := q) (rr := rD false) h).mono fun y H1 ⟨d, pl, F, e, Le, Lp, N, G, Z, hr, hz, C, k⟩ => ?_
  subst hr
  cases hf : d.freeze with
  | none => simp only [hf] at k; exact (show False from k).elim
  | some v' =>
    cases hg : p.get e with
    | none => simp only [hf, hg] at k; exact (show False from k).elim
    | some d0 =>
      simp only [hf, hg] at k
      obtain ⟨F2, l2, relv, C2⟩ := C.freeze hf
      obtain ⟨v0, pa⟩ := C2.er.pat hg
      have s2 : Stp false F H1 F2 H1 e e Le Le G := ⟨l2, fun _ _ => rfl, fun z => by cases z⟩
      refine hk C2.er pa ?_
      refine ⟨F2, e, Le, [], N, G, Z, hz, C2, ?_⟩
      cases hmi : mi e with
      | no => simp only [bd, hmi] at k; exact (show False from k).elim
      | ex x e1 =>
        simp only [bd, hmi] at k
        exact fun cls dd F' H' Le' s c hx => k σ cls dd F' H' Le' (s2.trans s) c hx
      | ok iv e1 =>
        simp only [bd, hmi] at k
        intro yi F3 H3 Le3 Lp3 pl hr s3 C3
        subst hr
        obtain ⟨t1, t2, t3⟩ := s3.qt rfl
        subst t1 t2
        have pa3 := PAt.stay C2.er t3 pa
        simp only [hg] at k
        cases hst : setAt iv v' d0 with
        | none => simp only [hst] at k; exact (show False from k).elim
        | some x' =>
          simp only [hst] at k
          have C4 := C3.clear
          obtain ⟨L1, R1, r1, pm1, put1⟩ := C4.er.focus pa3
          unfold setAt at hst
          split at hst
          · rename_i xs kk
            split at hst
            · rename_i j hj
              split at hst
              · rename_i hno
                cases hst
                cases r1 with
                | lstO hh rs2 e2 =>
                  have e3 := rs2.noOwn hno
                  subst e3
                  subst e2
                  obtain ⟨Li, ri⟩ := Cfg.one C3
                  cases ri
                  have rv3 : Rel X.K r.ct F3 H3 v' y [] := relv.mono s3.le fun a ha => absurd ha (by simp)
                  refine ⟨_, _, kk, j, rfl, rfl, hh, by rw [← rs2.length]; exact pyIx_ixN hj, ?_⟩
                  obtain ⟨Le', s4, C5⟩ := Cfg.changed C4 pm1 put1 (fun a ha => upd_ne fun z => ha (by rw [z]; exact List.mem_cons_self)) (.lstO upd_same (RelL.set j (rs2.any) rv3.any) rfl)
                  exact k σ F3 _ Le' (s2.trans (s3.off.trans s4)) C5
              · cases hst
            · cases hst
          · cases hst
/-- o.f = value -/
def setF (p : Pl) (c : Nat) (f : String) (mv : M D) : S := bd mv fun v e => match p.get e with
  | some (.obj c' fs) => if c' = c ∧ fs.length < 1000 then .ok .next (p.put (.obj c (putF f v fs)) e) else .no
  | _ => .no
theorem js_fld {f : String} {cn : Nat} {pos' : Pos} (hv : JE X r q false a ma) (ho : JPl X r o p) (cls : Cls X.K (r.ct cn)) (na : NoAttr X.K (r.ct cn) (Str.ofString f)) (hs : swapsWith a (some (.Attribute o (Str.ofString f) pos')) pos.line X.env = pure false := by rfl) :
    JS X r (.Assign [.Attribute o (Str.ofString f) pos'] a pos) (setF p cn f ma) := by
  obtain ⟨t, ht, hk⟩ := ho
  refine psImp (ps_fld ht hv hs) fun D σ H h => ?_
  refine (TSx.val (q := q) (rr := rD false) h).mono fun y H1 ⟨d, pl, F, e, Le, Lp, N, G, Z, hr, hz, C, k⟩ => ?_
  subst hr
  cases hg : p.get e with
  | none => simp only [hg] at k; exact (show False from k).elim
  | some d0 =>
    cases d0 with
    | obj c' fs =>
      simp only [hg] at k
      split at k
      · rename_i hc
        obtain ⟨rfl, hlen⟩ := hc
        obtain ⟨v0, pa⟩ := C.er.pat hg
        obtain ⟨L0, R0, r0, pm, put⟩ := C.er.focus pa
        obtain ⟨x, dx, vs, L', rfl, hins, rf, e0⟩ := r0.obj_inv
        subst e0
        have pd := C.pd
        cases pd with
        | own rel rs e1 =>
          cases rs
          rw [List.append_nil] at e1
          subst e1
          have nd := List.nodup_append.mp C.wf.nd
          have nd0 := List.nodup_append.mp (pm.nodup_iff.mp nd.1)
          have ndL := List.nodup_cons.mp nd0.1
          have inLe : ∀ z, z ∈ (x :: L') ++ R0 → z ∈ Le := fun z hz => pm.mem_iff.mpr hz
          have xLe : x ∈ Le := inLe x (List.mem_append_left _ List.mem_cons_self)
          have out : ∀ z, z ∈ Le ++ Lp → F z = none ∧ H1 z ≠ none ∧ ¬ G z := C.wf.out
          have off : ∀ z, z ≠ x → upd H1 x (.ins (r.ct c') dx (L2.putF (Str.ofString f) y vs)) z = H1 z := fun z hz => upd_ne hz
          have xLp : x ∉ Lp := fun z => nd.2.2 x xLe x z rfl
          have xG : ∀ z, G z → z ≠ x := fun z hz q => (out x (List.mem_append_left _ xLe)).2.2 (by rw [← q]; exact hz)
          have rf' := rf.mono (H' := upd H1 x (.ins (r.ct c') dx (L2.putF (Str.ofString f) y vs))) (Lq.refl F) fun z hz => off z fun q => ndL.1 (by rw [← q]; exact hz)
          have rel' := rel.mono (H' := upd H1 x (.ins (r.ct c') dx (L2.putF (Str.ofString f) y vs))) (Lq.refl F) fun z hz => off z fun q => xLp (by rw [← q]; exact hz)
          obtain ⟨L9, R, s1, s2, s3, s4⟩ := RelF.store (f := f) rel' rf'
          have robj : Rel X.K r.ct F (upd H1 x (.ins (r.ct c') dx (L2.putF (Str.ofString f) y vs))) (.obj c' (putF f d fs)) (.ref x) (x :: L9) := .obj upd_same s1 rfl
          obtain ⟨Le', k1, k2⟩ := put F _ _ _ (Lq.refl F) (fun z hz => off z fun q => nd0.2.2 x List.mem_cons_self z hz q.symm) robj
          have mem : ∀ z, z ∈ Le' → z ∈ Le ++ Lp := fun z hz => by
            rcases List.mem_append.mp (k2.mem_iff.mp hz) with h | h
            · rcases List.mem_cons.mp h with h | h
              · rw [h]; exact List.mem_append_left _ xLe
              · rcases List.mem_append.mp (s2.mem_iff.mp h) with h | h
                · exact List.mem_append_right _ h
                · exact List.mem_append_left _ (inLe z (List.mem_append_left _ (List.mem_cons_of_mem _ (s3 z h))))
            · exact List.mem_append_left _ (inLe z (List.mem_append_right _ h))
          refine hk C.er pa ⟨x, _, dx, vs, rfl, hins, cls, na, by rw [← rf.length]; exact hlen, ?_⟩
          refine k σ F _ Le' ⟨Lq.refl F, fun z hz => off z (xG z hz), fun z => by cases z⟩ ⟨⟨fun z u qz => ?_, ?_, fun z hz => ?_, fun z hz => ?_⟩, k1, .nil, fun pp hp => ?_, C.ng, C.zs⟩
          · rw [off z]
            · exact C.wf.sub z u qz
            · intro q; rw [q, (out x (List.mem_append_left _ xLe)).1] at qz; cases qz
          · rw [List.append_nil]
            refine k2.nodup_iff.mpr (List.nodup_append.mpr ⟨List.nodup_cons.mpr ⟨fun h => ?_, ?_⟩, nd0.2.1, fun z hz w hw q => ?_⟩)
            · rcases List.mem_append.mp (s2.mem_iff.mp h) with h | h
              · exact xLp h
              · exact ndL.1 (s3 x h)
            · refine s2.nodup_iff.mpr (List.nodup_append.mpr ⟨nd.2.1, s4 ndL.2, fun z hz w hw q => ?_⟩)
              subst q
              exact nd.2.2 z (inLe z (List.mem_append_left _ (List.mem_cons_of_mem _ (s3 z hw)))) z hz rfl
            · subst q
              rcases List.mem_cons.mp hz with h | h
              · subst h; exact nd0.2.2 z List.mem_cons_self z hw rfl
              · rcases List.mem_append.mp (s2.mem_iff.mp h) with h | h
                · exact nd.2.2 z (inLe z (List.mem_append_right _ hw)) z h rfl
                · exact nd0.2.2 z (List.mem_cons_of_mem _ (s3 z h)) z hw rfl
          · rw [List.append_nil] at hz
            obtain ⟨o1, o2, o3⟩ := out z (mem z hz)
            exact ⟨o1, k1.there z hz, o3⟩
          · obtain ⟨o1, o2⟩ := C.wf.gd z hz
            exact ⟨o1, by rw [off z (xG z hz)]; exact o2⟩
          · obtain ⟨w, Lr, g1, g2, g3⟩ := C.pr pp hp
            exact ⟨w, Lr, g1, g2.mono (Lq.refl F) fun z hz => off z (xG z (C.ng z (g3 z hz))), g3⟩
      · exact (show False from k).elim
    | _ => simp only [hg] at k; exact (show False from k).elim

/-! ### what lists' methods do -/
theorem lstO_inv {K : PySem.W.Frag} {ct : Nat → Addr} {F H : Hp} {xs : List D} {v : V} {L : List Addr} (r : Rel K ct F H (.lst true xs) v L) (hn : noOwnL xs = true) : ∃ a vs, v = .ref a ∧ H a = some (.lst vs) ∧ RelL K ct F H xs vs [] ∧ L = [a] := by
  cases r with
  | lstO hh rs e =>
    have e3 := rs.noOwn hn
    subst e3
    exact ⟨_, _, rfl, hh, rs, e⟩
def fAppend : List D → D → Option (D × D)
  | [v], .lst true xs => if noOwnL xs ∧ xs.length < lineN then some (.non, .lst true (xs ++ [v])) else none
  | _, _ => none
theorem mo_append : MO X rAppend fAppend := fun ct F H x v0 L0 as vs res x' Q s rel ras hf k => by
  unfold fAppend at hf
  split at hf
  · rename_i v xs
    split at hf
    · rename_i hc
      cases hf
      obtain ⟨a, ws, rfl, h1, h2, rfl⟩ := lstO_inv rel hc.1
      cases ras with
      | cons r1 rs e =>
        cases rs
        rw [List.append_nil] at e
        subst e
        exact ⟨a, ws, _, rfl, rfl, h1, by rw [← h2.length, ← lineN_eq]; exact hc.2, k _ _ (fun z hz => upd_ne fun q => hz (by simp [q])) (.lstO upd_same (RelL.snoc h2.any r1.any) rfl) .non⟩
    · cases hf
  · cases hf
def fPop : List D → D → Option (D × D)
  | [], .lst true xs => if noOwnL xs then (match xs[xs.length - 1]? with
    | some d => some (d, .lst true xs.dropLast)
    | none => none) else none
  | _, _ => none
theorem RelL.dropLast {K : PySem.W.Frag} {ct : Nat → Addr} {F H : Hp} {ds : List D} {vs : List V} (r : RelL K ct F H ds vs []) : RelL K ct F H ds.dropLast vs.dropLast [] := by
  rw [List.dropLast_eq_take, List.dropLast_eq_take, r.length]
  exact r.take _
theorem mo_pop : MO X rPop fPop := fun ct F H x v0 L0 as vs res x' Q s rel ras hf k => by
  unfold fPop at hf
  split at hf
  · rename_i xs
    split at hf
    · rename_i hn
      split at hf
      · rename_i d hd
        cases hf
        obtain ⟨a, ws, rfl, h1, h2, rfl⟩ := lstO_inv rel hn
        cases ras
        obtain ⟨v, L1, g1, g2, g3⟩ := h2.get hd
        rw [g2.noOwn (noOwn_get hn hd)] at g2
        exact ⟨a, ws, v, rfl, rfl, h1, by rw [← h2.length]; exact g1, k _ _ (fun z hz => upd_ne fun q => hz (by simp [q])) (.lstO upd_same h2.dropLast.any rfl) g2.any⟩
      · cases hf
    · cases hf
  · cases hf
def fPopAt : List D → D → Option (D × D)
  | [.int i], .lst true xs => if noOwnL xs ∧ -(2 ^ 63) ≤ i ∧ i < 2 ^ 63 then (match pyIx xs.length i with
    | some j => (match xs[j]? with
      | some d => some (d, .lst true (xs.eraseIdx j))
      | none => none)
    | none => none) else none
  | _, _ => none
theorem mo_popAt : MO X rPopAt fPopAt := fun ct F H x v0 L0 as vs res x' Q s rel ras hf k => by
  unfold fPopAt at hf
  split at hf
  · rename_i i xs
    split at hf
    · rename_i hc
      split at hf
      · rename_i j hj
        split at hf
        · rename_i d hd
          cases hf
          obtain ⟨a, ws, rfl, h1, h2, rfl⟩ := lstO_inv rel hc.1
          cases ras with
          | cons r1 rs e =>
            cases rs
            cases r1
            obtain ⟨v, L1, g1, g2, g3⟩ := h2.get hd
            rw [g2.noOwn (noOwn_get hc.1 hd)] at g2
            exact ⟨a, ws, i, j, v, rfl, rfl, h1, hc.2.1, hc.2.2, by rw [← h2.length]; exact (ixN_seq (pyIx_ixN hj)).1, g1, k _ _ (fun z hz => upd_ne fun q => hz (by simp [q])) (.lstO upd_same (RelL.eraseIdx _ h2.any) rfl) g2.any⟩
        · cases hf
      · cases hf
    · cases hf
  · cases hf
def fReverse : List D → D → Option (D × D)
  | [], .lst true xs => if noOwnL xs then some (.non, .lst true xs.reverse) else none
  | _, _ => none
theorem mo_reverse : MO X rReverse fReverse := fun ct F H x v0 L0 as vs res x' Q s rel ras hf k => by
  unfold fReverse at hf
  split at hf
  · rename_i xs
    split at hf
    · rename_i hn
      cases hf
      obtain ⟨a, ws, rfl, h1, h2, rfl⟩ := lstO_inv rel hn
      cases ras
      exact ⟨a, ws, rfl, rfl, h1, k _ _ (fun z hz => upd_ne fun q => hz (by simp [q])) (.lstO upd_same h2.reverse.any rfl) .non⟩
    · cases hf
  · cases hf
abbrev rInsert : V → List V → Hp → VK → Prop := fun x vs H Q => ∃ (l : Addr) (xs : List V) (i : Int) (y : V), x = .ref l ∧ vs = [.int i, y] ∧ H l = some (.lst xs) ∧ xs.length < sizeLine ∧ 0 ≤ i ∧ i < 2 ^ 63 ∧
    Q .non (upd H l (.lst (xs.take i.toNat ++ [y] ++ xs.drop i.toNat)))
def fInsert : List D → D → Option (D × D)
  | [.int i, v], .lst true xs => if noOwnL xs ∧ xs.length < lineN ∧ 0 ≤ i ∧ i < 2 ^ 63 then some (.non, .lst true (xs.take i.toNat ++ [v] ++ xs.drop i.toNat)) else none
  | _, _ => none
theorem mo_insert : MO X rInsert fInsert := fun ct F H x v0 L0 as vs res x' Q s rel ras hf k => by
  unfold fInsert at hf
  split at hf
  · rename_i i v xs
    split at hf
    · rename_i hc
      cases hf
      obtain ⟨a, ws, rfl, h1, h2, rfl⟩ := lstO_inv rel hc.1
      cases ras with
      | cons r1 rs e =>
        cases r1
        cases rs with
        | cons r2 rs e2 =>
          cases rs
          rw [List.append_nil] at e2
          subst e2
          simp only [List.nil_append] at e
          subst e
          exact ⟨a, ws, i, _, rfl, rfl, h1, by rw [← h2.length, ← lineN_eq]; exact hc.2.1, hc.2.2.1, hc.2.2.2, k _ _ (fun z hz => upd_ne fun q => hz (by simp [q])) (.lstO upd_same ((RelL.snoc (h2.any.take _) r2.any).append (h2.any.drop _)) rfl) .non⟩
    · cases hf
  · cases hf
def fRemove : List D → D → Option (D × D)
  | [.int i], .lst true xs => match ints? xs with
    | some is => match is.idxOf? i with
      | some j => some (.non, .lst true ((is.eraseIdx j).map .int))
      | none => none
    | none => none
  | _, _ => none
theorem ints_noOwn : ∀ {xs : List D} {is : List Int}, ints? xs = some is → noOwnL xs = true ∧ xs = is.map .int
  | [], _, h => by cases h; exact ⟨rfl, rfl⟩
  | .int i :: xs, is, h => by
    simp only [ints?] at h
    cases q : ints? xs with
    | none => rw [q] at h; cases h
    | some js =>
      rw [q] at h
      cases h
      obtain ⟨h1, h2⟩ := ints_noOwn q
      exact ⟨by simp [noOwnL, D.noOwn, h1], by rw [h2]; rfl⟩
  | .non :: _, _, h => by cases h
  | .bl _ :: _, _, h => by cases h
  | .str _ :: _, _, h => by cases h
  | .tup _ :: _, _, h => by cases h
  | .lst _ _ :: _, _, h => by cases h
  | .obj _ _ :: _, _, h => by cases h
  | .dct _ :: _, _, h => by cases h
  | .exc _ _ :: _, _, h => by cases h
theorem RelL.mkInts {K : PySem.W.Frag} {ct : Nat → Addr} {F H : Hp} : ∀ is : List Int, RelL K ct F H (is.map .int) (is.map V.int) []
  | [] => .nil
  | i :: r => .cons (.int i) (RelL.mkInts r) rfl
theorem mo_remove : MO X rRemI fRemove := fun ct F H x v0 L0 as vs res x' Q s rel ras hf k => by
  unfold fRemove at hf
  split at hf
  · rename_i i xs
    split at hf
    · rename_i is hi
      split at hf
      · rename_i j hj
        cases hf
        obtain ⟨hn, hx⟩ := ints_noOwn hi
        obtain ⟨a, ws, rfl, h1, h2, rfl⟩ := lstO_inv rel hn
        have e1 := h2.ints hi
        subst e1
        cases ras with
        | cons r1 rs e =>
          cases rs
          cases r1
          rw [List.idxOf?, List.findIdx?_eq_some_iff_getElem] at hj
          obtain ⟨hjl, hj1, hj2⟩ := hj
          refine ⟨a, is, i, j, rfl, rfl, h1, ?_, fun m hm hmi => ?_, k _ _ (fun z hz => upd_ne fun q => hz (by simp [q])) (.lstO upd_same (RelL.mkInts _) rfl) .non⟩
          · rw [List.getElem?_eq_getElem hjl]
            have : is[j] = i := by simpa using hj1
            rw [this]
          · obtain ⟨hml, hme⟩ := List.getElem?_eq_some_iff.mp hmi
            have := hj2 m hm
            simp [hme] at this
      · cases hf
    · cases hf
  · cases hf
theorem je_append {e0 : Expr} (ho : JPl X r o p) (ha : JA X r q bs [e0] ms) (hb : bs.all (fun b => !b) = true := by rfl) (hp : q = true ∨ p.isSl = true := by first | exact .inl rfl | exact .inr rfl)
    (hbase : attributeBase o "append" X.env (eval o X.env) = eval o X.env := by rfl)
    (hfew : ((backTo cpos (starEach [e0] X.env)).all (fun x => !x.1) && (backToKw cpos (keywordEach [] X.env)).all (fun x => x.1.isSome)
      && decide (([e0] : List Expr).length + ([] : List Keyword).length + (if ([] : List Keyword).isEmpty then 0 else 1) < 30)) = true := by rfl)
    (hline : (apos.endLine == cpos.line) = true := by rfl) (hs : starEach [e0] X.env = (false, eval e0 X.env) :: starEach [] X.env := by rfl) :
    JE X r false false (.Call (.Attribute o "append" apos) [e0] [] cpos) (chgA p fAppend ms) := je_bm PySem.F.slot_list_append PySem.F.type_list_append mt_append mo_append ho ha hb hp hbase hfew hline hs
end
end Ow
end

section
set_option linter.all false
set_option autoImplicit false
set_option maxRecDepth 100000
set_option maxHeartbeats 4000000
/-! OwH: calls of defs, methods, classes. -/
namespace Ow
open PySem PySem.Spec L2
open PyProof.Rows hiding St

theorem guards_make (A : Around) (C : Addr) (us : List Value) (kw : List (Str × Value)) : (A.under (.builtin "type.__call__" ⟨.ref C :: us, kw⟩)).guards = A.guards := by
  have e : (Code.builtin "type.__call__" ⟨.ref C :: us, kw⟩).guards = [] := by
    have q : (Code.builtin "type.__call__" ⟨.ref C :: us, kw⟩).isGuard = false := by
      show guardIds.contains "type.__call__" = false
      decide +kernel
    simp [Code.guards, q]
  unfold Around.under
  dsimp only
  rw [e]
  obtain ⟨hd, d, fr, gs, u⟩ := A
  cases gs <;> rfl
/-! ### the rules of HandS with defaults and with what is let out at the slots -/
section
variable {X : Cx} {k : Nat} {f C : Addr} {fd : FuncData} {ps : List Str} {sp : Sp} {dvs : List V} {ds : List Value} {E : L2.St → XK} {x m : Str} {p pos apos : Pos} {e o : Expr} {es : List Expr} {ta : TE} {t : TA}
theorem run_fnD {pins : List (Addr × Obj)} {σ : L2.St} {H : Hp} {s : Shared} {Q : VK} {us : List Value} {vs : List V} (F : FnG X.prog X.w X.K X.mg X.base k f fd ps sp) (hr : Room k X.A) (gd : X.A.guards = some []) (hb : Binds X.K fd ps ds) (hd : Vals dvs ds) (hx : PassesAt (L2.CX X.prog X.w) X σ (E σ))
    (I : Inv X pins σ H s) (r : Vals vs us) (h : sp (vs ++ dvs) H Q (E σ)) : wpAny (model X.prog X.w) X.A (call (.ref f) us) (EP X pins σ Q) X.xe s := by
  have r2 : Vals (vs ++ dvs) (us ++ ds) := r.append hd
  have hl : (us ++ ds).length = ps.length := by rw [← r2.length]; exact F.len _ _ _ _ h
  refine wpAny_call (codeAny_mono (F.run X.A X.stack s H ⟨us, []⟩ (us ++ ds) (vs ++ dvs) Q (E σ) hr gd I.env0 (hb s us I.kIn hl) r2 h) fun r s' hq => ?_)
  cases r with
  | error e => exact hx pins H s e s' I hq
  | ok fl =>
    cases fl with
    | ret u => exact I.after hq
    | next => exact False.elim hq
    | brk => exact False.elim hq
    | cont => exact False.elim hq
def tCallD (sp : Sp) (dvs : List V) (E : L2.St → XK) (t : TA) : TE := fun σ H Q => t σ H fun vs H1 => sp (vs ++ dvs) H1 Q (E σ)
theorem pe_callD (F : FnG X.prog X.w X.K X.mg X.base k f fd ps sp) (hr : Room k X.A) (gd : X.A.guards = some []) (hg : Gl X x) (hm : X.mg x = some (.ref f)) (hk : PySem.W.keepIn X.K (.ref f) = true) (hb : Binds X.K fd ps ds) (hd : Vals dvs ds) (hx : ∀ σ, PassesAt (L2.CX X.prog X.w) X σ (E σ))
    (ha : PA X (e :: es) t) (hdb : (x == ("__debug__" : Str)) = false := by decide) (he : starEach (e :: es) X.env = (false, eval e X.env) :: starEach es X.env := by rfl) (hpl : (backTo pos (starEach es X.env)).any (·.1) = false := by rfl) :
    PE X (.Call (.Name x p) (e :: es) [] pos) (tCallD sp dvs E t) := by
  refine ⟨fun pins s σ H Q I h => ?_⟩
  refine wpAny_Call_Name_kw (ld_glob I hg hm ?_ hdb)
  refine PySem.W.callWith_K (h₀ := X.base) I.ok.mod.kin hk (thn (ha.run pos pins s σ H _ I h) fun us s1 ⟨vs, H1, I1, r, q⟩ => ⟨I1.kIn, ?_⟩) he hpl
  exact run_fnD F hr gd hb hd (hx σ) I1 r q
theorem pe_callD0 (F : FnG X.prog X.w X.K X.mg X.base k f fd ps sp) (hr : Room k X.A) (gd : X.A.guards = some []) (hg : Gl X x) (hm : X.mg x = some (.ref f)) (hk : PySem.W.keepIn X.K (.ref f) = true) (hb : Binds X.K fd ps ds) (hd : Vals dvs ds) (hx : ∀ σ, PassesAt (L2.CX X.prog X.w) X σ (E σ))
    (hdb : (x == ("__debug__" : Str)) = false := by decide) : PE X (.Call (.Name x p) [] [] pos) (tCallD sp dvs E tNil) := by
  refine ⟨fun pins s σ H Q I h => ?_⟩
  refine wpAny_Call_Name_kw (ld_glob I hg hm ?_ hdb)
  exact PySem.W.callWith_K0 I.kIn hk (run_fnD (us := []) F hr gd hb hd (hx σ) I .nil h)
def tMethD (C : Addr) (m : Str) (sp : Sp) (dvs : List V) (E : L2.St → XK) (ta : TE) (t : TA) : TE := fun σ H Q => ta σ H fun x H1 => ∃ a dx fs, x = .ref a ∧ H1 a = some (.ins C dx fs) ∧ fs.lookup m = none ∧
  t σ H1 fun vs H2 => sp (x :: (vs ++ dvs)) H2 Q (E σ)
theorem pe_methD {pl : Sem Bool} (he : PE X o ta) (c : Cls X.K C) (hm : Meth X.K C m f) (F : FnG X.prog X.w X.K X.mg X.base k f fd ps sp) (hr : Room k X.A) (gd : X.A.guards = some []) (hb : Binds X.K fd ps ds) (hd : Vals dvs ds) (hx : ∀ σ, PassesAt (L2.CX X.prog X.w) X σ (E σ)) (ha : PA X (e :: es) t)
    (hst : starEach (e :: es) X.env = (false, eval e X.env) :: starEach es X.env := by rfl) (hpl : (backTo pos (starEach es X.env)).any (·.1) = false := by rfl)
    (ht : eval (.Call (.Attribute o m apos) (e :: es) [] pos) X.env = (do
      let ov ← eval o X.env
      standAt apos.atName
      let (f, first) ← holding [ov] (getMethod ov m pl)
      callWith pos f first (backTo pos (starEach (e :: es) X.env)) (backToKw pos (keywordEach [] X.env))) := by rfl) :
    PE X (.Call (.Attribute o m apos) (e :: es) [] pos) (tMethD C m sp dvs E ta t) := by
  refine ⟨fun pins s σ H Q I h => ?_⟩
  refine PySem.W.methodCall_KW (pl := pl) (thn (he.run pins s σ H _ I h) fun u s1 ⟨x, H1, I1, rx, a, dx, fs, ex, ea, l, q⟩ => ?_) ht
  subst ex
  obtain rfl : u = Value.ref a := rx
  refine getmeth_ok I1 ea c hm l ?_
  refine PySem.W.callWith_K (first := [.ref a]) (h₀ := X.base) I.ok.mod.kin hm.kp (thn (ha.run pos pins s1 σ H1 _ I1 q) fun us s2 ⟨vs, H2, I2, r, q2⟩ => ⟨I2.kIn, ?_⟩) hst hpl
  exact run_fnD (us := .ref a :: us) (vs := .ref a :: vs) F hr gd hb hd (hx σ) I2 (.cons rfl r) q2
theorem pe_methD0 {pl : Sem Bool} (he : PE X o ta) (c : Cls X.K C) (hm : Meth X.K C m f) (F : FnG X.prog X.w X.K X.mg X.base k f fd ps sp) (hr : Room k X.A) (gd : X.A.guards = some []) (hb : Binds X.K fd ps ds) (hd : Vals dvs ds) (hx : ∀ σ, PassesAt (L2.CX X.prog X.w) X σ (E σ))
    (ht : eval (.Call (.Attribute o m apos) [] [] pos) X.env = (do
      let ov ← eval o X.env
      standAt apos.atName
      let (f, first) ← holding [ov] (getMethod ov m pl)
      callWith pos f first (backTo pos (starEach [] X.env)) (backToKw pos (keywordEach [] X.env))) := by rfl) :
    PE X (.Call (.Attribute o m apos) [] [] pos) (tMethD C m sp dvs E ta tNil) := by
  refine ⟨fun pins s σ H Q I h => ?_⟩
  refine PySem.W.methodCall_KW (pl := pl) (thn (he.run pins s σ H _ I h) fun u s1 ⟨x, H1, I1, rx, a, dx, fs, ex, ea, l, q⟩ => ?_) ht
  subst ex
  obtain rfl : u = Value.ref a := rx
  refine getmeth_ok I1 ea c hm l ?_
  exact PySem.W.callWith_K0 (first := [.ref a]) I1.kIn hm.kp (run_fnD (us := [.ref a]) (vs := [.ref a]) F hr gd hb hd (hx σ) I1 (.cons rfl .nil) q)
theorem run_makeD {pins : List (Addr × Obj)} {σ : L2.St} {H : Hp} {s : Shared} {Q : VK} {us : List Value} {vs : List V} (M : Mk X.K C f) (F : FnG X.prog X.w X.K X.mg X.base k f fd ps sp) (hr : Room (k + 1) X.A) (gd : X.A.guards = some []) (hb : Binds X.K fd ps ds) (hd : Vals dvs ds)
    (hx : PassesAt (L2.CX X.prog X.w) X σ (E σ)) (I : Inv X pins σ H s) (r : Vals vs us)
    (h : ∀ x dx, H x = none → H dx = none → dx ≠ x → sp (.ref x :: (vs ++ dvs)) (upd (upd H dx (.own x)) x (.ins C dx [])) (fun v H2 => v = .non ∧ Q (.ref x) H2) (E σ)) :
    wpAny (model X.prog X.w) X.A (call (.ref C) us) (EP X pins σ Q) X.xe s := by
  have hq := h (s.heap.objs.size + 1) s.heap.objs.size (I.hok.fresh (Nat.le_succ _)) (I.hok.fresh (Nat.le_refl _)) (Nat.ne_of_lt (Nat.lt_succ_self _))
  have I2 := Inv.made (C := C) I
  have r2 : Vals (V.ref (s.heap.objs.size + 1) :: (vs ++ dvs)) (Value.ref (s.heap.objs.size + 1) :: (us ++ ds)) := .cons rfl (r.append hd)
  have hl : (Value.ref (s.heap.objs.size + 1) :: us ++ ds).length = ps.length := by
    have e := r2.length
    rw [F.len _ _ _ _ hq] at e
    exact e.symm
  refine wpAny_call (make_map (f := f) I.kIn M.makes M.init (beq_iff_eq.mp M.fn) (codeAny_mono (F.run _ X.stack _ _ ⟨Value.ref (s.heap.objs.size + 1) :: us, []⟩ (Value.ref (s.heap.objs.size + 1) :: (us ++ ds)) _ _ (E σ) (hr.make C us []) (by rw [show (X.A.under (.builtin "type.__call__" ⟨.ref C :: us, []⟩)).guards = X.A.guards from guards_make X.A C us []]; exact gd)
    (I2.env0.make C us []) (hb _ (Value.ref (s.heap.objs.size + 1) :: us) I2.kIn hl) r2 hq) fun r s' hq' => ?_))
  cases r with
  | error e => exact hx pins _ _ e s' I2 hq'
  | ok fl =>
    cases fl with
    | ret u =>
      obtain ⟨v, H', I3, rv, ev, q3⟩ := I2.after hq'
      subst ev
      exact ⟨rv, ⟨V.ref (s.heap.objs.size + 1), H', I3, rfl, q3⟩⟩
    | next => exact False.elim hq'
    | brk => exact False.elim hq'
    | cont => exact False.elim hq'
def tMakeD (C : Addr) (sp : Sp) (dvs : List V) (E : L2.St → XK) (t : TA) : TE := fun σ H Q => t σ H fun vs H1 => ∀ x dx, H1 x = none → H1 dx = none → dx ≠ x →
  sp (.ref x :: (vs ++ dvs)) (upd (upd H1 dx (.own x)) x (.ins C dx [])) (fun v H2 => v = .non ∧ Q (.ref x) H2) (E σ)
theorem pe_makeD (M : Mk X.K C f) (F : FnG X.prog X.w X.K X.mg X.base k f fd ps sp) (hr : Room (k + 1) X.A) (gd : X.A.guards = some []) (hg : Gl X x) (hm : X.mg x = some (.ref C)) (hb : Binds X.K fd ps ds) (hd : Vals dvs ds) (hx : ∀ σ, PassesAt (L2.CX X.prog X.w) X σ (E σ))
    (ha : PA X (e :: es) t) (hdb : (x == ("__debug__" : Str)) = false := by decide) (he : starEach (e :: es) X.env = (false, eval e X.env) :: starEach es X.env := by rfl) (hpl : (backTo pos (starEach es X.env)).any (·.1) = false := by rfl) :
    PE X (.Call (.Name x p) (e :: es) [] pos) (tMakeD C sp dvs E t) := by
  refine ⟨fun pins s σ H Q I h => ?_⟩
  refine wpAny_Call_Name_kw (ld_glob I hg hm ?_ hdb)
  refine PySem.W.callWith_K (h₀ := X.base) I.ok.mod.kin M.kp (thn (ha.run pos pins s σ H _ I h) fun us s1 ⟨vs, H1, I1, r, q⟩ => ⟨I1.kIn, ?_⟩) he hpl
  exact run_makeD M F hr gd hb hd (hx σ) I1 r q
end

/-! ### arguments by kinds -/
inductive Ak where
  | own | bor | at
inductive rK (σ : L2.St) (P : List (Nat × D)) : List Ak → List D → List V → List Pend → Prop
  | nil : rK σ P [] [] [] []
  | own {d : D} {v : V} {ks : List Ak} {ds : List D} {vs : List V} {pl : List Pend} : rK σ P ks ds vs pl → rK σ P (.own :: ks) (d :: ds) (v :: vs) ((false, d, v) :: pl)
  | bor {d : D} {v : V} {ks : List Ak} {ds : List D} {vs : List V} {pl : List Pend} : rK σ P ks ds vs pl → rK σ P (.bor :: ks) (d :: ds) (v :: vs) ((true, d, v) :: pl)
  | at {i : Nat} {d : D} {v : V} {ks : List Ak} {ds : List D} {vs : List V} {pl : List Pend} : (i, d) ∈ P → σ[i]? = some (some v) → rK σ P ks ds vs pl → rK σ P (.at :: ks) (d :: ds) (v :: vs) pl
def JK (X : Cx) (r : Rd) (q : Bool) (ks : List Ak) (es : List Expr) (m : M (List D)) : Prop := PA X es fun σ H Q => TXr X r (rK σ r.P ks) q [] m σ H Q
section
variable {X : Cx} {r : Rd} {a b c o : Expr} {es : List Expr} {ma mb mc : M D} {ms : M (List D)} {pos apos cpos p0 : Pos} {q qa qb qc ba bb : Bool} {ks : List Ak} {p : Pl}
theorem jk_nil : JK X r true [] [] argN := paImp pa_nil fun _ _ _ h => TX.ret h .nil
theorem jk_own (ha : JE X r qa false a ma) (hb : JK X r qb ks es ms) (hs : starEach (a :: es) X.env = (false, eval a X.env) :: starEach es X.env := by rfl) :
    JK X r (qa && qb) (.own :: ks) (a :: es) (argC ma ms) := paImp (pa_cons ha hb hs) fun σ H Q h => by
  refine (TX.bind (rr1 := rD false) (q1 := qa) (fun z => (both_l z).1) (.inr rfl) h).mono fun v H1 ⟨d, pl, hr, h2⟩ => ?_
  subst hr
  refine (TX.bind (rr1 := rK σ r.P ks) (q1 := qb) (fun z => (both_l z).2) (.inr rfl) h2).mono fun vs H2 ⟨ds, pl2, hr2, h4⟩ => ?_
  exact TX.ret (h4.perm (List.perm_append_comm)) (.own hr2)
theorem jk_bor (ha : JE X r qa true a ma) (hb : JK X r true ks es ms) (hs : starEach (a :: es) X.env = (false, eval a X.env) :: starEach es X.env := by rfl) :
    JK X r (qa && true) (.bor :: ks) (a :: es) (argC ma ms) := paImp (pa_cons ha hb hs) fun σ H Q h => by
  refine (TX.bind (rr1 := rD true) (q1 := qa) (fun z => (both_l z).1) (.inr rfl) h).mono fun v H1 ⟨d, pl, hr, h2⟩ => ?_
  subst hr
  refine (TX.bind (rr1 := rK σ r.P ks) (q1 := true) (fun z => (both_l z).2) (.inl rfl) h2).mono fun vs H2 ⟨ds, pl2, hr2, h4⟩ => ?_
  exact TX.ret (h4.perm (List.perm_append_comm)) (.bor hr2)
theorem jk_at {i : Nat} {x : Str} {d : D} (hx : PE X (.Name x pos) (tVar i)) (hp : (i, d) ∈ r.P) (hb : JK X r q ks es ms) (hs : starEach (.Name x pos :: es) X.env = (false, eval (.Name x pos) X.env) :: starEach es X.env := by rfl) :
    JK X r q (.at :: ks) (.Name x pos :: es) (argC (cst d) ms) := paImp (pa_cons hx hb hs) fun σ H Q h => by
  obtain ⟨F, e, Le, Lp, N, G, Z, hz, C, k⟩ := h
  obtain ⟨v, Lr, h1, h2, h3⟩ := C.pr _ hp
  refine ⟨v, h1, F, e, Le, Lp, N, G, Z, hz, C, ?_⟩
  cases hm : ms e with
  | no => simp only [argC, bd, cst, hm] at k
  | ex x e' => simp only [argC, bd, cst, hm] at k; exact k
  | ok ds e' =>
    simp only [argC, bd, cst, hm, ret1] at k
    exact fun vs F' H' Le' Lp' pl hr s c => k (v :: vs) F' H' Le' Lp' pl (.at hp h1 hr) s c
end
def compat : List Ak → List Pm → Bool
  | [], [] => true
  | .own :: ks, _ :: ms => compat ks ms
  | .bor :: ks, .ro :: ms => compat ks ms
  | .at :: ks, .ro :: ms => compat ks ms
  | _, _ => false
def borOk : List Ak → List D → Bool
  | .bor :: ks, d :: ds => d.noOwn && borOk ks ds
  | _ :: ks, _ :: ds => borOk ks ds
  | _, _ => true
section
variable {K : PySem.W.Frag} {ct : Nat → Addr} {F H : Hp} {In N N' : Addr → Prop}
theorem args_ok {σ : L2.St} {P : List (Nat × D)} (hP : ∀ p, p ∈ P → ∃ v Lr, σ[p.1]? = some (some v) ∧ Rel K ct F H p.2 v Lr ∧ ∀ a, a ∈ Lr → N a) :
    ∀ {ks : List Ak} {ms : List Pm} {ds : List D} {vs : List V} {pl : List Pend} {Lp : List Addr}, rK σ P ks ds vs pl → PendR K ct F H In pl Lp → compat ks ms = true →
      ∃ Lr La, Lp.Perm (La ++ Lr) ∧ ∀ N' : Addr → Prop, (∀ a, N a → N' a) → ((∀ a, In a → N' a) ∨ borOk ks ds = true) → (∀ a, a ∈ Lr → N' a) → ArgR K ct F H N' ms ds vs La
  | _, [], _, _, _, _, .nil, .nil, _ => ⟨[], [], List.Perm.refl _, fun _ _ _ _ => .nil⟩
  | _, _ :: _, _, _, _, _, .nil, _, hc => by cases hc
  | _, [], _, _, _, _, .own _, _, hc => by cases hc
  | _, [], _, _, _, _, .bor _, _, hc => by cases hc
  | _, [], _, _, _, _, .at _ _ _, _, hc => by cases hc
  | _, .ro :: ms, _, _, _, _, .own h, .own (L1 := L1) r rs e, hc => by
    obtain ⟨Lr, La, p1, p2⟩ := args_ok hP h rs hc
    refine ⟨L1 ++ Lr, La, ?_, fun N' hN hB hr => .ro r (fun a ha => hr a (List.mem_append_left _ ha)) (p2 N' hN hB fun a ha => hr a (List.mem_append_right _ ha))⟩
    rw [e]
    exact (List.Perm.append_left _ p1).trans perm_mid
  | _, .va :: ms, _, _, _, _, .own h, .own (L1 := L1) r rs e, hc => by
    obtain ⟨Lr, La, p1, p2⟩ := args_ok hP h rs hc
    refine ⟨Lr, L1 ++ La, ?_, fun N' hN hB hr => .va r (p2 N' hN hB hr) rfl⟩
    rw [e, List.append_assoc]
    exact List.Perm.append_left _ p1
  | _, .ro :: ms, _, _, _, _, .bor h, .bor r s rs, hc => by
    obtain ⟨Lr, La, p1, p2⟩ := args_ok hP h rs hc
    refine ⟨Lr, La, p1, fun N' hN hB hr => .ro r (fun a ha => ?_) (p2 N' hN (hB.imp id fun z => by
      simp only [borOk, Bool.and_eq_true] at z; exact z.2) hr)⟩
    rcases hB with z | z
    · exact z a (s a ha)
    · simp only [borOk, Bool.and_eq_true] at z
      rw [r.noOwn z.1] at ha
      exact absurd ha (by simp)
  | _, .va :: ms, _, _, _, _, .bor h, _, hc => by cases hc
  | _, .ro :: ms, _, _, _, _, .at hp hv h, rs, hc => by
    obtain ⟨Lr, La, p1, p2⟩ := args_ok hP h rs hc
    obtain ⟨v', L', h1, h2, h3⟩ := hP _ hp
    rw [hv] at h1
    cases h1
    exact ⟨Lr, La, p1, fun N' hN hB hr => .ro h2 (fun a ha => hN a (h3 a ha)) (p2 N' hN hB hr)⟩
  | _, .va :: ms, _, _, _, _, .at _ _ h, _, hc => by cases hc
theorem ArgR.append {ms ns : List Pm} {ds es : List D} {vs ws : List V} {La : List Addr} (h : ArgR K ct F H N ms ds vs La) (q : ArgR K ct F H N ns es ws []) : ArgR K ct F H N (ms ++ ns) (ds ++ es) (vs ++ ws) La := by
  induction h with
  | nil => exact q
  | ro r hN _ ih => exact .ro r hN ih
  | va r _ e ih => exact .va r ih e
end

/-! ### calls -/
def fin0 (o : O) : M D := fun e => match o with
  | .ok d _ => .ok d e
  | .ex x _ => .ex x e
  | .no => .no
def callW (g : List D → O) (dds : List D) (m : M (List D)) : M D := bd m fun ds => fin0 (g (ds ++ dds))
section
variable {X : Cx} {r : Rd} {a b c o : Expr} {es : List Expr} {ma mb mc : M D} {m : M (List D)} {pos apos cpos p0 : Pos} {q qa qb qc ba bb : Bool} {ks : List Ak} {p : Pl} {ms msd : List Pm} {g : List D → O} {dds : List D} {dvs : List V}
/-- how a value's piece goes on -/
def KE (X : Cx) (r : Rd) (q : Bool) (N G : Addr → Prop) (Z : List (Nat × V)) (F H : Hp) (σ : L2.St) (e : Env) (Le : List Addr) (Q : V → Hp → Prop) (res : R D) : Prop := match res with
  | .ok d e' => ∀ y F' H' Le' Lp' pl', rD false d y pl' → Stp q F H F' H' e e' Le Le' G → Cf X r Z F' H' σ e' pl' Le' Lp' N G → Q y H'
  | .ex x e' => ∀ cls dd F' H' Le', Stp false F H F' H' e e' Le Le' G → Cf X r Z F' H' σ e' [] Le' [] N G → ExR X.K r.ct F' H' x cls dd → r.W cls dd σ H'
  | .no => False
theorem TX.out {ps : List Pend} {mm : M D} {σ : L2.St} {H : Hp} {Q : V → Hp → Prop} (h : TXr X r (rD false) q ps mm σ H Q) : ∃ F e Le Lp N G Z, Z.map (·.1) = r.zs ∧ Cf X r Z F H σ e ps Le Lp N G ∧ KE X r q N G Z F H σ e Le Q (mm e) := by
  obtain ⟨F, e, Le, Lp, N, G, Z, hz, C, k⟩ := h
  refine ⟨F, e, Le, Lp, N, G, Z, hz, C, ?_⟩
  cases hm : mm e with
  | no => rw [hm] at k; exact k
  | ex x e' => rw [hm] at k; exact k
  | ok d e' => rw [hm] at k; exact k
/-- a call of a def that changes nothing in place -/
theorem call_end {Z : List (Nat × V)} {F H : Hp} {σ : L2.St} {e : Env} {Le Lp : List Addr} {N G : Addr → Prop} {pl : List Pend} {ds : List D} {vs : List V} {Q : V → Hp → Prop} (C : Cf X r Z F H σ e pl Le Lp N G) (ra : rK σ r.P ks ds vs pl) (hc : compat ks ms = true)
    (hdd : ∀ F H N, ArgR X.K r.ct F H N msd dds dvs [])
    (k : KE X r q N G Z F H σ e Le Q (fin0 (g (ds ++ dds)) e)) : SpW X.K r.ct false (ms ++ msd) g (vs ++ dvs) H Q (WE r.W σ) := by
  obtain ⟨Lr, La, p1, p2⟩ := args_ok (In := fun a => a ∈ Le ∨ N a) C.pr ra C.pd hc
  have nd := List.nodup_append.mp C.wf.nd
  have ndp := List.nodup_append.mp (p1.nodup_iff.mp nd.2.1)
  have inR : ∀ a, a ∈ Lr → a ∈ Lp := fun a ha => p1.mem_iff.mpr (List.mem_append_right _ ha)
  have inA : ∀ a, a ∈ La → a ∈ Lp := fun a ha => p1.mem_iff.mpr (List.mem_append_left _ ha)
  have aR := (p2 (fun a => G a ∨ a ∈ Le ∨ a ∈ Lr) (fun a ha => .inl (C.ng a ha)) (.inl fun a ha => ha.elim (fun z => .inr (.inl z)) fun z => .inl (C.ng a z)) fun a ha => .inr (.inr ha)).append (hdd F H _)
  have ln := aR.len
  have wf : WF F H ([] ++ La) (fun a => G a ∨ a ∈ Le ∨ a ∈ Lr) := by
    refine ⟨C.wf.sub, ndp.1, fun a ha => ?_, fun a ha => ?_⟩
    · obtain ⟨o1, o2, o3⟩ := C.wf.out a (List.mem_append_right _ (inA a ha))
      refine ⟨o1, o2, fun z => ?_⟩
      rcases z with z | z | z
      · exact o3 z
      · exact nd.2.2 a z a (inA a ha) rfl
      · exact ndp.2.2 a ha a z rfl
    · rcases ha with z | z | z
      · exact C.wf.gd a z
      · obtain ⟨o1, o2, _⟩ := C.wf.out a (List.mem_append_left _ z)
        exact ⟨o1, o2⟩
      · obtain ⟨o1, o2, _⟩ := C.wf.out a (List.mem_append_right _ (inR a z))
        exact ⟨o1, o2⟩
  refine ⟨by rw [ln.2]; simp [k0], F, .non, .non, ds ++ dds, vs ++ dvs, [], La, _, _, rfl, rfl, aR, wf, fun _ h => h, ?_⟩
  show KF X.K r.ct false .non F H _ Q _ (g (ds ++ dds))
  have er : ∀ {F' H' : Hp}, Lq F F' → (∀ a, G a ∨ a ∈ Le ∨ a ∈ Lr → H' a = H a) → ERel X.K r.ct F' H' e σ Le := fun l gg => C.er.mono l fun a ha => gg a (.inr (.inl ha))
  have pr : ∀ {F' H' : Hp}, Lq F F' → (∀ a, G a ∨ a ∈ Le ∨ a ∈ Lr → H' a = H a) → ∀ p, p ∈ r.P → ∃ v Lr, σ[p.1]? = some (some v) ∧ Rel X.K r.ct F' H' p.2 v Lr ∧ ∀ a, a ∈ Lr → N a := fun l gg p hp =>
    let ⟨v, Lr, h1, h2, h3⟩ := C.pr p hp
    ⟨v, Lr, h1, h2.mono l fun a ha => gg a (.inl (C.ng a (h3 a ha))), h3⟩
  have st : ∀ {q : Bool} {F' H' : Hp}, Lq F F' → (∀ a, G a ∨ a ∈ Le ∨ a ∈ Lr → H' a = H a) → Stp q F H F' H' e e Le Le G := fun l gg => ⟨l, fun a ha => gg a (.inl ha), fun _ => ⟨rfl, rfl, fun a ha => gg a (.inr (.inl ha))⟩⟩
  have wf' : ∀ {F' H' : Hp} {L9 : List Addr}, WF F' H' L9 (fun a => G a ∨ a ∈ Le ∨ a ∈ Lr) → WF F' H' (Le ++ L9) G := fun {F' H' L9} w => by
    refine ⟨w.sub, List.nodup_append.mpr ⟨nd.1, w.nd, fun a ha b hb z => ?_⟩, fun a ha => ?_, fun a ha => w.gd a (.inl ha)⟩
    · subst z
      exact (w.out a hb).2.2 (.inr (.inl ha))
    · rcases List.mem_append.mp ha with h | h
      · obtain ⟨o1, o2⟩ := w.gd a (.inr (.inl h))
        exact ⟨o1, o2, (C.wf.out a (List.mem_append_left _ h)).2.2⟩
      · obtain ⟨o1, o2, o3⟩ := w.out a h
        exact ⟨o1, o2, fun z => o3 (.inl z)⟩
  cases ho : g (ds ++ dds) with
  | no => rw [ho] at k; exact k
  | ex x m' =>
    rw [ho] at k
    intro cls dd F' H' Lm l gg w hx hm
    have e0 : Lm = [] := hm
    subst e0
    exact k cls dd F' H' Le (st l gg) ⟨by simpa using wf' w, er l gg, .nil, pr l gg, C.ng, C.zs⟩ hx
  | ok d m' =>
    rw [ho] at k
    intro v F' H' Lm Lr' l gg w rel hm
    have e0 : Lm = [] := hm
    subst e0
    exact k v F' H' Le Lr' _ rfl (st l gg) ⟨wf' w, er l gg, .own rel .nil (by rw [List.append_nil]), pr l gg, C.ng, C.zs⟩
theorem je_call {k : Nat} {x : Str} {e0 : Expr} (B : Glb X.prog X.w X.K X.mg X.base x k dvs (SpW X.K r.ct false (ms ++ msd) g)) (cl : Cal X r k) (hg : Gl X x)
    (hdd : ∀ F H N, ArgR X.K r.ct F H N msd dds dvs []) (ha : JK X r q ks (e0 :: es) m) (hc : compat ks ms = true := by rfl)
    (hdb : (x == ("__debug__" : Str)) = false := by decide) (he : starEach (e0 :: es) X.env = (false, eval e0 X.env) :: starEach es X.env := by rfl) (hpl : (backTo pos (starEach es X.env)).any (·.1) = false := by rfl) :
    JE X r q false (.Call (.Name x p0) (e0 :: es) [] pos) (callW g dds m) := by
  obtain ⟨f, fd, ps, dsv, F, hm, hk, hb, hd⟩ := B.ex
  exact peImp (pe_callD F cl.rm cl.gd hg hm hk hb hd (fun σ => passAt cl.tk σ) ha hdb he hpl) fun σ H Q h => by
    refine (TX.bind (rr1 := rK σ r.P ks) (q1 := q) (fun z => z) (.inr rfl) h).mono fun vs H1 ⟨ds, pl, hr, h2⟩ => ?_
    obtain ⟨F, e, Le, Lp, N, G, Z, hz, C, k⟩ := TX.out h2
    rw [List.append_nil] at C
    exact call_end C hr hc hdd k
theorem je_call0 {k : Nat} {x : Str} (B : Glb X.prog X.w X.K X.mg X.base x k dvs (SpW X.K r.ct false ([] ++ msd) g)) (cl : Cal X r k) (hg : Gl X x)
    (hdd : ∀ F H N, ArgR X.K r.ct F H N msd dds dvs []) (hdb : (x == ("__debug__" : Str)) = false := by decide) :
    JE X r true false (.Call (.Name x p0) [] [] pos) (callW g dds argN) := by
  obtain ⟨f, fd, ps, dsv, F, hm, hk, hb, hd⟩ := B.ex
  exact peImp (pe_callD0 F cl.rm cl.gd hg hm hk hb hd (fun σ => passAt cl.tk σ) hdb) fun σ H Q h => by
    obtain ⟨F, e, Le, Lp, N, G, Z, hz, C, k⟩ := TX.out h
    exact call_end (ks := []) (ms := []) (vs := []) (ds := []) (q := true) (C.clear : Cf X r Z F H σ e [] Le [] N G) .nil rfl hdd k

/-! ### a call that may change what stands at a place -/
def finP (p : Pl) (o : O) : M D := fun e => match o with
  | .ok d m => .ok d (p.put m e)
  | .ex x m => .ex x (p.put m e)
  | .no => .no
/-- the place first, then the arguments -/
def callPW (chk : D → Bool) (p : Pl) (g : List D → O) (dds : List D) (ks : List Ak) (m : M (List D)) : M D := fun e => match p.get e with
  | some d0 => if chk d0 then (bd m fun ds e1 => match p.get e1 with
    | some dm => if borOk ks ds then finP p (g (dm :: (ds ++ dds))) e1 else .no
    | none => .no) e else .no
  | none => .no
theorem call_endP {Z : List (Nat × V)} {F H : Hp} {σ : L2.St} {e : Env} {Le Lp : List Addr} {N G : Addr → Prop} {pl : List Pend} {ds : List D} {vs : List V} {Q : V → Hp → Prop} {vm : V} {dm : D} (C : Cf X r Z F H σ e pl Le Lp N G) (ra : rK σ r.P ks ds vs pl) (hc : compat ks ms = true)
    (hdd : ∀ F H N, ArgR X.K r.ct F H N msd dds dvs []) (pa : PAt r.ct H σ p e vm dm) (hb : borOk ks ds = true)
    (k : KE X r false N G Z F H σ e Le Q (finP p (g (dm :: (ds ++ dds))) e)) : SpW X.K r.ct true (ms ++ msd) g (vm :: (vs ++ dvs)) H Q (WE r.W σ) := by
  obtain ⟨Lr, La, p1, p2⟩ := args_ok (In := fun a => a ∈ Le ∨ N a) C.pr ra C.pd hc
  obtain ⟨L0, R0, r0, pm, put⟩ := C.er.focus pa
  have nd := List.nodup_append.mp C.wf.nd
  have ndp := List.nodup_append.mp (p1.nodup_iff.mp nd.2.1)
  have nde := List.nodup_append.mp (pm.nodup_iff.mp nd.1)
  have inR : ∀ a, a ∈ Lr → a ∈ Lp := fun a ha => p1.mem_iff.mpr (List.mem_append_right _ ha)
  have inA : ∀ a, a ∈ La → a ∈ Lp := fun a ha => p1.mem_iff.mpr (List.mem_append_left _ ha)
  have in0 : ∀ a, a ∈ L0 → a ∈ Le := fun a ha => pm.mem_iff.mpr (List.mem_append_left _ ha)
  have inE : ∀ a, a ∈ R0 → a ∈ Le := fun a ha => pm.mem_iff.mpr (List.mem_append_right _ ha)
  have aR := (p2 (fun a => G a ∨ a ∈ R0 ∨ a ∈ Lr) (fun a ha => .inl (C.ng a ha)) (.inr hb) fun a ha => .inr (.inr ha)).append (hdd F H _)
  have ln := aR.len
  have wf : WF F H (L0 ++ La) (fun a => G a ∨ a ∈ R0 ∨ a ∈ Lr) := by
    refine ⟨C.wf.sub, List.nodup_append.mpr ⟨nde.1, ndp.1, fun a ha b hb z => nd.2.2 a (in0 a ha) b (inA b hb) z⟩, fun a ha => ?_, fun a ha => ?_⟩
    · have hm : a ∈ Le ++ Lp := (List.mem_append.mp ha).elim (fun z => List.mem_append_left _ (in0 a z)) fun z => List.mem_append_right _ (inA a z)
      obtain ⟨o1, o2, o3⟩ := C.wf.out a hm
      refine ⟨o1, o2, fun z => ?_⟩
      rcases z with z | z | z
      · exact o3 z
      · rcases List.mem_append.mp ha with h | h
        · exact nde.2.2 a h a z rfl
        · exact nd.2.2 a (inE a z) a (inA a h) rfl
      · rcases List.mem_append.mp ha with h | h
        · exact nd.2.2 a (in0 a h) a (inR a z) rfl
        · exact ndp.2.2 a h a z rfl
    · rcases ha with z | z | z
      · exact C.wf.gd a z
      · obtain ⟨o1, o2, _⟩ := C.wf.out a (List.mem_append_left _ (inE a z))
        exact ⟨o1, o2⟩
      · obtain ⟨o1, o2, _⟩ := C.wf.out a (List.mem_append_right _ (inR a z))
        exact ⟨o1, o2⟩
  refine ⟨by simp [k0, ln.2]; omega, F, dm, vm, ds ++ dds, vs ++ dvs, L0, La, _, _, rfl, r0, aR, wf, fun _ h => h, ?_⟩
  show KF X.K r.ct true vm F H _ Q _ (g (dm :: (ds ++ dds)))
  have pr : ∀ {F' H' : Hp}, Lq F F' → (∀ a, G a ∨ a ∈ R0 ∨ a ∈ Lr → H' a = H a) → ∀ p, p ∈ r.P → ∃ v Lr, σ[p.1]? = some (some v) ∧ Rel X.K r.ct F' H' p.2 v Lr ∧ ∀ a, a ∈ Lr → N a := fun l gg p hp =>
    let ⟨v, Lr, h1, h2, h3⟩ := C.pr p hp
    ⟨v, Lr, h1, h2.mono l fun a ha => gg a (.inl (C.ng a (h3 a ha))), h3⟩
  have st : ∀ {F' H' : Hp} {e' : Env} {Le' : List Addr}, Lq F F' → (∀ a, G a ∨ a ∈ R0 ∨ a ∈ Lr → H' a = H a) → Stp false F H F' H' e e' Le Le' G := fun l gg => ⟨l, fun a ha => gg a (.inl ha), fun z => by cases z⟩
  have wf' : ∀ {F' H' : Hp} {Lm L9 Le' : List Addr}, Le'.Perm (Lm ++ R0) → WF F' H' (Lm ++ L9) (fun a => G a ∨ a ∈ R0 ∨ a ∈ Lr) → WF F' H' (Le' ++ L9) G := fun {F' H' Lm L9 Le'} pe w => by
    have nw := List.nodup_append.mp w.nd
    have o0 : ∀ a, a ∈ Lm → ¬ a ∈ R0 := fun a ha z => (w.out a (List.mem_append_left _ ha)).2.2 (.inr (.inl z))
    refine ⟨w.sub, List.nodup_append.mpr ⟨pe.nodup_iff.mpr (List.nodup_append.mpr ⟨nw.1, nde.2.1, fun a ha b hb z => o0 a ha (by rw [z]; exact hb)⟩), nw.2.1, fun a ha b hb z => ?_⟩, fun a ha => ?_, fun a ha => w.gd a (.inl ha)⟩
    · subst z
      rcases List.mem_append.mp (pe.mem_iff.mp ha) with h | h
      · exact nw.2.2 a h a hb rfl
      · exact (w.out a (List.mem_append_right _ hb)).2.2 (.inr (.inl h))
    · rcases List.mem_append.mp ha with h | h
      · rcases List.mem_append.mp (pe.mem_iff.mp h) with h | h
        · obtain ⟨o1, o2, o3⟩ := w.out a (List.mem_append_left _ h)
          exact ⟨o1, o2, fun z => o3 (.inl z)⟩
        · obtain ⟨o1, o2⟩ := w.gd a (.inr (.inl h))
          exact ⟨o1, o2, (C.wf.out a (List.mem_append_left _ (inE a h))).2.2⟩
      · obtain ⟨o1, o2, o3⟩ := w.out a (List.mem_append_right _ h)
        exact ⟨o1, o2, fun z => o3 (.inl z)⟩
  cases ho : g (dm :: (ds ++ dds)) with
  | no => rw [ho] at k; exact k
  | ex x m' =>
    rw [ho] at k
    intro cls dd F' H' Lm l gg w hx hm
    obtain ⟨Le', k1, k2⟩ := put F' H' m' Lm l (fun a ha => gg a (.inr (.inl ha))) hm
    have w2 := wf' (L9 := []) k2 (by rw [List.append_nil]; exact w)
    exact k cls dd F' H' Le' (st l gg) ⟨w2, k1, .nil, pr l gg, C.ng, C.zs⟩ hx
  | ok d m' =>
    rw [ho] at k
    intro v F' H' Lm Lr' l gg w rel hm
    obtain ⟨Le', k1, k2⟩ := put F' H' m' Lm l (fun a ha => gg a (.inr (.inl ha))) hm
    exact k v F' H' Le' Lr' _ rfl (st l gg) ⟨wf' k2 w, k1, .own rel .nil (by rw [List.append_nil]), pr l gg, C.ng, C.zs⟩
def isObj (c : Nat) (nm : String) : D → Bool
  | .obj c' fs => decide (c' = c) && (getF nm fs).isNone
  | _ => false
theorem isObj_R {cn : Nat} {nm : String} (v : V) (H : Hp) (d : D) (F : Hp) (L : List Addr) (h : isObj cn nm d = true) (rel : Rel X.K r.ct F H d v L) : ∃ a dx fs, v = .ref a ∧ H a = some (.ins (r.ct cn) dx fs) ∧ fs.lookup (Str.ofString nm) = none := by
  cases d with
  | obj c' fs =>
    simp only [isObj, Bool.and_eq_true, decide_eq_true_eq, Option.isNone_iff_eq_none] at h
    obtain ⟨rfl, h2⟩ := h
    obtain ⟨x, dx, vs, L', e1, e2, rf, _⟩ := rel.obj_inv
    exact ⟨x, dx, vs, e1, e2, rf.none h2⟩
  | _ => cases h
/-- the core of such a call: the receiver's reading, then the arguments -/
theorem callP_run {chk : D → Bool} {t : TE} {σ : L2.St} {H : Hp} {Q : V → Hp → Prop} {Rv Q' : V → Hp → Prop} (hk : ∀ {σ : L2.St} {H : Hp} {Q : V → Hp → Prop} {v : V} {d : D} {env : Env} {F : Hp} {L : List Addr}, ERel X.K r.ct F H env σ L → PAt r.ct H σ p env v d → Q v H → t σ H Q)
    (hR : ∀ (v : V) (H : Hp) (d : D) (F : Hp) (L : List Addr), chk d = true → Rel X.K r.ct F H d v L → Rv v H) (hc : compat ks ms = true) (hp : q = true ∨ p.isSl = true) (hdd : ∀ F H N, ArgR X.K r.ct F H N msd dds dvs [])
    (h : TXr X r (rD false) false [] (callPW chk p g dds ks m) σ H Q)
    (hQ : ∀ v H1, Rv v H1 → TXr X r (rK σ r.P ks) q [] m σ H1 (fun vs H2 => SpW X.K r.ct true (ms ++ msd) g (v :: (vs ++ dvs)) H2 Q (WE r.W σ)) → Q' v H1) : t σ H Q' := by
  obtain ⟨F, e, Le, Lp, N, G, Z, hz, C, k⟩ := h
  cases hg : p.get e with
  | none => simp only [callPW, hg] at k
  | some d0 =>
    cases hch : chk d0 with
    | false => simp only [callPW, hg, hch, if_neg Bool.false_ne_true] at k
    | true =>
      obtain ⟨v0, pa⟩ := C.er.pat hg
      obtain ⟨L0, R0, r0, _, _⟩ := C.er.focus pa
      refine hk C.er pa (hQ v0 H (hR v0 H d0 F L0 hch r0) ⟨F, e, Le, Lp, N, G, Z, hz, C, ?_⟩)
      simp only [callPW, hg, hch, if_true] at k
      cases hme : m e with
      | no => simp only [bd, hme] at k
      | ex x e1 =>
        simp only [bd, hme] at k
        exact k
      | ok ds e1 =>
        simp only [bd, hme] at k
        intro vs F1 H1 Le1 Lp1 pl hr s1 C1
        cases hg1 : p.get e1 with
        | none => simp only [hg1] at k
        | some dm =>
          simp only [hg1] at k
          cases hbo : borOk ks ds with
          | false => simp only [hbo, if_neg Bool.false_ne_true] at k
          | true =>
            simp only [hbo, if_true] at k
            have pa1 := pat_again hp C.er pa s1 C1 hg1
            refine call_endP C1 hr hc hdd pa1 hbo ?_
            cases hfp : finP p (g (dm :: (ds ++ dds))) e1 with
            | no => rw [hfp] at k; exact k
            | ex x e2 =>
              rw [hfp] at k
              exact fun cls dd F' H' Le' s c hx => k cls dd F' H' Le' (s1.off.trans s) c hx
            | ok d e2 =>
              rw [hfp] at k
              exact fun y F' H' Le' Lp' pl' hr' s c => k y F' H' Le' Lp' pl' hr' (s1.off.trans s) c
/-- f(place, ..): the first argument may be changed -/
theorem je_callP {k : Nat} {x : Str} (B : Glb X.prog X.w X.K X.mg X.base x k dvs (SpW X.K r.ct true (ms ++ msd) g)) (cl : Cal X r k) (hg : Gl X x)
    (hdd : ∀ F H N, ArgR X.K r.ct F H N msd dds dvs []) (ho : JPl X r o p) (ha : JK X r q ks es m) (hc : compat ks ms = true := by rfl) (hp : q = true ∨ p.isSl = true := by first | exact .inl rfl | exact .inr rfl)
    (hdb : (x == ("__debug__" : Str)) = false := by decide) (he : starEach (o :: es) X.env = (false, eval o X.env) :: starEach es X.env := by rfl) (hpl : (backTo pos (starEach es X.env)).any (·.1) = false := by rfl) :
    JE X r false false (.Call (.Name x p0) (o :: es) [] pos) (callPW (fun _ => true) p g dds ks m) := by
  obtain ⟨t, ht, hk2⟩ := ho
  obtain ⟨f, fd, ps, dsv, F, hm, hk, hb, hd⟩ := B.ex
  refine peImp (pe_callD F cl.rm cl.gd hg hm hk hb hd (fun σ => passAt cl.tk σ) (pa_cons ht ha he) hdb he hpl) fun σ H Q h => ?_
  show t σ H _
  exact callP_run (t := t) (Rv := fun _ _ => True) (q := q) hk2 (fun _ _ _ _ _ _ _ => trivial) hc hp hdd h fun v H1 _ hq => hq
theorem je_meth {k : Nat} {nm : String} {cn : Nat} {e0 : Expr} {pl : Sem Bool} (B : Mth X.prog X.w X.K X.mg X.base (r.ct cn) (Str.ofString nm) k dvs (SpW X.K r.ct true (ms ++ msd) g)) (cl : Cal X r k)
    (hdd : ∀ F H N, ArgR X.K r.ct F H N msd dds dvs []) (ho : JPl X r o p) (ha : JK X r q ks (e0 :: es) m) (hc : compat ks ms = true := by rfl) (hp : q = true ∨ p.isSl = true := by first | exact .inl rfl | exact .inr rfl)
    (hst : starEach (e0 :: es) X.env = (false, eval e0 X.env) :: starEach es X.env := by rfl) (hpl : (backTo pos (starEach es X.env)).any (·.1) = false := by rfl)
    (ht : eval (.Call (.Attribute o (Str.ofString nm) apos) (e0 :: es) [] pos) X.env = (do
      let ov ← eval o X.env
      standAt apos.atName
      let (f, first) ← holding [ov] (getMethod ov (Str.ofString nm) pl)
      callWith pos f first (backTo pos (starEach (e0 :: es) X.env)) (backToKw pos (keywordEach [] X.env))) := by rfl) :
    JE X r false false (.Call (.Attribute o (Str.ofString nm) apos) (e0 :: es) [] pos) (callPW (isObj cn nm) p g dds ks m) := by
  obtain ⟨t, ht2, hk2⟩ := ho
  obtain ⟨f, fd, ps, dsv, F, hm, hb, hd⟩ := B.ex
  refine peImp (pe_methD ht2 B.cls hm F cl.rm cl.gd hb hd (fun σ => passAt cl.tk σ) ha hst hpl ht) fun σ H Q h => ?_
  show t σ H _
  exact callP_run (t := t) (Rv := fun v H => ∃ a dx fs, v = .ref a ∧ H a = some (.ins (r.ct cn) dx fs) ∧ fs.lookup (Str.ofString nm) = none) (q := q) hk2 isObj_R hc hp hdd h fun v H1 ⟨a, dx, fs, h1, h2, h3⟩ hq => ⟨a, dx, fs, h1, h2, h3, hq⟩
theorem je_meth0 {k : Nat} {nm : String} {cn : Nat} {pl : Sem Bool} (B : Mth X.prog X.w X.K X.mg X.base (r.ct cn) (Str.ofString nm) k dvs (SpW X.K r.ct true ([] ++ msd) g)) (cl : Cal X r k)
    (hdd : ∀ F H N, ArgR X.K r.ct F H N msd dds dvs []) (ho : JPl X r o p)
    (ht : eval (.Call (.Attribute o (Str.ofString nm) apos) [] [] pos) X.env = (do
      let ov ← eval o X.env
      standAt apos.atName
      let (f, first) ← holding [ov] (getMethod ov (Str.ofString nm) pl)
      callWith pos f first (backTo pos (starEach [] X.env)) (backToKw pos (keywordEach [] X.env))) := by rfl) :
    JE X r false false (.Call (.Attribute o (Str.ofString nm) apos) [] [] pos) (callPW (isObj cn nm) p g dds [] argN) := by
  obtain ⟨t, ht2, hk2⟩ := ho
  obtain ⟨f, fd, ps, dsv, F, hm, hb, hd⟩ := B.ex
  refine peImp (pe_methD0 ht2 B.cls hm F cl.rm cl.gd hb hd (fun σ => passAt cl.tk σ) ht) fun σ H Q h => ?_
  show t σ H _
  refine callP_run (t := t) (ms := []) (Rv := fun v H => ∃ a dx fs, v = .ref a ∧ H a = some (.ins (r.ct cn) dx fs) ∧ fs.lookup (Str.ofString nm) = none) (q := true) hk2 isObj_R rfl (.inl rfl) hdd h fun v H1 ⟨a, dx, fs, h1, h2, h3⟩ hq => ⟨a, dx, fs, h1, h2, h3, ?_⟩
  obtain ⟨F, e, Le, Lp, N, G, Z, hz, C, k⟩ := hq
  have k' : ∀ y F' H' Le' Lp' pl, rK σ r.P [] [] y pl → Stp true F H1 F' H' e e Le Le' G → Cf X r Z F' H' σ e pl Le' Lp' N G → SpW X.K r.ct true ([] ++ msd) g (v :: (y ++ dvs)) H' Q (WE r.W σ) := k
  exact k' [] F H1 Le Lp [] .nil Stp.refl C
/-- a method that only reads its object -/
def methRW (cn : Nat) (nm : String) (g : List D → O) (dds : List D) (mo : M D) (m : M (List D)) : M D := bd mo fun d0 => if isObj cn nm d0 then bd m (fun ds => fin0 (g (d0 :: (ds ++ dds)))) else stuck
def kdOf (b : Bool) : Ak := if b then .bor else .own
theorem je_methR {k : Nat} {nm : String} {cn : Nat} {e0 : Expr} {pl : Sem Bool} (B : Mth X.prog X.w X.K X.mg X.base (r.ct cn) (Str.ofString nm) k dvs (SpW X.K r.ct false (.ro :: (ms ++ msd)) g)) (cl : Cal X r k)
    (hdd : ∀ F H N, ArgR X.K r.ct F H N msd dds dvs []) (ho : JE X r qa ba o ma) (ha : JK X r qb ks (e0 :: es) m) (hc : compat ks ms = true := by rfl) (hp : qb = true ∨ ba = false := by first | exact .inl rfl | exact .inr rfl)
    (hst : starEach (e0 :: es) X.env = (false, eval e0 X.env) :: starEach es X.env := by rfl) (hpl : (backTo pos (starEach es X.env)).any (·.1) = false := by rfl)
    (ht : eval (.Call (.Attribute o (Str.ofString nm) apos) (e0 :: es) [] pos) X.env = (do
      let ov ← eval o X.env
      standAt apos.atName
      let (f, first) ← holding [ov] (getMethod ov (Str.ofString nm) pl)
      callWith pos f first (backTo pos (starEach (e0 :: es) X.env)) (backToKw pos (keywordEach [] X.env))) := by rfl) :
    JE X r (qa && qb) false (.Call (.Attribute o (Str.ofString nm) apos) (e0 :: es) [] pos) (methRW cn nm g dds ma m) := by
  obtain ⟨f, fd, ps, dsv, F, hm, hb, hd⟩ := B.ex
  refine peImp (pe_methD ho B.cls hm F cl.rm cl.gd hb hd (fun σ => passAt cl.tk σ) ha hst hpl ht) fun σ H Q h => ?_
  refine (TX.bind (rr1 := rD ba) (q1 := qa) (fun z => (both_l z).1) (.inr rfl) h).mono fun v H1 ⟨d0, pl0, hr0, h2⟩ => ?_
  subst hr0
  cases hio : isObj cn nm d0 with
  | false =>
    obtain ⟨F, e, Le, Lp, N, G, Z, hz, C, k⟩ := h2
    simp only [hio, if_neg Bool.false_ne_true, stuck] at k
  | true =>
    simp only [hio, if_true] at h2
    obtain ⟨F0, e, Le, Lp, N, G, Z, hz, C, k⟩ := id h2
    obtain ⟨L1, r1⟩ := Cfg.one C
    obtain ⟨a, dx, fs, e1, e2, e3⟩ := isObj_R v H1 d0 F0 L1 hio r1
    refine ⟨a, dx, fs, e1, e2, e3, ?_⟩
    refine (TX.bind (rr1 := rK σ r.P ks) (q1 := qb) (fun z => (both_l z).2) ?_ h2).mono fun vs H2 ⟨ds, pl, hr, h3⟩ => ?_
    · rcases hp with z | z
      · exact .inl z
      · exact .inr (by rw [z]; rfl)
    obtain ⟨F, e, Le, Lp, N, G, Z, hz, C, k⟩ := TX.out (h3.perm (List.perm_append_comm))
    exact call_end (ks := kdOf ba :: ks) (ms := .ro :: ms) (ds := d0 :: ds) (vs := v :: vs) C (by cases ba; exact .own hr; exact .bor hr) (by cases ba <;> exact hc) hdd k
theorem je_methR0 {k : Nat} {nm : String} {cn : Nat} {pl : Sem Bool} (B : Mth X.prog X.w X.K X.mg X.base (r.ct cn) (Str.ofString nm) k dvs (SpW X.K r.ct false (.ro :: ([] ++ msd)) g)) (cl : Cal X r k)
    (hdd : ∀ F H N, ArgR X.K r.ct F H N msd dds dvs []) (ho : JE X r qa ba o ma)
    (ht : eval (.Call (.Attribute o (Str.ofString nm) apos) [] [] pos) X.env = (do
      let ov ← eval o X.env
      standAt apos.atName
      let (f, first) ← holding [ov] (getMethod ov (Str.ofString nm) pl)
      callWith pos f first (backTo pos (starEach [] X.env)) (backToKw pos (keywordEach [] X.env))) := by rfl) :
    JE X r qa false (.Call (.Attribute o (Str.ofString nm) apos) [] [] pos) (methRW cn nm g dds ma argN) := by
  obtain ⟨f, fd, ps, dsv, F, hm, hb, hd⟩ := B.ex
  refine peImp (pe_methD0 ho B.cls hm F cl.rm cl.gd hb hd (fun σ => passAt cl.tk σ) ht) fun σ H Q h => ?_
  refine (TX.bind (rr1 := rD ba) (q1 := qa) (fun z => z) (.inr rfl) h).mono fun v H1 ⟨d0, pl0, hr0, h2⟩ => ?_
  subst hr0
  cases hio : isObj cn nm d0 with
  | false =>
    obtain ⟨F, e, Le, Lp, N, G, Z, hz, C, k⟩ := h2
    simp only [hio, if_neg Bool.false_ne_true, stuck] at k
  | true =>
    simp only [hio, if_true] at h2
    obtain ⟨F0, e, Le, Lp, N, G, Z, hz, C, k⟩ := TX.out h2
    obtain ⟨L1, r1⟩ := Cfg.one C
    obtain ⟨a, dx, fs, e1, e2, e3⟩ := isObj_R v H1 d0 F0 L1 hio r1
    refine ⟨a, dx, fs, e1, e2, e3, ?_⟩
    exact call_end (ks := [kdOf ba]) (ms := [.ro]) (ds := [d0]) (vs := [v]) C (by cases ba; exact .own .nil; exact .bor .nil) (by cases ba <;> rfl) hdd k

/-! ### a class is called -/
def finMk (o : O) : M D := fun e => match o with
  | .ok .non m => .ok m e
  | .ex x _ => .ex x e
  | _ => .no
def makeW (cn : Nat) (g : List D → O) (dds : List D) (m : M (List D)) : M D := bd m fun ds => finMk (g (.obj cn [] :: (ds ++ dds)))
theorem make_end {Z : List (Nat × V)} {F H : Hp} {σ : L2.St} {e : Env} {Le Lp : List Addr} {N G : Addr → Prop} {pl : List Pend} {ds : List D} {vs : List V} {Q : V → Hp → Prop} {cn : Nat} {x dx : Addr} (C : Cf X r Z F H σ e pl Le Lp N G) (ra : rK σ r.P ks ds vs pl) (hc : compat ks ms = true)
    (hdd : ∀ F H N, ArgR X.K r.ct F H N msd dds dvs []) (hx : H x = none) (hdx : H dx = none) (hne : dx ≠ x)
    (k : KE X r q N G Z F H σ e Le Q (finMk (g (.obj cn [] :: (ds ++ dds))) e)) : SpW X.K r.ct true (ms ++ msd) g (.ref x :: (vs ++ dvs)) (upd (upd H dx (.own x)) x (.ins (r.ct cn) dx [])) (fun v H2 => v = .non ∧ Q (.ref x) H2) (WE r.W σ) := by
  obtain ⟨Lr, La, p1, p2⟩ := args_ok (In := fun a => a ∈ Le ∨ N a) C.pr ra C.pd hc
  have nd := List.nodup_append.mp C.wf.nd
  have ndp := List.nodup_append.mp (p1.nodup_iff.mp nd.2.1)
  have inR : ∀ a, a ∈ Lr → a ∈ Lp := fun a ha => p1.mem_iff.mpr (List.mem_append_right _ ha)
  have inA : ∀ a, a ∈ La → a ∈ Lp := fun a ha => p1.mem_iff.mpr (List.mem_append_left _ ha)
  have hn : ∀ a, H a ≠ none → upd (upd H dx (.own x)) x (.ins (r.ct cn) dx []) a = H a := fun a ha => by
    rw [upd_ne fun z => ha (by rw [z]; exact hx), upd_ne fun z => ha (by rw [z]; exact hdx)]
  have hFx : F x = none := C.wf.sub.none hx
  have aR := (p2 (fun a => G a ∨ a ∈ Le ∨ a ∈ Lr) (fun a ha => .inl (C.ng a ha)) (.inl fun a ha => ha.elim (fun z => .inr (.inl z)) fun z => .inl (C.ng a z)) fun a ha => .inr (.inr ha)).append (hdd F H _)
  have ln := aR.len
  have here : ∀ a, G a ∨ a ∈ Le ∨ a ∈ Lr → F a = none ∧ H a ≠ none := fun a ha => by
    rcases ha with z | z | z
    · exact C.wf.gd a z
    · obtain ⟨o1, o2, _⟩ := C.wf.out a (List.mem_append_left _ z)
      exact ⟨o1, o2⟩
    · obtain ⟨o1, o2, _⟩ := C.wf.out a (List.mem_append_right _ (inR a z))
      exact ⟨o1, o2⟩
  have aR2 : ∀ {ms : List Pm} {ds : List D} {vs : List V} {La : List Addr}, ArgR X.K r.ct F H (fun a => G a ∨ a ∈ Le ∨ a ∈ Lr) ms ds vs La → (∀ a, a ∈ La → H a ≠ none) → ArgR X.K r.ct F (upd (upd H dx (.own x)) x (.ins (r.ct cn) dx [])) (fun a => G a ∨ a ∈ Le ∨ a ∈ Lr) ms ds vs La := fun {ms ds vs La} h hl => by
    induction h with
    | nil => exact .nil
    | ro r hN _ ih => exact .ro (r.mono (Lq.refl F) fun a ha => hn a (here a (hN a ha)).2) hN (ih hl)
    | va r _ e ih => exact .va (r.mono (Lq.refl F) fun a ha => hn a (hl a (by rw [e]; exact List.mem_append_left _ ha))) (ih fun a ha => hl a (by rw [e]; exact List.mem_append_right _ ha)) e
  have outA : ∀ a, a ∈ La → F a = none ∧ H a ≠ none ∧ ¬ G a := fun a ha => C.wf.out a (List.mem_append_right _ (inA a ha))
  have wf : WF F (upd (upd H dx (.own x)) x (.ins (r.ct cn) dx [])) ([x] ++ La) (fun a => G a ∨ a ∈ Le ∨ a ∈ Lr) := by
    refine ⟨fun a u q => ?_, List.nodup_cons.mpr ⟨fun h => (outA x h).2.1 hx, ndp.1⟩, fun a ha => ?_, fun a ha => ?_⟩
    · have h1 := C.wf.sub a u q
      rw [hn a (by rw [h1]; simp)]; exact h1
    · rcases List.mem_cons.mp ha with h | h
      · subst h
        exact ⟨hFx, by rw [upd_same]; simp, fun z => (here a z).2 hx⟩
      · obtain ⟨o1, o2, o3⟩ := outA a h
        refine ⟨o1, by rw [hn a o2]; exact o2, fun z => ?_⟩
        rcases z with z | z | z
        · exact o3 z
        · exact nd.2.2 a z a (inA a h) rfl
        · exact ndp.2.2 a h a z rfl
    · obtain ⟨o1, o2⟩ := here a ha
      exact ⟨o1, by rw [hn a o2]; exact o2⟩
  refine ⟨by simp [k0, ln.2]; omega, F, .obj cn [], .ref x, ds ++ dds, vs ++ dvs, [x], La, _, _, rfl, .obj upd_same .nil rfl, aR2 aR fun a ha => (outA a ha).2.1, wf, fun _ h => h, ?_⟩
  have gH : ∀ {H' : Hp}, (∀ a, G a ∨ a ∈ Le ∨ a ∈ Lr → H' a = upd (upd H dx (.own x)) x (.ins (r.ct cn) dx []) a) → ∀ a, G a ∨ a ∈ Le ∨ a ∈ Lr → H' a = H a := fun gg a ha => (gg a ha).trans (hn a (here a ha).2)
  have er : ∀ {F' H' : Hp}, Lq F F' → (∀ a, G a ∨ a ∈ Le ∨ a ∈ Lr → H' a = H a) → ERel X.K r.ct F' H' e σ Le := fun l gg => C.er.mono l fun a ha => gg a (.inr (.inl ha))
  have pr : ∀ {F' H' : Hp}, Lq F F' → (∀ a, G a ∨ a ∈ Le ∨ a ∈ Lr → H' a = H a) → ∀ p, p ∈ r.P → ∃ v Lr, σ[p.1]? = some (some v) ∧ Rel X.K r.ct F' H' p.2 v Lr ∧ ∀ a, a ∈ Lr → N a := fun l gg p hp =>
    let ⟨v, Lr, h1, h2, h3⟩ := C.pr p hp
    ⟨v, Lr, h1, h2.mono l fun a ha => gg a (.inl (C.ng a (h3 a ha))), h3⟩
  have st : ∀ {q : Bool} {F' H' : Hp}, Lq F F' → (∀ a, G a ∨ a ∈ Le ∨ a ∈ Lr → H' a = H a) → Stp q F H F' H' e e Le Le G := fun l gg => ⟨l, fun a ha => gg a (.inl ha), fun _ => ⟨rfl, rfl, fun a ha => gg a (.inr (.inl ha))⟩⟩
  have wf' : ∀ {F' H' : Hp} {L9 : List Addr}, WF F' H' L9 (fun a => G a ∨ a ∈ Le ∨ a ∈ Lr) → WF F' H' (Le ++ L9) G := fun {F' H' L9} w => by
    refine ⟨w.sub, List.nodup_append.mpr ⟨nd.1, w.nd, fun a ha b hb z => ?_⟩, fun a ha => ?_, fun a ha => w.gd a (.inl ha)⟩
    · subst z
      exact (w.out a hb).2.2 (.inr (.inl ha))
    · rcases List.mem_append.mp ha with h | h
      · obtain ⟨o1, o2⟩ := w.gd a (.inr (.inl h))
        exact ⟨o1, o2, (C.wf.out a (List.mem_append_left _ h)).2.2⟩
      · obtain ⟨o1, o2, o3⟩ := w.out a h
        exact ⟨o1, o2, fun z => o3 (.inl z)⟩
  show KF X.K r.ct true (.ref x) F _ _ _ _ (g (.obj cn [] :: (ds ++ dds)))
  cases ho : g (.obj cn [] :: (ds ++ dds)) with
  | no => rw [ho] at k; exact k
  | ex y m' =>
    rw [ho] at k
    intro cls dd F' H' Lm l gg w hx hm
    have w2 : WF F' H' (Le ++ []) G := wf' (w.of_sub List.nodup_nil fun a ha => absurd ha (by simp))
    exact k cls dd F' H' Le (st l (gH gg)) ⟨w2, er l (gH gg), .nil, pr l (gH gg), C.ng, C.zs⟩ hx
  | ok d m' =>
    rw [ho] at k
    intro v F' H' Lm Lr' l gg w rel hm
    cases d with
    | non =>
      cases rel
      exact ⟨rfl, k (.ref x) F' H' Le Lm _ rfl (st l (gH gg)) ⟨wf' (w.of_sub (by have := w.nd; rwa [List.append_nil] at this) fun a ha => List.mem_append_left _ ha), er l (gH gg), .own (show Rel X.K r.ct F' H' m' (.ref x) Lm from hm) .nil (by rw [List.append_nil]), pr l (gH gg), C.ng, C.zs⟩⟩
    | _ => exact (show False from k).elim
theorem je_make {k cn : Nat} {x : Str} {e0 : Expr} (B : Mkr X.prog X.w X.K X.mg X.base x (r.ct cn) k dvs (SpW X.K r.ct true (ms ++ msd) g)) (cl : Cal X r (k + 1)) (hg : Gl X x)
    (hdd : ∀ F H N, ArgR X.K r.ct F H N msd dds dvs []) (ha : JK X r q ks (e0 :: es) m) (hc : compat ks ms = true := by rfl)
    (hdb : (x == ("__debug__" : Str)) = false := by decide) (he : starEach (e0 :: es) X.env = (false, eval e0 X.env) :: starEach es X.env := by rfl) (hpl : (backTo pos (starEach es X.env)).any (·.1) = false := by rfl) :
    JE X r q false (.Call (.Name x p0) (e0 :: es) [] pos) (makeW cn g dds m) := by
  obtain ⟨f, fd, ps, dsv, F, M, hm, hb, hd⟩ := B.ex
  exact peImp (pe_makeD M F cl.rm cl.gd hg hm hb hd (fun σ => passAt cl.tk σ) ha hdb he hpl) fun σ H Q h => by
    refine (TX.bind (rr1 := rK σ r.P ks) (q1 := q) (fun z => z) (.inr rfl) h).mono fun vs H1 ⟨ds, pl, hr, h2⟩ => ?_
    obtain ⟨F, e, Le, Lp, N, G, Z, hz, C, k⟩ := TX.out h2
    rw [List.append_nil] at C
    exact fun x dx hx hdx hne => make_end C hr hc hdd hx hdx hne k
end
end Ow
end

section
set_option linter.all false
set_option autoImplicit false
set_option maxRecDepth 100000
set_option maxHeartbeats 4000000
/-! OwI: more of Python: what is never reached, isinstance, texts, repr, slices with steps, augmented stores, chains. -/
namespace Ow
open PySem PySem.Spec L2
open PyProof.Rows hiding St

section
variable {X : Cx} {r : Rd} {a b c o : Expr} {es : List Expr} {ma mb mc : M D} {m : M (List D)} {m1 m2 : S} {tc : M Bool} {pos apos cpos p0 p : Pos} {q qa qb qc ba bb bc : Bool}
/-- a statement that is not reached -/
theorem js_never {st : Stmt} : JS X r st stuck := psImp ps_never fun D σ H h => by
  obtain ⟨F, e, Le, N, G, Z, hz, C, k⟩ := h
  exact k

/-! ### a slot read only for a while -/
theorem Cfg.back {i : Nat} {d : D} {v : V} {L1 Le Lp : List Addr} {Z : List (Nat × V)} {F F' H H' : Hp} {σ σ' : L2.St} {e e' : Env} {Le0 : List Addr} {ps : List Pend} {N G : Addr → Prop} (hz : Z.map (·.1) = r.zs) (hP : r.P.all (fun p => r.zs.contains p.1) = true) (C : Cf X r Z F H σ e [] Le0 [] N G) (rel : Rel X.K r.ct F H d v L1) (inL : ∀ x, x ∈ L1 → x ∈ Le0) (nd : L1.Nodup)
    (hps : ps.all (fun p => !p.1) = true) (l : Lq F F') (g : ∀ x, G x ∨ x ∈ L1 → H' x = H x) (C' : Cf X (r.ro i d) ((i, v) :: Z) F' H' σ' e' ps Le Lp (fun x => N x ∨ x ∈ L1) (fun x => G x ∨ x ∈ L1)) :
    ∃ Le', Cf X r Z F' H' σ' (st i (some d) e') ps Le' Lp N G := by
  have hil : i < e'.length := by
    have h1 := C'.zs (i, v) List.mem_cons_self
    have h2 := C'.er.length
    have h3 := (List.getElem?_eq_some_iff.mp h1).1
    omega
  have hr : ∀ p, p ∈ r.P → ∃ v Lr, σ'[p.1]? = some (some v) ∧ Rel X.K r.ct F' H' p.2 v Lr ∧ ∀ a, a ∈ Lr → N a := fun p hp => by
    obtain ⟨w, Lr, g1, g2, g3⟩ := C.pr p hp
    have hin : p.1 ∈ r.zs := by simpa using List.all_eq_true.mp hP p hp
    rw [← hz] at hin
    obtain ⟨z, hz1, hz2⟩ := List.mem_map.mp hin
    have e1 := C.zs z hz1
    have e2 := C'.zs z (List.mem_cons_of_mem _ hz1)
    rw [hz2] at e1 e2
    rw [g1] at e1
    cases e1
    exact ⟨_, Lr, e2, g2.mono l fun x hx => g x (.inl (C.ng x (g3 x hx))), g3⟩
  obtain ⟨Le', c, _⟩ := C'.unlend hps rel l (fun x hx => g x (.inr hx)) nd hr C.ng hil (fun x hx => (C.wf.out x (List.mem_append_left _ (inL x hx))).2.2)
  exact ⟨Le', c⟩
theorem js_ro {i : Nat} {stm : Stmt} {f : D → S} (h : ∀ d, JS X (r.ro i d) stm (f d)) (hP : r.P.all (fun p => r.zs.contains p.1) = true := by rfl) : JS X r stm (withRo i f) := by
  refine ⟨fun pins s σ H D I hh => ?_⟩
  obtain ⟨F, e, Le, N, G, Z, hz, C, k⟩ := hh
  cases hg : gt i e with
  | none => simp only [withRo, hg] at k; exact (show False from k).elim
  | some d =>
    simp only [withRo, hg] at k
    obtain ⟨v, L1, L2, t1, rel, in1, in2, nd, C'⟩ := Cfg.lend (ps := []) (Lp := []) C hg
    have nd1 := (List.nodup_append.mp nd).1
    refine (h d).run pins s σ H D I ⟨F, st i none e, L2, _, _, (i, v) :: Z, by simp [Rd.ro, hz], C', ?_⟩
    have gg : ∀ {F' H' : Hp} {e' : Env} {Le' : List Addr}, Stp false F H F' H' (Ow.st i none e) e' L2 Le' (fun x => G x ∨ x ∈ L1) → ∀ x, G x ∨ x ∈ L1 → H' x = H x := fun s x hx => s.gd x hx
    have sg : ∀ {F' H' : Hp} {e' e'' : Env} {Le' Le'' : List Addr}, Stp false F H F' H' (Ow.st i none e) e' L2 Le' (fun x => G x ∨ x ∈ L1) → Stp false F H F' H' e e'' Le Le'' G := fun s => ⟨s.le, fun x hx => s.gd x (.inl hx), fun z => by cases z⟩
    cases hm : f d (Ow.st i none e) with
    | no => rw [hm] at k; exact k
    | ex x e' =>
      rw [hm] at k
      intro σ' cls dd F' H' Le' s1 c hx
      obtain ⟨Le'', c2⟩ := Cfg.back hz hP C rel in1 nd1 rfl s1.le (gg s1) c
      exact k σ' cls dd F' H' Le'' (sg s1) c2 hx
    | ok fl e' =>
      rw [hm] at k
      cases fl with
      | next =>
        intro σ' F' H' Le' s1 c
        obtain ⟨Le'', c2⟩ := Cfg.back hz hP C rel in1 nd1 rfl s1.le (gg s1) c
        exact k σ' F' H' Le'' (sg s1) c2
      | brk =>
        intro σ' F' H' Le' s1 c
        obtain ⟨Le'', c2⟩ := Cfg.back hz hP C rel in1 nd1 rfl s1.le (gg s1) c
        exact k σ' F' H' Le'' (sg s1) c2
      | cont =>
        intro σ' F' H' Le' s1 c
        obtain ⟨Le'', c2⟩ := Cfg.back hz hP C rel in1 nd1 rfl s1.le (gg s1) c
        exact k σ' F' H' Le'' (sg s1) c2
      | ret dr =>
        intro σ' F' H' Le' Lp' vr s1 c
        obtain ⟨Le'', c2⟩ := Cfg.back hz hP C rel in1 nd1 rfl s1.le (gg s1) c
        exact k σ' F' H' Le'' Lp' vr (sg s1) c2
theorem je_wro {i : Nat} {f : D → M D} (h : ∀ d, JE X (r.ro i d) q false a (f d)) (hP : r.P.all (fun p => r.zs.contains p.1) = true := by rfl) : JE X r false false a (withRo i f) := by
  refine ⟨fun pins s σ H Q I hh => ?_⟩
  obtain ⟨F, e, Le, Lp, N, G, Z, hz, C0, k⟩ := TX.out hh
  have C := C0.clear
  cases hg : gt i e with
  | none => simp only [withRo, hg] at k; exact (show False from k).elim
  | some d =>
    simp only [withRo, hg] at k
    obtain ⟨v, L1, L2, t1, rel, in1, in2, nd, C'⟩ := Cfg.lend (ps := []) (Lp := []) C hg
    have nd1 := (List.nodup_append.mp nd).1
    refine (h d).run pins s σ H Q I ⟨F, st i none e, L2, [], _, _, (i, v) :: Z, by simp [Rd.ro, hz], C', ?_⟩
    have sg : ∀ {q : Bool} {F' H' : Hp} {e' e'' : Env} {Le' Le'' : List Addr}, Stp q F H F' H' (Ow.st i none e) e' L2 Le' (fun x => G x ∨ x ∈ L1) → Stp false F H F' H' e e'' Le Le'' G := fun s => ⟨s.le, fun x hx => s.gd x (.inl hx), fun z => by cases z⟩
    cases hm : f d (Ow.st i none e) with
    | no => rw [hm] at k; exact k
    | ex x e' =>
      rw [hm] at k
      intro cls dd F' H' Le' s1 c hx
      obtain ⟨Le'', c2⟩ := Cfg.back hz hP C rel in1 nd1 rfl s1.le (fun x hx => s1.gd x hx) c
      exact k cls dd F' H' Le'' (sg s1) c2 hx
    | ok dr e' =>
      rw [hm] at k
      intro y F' H' Le' Lp' pl hr s1 c
      subst hr
      obtain ⟨Le'', c2⟩ := Cfg.back hz hP C rel in1 nd1 rfl s1.le (fun x hx => s1.gd x hx) c
      exact k y F' H' Le'' Lp' _ rfl (sg s1) c2

/-! ### isinstance -/
def tyD : D → Option String
  | .non => some "NoneType"
  | .bl _ => some "bool"
  | .int _ => some "int"
  | .str _ => some "str"
  | .tup _ => some "tuple"
  | .lst _ _ => some "list"
  | _ => none
theorem tyD_of {K : PySem.W.Frag} {ct : Nat → Addr} {F H : Hp} {d : D} {v : V} {L : List Addr} {T : String} (s : Lq F H) (rel : Rel K ct F H d v L) (h : tyD d = some T) : TyX K H v (.type T) := by
  have lst : ∀ {a : Addr} {vs : List V}, SqL K H a vs → TyX K H (.ref a) (.type "list") := fun {a vs} q => by
    rcases q with (q | ⟨o, q⟩) | ⟨o, its, n, q1, q2, _⟩
    · exact .base (.lst q)
    · exact .base (.frz q)
    · exact .kList q1 q2
  have tup : ∀ {a : Addr} {vs : List V}, SqT K H a vs → TyX K H (.ref a) (.type "tuple") := fun {a vs} q => by
    rcases q with (q | ⟨o, q⟩) | ⟨o, its, n, q1, q2, _⟩
    · exact .base (.tup q)
    · exact .fTuple q
    · exact .kTuple q1 q2
  cases d with
  | non => cases h; cases rel; exact .base .non
  | bl b => cases h; cases rel; exact .base (.bl b)
  | int i => cases h; cases rel; exact .base (.int i)
  | str x => cases h; cases rel; exact .base (.str _)
  | tup ds =>
    cases h
    obtain ⟨a, vs, rfl, q1, _⟩ := rel.tup_inv s
    exact tup q1
  | lst o ds =>
    cases h
    obtain ⟨a, vs, L', rfl, q1, _⟩ := rel.lst_inv s
    exact lst q1
  | _ => cases h
def isiD (T : String) (d : D) : Option D := (tyD d).bind fun t => (kitB t T).map .bl
def isiTD : List String → D → Option D
  | [], d => (tyD d).map fun _ => .bl false
  | T :: Ts, d => match isiD T d with
    | some (.bl true) => some (.bl true)
    | some (.bl false) => isiTD Ts d
    | _ => none
theorem je_isi {x : Str} {T : String} (hg : Gl X "isinstance") (hm : X.mg "isinstance" = none) (hgT : Gl X x) (hmT : X.mg x = none) (hvT : bootBuiltins x = some (.type T)) (ha : JE X r q ba a ma)
    (hn : x ≠ "__name__" := by decide) (hd : (x == ("__debug__" : Str)) = false := by decide)
    (hs : starEach [a, .Name x p0] X.env = (false, eval a X.env) :: starEach [.Name x p0] X.env := by rfl) (hs2 : starEach [.Name x p0] X.env = (false, eval (.Name x p0) X.env) :: starEach [] X.env := by rfl) (hpl : (backTo pos (starEach [.Name x p0] X.env)).any (·.1) = false := by rfl) :
    JE X r q false (.Call (.Name "isinstance" p) [a, .Name x p0] [] pos) (bd ma fun d => Ow.op (isiD T d)) :=
  peImp (pe_callB call_isi hg hm boot_isinstance (pa_cons ha (pa_cons (pe_bltn (v := .ty T) hgT hmT hvT rfl hn hd) pa_nil hs2) hs) (by decide) (by decide) hs hpl) fun σ H Q h => by
    refine (TX.bind (rr1 := rD ba) (q1 := q) (fun z => z) (.inr rfl) h).mono fun v H1 ⟨d, pl, hr, h2⟩ => ?_
    subst hr
    obtain ⟨F5, e5, Le5, Lp5, N5, G5, Z5, d5, ho, C5, k5⟩ := h2.opD
    obtain ⟨L1, r1⟩ := Cfg.one C5
    unfold isiD at ho
    cases ht : tyD d with
    | none => rw [ht] at ho; cases ho
    | some t =>
      rw [ht] at ho
      cases hk : kitB t T with
      | none => simp [hk] at ho
      | some b =>
        simp [hk] at ho
        subst ho
        exact ⟨v, .ty T, _, _, b, rfl, .ty T, tyD_of C5.wf.sub r1 ht, kit_ty hk, k5 _ _ _ _ (.same C5.wf.sub (.bl b))⟩
theorem isiTD_kit {K : PySem.W.Frag} {d : D} {t : String} (ht : tyD d = some t) : ∀ {Ts : List String} {b : Bool}, isiTD Ts d = some (.bl b) → PySem.W.kitAny K (.type t) (Ts.map Value.type) = some b
  | [], b, h => by
    simp [isiTD, ht] at h
    subst h
    rfl
  | T :: Ts, b, h => by
    simp only [isiTD] at h
    cases hi : isiD T d with
    | none => rw [hi] at h; cases h
    | some z =>
      have hi2 := hi
      unfold isiD at hi2
      rw [ht] at hi2
      cases hk : kitB t T with
      | none => simp [hk] at hi2
      | some b' =>
        simp [hk] at hi2
        subst hi2
        rw [hi] at h
        refine kitAny_cons (kit_ty hk) (fun e => ?_) fun e => ?_
        · subst e; exact isiTD_kit ht h
        · subst e; simp at h; exact h
theorem isiTD_bl {d z : D} : ∀ {Ts : List String}, isiTD Ts d = some z → ∃ b t, z = .bl b ∧ tyD d = some t
  | [], h => by
    simp only [isiTD] at h
    cases ht : tyD d with
    | none => rw [ht] at h; cases h
    | some t => rw [ht] at h; cases h; exact ⟨false, t, rfl, rfl⟩
  | T :: Ts, h => by
    simp only [isiTD] at h
    cases hi : isiD T d with
    | none => rw [hi] at h; cases h
    | some w =>
      rw [hi] at h
      have : ∃ t, tyD d = some t := by
        unfold isiD at hi
        cases ht : tyD d with
        | none => rw [ht] at hi; cases hi
        | some t => exact ⟨t, rfl⟩
      obtain ⟨t, ht⟩ := this
      split at h
      · cases h; exact ⟨true, t, rfl, ht⟩
      · exact isiTD_bl h
      · cases h
/-- isinstance(a, (x, y)) of two built-in types -/
theorem je_isi2 {x y : Str} {T1 T2 : String} {p1 p2 p3 : Pos} {k1 : Nat} (hg : Gl X "isinstance") (hm : X.mg "isinstance" = none) (hgx : Gl X x) (hmx : X.mg x = none) (hvx : bootBuiltins x = some (.type T1)) (hgy : Gl X y) (hmy : X.mg y = none) (hvy : bootBuiltins y = some (.type T2)) (ha : JE X r q ba a ma)
    (hn : x ≠ "__name__" := by decide) (hd : (x == ("__debug__" : Str)) = false := by decide) (hn2 : y ≠ "__name__" := by decide) (hd2 : (y == ("__debug__" : Str)) = false := by decide)
    (hs : starEach [a, .Tuple [.Name x p1, .Name y p2] k1 p3] X.env = (false, eval a X.env) :: starEach [.Tuple [.Name x p1, .Name y p2] k1 p3] X.env := by rfl) (hs2 : starEach [.Tuple [.Name x p1, .Name y p2] k1 p3] X.env = (false, eval (.Tuple [.Name x p1, .Name y p2] k1 p3) X.env) :: starEach [] X.env := by rfl)
    (hs3 : starEach [.Name x p1, .Name y p2] X.env = (false, eval (.Name x p1) X.env) :: starEach [.Name y p2] X.env := by rfl) (hs4 : starEach [.Name y p2] X.env = (false, eval (.Name y p2) X.env) :: starEach [] X.env := by rfl)
    (hpl : (backTo pos (starEach [.Tuple [.Name x p1, .Name y p2] k1 p3] X.env)).any (·.1) = false := by rfl) :
    JE X r q false (.Call (.Name "isinstance" p) [a, .Tuple [.Name x p1, .Name y p2] k1 p3] [] pos) (bd ma fun d => Ow.op (isiTD [T1, T2] d)) :=
  peImp (pe_callB call_isiT hg hm boot_isinstance (pa_cons ha (pa_cons (pe_tup (pa_cons (pe_bltn (v := .ty T1) hgx hmx hvx rfl hn hd) (pa_cons (pe_bltn (v := .ty T2) hgy hmy hvy rfl hn2 hd2) pa_nil hs4) hs3)) pa_nil hs2) hs) (by decide) (by decide) hs hpl) fun σ H Q h => by
    refine (TX.bind (rr1 := rD ba) (q1 := q) (fun z => z) (.inr rfl) h).mono fun v H1 ⟨d, pl, hr, h2⟩ => ?_
    subst hr
    obtain ⟨F5, e5, Le5, Lp5, N5, G5, Z5, d5, ho, C5, k5⟩ := h2.opD
    obtain ⟨L1, r1⟩ := Cfg.one C5
    obtain ⟨b, t, rfl, ht⟩ := isiTD_bl ho
    refine ⟨by show 2 ≤ sizeLine; decide, fun tp htp => ?_⟩
    have hF : F5 tp = none := C5.wf.sub.none htp
    -- the tuple of classes is laid beside
    have sub2 : Lq F5 (upd H1 tp (.tup [.ty T1, .ty T2])) := fun z u hz => by
      rw [upd_ne fun e => by subst e; rw [hF] at hz; cases hz]; exact C5.wf.sub z u hz
    have r2 : Rel X.K r.ct F5 (upd H1 tp (.tup [.ty T1, .ty T2])) d v L1 := r1.mono (Lq.refl _) fun z hz => upd_ne fun e => by subst e; exact r1.there z hz htp
    refine ⟨v, tp, [.ty T1, .ty T2], .type t, [.type T1, .type T2], b, rfl, upd_same, .cons (.ty _) (.cons (.ty _) .nil), tyD_of sub2 r2 ht, isiTD_kit ht ho, ?_⟩
    exact k5 _ F5 _ [] ⟨Lq.refl _, fun z hz => ⟨upd_ne fun e => hz (by rw [e]; exact htp), rfl⟩, sub2, .bl b, fun z hz => absurd hz (by simp), List.nodup_nil⟩

/-! ### texts -/
abbrev mkS := toStr
theorem mkS_toList (s : Str) : mkS s.cps.toList = s := rfl
theorem mkS_length (s : List Nat) : (mkS s).length = s.length := by simp [mkS, toStr, Str.length]
theorem rel_str {K : PySem.W.Frag} {ct : Nat → Addr} {F H : Hp} (s : Str) : Rel K ct F H (.str s.cps.toList) (.str s) [] := Rel.str s.cps.toList
end
section
variable {K : PySem.W.Frag} {ct : Nat → Addr}
def inS (x y : List Nat) : Bool := !(Builtin.Str.occurrences (mkS y) (mkS x) 0 (mkS y).length 1).isEmpty
def inStrD : D → D → Option D
  | .str x, .str y => some (.bl (inS x y))
  | _, _ => none
def notInStrD : D → D → Option D
  | .str x, .str y => some (.bl (!inS x y))
  | _, _ => none
theorem a_inStr : Op2 K ct (fun x y H Q => ∃ i j, x = .str i ∧ y = .str j ∧ Q (.bl (!(Builtin.Str.occurrences j i 0 j.length 1).isEmpty)) H) inStrD := by
  intro F H d1 d2 d v1 v2 L1 L2 Q s r1 r2 h k
  cases d1 <;> first
    | (cases h; done)
    | (cases d2 <;> first | (cases h; done) | (cases h; cases r1; cases r2; exact ⟨_, _, rfl, rfl, to_bl s k⟩))
theorem a_notInStr : Op2 K ct (fun x y H Q => ∃ i j, x = .str i ∧ y = .str j ∧ Q (.bl (!(!(Builtin.Str.occurrences j i 0 j.length 1).isEmpty))) H) notInStrD := by
  intro F H d1 d2 d v1 v2 L1 L2 Q s r1 r2 h k
  cases d1 <;> first
    | (cases h; done)
    | (cases d2 <;> first | (cases h; done) | (cases h; cases r1; cases r2; exact ⟨_, _, rfl, rfl, to_bl s k⟩))
/-- str(x) -/
def strD : D → Option D
  | .int i => if i.natAbs.log2 < 1920 then some (.str (Str.ofString (toString i)).cps.toList) else none
  | .str s => some (.str s)
  | _ => none
theorem c_str : OpC K ct (fun xs H Q => (∃ i, xs = [.int i] ∧ i.natAbs.log2 < 1920 ∧ Q (.str (toString i)) H) ∨ ∃ a, xs = [.str a] ∧ Q (.str a) H) strD := by
  intro F H d1 d v1 L1 Q s r1 h k
  cases d1 with
  | int i =>
    simp only [strD] at h
    split at h
    · rename_i hl
      cases h; cases r1
      exact .inl ⟨_, rfl, hl, k _ _ _ _ (.same s (rel_str _))⟩
    · cases h
  | str x => cases h; cases r1; exact .inr ⟨_, rfl, k _ _ _ _ (.same s (.str _))⟩
  | _ => cases h
theorem call_strA {X : Cx} : CallR X (.type "str") (fun xs H Q => (∃ i, xs = [.int i] ∧ i.natAbs.log2 < 1920 ∧ Q (.str (toString i)) H) ∨ ∃ a, xs = [.str a] ∧ Q (.str a) H) := by
  intro pins s σ H xs us Q I rs h
  rcases h with h | h
  · exact call_str_int pins s σ H xs us Q I rs h
  · exact SkE.call_str_str pins s σ H xs us Q I rs h
/-- int(x) -/
def intAD : D → Option D
  | .int i => some (.int i)
  | .bl b => some (.int (if b then 1 else 0))
  | .str s => if s.length ≤ 640 then (PySem.intText? (mkS s)).map .int else none
  | _ => none
theorem c_intA : OpC K ct (fun xs H Q => ((∃ i, xs = [.int i] ∧ Q (.int i) H) ∨ ∃ k, xs = [.bl k] ∧ Q (.int (if k then 1 else 0)) H) ∨ ∃ a n, xs = [.str a] ∧ PySem.intText? a = some n ∧ a.length ≤ 640 ∧ Q (.int n) H) intAD := by
  intro F H d1 d v1 L1 Q s r1 h k
  cases d1 with
  | int i => cases h; cases r1; exact .inl (.inl ⟨_, rfl, to_int s k⟩)
  | bl i => cases h; cases r1; exact .inl (.inr ⟨_, rfl, to_int s k⟩)
  | str x =>
    simp only [intAD] at h
    split at h
    · rename_i hl
      cases hi : intText? (mkS x) with
      | none => rw [hi] at h; cases h
      | some n =>
        rw [hi] at h
        cases h; cases r1
        exact .inr ⟨_, n, rfl, hi, by rw [show ((⟨x.toArray⟩ : Str)).length = x.length from mkS_length x]; exact hl, to_int s k⟩
    · cases h
  | _ => cases h
theorem call_intA {X : Cx} {R : List V → Hp → VK → Prop} (h0 : CallR X (.type "int") R) : CallR X (.type "int") (fun xs H Q => R xs H Q ∨ ∃ a n, xs = [.str a] ∧ PySem.intText? a = some n ∧ a.length ≤ 640 ∧ Q (.int n) H) := by
  intro pins s σ H xs us Q I rs h
  rcases h with h | h
  · exact h0 pins s σ H xs us Q I rs h
  · exact call_int_str pins s σ H xs us Q I rs h
/-- sep.join(xs) -/
def joinA : D → D → Option D
  | .str sep, .lst _ xs => match strs? xs with
    | some ss => if (ss.map List.length).sum + ss.length * sep.length ≤ lineN then some (.str (Txt.join (mkS sep) (ss.map mkS)).cps.toList) else none
    | none => none
  | _, _ => none
def splitA : D → D → Option D
  | .str x, .str y => if y ≠ [] ∧ x.length + 2 ≤ lineN then some (.lst true ((Txt.split (mkS x) (mkS y)).map fun z => .str z.cps.toList)) else none
  | _, _ => none
theorem RelL.mkStrs {F H : Hp} : ∀ ss : List Str, RelL K ct F H (ss.map fun z => D.str z.cps.toList) (ss.map V.str) []
  | [] => .nil
  | z :: r => .cons (rel_str z) (RelL.mkStrs r) rfl
end
section
variable {X : Cx} {r : Rd} {a b c o : Expr} {es : List Expr} {ma mb mc : M D} {m : M (List D)} {m1 m2 : S} {tc : M Bool} {pos apos cpos p0 p : Pos} {q qa qb qc ba bb bc : Bool}
/-- a text, then another value -/
def sthE (mb ma : M D) (f : D → D → Option D) : M D := bd mb fun s => match s with
  | .str z => bd ma fun x => Ow.op (f (.str z) x)
  | _ => stuck
theorem TX.sth {rr : V → List V → Hp → VK → Prop} {f : D → D → Option D} {σ : L2.St} {H : Hp} {Q : V → Hp → Prop} (hrr : ∀ (F H : Hp) (z : List Nat) (x d : D) (w : V) (L : List Addr) (Q : VK), Lq F H → Rel X.K r.ct F H x w L → f (.str z) x = some d → (∀ v F' H' L, New X.K r.ct F H F' H' d v L → Q v H') → rr (.str (mkS z)) [w] H Q)
    (hc : qb = true ∨ ba = false) (h : TXr X r (rD false) (qa && qb) [] (sthE mb ma f) σ H Q) :
    tM1 rr (TXr X r (rD ba) qa [] mb) (TXr X r (rD bb) qb [] ma) σ H Q := by
  show TXr X r (rD ba) qa [] mb σ H fun x H1 => (∃ a, x = .str a) ∧ TXr X r (rD bb) qb [] ma σ H1 fun y H2 => rr x [y] H2 Q
  refine (TX.bind (rr1 := rD ba) (q1 := qa) (fun z => (both_l z).1) (.inr rfl) h).mono fun v H1 ⟨d, pl, hr, h2⟩ => ?_
  subst hr
  cases d with
  | str z =>
    have hv : v = .str (mkS z) := by
      obtain ⟨F0, e, Le, Lp, N, G, Z, hz, C, k⟩ := id h2
      obtain ⟨L1, r1⟩ := Cfg.one C
      cases r1
      rfl
    subst hv
    refine ⟨⟨_, rfl⟩, ?_⟩
    refine (TX.bind (rr1 := rD bb) (q1 := qb) (fun z => (both_l z).2) ?_ h2).mono fun w H2 ⟨d2, pl2, hr2, h4⟩ => ?_
    · rcases hc with z | z
      · exact .inl z
      · exact .inr (by rw [z]; rfl)
    subst hr2
    obtain ⟨F5, e5, Le5, Lp5, N5, G5, Z5, d5, hop, C5, k5⟩ := h4.opD
    obtain ⟨⟨L2', r2⟩, _⟩ := Cfg.two C5
    exact hrr F5 H2 z d2 d5 w L2' Q C5.wf.sub r2 hop k5
  | _ =>
    obtain ⟨F0, e, Le, Lp, N, G, Z, hz, C, k⟩ := h2
    exact k.elim
theorem je_join (ho : JE X r qa ba o mb) (ha : JE X r qb bb a ma) (hc : qb = true ∨ ba = false := by first | exact .inl rfl | exact .inr rfl)
    (hs : starEach [a] X.env = [(false, eval a X.env)] := by rfl) (hbase : attributeBase o "join" X.env (eval o X.env) = eval o X.env := by rfl) (hline : (apos.endLine == pos.line) = true := by rfl) :
    JE X r (qa && qb) false (.Call (.Attribute o "join" apos) [a] [] pos) (sthE mb ma joinA) :=
  peImp (pe_join ho ha hs hbase hline) fun σ H Q h => TX.sth (fun F H sep d2 d w L Q s r2 hop k => by
    cases d2 with
    | lst ow xs =>
      simp only [joinA] at hop
      cases hss : strs? xs with
      | none => rw [hss] at hop; cases hop
      | some ss =>
        rw [hss] at hop
        dsimp only at hop
        split at hop
        · rename_i hl
          cases hop
          obtain ⟨aa, vs, L', rfl, q1, rs, _⟩ := r2.lst_inv s
          have e := rs.strs hss
          subst e
          refine ⟨mkS sep, aa, ss.map mkS, rfl, rfl, .inl ?_, ?_, k _ _ _ _ (.same s (rel_str _))⟩
          · simpa [mkS, toStr, List.map_map] using q1
          · rw [List.map_map, List.length_map, mkS_length]
            have : (ss.map ((fun z : Str => z.length) ∘ mkS)) = ss.map List.length := List.map_congr_left fun z _ => mkS_length z
            rw [this]
            exact hl
        · cases hop
    | _ => cases hop) hc h
theorem je_split (ho : JE X r qa ba o mb) (ha : JE X r qb bb a ma) (hc : qb = true ∨ ba = false := by first | exact .inl rfl | exact .inr rfl)
    (hs : starEach [a] X.env = [(false, eval a X.env)] := by rfl) (hbase : attributeBase o "split" X.env (eval o X.env) = eval o X.env := by rfl) (hline : (apos.endLine == pos.line) = true := by rfl) :
    JE X r (qa && qb) false (.Call (.Attribute o "split" apos) [a] [] pos) (sthE mb ma splitA) :=
  peImp (pe_split ho ha hs hbase hline) fun σ H Q h => TX.sth (fun F H x d2 d w L Q s r2 hop k => by
    cases d2 with
    | str y =>
      simp only [splitA] at hop
      split at hop
      · rename_i hl
        cases hop
        cases r2
        refine ⟨mkS x, mkS y, rfl, rfl, ?_, by rw [mkS_length, ← lineN_eq]; exact hl.2, fun p hp => k _ _ _ _ (New.list s (RelL.mkStrs _) hp)⟩
        rw [mkS_length]
        have := hl.1
        cases y with
        | nil => exact absurd rfl this
        | cons _ _ => rfl
      · cases hop
    | _ => cases hop) hc h

/-! ### repr -/
def isSeqD : D → Bool
  | .lst _ _ => true
  | .tup _ => true
  | _ => false
def reprD (d : D) : Option D := if d.isData 60 && isSeqD d && (toPy d).showable && !(toPy d).hasDict && decide ((toPy d).shown.length ≤ lineN) then some (.str (toPy d).shown.cps.toList) else none
theorem cr_repr (gd : X.A.guards = some []) (hu : X.A.units + 70 < cLine) : CallR X (.builtin "repr") (fun xs H Q => ∃ a d, xs = [.ref a] ∧ Dp X.K H (.ref a) d ∧ d.showable = true ∧ d.hasDict = false ∧ d.depth ≤ 60 ∧ d.shown.length ≤ sizeLine ∧ Q (.str d.shown) H) := by
  intro pins s σ H xs us Q I rs h
  obtain ⟨a, d, rfl, hd, h1, h2, h3, h4, q⟩ := h
  cases rs with
  | cons r1 rs =>
    cases rs
    obtain ⟨as, rd⟩ := Dp.reads I d _ _ hd r1
    cases r1
    exact repr_of_reads' rd h1 (fun z => by rw [h2] at z; cases z) gd (by omega) (fun _ _ e => e) (fun h' u tk hk => ⟨.str d.shown, H, I.kept (t' := tk) (fun b o e => hk b o e), ⟨u, rfl⟩, q⟩) h4
theorem c_repr {K : PySem.W.Frag} {ct : Nat → Addr} : OpC K ct (fun xs H Q => ∃ a d, xs = [.ref a] ∧ Dp K H (.ref a) d ∧ d.showable = true ∧ d.hasDict = false ∧ d.depth ≤ 60 ∧ d.shown.length ≤ sizeLine ∧ Q (.str d.shown) H) reprD := by
  intro F H d1 d v1 L1 Q s r1 h k
  unfold reprD at h
  split at h
  · rename_i hc
    cases h
    simp only [Bool.and_eq_true, Bool.not_eq_true', decide_eq_true_eq] at hc
    obtain ⟨⟨⟨⟨c1, c2⟩, c3⟩, c4⟩, c5⟩ := hc
    have hdp := dp_of s c1 r1
    have hv : ∃ a, v1 = .ref a := by
      cases d1 with
      | lst o ds => obtain ⟨a, _, _, e, _⟩ := r1.lst_inv s; exact ⟨a, e⟩
      | tup ds => obtain ⟨a, _, e, _⟩ := r1.tup_inv s; exact ⟨a, e⟩
      | _ => cases c2
    obtain ⟨a, rfl⟩ := hv
    exact ⟨a, toPy d1, rfl, hdp, c3, c4, (can_of 60 d1 c1).2, by rw [← lineN_eq]; exact c5, k _ _ _ _ (.same s (rel_str _))⟩
  · cases h
end
end Ow
end

section
set_option linter.all false
set_option autoImplicit false
set_option maxRecDepth 100000
set_option maxHeartbeats 4000000
/-! OwJ: slices with steps, len(set(..)), augmented names, chains, try, sorted, min, max. -/
namespace Ow
open PySem PySem.Spec L2
open PyProof.Rows hiding St

section
variable {X : Cx} {r : Rd} {a b c o : Expr} {es : List Expr} {ma mb mc : M D} {m : M (List D)} {m1 m2 : S} {tc : M Bool} {pos apos cpos p0 p : Pos} {q qa qb qc ba bb bc : Bool}
/-! ### xs[::k], k 1 or -1 -/
def stepD (d : D) (k : Option Int) : Option D := match d, k with
  | .lst _ xs, some i => if noOwnL xs then (if i = 1 then some (.lst true xs) else if i = -1 then some (.lst true xs.reverse) else none) else none
  | _, _ => none
theorem pick_one (items : Array Value) : slicePick items none none (some 1) = items := by
  unfold slicePick
  have h1 : sliceBounds none none (some 1) items.size = (0, (items.size : Int), 1) := by simp [sliceBounds]
  rw [h1]
  have h2 : sliceRange 0 (items.size : Int) 1 = List.range items.size := by
    unfold sliceRange
    by_cases h : (0 : Int) < items.size
    · have h9 : 0 < items.size := by omega
      simp [h9]
    · have : items.size = 0 := by omega
      simp [this]
  show ((sliceRange 0 (items.size : Int) 1).filterMap (items[·]?)).toArray = items
  rw [h2, PySem.W.krv_all]
def stepE (ma : M D) (mk : M (Option Int)) : M D := bd ma fun x => bd mk fun k => Ow.op (stepD x k)
theorem je_step {stp : Expr} {mk : M (Option Int)} {p3 : Pos} (ha : JE X r qa ba a ma) (hk : JO X r qb (some stp) mk) (hc : qb = true ∨ ba = false := by first | exact .inl rfl | exact .inr rfl) :
    JE X r (qa && qb) false (.Subscript a (.Slice none none (some stp) p3) pos) (stepE ma mk) := by
  obtain ⟨tk, pk, ik⟩ := hk
  refine ⟨fun pins s σ H Q I h => ?_⟩
  refine Subscript_ (thn (ha.run pins s σ H _ I (TX.bind (rr1 := rD ba) (q1 := qa) (fun z => (both_l z).1) (.inr rfl) h)) fun v s1 ⟨x, H1, I1, r1, d, pl, hr, h2⟩ => ?_)
  subst hr
  refine wpAny_Slice (thn (po_none.run pins s1 σ H1 (fun o H2 => o = none ∧ H2 = H1) I1 ⟨rfl, rfl⟩) fun vl s2 ⟨l, H2, I2, pll, el, e2⟩ => ?_)
  subst el e2
  refine thn (po_none.run pins s2 σ H2 (fun o H3 => o = none ∧ H3 = H2) I2 ⟨rfl, rfl⟩) fun vu s3 ⟨u, H3, I3, pu, eu, e3⟩ => ?_
  subst eu e3
  refine thn (pk.run pins s3 σ H3 _ I3 (ik _ _ _ (TX.bind (rr1 := rO) (q1 := qb) (fun z => (both_l z).2) ?_ h2))) fun vs s4 ⟨o, H4, I4, ps, k', pl2, ⟨e1, e2⟩, h4⟩ => ?_
  · rcases hc with z | z
    · exact .inl z
    · exact .inr (by rw [z]; rfl)
  subst e1 e2
  obtain ⟨F5, e5, Le5, Lp5, N5, G5, Z5, d5, ho, C5, k5⟩ := h4.opD
  obtain ⟨L1, rel⟩ := Cfg.one C5
  cases d with
  | lst ow xs =>
    cases k' with
    | none => cases ho
    | some i =>
      simp only [stepD] at ho
      split at ho
      · rename_i hno
        obtain ⟨aa, ws, L', rfl, q1, rs, _⟩ := rel.lst_inv C5.wf.sub
        have rs0 := noOwn_nil hno rs
        cases r1
        have I5 : Inv X pins σ H4 { s4 with heap := s4.heap.push { cls := .type "slice", data := .fields #[vl, vu, vs] } } := I4.kept (t' := s4.toks) fun b ob q => Heap.get?_push_of_some _ q
        obtain ⟨its, rv, ht, hz⟩ := I5.list q1
        have hlen := rv.length
        show wpAny (model X.prog X.w) X.A (subscriptTail a (.Slice none none (some stp) p3) (.ref aa) (.ref s4.heap.objs.size)) (EP X pins σ Q) X.xe { s4 with heap := s4.heap.push { cls := .type "slice", data := .fields #[vl, vu, vs] } }
        have fin : ∀ {ys : List D} {wsn : List V} {its' : List Value}, slicePick its.toArray none none (some i) = its'.toArray → i ≠ 0 → Vals wsn its' → RelL X.K r.ct F5 H4 ys wsn [] → wsn.length = ws.length → d5 = .lst true ys →
            wpAny (model X.prog X.w) X.A (subscriptTail a (.Slice none none (some stp) p3) (.ref aa) (.ref s4.heap.objs.size)) (EP X pins σ Q) X.xe { s4 with heap := s4.heap.push { cls := .type "slice", data := .fields #[vl, vu, vs] } } := fun {ys wsn its'} hp h0 rv' rl hl hd => by
          refine tail_any (ops := [.ref aa, .ref s4.heap.objs.size]) ht.isList.typeIs (PySem.slot_list_getitem.lookup) ?_ (by with_unfolding_all rfl)
          refine wpAny_getItem_list_slice ht.isList (Heap.IsSliceOf.new _ vl vu vs) pll pu ps (fun z => h0 (Option.some.inj z)) ?_ (by rw [List.size_toArray]; omega)
          rw [hp]
          subst hd
          refine ⟨.ref _, _, I5.laid (t' := s4.toks) (o := .lst wsn) (fun b ob q => Heap.get?_push_of_some _ q) (Nat.le_refl _) ?_, rfl, k5 _ _ _ _ (New.list C5.wf.sub rl (I5.hok.fresh (Nat.le_refl _)))⟩
          exact ⟨by rw [hl]; exact hz, _, 0, rv', Heap.get?_push_size _ rfl⟩
        split at ho
        · rename_i hi
          cases ho
          exact fin (its' := its) (by rw [hi, pick_one]) (by omega) rv rs0 rfl rfl
        · split at ho
          · rename_i hi
            cases ho
            exact fin (its' := its.reverse) (by rw [hi, PySem.W.krv_pick]) (by omega) rv.reverse rs0.reverse (by simp) rfl
          · cases ho
      · cases ho
  | _ => cases ho
/-! ### len(set(xs)) -/
def distI : List Int → List Int
  | [] => []
  | x :: r => if r.contains x then distI r else x :: distI r
theorem distI_mem : ∀ {l : List Int} {k : Int}, k ∈ distI l ↔ k ∈ l
  | [], _ => Iff.rfl
  | x :: r, k => by
    unfold distI
    split
    · rename_i h
      have h' : x ∈ r := by simpa using h
      rw [distI_mem]
      refine ⟨List.mem_cons_of_mem _, fun h => ?_⟩
      rcases List.mem_cons.mp h with e | e
      · rw [e]; exact h'
      · exact e
    · rw [List.mem_cons, List.mem_cons, distI_mem]
theorem distI_nodup : ∀ l : List Int, (distI l).Nodup
  | [] => List.nodup_nil
  | x :: r => by
    unfold distI
    split
    · exact distI_nodup r
    · rename_i h
      exact List.nodup_cons.mpr ⟨fun z => h (by simpa using distI_mem.mp z), distI_nodup r⟩
theorem len_same {a b : List Int} (ha : a.Nodup) (hb : b.Nodup) (h : ∀ k, k ∈ a ↔ k ∈ b) : a.length = b.length := ((List.perm_ext_iff_of_nodup ha hb).mpr h).length_eq
theorem firstMet_nd (f : Nat → Int) : ∀ n, (PyProof.Rows.firstMet f n).Nodup ∧ ∀ k, k ∈ PyProof.Rows.firstMet f n ↔ ∃ i, i < n ∧ f i = k
  | 0 => ⟨List.nodup_nil, fun k => ⟨fun h => absurd h (by simp [PyProof.Rows.firstMet_zero]), fun ⟨i, h, _⟩ => absurd h (by omega)⟩⟩
  | n + 1 => by
    obtain ⟨h1, h2⟩ := firstMet_nd f n
    rw [PyProof.Rows.firstMet_succ]
    show (if (PyProof.Rows.firstMet f n).any (· == f n) then PyProof.Rows.firstMet f n else PyProof.Rows.firstMet f n ++ [f n]).Nodup ∧ ∀ k, k ∈ (if (PyProof.Rows.firstMet f n).any (· == f n) then PyProof.Rows.firstMet f n else PyProof.Rows.firstMet f n ++ [f n]) ↔ _
    split
    · rename_i h
      have hin : f n ∈ PyProof.Rows.firstMet f n := by simpa using h
      refine ⟨h1, fun k => ⟨fun hk => ?_, fun ⟨i, hi, e⟩ => ?_⟩⟩
      · obtain ⟨i, hi, e⟩ := (h2 k).mp hk
        exact ⟨i, by omega, e⟩
      · by_cases q : i = n
        · subst q; rw [← e]; exact hin
        · exact (h2 k).mpr ⟨i, by omega, e⟩
    · rename_i h
      have hin : f n ∉ PyProof.Rows.firstMet f n := fun z => h (by simpa using z)
      refine ⟨List.nodup_append.mpr ⟨h1, by simp, fun x hx y hy z => hin (by rw [← List.mem_singleton.mp hy, ← z]; exact hx)⟩, fun k => ⟨fun hk => ?_, fun ⟨i, hi, e⟩ => ?_⟩⟩
      · rcases List.mem_append.mp hk with z | z
        · obtain ⟨i, hi, e⟩ := (h2 k).mp z
          exact ⟨i, by omega, e⟩
        · exact ⟨n, by omega, (List.mem_singleton.mp z).symm⟩
      · by_cases q : i = n
        · subst q; exact List.mem_append_right _ (by simp [e])
        · exact List.mem_append_left _ ((h2 k).mpr ⟨i, by omega, e⟩)
theorem firstMet_len {ns : List Int} {n : Nat} (hn : n = ns.length) : (PyProof.Rows.firstMet (fun i => ns.getD i 0) n).length = (distI ns).length := by
  subst hn
  obtain ⟨h1, h2⟩ := firstMet_nd (fun i => ns.getD i 0) ns.length
  refine len_same h1 (distI_nodup ns) fun k => ?_
  rw [h2, distI_mem]
  constructor
  · rintro ⟨i, hi, e⟩
    rw [← e]
    simp only [List.getD, List.getElem?_eq_getElem hi, Option.getD_some]
    exact List.getElem_mem hi
  · intro hk
    obtain ⟨i, hi, e⟩ := List.getElem_of_mem hk
    exact ⟨i, hi, by simp only [List.getD, List.getElem?_eq_getElem hi, Option.getD_some]; exact e⟩
def lenSetD : D → Option D
  | .lst _ xs => match ints? xs with
    | some is => if is.length ≤ 4000 then some (.int (distI is).length) else none
    | none => none
  | .tup xs => match ints? xs with
    | some is => if is.length ≤ 4000 then some (.int (distI is).length) else none
    | none => none
  | _ => none
theorem ints_vals {ns : List Int} {us : List Value} (h : Vals (ns.map V.int) us) : IntsAre us ns := by
  induction ns generalizing us with
  | nil => cases h; exact .nil
  | cons n ns ih =>
    cases h with
    | cons r t =>
      obtain ⟨k, rfl⟩ := r
      exact .cons n k (ih t)
theorem je_lenSet {p2 p3 : Pos} (cm : X.calm = true) (hg : Gl X "len") (hm : X.mg "len" = none) (hg2 : Gl X "set") (hm2 : X.mg "set" = none) (ha : JE X r q ba a ma) (na : starEach [a] X.env = (false, eval a X.env) :: starEach [] X.env := by rfl) :
    JE X r q false (.Call (.Name "len" p) [.Call (.Name "set" p2) [a] [] p3] [] pos) (bd ma fun d => Ow.op (lenSetD d)) := by
  refine ⟨fun pins s σ H Q I h => ?_⟩
  refine PyProof.Rows.Call_ (ld_blt I hg hm boot_len ?_)
  refine PyProof.Rows.callWith_builtin1 (PyProof.Rows.args_cons ?_ rfl) rfl rfl
  refine PyProof.Rows.Call_ (ld_blt I hg2 hm2 boot_set ?_)
  refine PyProof.Rows.callWith_type1 (PyProof.Rows.args_cons (thn (ha.run pins s σ H _ I (TX.bind (rr1 := rD ba) (q1 := q) (fun z => z) (.inr rfl) h)) fun v s1 ⟨x, H1, I1, r1, d, pl, hr, h2⟩ => PyProof.Rows.args_nil ?_) na) na rfl
  subst hr
  obtain ⟨F5, e5, Le5, Lp5, N5, G5, Z5, d5, ho, C5, k5⟩ := h2.opD
  obtain ⟨L1, rel⟩ := Cfg.one C5
  have fin : ∀ {n : Nat} {is : List Int}, n = (distI is).length → d5 = .int (distI is).length → Q (.int n) H1 := fun {n is} e1 e2 => by
    subst e2
    rw [e1]
    exact to_int C5.wf.sub k5
  cases d with
  | lst ow xs =>
    simp only [lenSetD] at ho
    cases hi : ints? xs with
    | none => rw [hi] at ho; cases ho
    | some is =>
      rw [hi] at ho
      dsimp only at ho
      split at ho
      · rename_i hl
        cases ho
        obtain ⟨aa, ws, L', rfl, q1, rs, _⟩ := rel.lst_inv C5.wf.sub
        have e := rs.ints hi
        subst e
        cases r1
        obtain ⟨its, rv, pl, hz⟩ := I1.list q1
        have hlen : its.toArray.size = is.length := by rw [List.size_toArray, ← rv.length, List.length_map]
        refine call_set_list (I1.ok.hd cm) pl.isList (by simpa using ints_vals rv) (by rw [hlen]; unfold scanBound; omega) fun h' tk hS hk => ?_
        refine PyProof.Rows.args_nil ?_
        obtain ⟨oo, es, ep, t, h1, hex, hd, _, _, _, hf, hn⟩ := hS
        have I2 : Inv X pins σ H1 { s1 with heap := h', toks := tk } := I1.kept fun b o e => hk b o (Heap.lt_size e) e
        have hle : (PyProof.Rows.firstMet (fun i => is.getD i 0) its.toArray.size).length ≤ 4000 := by
          have := PyProof.Rows.firstMet_length_le (fun i => is.getD i 0) its.toArray.size
          omega
        exact call_len_set h1 hex hd hf (by rw [hn]; omega) ⟨.int es.size, H1, I2.tok _, ⟨_, rfl⟩, fin (is := is) (by rw [hn]; exact firstMet_len hlen) rfl⟩
      · cases ho
  | tup xs =>
    simp only [lenSetD] at ho
    cases hi : ints? xs with
    | none => rw [hi] at ho; cases ho
    | some is =>
      rw [hi] at ho
      dsimp only at ho
      split at ho
      · rename_i hl
        cases ho
        obtain ⟨aa, ws, rfl, q1, rs⟩ := rel.tup_inv C5.wf.sub
        have e := rs.ints hi
        subst e
        cases r1
        obtain ⟨its, rv, pt, hz⟩ := I1.tuple q1
        refine call_set_tupI is (I1.ok.hd cm) (show s1.heap.IsTuple aa its.toArray from pt) (ints_vals rv) (by unfold scanBound; omega) fun h' tk cc R1 hcn kk => ?_
        refine PyProof.Rows.args_nil ?_
        obtain ⟨oo, es, ep, t, h1, hex, hd, gg, nd, hm3, hb, hf, hn, _⟩ := R1
        have I2 : Inv X pins σ H1 { s1 with heap := h', toks := tk } := I1.kept kk
        have hk : (es.toList.map keyOf).length = (distI is).length := len_same nd (distI_nodup is) fun k => by
          rw [distI_mem, ← hm3 k, decide_eq_true_eq]
        have hsz : es.size = (distI is).length := by rw [← hk, List.length_map, Array.length_toList]
        exact call_len_set h1 hex hd hf (by unfold scanBound at hb; omega) ⟨.int es.size, H1, I2.tok _, ⟨_, rfl⟩, fin (is := is) hsz rfl⟩
      · cases ho
  | _ => cases ho
end
end Ow
end

section
set_option linter.all false
set_option autoImplicit false
set_option maxRecDepth 100000
set_option maxHeartbeats 4000000
/-! OwK: try, augmented names, repr of displays, chains. -/
namespace Ow
open PySem PySem.Spec L2
open PyProof.Rows hiding St

section
variable {X : Cx} {r : Rd} {a b c o : Expr} {es : List Expr} {ma mb mc : M D} {m : M (List D)} {m1 m2 : S} {tc : M Bool} {pos apos cpos p0 p : Pos} {q qa qb qc ba bb bc : Bool} {bs : List Bool}
/-! ### try, the suite not reached -/
def tryN (m : S) : S := fun e => match m e with
  | .ex _ _ => .no
  | x => x
theorem js_tryN {x : Str} {cv : Value} {body suite : List Stmt} {b₀ : Stmt} {np pos' : Pos} (hn : Names X x cv)
    (hb : ∀ (W : WX) (pn : List (Addr × Obj)) (xe : Value → Shared → Prop), Takes (X.tr pn xe) W → PassesOwn (model X.prog X.w) X.A X.env xe → JSs (X.tr pn xe) { r with W := W } body m1)
    (hs : X.stack = X.env :: X.outer := by rfl) (hf : X.env.frame = some X.env.locals := by rfl) :
    JS X r (.Try body [.ExceptHandler (some (.Name x np)) none (b₀ :: suite) pos'] [] [] pos) (tryN m1) := by
  refine psImp (ps_try_only (tb := fun W => TSx X { r with W := W } m1) (ts := fun _ _ _ _ _ _ => False) (Wout := fun _ _ _ _ => False) hs hf hn takes0 (fun W pn xe tk hp => hb W pn xe tk hp) (fun a oe cls d pn hz hv => ⟨fun _ _ _ _ _ _ h => h.elim⟩)) fun D σ H h => ?_
  obtain ⟨F, e, Le, N, G, Z, hz, C, k⟩ := h
  refine ⟨F, e, Le, N, G, Z, hz, C, ?_⟩
  cases hm : m1 e with
  | no => simp only [tryN, hm] at k; exact k
  | ex x e' => simp only [tryN, hm] at k; exact (show False from k).elim
  | ok fl e' =>
    simp only [tryN, hm] at k
    cases fl <;> exact k

/-! ### augmented names -/
def PIw (K : PySem.W.Frag) (ct : Nat → Addr) (R : TIp) (f : D → D → Option D) : Prop := Op2 K ct R f
def augS (i : Nat) (f : D → D → Option D) (mv : M D) : S := fun e => match gt i e with
  | some _ => (bd mv fun v e1 => match gt i e1 with
    | some d => match f d v with
      | some z => .ok .next (st i (some z) e1)
      | none => .no
    | none => .no) e
  | none => .no
theorem Cfg.also {Z : List (Nat × V)} {F H : Hp} {σ : L2.St} {e : Env} {Le Lp : List Addr} {N G : Addr → Prop} {i : Nat} {d : D} {ps : List Pend} (C : Cf X r Z F H σ e ps Le Lp N G) (hg : gt i e = some d) : ∃ v L, σ[i]? = some (some v) ∧ Rel X.K r.ct F H d v L := by
  obtain ⟨v, L1, L2, h1, h2, _⟩ := C.er.take hg
  exact ⟨v, L1, h1, h2⟩
theorem js_aug {i : Nat} {x : Str} {op : Operator} {R : TIp} {f : D → D → Option D} {pos' : Pos} (hN : X.N.Nodup) (hi : X.N[i]? = some x) (hx : Loc X.env.scope x) (he : JE X r q ba a ma) (ho : PIp X op R) (hR : Op2 X.K r.ct R f) (hop : r.open i = true := by rfl)
    (hf : X.fn x = true ∨ X.env.scope.names.lookup x = some .local := by first | exact .inl rfl | exact .inr rfl | assumption) : JS X r (.AugAssign (.Name x pos') op a pos) (augS i f ma) := by
  refine ⟨fun pins s σ H D I h => (ps_aug hN hi hx he ho hf).run pins s σ H D I ?_⟩
  have hlσ := I.len
  obtain ⟨F, e, Le, N, G, Z, hz, C, k⟩ := h
  cases hg : gt i e with
  | none => simp only [augS, hg] at k; exact (show False from k).elim
  | some d0 =>
    simp only [augS, hg] at k
    obtain ⟨v0, L0, h1, _⟩ := C.also hg
    refine ⟨v0, h1, F, e, Le, [], N, G, Z, hz, C, ?_⟩
    cases hm : ma e with
    | no => simp only [bd, hm] at k; exact (show False from k).elim
    | ex x e' =>
      simp only [bd, hm] at k
      exact fun cls dd F' H' Le' s c hx => k σ cls dd F' H' Le' s c hx
    | ok v e1 =>
      simp only [bd, hm] at k
      intro y F1 H1 Le1 Lp1 pl hr s1 C1
      subst hr
      cases hg1 : gt i e1 with
      | none => simp only [hg1] at k; exact (show False from k).elim
      | some d =>
        cases hfz : f d v with
        | none => simp only [hg1, hfz] at k; exact (show False from k).elim
        | some z =>
          simp only [hg1, hfz] at k
          obtain ⟨v1, L1, h2, rel1⟩ := C1.also hg1
          rw [h1] at h2
          cases h2
          obtain ⟨L2, rel2⟩ := Cfg.one C1
          refine hR F1 H1 d v z v0 y L1 L2 _ C1.wf.sub rel1 rel2 hfz fun zv F2 H2 Lz n => ?_
          obtain ⟨s2, C2⟩ := C1.new n
          have hil : i < e1.length := gt_lt hg1
          obtain ⟨Le3, C3⟩ := C2.store hil (Rd.open_P hop) (Rd.open_Z hop hz)
          exact k _ F2 H2 Le3 ⟨s1.le.trans s2.le, fun a ha => (s2.gd a ha).trans (s1.gd a ha), fun z => by cases z⟩ C3

/-! ### repr of a display of things that stand -/
def reprL (m : M (List D)) : M D := bd m fun ds => Ow.op (if ds.length ≤ lineN then reprD (.lst false ds) else none)
theorem DpAll.of {K : PySem.W.Frag} {ct : Nat → Addr} {F H : Hp} (s : Lq F H) {In : Addr → Prop} : ∀ {bs : List Bool} {ds : List D} {vs : List V} {pl : List Pend} {L : List Addr} {n : Nat}, rA bs ds vs pl → PendR K ct F H In pl L → isDataL n ds = true → DpAll K H vs (toPyL ds)
  | _, _, _, _, _, _, .nil, _, _ => .nil
  | _, _, _, _, _, _, .cons ra, .own r rs e, h => by
    have h' := Bool.and_eq_true_iff.mp (show (D.isData _ _ && isDataL _ _) = true by simpa [isDataL] using h)
    exact .cons (dp_of s h'.1 r) (DpAll.of s ra rs h'.2)
  | _, _, _, _, _, _, .cons ra, .bor r _ rs, h => by
    have h' := Bool.and_eq_true_iff.mp (show (D.isData _ _ && isDataL _ _) = true by simpa [isDataL] using h)
    exact .cons (dp_of s h'.1 r) (DpAll.of s ra rs h'.2)
theorem rA.length {ds : List D} {vs : List V} {pl : List Pend} (h : rA bs ds vs pl) : vs.length = ds.length := by
  induction h with
  | nil => rfl
  | cons _ ih => simp [ih]
theorem je_reprL {e0 : Expr} {p2 : Pos} (gd : X.A.guards = some []) (hu : X.A.units + 70 < cLine) (hg : Gl X "repr") (hm : X.mg "repr" = none) (ha : JA X r q bs (e0 :: es) m)
    (hs : starEach [.List (e0 :: es) p2] X.env = (false, eval (.List (e0 :: es) p2) X.env) :: starEach [] X.env := by rfl) (hpl : (backTo pos (starEach [] X.env)).any (·.1) = false := by rfl) :
    JE X r q false (.Call (.Name "repr" p) [.List (e0 :: es) p2] [] pos) (reprL m) :=
  peImp (pe_callB (cr_repr gd hu) hg hm boot_repr (pa_cons (pe_lst ha) pa_nil hs) (by decide) (by decide) hs hpl) fun σ H Q h => by
    refine (TX.bind (rr1 := rA bs) (q1 := q) (fun z => z) (.inr rfl) h).mono fun vs H1 ⟨ds, pl, hr, h2⟩ => ?_
    obtain ⟨F, e, Le, Lp, N, G, Z, z, ho, C, k⟩ := h2.opD
    rw [List.append_nil] at C
    split at ho
    · rename_i hl
      unfold reprD at ho
      split at ho
      · rename_i hc
        cases ho
        simp only [Bool.and_eq_true, Bool.not_eq_true', decide_eq_true_eq] at hc
        obtain ⟨⟨⟨⟨c1, c2⟩, c3⟩, c4⟩, c5⟩ := hc
        refine ⟨by rw [hr.length, ← lineN_eq]; exact hl, fun p hp => ?_⟩
        have hF : F p = none := C.wf.sub.none hp
        have kp : ∀ a, H1 a ≠ none → upd H1 p (.lst vs) a = H1 a := fun a ha => upd_ne fun z => ha (by rw [z]; exact hp)
        have sub2 : Lq F (upd H1 p (.lst vs)) := fun a u q => by
          have := C.wf.sub a u q
          rw [kp a (by rw [this]; simp)]; exact this
        have pd2 : PendR X.K r.ct F (upd H1 p (.lst vs)) (fun a => a ∈ Le ∨ N a) pl Lp := C.pd.mono (Lq.refl F) (fun a ha => kp a (C.wf.out a (List.mem_append_right _ ha)).2.1) (fun _ a ha => kp a (ha.elim (fun q => (C.wf.out a (List.mem_append_left _ q)).2.1) fun q => (C.wf.gd a (C.ng a q)).2)) (fun _ a ha => ha)
        have hd : isDataL 59 ds = true := by simpa [D.isData] using c1
        refine ⟨p, toPy (.lst false ds), rfl, .lst (SqL.of upd_same) (DpAll.of sub2 hr pd2 hd), c3, c4, (can_of 60 _ c1).2, by rw [← lineN_eq]; exact c5, ?_⟩
        exact k _ F _ [] ⟨Lq.refl F, fun a ha => ⟨kp a ha, rfl⟩, sub2, rel_str _, fun a ha => absurd ha (by simp), List.nodup_nil⟩
      · cases ho
    · cases ho
/-! ### a, b = x, y without a tuple -/
def parS (is : List Nat) (m : M (List D)) : S := bd m fun ds e => match asgL (is.map Tg.nm) ds e with
  | some e' => .ok .next e'
  | none => .no
theorem Cfg.storeP {Z : List (Nat × V)} {F H : Hp} {σ : L2.St} {e : Env} {d : D} {v : V} {ps : List Pend} {Le Lp : List Addr} {N G : Addr → Prop} {i : Nat} (C : Cf X r Z F H σ e ((false, d, v) :: ps) Le Lp N G) (hps : ps.all (fun p => !p.1) = true) (hi : i < e.length) (ho : r.open i = true) (hz : Z.map (·.1) = r.zs) :
    ∃ Le' Lp', Cf X r Z F H (σ.set i (some v)) (st i (some d) e) ps Le' Lp' N G := by
  have nd := List.nodup_append.mp C.wf.nd
  have pd := C.pd
  cases pd with
  | @own _ _ _ _ L1 L2 rel rs e0 =>
    subst e0
    have nd2 := List.nodup_append.mp nd.2.1
    have inP : ∀ x, x ∈ L2 → F x = none ∧ H x ≠ none ∧ ¬ G x := fun x hx => C.wf.out x (List.mem_append_right _ (List.mem_append_right _ hx))
    have C1 : Cf X r Z F H σ e [(false, d, v)] Le L1 N (fun x => G x ∨ x ∈ L2) := by
      refine ⟨⟨C.wf.sub, ?_, fun x hx => ?_, fun x hx => ?_⟩, C.er, .own rel .nil (by rw [List.append_nil]), C.pr, fun x hx => .inl (C.ng x hx), C.zs⟩
      · exact List.nodup_append.mpr ⟨nd.1, nd2.1, fun x hx y hy => nd.2.2 x hx y (List.mem_append_left _ hy)⟩
      · have hx' : x ∈ Le ++ (L1 ++ L2) := (List.mem_append.mp hx).elim (fun h => List.mem_append_left _ h) fun h => List.mem_append_right _ (List.mem_append_left _ h)
        obtain ⟨o1, o2, o3⟩ := C.wf.out x hx'
        refine ⟨o1, o2, fun z => z.elim o3 fun z => ?_⟩
        rcases List.mem_append.mp hx with h | h
        · exact nd.2.2 x h x (List.mem_append_right _ z) rfl
        · exact nd2.2.2 x h x z rfl
      · rcases hx with h | h
        · exact C.wf.gd x h
        · obtain ⟨o1, o2, _⟩ := inP x h
          exact ⟨o1, o2⟩
    obtain ⟨Le', C2⟩ := C1.store hi (Rd.open_P ho) (Rd.open_Z ho hz)
    have nd3 := C2.wf.nd
    rw [List.append_nil] at nd3
    refine ⟨Le', L2, ⟨C2.wf.sub, ?_, fun x hx => ?_, fun x hx => C2.wf.gd x (.inl hx)⟩, C2.er, ?_, C2.pr, C.ng, C2.zs⟩
    · refine List.nodup_append.mpr ⟨nd3, nd2.2.1, fun x hx y hy z => ?_⟩
      subst z
      exact (C2.wf.out x (by rw [List.append_nil]; exact hx)).2.2 (.inr hy)
    · rcases List.mem_append.mp hx with h | h
      · obtain ⟨o1, o2, o3⟩ := C2.wf.out x (by rw [List.append_nil]; exact h)
        exact ⟨o1, o2, fun z => o3 (.inl z)⟩
      · exact inP x h
    · have hnob : ¬ ∃ p, p ∈ ps ∧ p.1 = true := fun ⟨p, hp, hp1⟩ => by
        have := List.all_eq_true.mp hps p hp
        rw [hp1] at this; cases this
      exact rs.mono (Lq.refl F) (fun _ _ => rfl) (fun z => absurd z hnob) (fun z => absurd z hnob)
theorem js_par {i j : Nat} {x y : Str} {px py pt : Pos} {kt k2 : Nat} {pt2 : Pos} (hc : X.calm = true) (hN : X.N.Nodup) (hi : X.N[i]? = some x) (hj : X.N[j]? = some y) (hij : i ≠ j)
    (hx : X.env.scope.names.lookup x = some .local) (hy : X.env.scope.names.lookup y = some .local) (ha : JA X r q [false, false] [a, b] m)
    (hw : swappedStores [.Tuple [.Name x px, .Name y py] kt pt] (.Tuple [a, b] k2 pt2) X.env = pure (some [x, y])) (oi : r.open i = true := by rfl) (oj : r.open j = true := by rfl)
    (hs : swapsWithSole [.Tuple [.Name x px, .Name y py] kt pt] (.Tuple [a, b] k2 pt2) pos.line X.env = pure false := by rfl) :
    JS X r (.Assign [.Tuple [.Name x px, .Name y py] kt pt] (.Tuple [a, b] k2 pt2) pos) (parS [i, j] m) := by
  refine ⟨fun pins s σ H D I h => (ps_par hc hN hi hj hij hx hy ha hw hs).run pins s σ H D I ?_⟩
  have hlσ := I.len
  refine (TSx.val (q := q) (rr := rA [false, false]) h).mono fun vs H1 ⟨ds, pl, F, e, Le, Lp, N, G, Z, hr, hz, C, k⟩ => ?_
  cases hr with
  | cons hr =>
    cases hr with
    | cons hr =>
      cases hr
      refine ⟨_, _, rfl, ?_⟩
      have hl := C.er.length
      have h1 : i < e.length := by rw [hl, hlσ]; exact (List.getElem?_eq_some_iff.mp hi).1
      have h2 : j < e.length := by rw [hl, hlσ]; exact (List.getElem?_eq_some_iff.mp hj).1
      obtain ⟨Le1, Lp1, C1⟩ := C.storeP rfl h1 oi hz
      obtain ⟨Le2, Lp2, C2⟩ := C1.storeP rfl (by rw [st_length]; exact h2) oj hz
      exact k _ F H1 Le2 ⟨Lq.refl F, fun _ _ => rfl, fun z => by cases z⟩ C2.clear
theorem js_par3 {i j l : Nat} {x y z : Str} {px py pz pt : Pos} {kt k2 : Nat} {pt2 : Pos} (hc : X.calm = true) (hN : X.N.Nodup) (hi : X.N[i]? = some x) (hj : X.N[j]? = some y) (hk : X.N[l]? = some z) (hij : i ≠ j) (hil : i ≠ l) (hjl : j ≠ l)
    (hx : X.env.scope.names.lookup x = some .local) (hy : X.env.scope.names.lookup y = some .local) (hzz : X.env.scope.names.lookup z = some .local) (ha : JA X r q [false, false, false] [a, b, c] m)
    (hw : swappedStores [.Tuple [.Name x px, .Name y py, .Name z pz] kt pt] (.Tuple [a, b, c] k2 pt2) X.env = pure (some [x, y, z])) (oi : r.open i = true := by rfl) (oj : r.open j = true := by rfl) (ol : r.open l = true := by rfl)
    (hs : swapsWithSole [.Tuple [.Name x px, .Name y py, .Name z pz] kt pt] (.Tuple [a, b, c] k2 pt2) pos.line X.env = pure false := by rfl) :
    JS X r (.Assign [.Tuple [.Name x px, .Name y py, .Name z pz] kt pt] (.Tuple [a, b, c] k2 pt2) pos) (parS [i, j, l] m) := by
  refine ⟨fun pins s σ H D I h => (ps_par3 hc hN hi hj hk hij hil hjl hx hy hzz ha hw hs).run pins s σ H D I ?_⟩
  have hlσ := I.len
  refine (TSx.val (q := q) (rr := rA [false, false, false]) h).mono fun vs H1 ⟨ds, pl, F, e, Le, Lp, N, G, Z, hr, hz, C, k⟩ => ?_
  cases hr with
  | cons hr =>
    cases hr with
    | cons hr =>
      cases hr with
      | cons hr =>
        cases hr
        refine ⟨_, _, _, rfl, ?_⟩
        have hl := C.er.length
        have h1 : i < e.length := by rw [hl, hlσ]; exact (List.getElem?_eq_some_iff.mp hi).1
        have h2 : j < e.length := by rw [hl, hlσ]; exact (List.getElem?_eq_some_iff.mp hj).1
        have h3 : l < e.length := by rw [hl, hlσ]; exact (List.getElem?_eq_some_iff.mp hk).1
        obtain ⟨Le1, Lp1, C1⟩ := C.storeP rfl h1 oi hz
        obtain ⟨Le2, Lp2, C2⟩ := C1.storeP rfl (by rw [st_length]; exact h2) oj hz
        obtain ⟨Le3, Lp3, C3⟩ := C2.storeP rfl (by rw [st_length, st_length]; exact h3) ol hz
        exact k _ F H1 Le3 ⟨Lq.refl F, fun _ _ => rfl, fun z => by cases z⟩ C3.clear
theorem Cal.ro {k : Nat} (cl : Cal X r k) {i : Nat} {d : D} : Cal X (r.ro i d) k := ⟨cl.rm, cl.gd, cl.tk, cl.cm⟩
theorem Cal.tr {k : Nat} (cl : Cal X r k) {W : WX} {pn : List (Addr × Obj)} {xe : Value → Shared → Prop} (tk : Takes (X.tr pn xe) W) : Cal (X.tr pn xe) { r with W := W } k := ⟨cl.rm, cl.gd, tk, cl.cm⟩
end
end Ow
end

section
set_option linter.all false
set_option autoImplicit false
set_option maxRecDepth 100000
set_option maxHeartbeats 4000000
/-! OwW: short names for the rules, as the printer writes them. -/
namespace Ow
open PySem PySem.Spec L2
open PyProof.Rows hiding St

abbrev op1 (f : D → Option D) (m : M D) : M D := bd m fun x => Ow.op (f x)
abbrev op2 (f : D → D → Option D) (a b : M D) : M D := bd a fun x => bd b fun y => Ow.op (f x y)
abbrev lstE (m : M (List D)) : M D := bd m fun ds => Ow.op (mkL ds)
abbrev tupE (m : M (List D)) : M D := bd m fun ds => Ow.op (mkT ds)
abbrev notV (m : M D) : M D := bd (tb m) fun k => ret1 (D.bl (!k))
theorem bt_len : bootBuiltins "len" = some (.builtin "len") := by decide +kernel
theorem bt_any : bootBuiltins "any" = some (.builtin "any") := by decide +kernel
theorem bt_all : bootBuiltins "all" = some (.builtin "all") := by decide +kernel
theorem bt_sum : bootBuiltins "sum" = some (.builtin "sum") := by decide +kernel
theorem bt_min : bootBuiltins "min" = some (.builtin "min") := by decide +kernel
theorem bt_max : bootBuiltins "max" = some (.builtin "max") := by decide +kernel
theorem bt_abs : bootBuiltins "abs" = some (.builtin "abs") := by decide +kernel
theorem bt_sorted : bootBuiltins "sorted" = some (.builtin "sorted") := by decide +kernel
theorem bt_repr : bootBuiltins "repr" = some (.builtin "repr") := by decide +kernel
theorem bt_list : bootBuiltins "list" = some (.type "list") := by decide +kernel
theorem bt_tuple : bootBuiltins "tuple" = some (.type "tuple") := by decide +kernel
theorem bt_int : bootBuiltins "int" = some (.type "int") := by decide +kernel
theorem bt_str : bootBuiltins "str" = some (.type "str") := by decide +kernel
theorem bt_bool : bootBuiltins "bool" = some (.type "bool") := by decide +kernel
theorem bt_dict : bootBuiltins "dict" = some (.type "dict") := by decide +kernel
theorem Cal.u64 {X : Cx} {r : Rd} {k : Nat} (c : Cal X r k) : X.A.units + 64 < cLine := by have := c.rm.un; omega
theorem Cal.u70 {X : Cx} {r : Rd} {k : Nat} (c : Cal X r k) : X.A.units + 70 < cLine := by have := c.rm.un; omega
section
variable {X : Cx} {r : Rd} {a b c o : Expr} {es : List Expr} {ma mb mc : M D} {m : M (List D)} {m1 m2 : S} {tc : M Bool} {pos apos cpos p0 p : Pos} {q qa qb qc ba bb bc : Bool} {bs : List Bool}
/-! ### operators -/
section
theorem e_add (ha : JE X r qa ba a ma) (hb : JE X r qb bb b mb) (hc : qb = true ∨ ba = false := by first | exact .inl rfl | exact .inr rfl) : JE X r (qa && qb) false (.BinOp a .Add b pos) (op2 addD ma mb) := je_bin o_add a_add ha hb hc
theorem e_sub (ha : JE X r qa ba a ma) (hb : JE X r qb bb b mb) (hc : qb = true ∨ ba = false := by first | exact .inl rfl | exact .inr rfl) : JE X r (qa && qb) false (.BinOp a .Sub b pos) (op2 subD ma mb) := je_bin op_sub a_sub ha hb hc
theorem e_mul (ha : JE X r qa ba a ma) (hb : JE X r qb bb b mb) (hc : qb = true ∨ ba = false := by first | exact .inl rfl | exact .inr rfl) : JE X r (qa && qb) false (.BinOp a .Mult b pos) (op2 mulI ma mb) := je_bin o_mul a_mul ha hb hc
theorem e_fdiv (ha : JE X r qa ba a ma) (hb : JE X r qb bb b mb) (hc : qb = true ∨ ba = false := by first | exact .inl rfl | exact .inr rfl) : JE X r (qa && qb) false (.BinOp a .FloorDiv b pos) (op2 fdivD ma mb) := je_bin op_fdivW a_fdiv ha hb hc
theorem e_mod (ha : JE X r qa ba a ma) (hb : JE X r qb bb b mb) (hc : qb = true ∨ ba = false := by first | exact .inl rfl | exact .inr rfl) : JE X r (qa && qb) false (.BinOp a .Mod b pos) (op2 modD ma mb) := je_bin op_mod a_mod ha hb hc
theorem e_pow (ha : JE X r qa ba a ma) (hb : JE X r qb bb b mb) (hc : qb = true ∨ ba = false := by first | exact .inl rfl | exact .inr rfl) : JE X r (qa && qb) false (.BinOp a .Pow b pos) (op2 powD ma mb) := je_bin op_pow a_pow ha hb hc
theorem e_lt (ha : JE X r qa ba a ma) (hb : JE X r qb bb b mb) (hc : qb = true ∨ ba = false := by first | exact .inl rfl | exact .inr rfl) : JE X r (qa && qb) false (.Compare a [.Lt] [b] pos) (op2 ltD ma mb) := je_cmp op_lt a_lt ha hb (nomark _) hc
theorem e_le (ha : JE X r qa ba a ma) (hb : JE X r qb bb b mb) (hc : qb = true ∨ ba = false := by first | exact .inl rfl | exact .inr rfl) : JE X r (qa && qb) false (.Compare a [.LtE] [b] pos) (op2 leD ma mb) := je_cmp op_le a_le ha hb (nomark _) hc
theorem e_gt (ha : JE X r qa ba a ma) (hb : JE X r qb bb b mb) (hc : qb = true ∨ ba = false := by first | exact .inl rfl | exact .inr rfl) : JE X r (qa && qb) false (.Compare a [.Gt] [b] pos) (op2 gtD ma mb) := je_cmp op_gt a_gt ha hb (nomark _) hc
theorem e_ge (ha : JE X r qa ba a ma) (hb : JE X r qb bb b mb) (hc : qb = true ∨ ba = false := by first | exact .inl rfl | exact .inr rfl) : JE X r (qa && qb) false (.Compare a [.GtE] [b] pos) (op2 geD ma mb) := je_cmp op_ge a_ge ha hb (nomark _) hc
theorem e_eq {k : Nat} (cl : Cal X r k) (ha : JE X r qa ba a ma) (hb : JE X r qb bb b mb) (hc : qb = true ∨ ba = false := by first | exact .inl rfl | exact .inr rfl) : JE X r (qa && qb) false (.Compare a [.Eq] [b] pos) (op2 eqD ma mb) := je_cmp (op_eqD cl.u64) a_eq ha hb (nomark _) hc
theorem e_ne {k : Nat} (cl : Cal X r k) (ha : JE X r qa ba a ma) (hb : JE X r qb bb b mb) (hc : qb = true ∨ ba = false := by first | exact .inl rfl | exact .inr rfl) : JE X r (qa && qb) false (.Compare a [.NotEq] [b] pos) (op2 neD ma mb) := je_cmp (op_neD cl.u64) a_ne ha hb (nomark _) hc
theorem e_isN (ha : JE X r qa ba a ma) (hb : JE X r qb bb b mb) (hc : qb = true ∨ ba = false := by first | exact .inl rfl | exact .inr rfl) : JE X r (qa && qb) false (.Compare a [.Is] [b] pos) (op2 isND ma mb) := je_cmp op_isN a_isN ha hb (nomark _) hc
theorem e_notN (ha : JE X r qa ba a ma) (hb : JE X r qb bb b mb) (hc : qb = true ∨ ba = false := by first | exact .inl rfl | exact .inr rfl) : JE X r (qa && qb) false (.Compare a [.IsNot] [b] pos) (op2 notND ma mb) := je_cmp op_notN a_notN ha hb (nomark _) hc
theorem e_inStr (ha : JE X r qa ba a ma) (hb : JE X r qb bb b mb) (hm : behindInMarks .In b = false := by rfl) (hc : qb = true ∨ ba = false := by first | exact .inl rfl | exact .inr rfl) : JE X r (qa && qb) false (.Compare a [.In] [b] pos) (op2 inStrD ma mb) := je_cmp op_in_str a_inStr ha hb hm hc
theorem e_notInStr (ha : JE X r qa ba a ma) (hb : JE X r qb bb b mb) (hm : behindInMarks .NotIn b = false := by rfl) (hc : qb = true ∨ ba = false := by first | exact .inl rfl | exact .inr rfl) : JE X r (qa && qb) false (.Compare a [.NotIn] [b] pos) (op2 notInStrD ma mb) := je_cmp op_notin_str a_notInStr ha hb hm hc
theorem t_lt (ha : JE X r qa ba a ma) (hb : JE X r qb bb b mb) (hc : qb = true ∨ ba = false := by first | exact .inl rfl | exact .inr rfl) : JT X r (qa && qb) (.Compare a [.Lt] [b] pos) (tbB (op2 ltD ma mb)) := jt_cmp op_lt a_lt ha hb (nomark _) hc
theorem t_le (ha : JE X r qa ba a ma) (hb : JE X r qb bb b mb) (hc : qb = true ∨ ba = false := by first | exact .inl rfl | exact .inr rfl) : JT X r (qa && qb) (.Compare a [.LtE] [b] pos) (tbB (op2 leD ma mb)) := jt_cmp op_le a_le ha hb (nomark _) hc
theorem t_gt (ha : JE X r qa ba a ma) (hb : JE X r qb bb b mb) (hc : qb = true ∨ ba = false := by first | exact .inl rfl | exact .inr rfl) : JT X r (qa && qb) (.Compare a [.Gt] [b] pos) (tbB (op2 gtD ma mb)) := jt_cmp op_gt a_gt ha hb (nomark _) hc
theorem t_ge (ha : JE X r qa ba a ma) (hb : JE X r qb bb b mb) (hc : qb = true ∨ ba = false := by first | exact .inl rfl | exact .inr rfl) : JT X r (qa && qb) (.Compare a [.GtE] [b] pos) (tbB (op2 geD ma mb)) := jt_cmp op_ge a_ge ha hb (nomark _) hc
theorem t_eq {k : Nat} (cl : Cal X r k) (ha : JE X r qa ba a ma) (hb : JE X r qb bb b mb) (hc : qb = true ∨ ba = false := by first | exact .inl rfl | exact .inr rfl) : JT X r (qa && qb) (.Compare a [.Eq] [b] pos) (tbB (op2 eqD ma mb)) := jt_cmp (op_eqD cl.u64) a_eq ha hb (nomark _) hc
theorem t_ne {k : Nat} (cl : Cal X r k) (ha : JE X r qa ba a ma) (hb : JE X r qb bb b mb) (hc : qb = true ∨ ba = false := by first | exact .inl rfl | exact .inr rfl) : JT X r (qa && qb) (.Compare a [.NotEq] [b] pos) (tbB (op2 neD ma mb)) := jt_cmp (op_neD cl.u64) a_ne ha hb (nomark _) hc
theorem t_isN (ha : JE X r qa ba a ma) (hb : JE X r qb bb b mb) (hc : qb = true ∨ ba = false := by first | exact .inl rfl | exact .inr rfl) : JT X r (qa && qb) (.Compare a [.Is] [b] pos) (tbB (op2 isND ma mb)) := jt_cmp op_isN a_isN ha hb (nomark _) hc
theorem t_notN (ha : JE X r qa ba a ma) (hb : JE X r qb bb b mb) (hc : qb = true ∨ ba = false := by first | exact .inl rfl | exact .inr rfl) : JT X r (qa && qb) (.Compare a [.IsNot] [b] pos) (tbB (op2 notND ma mb)) := jt_cmp op_notN a_notN ha hb (nomark _) hc
theorem t_inStr (ha : JE X r qa ba a ma) (hb : JE X r qb bb b mb) (hm : behindInMarks .In b = false := by rfl) (hc : qb = true ∨ ba = false := by first | exact .inl rfl | exact .inr rfl) : JT X r (qa && qb) (.Compare a [.In] [b] pos) (tbB (op2 inStrD ma mb)) := jt_cmp op_in_str a_inStr ha hb hm hc
theorem t_notInStr (ha : JE X r qa ba a ma) (hb : JE X r qb bb b mb) (hm : behindInMarks .NotIn b = false := by rfl) (hc : qb = true ∨ ba = false := by first | exact .inl rfl | exact .inr rfl) : JT X r (qa && qb) (.Compare a [.NotIn] [b] pos) (tbB (op2 notInStrD ma mb)) := jt_cmp op_notin_str a_notInStr ha hb hm hc
end
theorem e_neg (ha : JE X r q ba a ma) : JE X r q false (.UnaryOp .USub a pos) (op1 negD ma) := je_un un_neg a_neg ha

/-! ### built-ins -/
section
theorem e_len (hm : X.mg "len" = none) (ha : JE X r q ba a ma) (hg : Gl X "len" := by rfl) (hs : starEach [a] X.env = (false, eval a X.env) :: starEach [] X.env := by rfl) : JE X r q false (.Call (.Name "len" p) [a] [] pos) (op1 lenD ma) := je_call1 call_len c_len hg hm bt_len ha (by decide) (by decide) hs rfl
theorem e_any (cm : X.calm = true) (hm : X.mg "any" = none) (ha : JE X r q ba a ma) (hg : Gl X "any" := by rfl) (hs : starEach [a] X.env = (false, eval a X.env) :: starEach [] X.env := by rfl) : JE X r q false (.Call (.Name "any" p) [a] [] pos) (op1 anyD ma) := je_call1 (cr_any cm) c_any hg hm bt_any ha (by decide) (by decide) hs rfl
theorem e_all (cm : X.calm = true) (hm : X.mg "all" = none) (ha : JE X r q ba a ma) (hg : Gl X "all" := by rfl) (hs : starEach [a] X.env = (false, eval a X.env) :: starEach [] X.env := by rfl) : JE X r q false (.Call (.Name "all" p) [a] [] pos) (op1 allD ma) := je_call1 (cr_all cm) c_all hg hm bt_all ha (by decide) (by decide) hs rfl
theorem e_sum (cm : X.calm = true) (hm : X.mg "sum" = none) (ha : JE X r q ba a ma) (hg : Gl X "sum" := by rfl) (hs : starEach [a] X.env = (false, eval a X.env) :: starEach [] X.env := by rfl) : JE X r q false (.Call (.Name "sum" p) [a] [] pos) (op1 sumD ma) := je_call1 (cr_sum cm) c_sum hg hm bt_sum ha (by decide) (by decide) hs rfl
theorem e_repr {k : Nat} (cl : Cal X r k) (hm : X.mg "repr" = none) (ha : JE X r q ba a ma) (hg : Gl X "repr" := by rfl) (hs : starEach [a] X.env = (false, eval a X.env) :: starEach [] X.env := by rfl) : JE X r q false (.Call (.Name "repr" p) [a] [] pos) (op1 reprD ma) := je_call1 (cr_repr cl.gd cl.u70) c_repr hg hm bt_repr ha (by decide) (by decide) hs rfl
theorem e_list (hm : X.mg "list" = none) (ha : JE X r q ba a ma) (hg : Gl X "list" := by rfl) (hs : starEach [a] X.env = (false, eval a X.env) :: starEach [] X.env := by rfl) : JE X r q false (.Call (.Name "list" p) [a] [] pos) (op1 listD ma) := je_callT1 call_list_of c_list hg hm bt_list ha (by decide) (by decide) hs rfl
theorem e_tuple (hm : X.mg "tuple" = none) (ha : JE X r q ba a ma) (hg : Gl X "tuple" := by rfl) (hs : starEach [a] X.env = (false, eval a X.env) :: starEach [] X.env := by rfl) : JE X r q false (.Call (.Name "tuple" p) [a] [] pos) (op1 tupleD ma) := je_callT1 call_tuple_of c_tuple hg hm bt_tuple ha (by decide) (by decide) hs rfl
theorem e_int (hm : X.mg "int" = none) (ha : JE X r q ba a ma) (hg : Gl X "int" := by rfl) (hs : starEach [a] X.env = (false, eval a X.env) :: starEach [] X.env := by rfl) : JE X r q false (.Call (.Name "int" p) [a] [] pos) (op1 intAD ma) := je_callT1 (call_intA call_int1) c_intA hg hm bt_int ha (by decide) (by decide) hs rfl
theorem e_str (hm : X.mg "str" = none) (ha : JE X r q ba a ma) (hg : Gl X "str" := by rfl) (hs : starEach [a] X.env = (false, eval a X.env) :: starEach [] X.env := by rfl) : JE X r q false (.Call (.Name "str" p) [a] [] pos) (op1 strD ma) := je_callT1 call_strA c_str hg hm bt_str ha (by decide) (by decide) hs rfl
end
theorem e_min2 (cm : X.calm = true) (hm : X.mg "min" = none) (ha : JE X r qa ba a ma) (hb : JE X r qb bb b mb) (hg : Gl X "min" := by rfl) (hc : qb = true ∨ ba = false := by first | exact .inl rfl | exact .inr rfl) (hs : starEach [a, b] X.env = (false, eval a X.env) :: starEach [b] X.env := by rfl) (hs2 : starEach [b] X.env = (false, eval b X.env) :: starEach [] X.env := by rfl) (hpl : (backTo pos (starEach [b] X.env)).any (·.1) = false := by rfl) :
    JE X r (qa && qb) false (.Call (.Name "min" p) [a, b] [] pos) (op2 min2 ma mb) := je_call2 (call_min2 cm) c_min2 hg hm bt_min ha hb hc (by decide) (by decide) hs hs2 hpl
theorem e_max2 (cm : X.calm = true) (hm : X.mg "max" = none) (ha : JE X r qa ba a ma) (hb : JE X r qb bb b mb) (hg : Gl X "max" := by rfl) (hc : qb = true ∨ ba = false := by first | exact .inl rfl | exact .inr rfl) (hs : starEach [a, b] X.env = (false, eval a X.env) :: starEach [b] X.env := by rfl) (hs2 : starEach [b] X.env = (false, eval b X.env) :: starEach [] X.env := by rfl) (hpl : (backTo pos (starEach [b] X.env)).any (·.1) = false := by rfl) :
    JE X r (qa && qb) false (.Call (.Name "max" p) [a, b] [] pos) (op2 max2 ma mb) := je_call2 (call_max2 cm) c_max2 hg hm bt_max ha hb hc (by decide) (by decide) hs hs2 hpl
/-- a module's text, int -/
theorem e_gint {x : Str} {i : Int} (hm : ∃ t, X.mg x = some (.int i t)) (hg : Gl X x := by rfl) (hd : (x == ("__debug__" : Str)) = false := by decide) : JE X r true false (.Name x pos) (cst (.int i)) := by
  obtain ⟨t, hm⟩ := hm
  exact je_glob (v := .int i) hg hm ⟨t, rfl⟩ (fun _ _ => .int i) hd
theorem e_gstr {x : Str} {s : List Nat} (hm : ∃ t, X.mg x = some (.str ⟨s.toArray⟩ t)) (hg : Gl X x := by rfl) (hd : (x == ("__debug__" : Str)) = false := by decide) : JE X r true false (.Name x pos) (cst (.str s)) := by
  obtain ⟨t, hm⟩ := hm
  exact je_glob (v := .str ⟨s.toArray⟩) hg hm ⟨t, rfl⟩ (fun _ _ => .str s) hd
/-! ### lists' methods -/
section
variable {e0 e1 : Expr} {p : Pl}
theorem je_popAt (ho : JPl X r o p) (ha : JA X r q bs [e0] m) (hb : bs.all (fun b => !b) = true := by rfl) (hp : q = true ∨ p.isSl = true := by first | exact .inl rfl | exact .inr rfl)
    (hbase : attributeBase o "pop" X.env (eval o X.env) = eval o X.env := by rfl)
    (hfew : ((backTo cpos (starEach [e0] X.env)).all (fun x => !x.1) && (backToKw cpos (keywordEach [] X.env)).all (fun x => x.1.isSome)
      && decide (([e0] : List Expr).length + ([] : List Keyword).length + (if ([] : List Keyword).isEmpty then 0 else 1) < 30)) = true := by rfl)
    (hline : (apos.endLine == cpos.line) = true := by rfl) (hs : starEach [e0] X.env = (false, eval e0 X.env) :: starEach [] X.env := by rfl) :
    JE X r false false (.Call (.Attribute o "pop" apos) [e0] [] cpos) (chgA p fPopAt m) := je_bm PySem.F.slot_list_pop PySem.F.type_list_pop mt_popAt mo_popAt ho ha hb hp hbase hfew hline hs
theorem je_remove (ho : JPl X r o p) (ha : JA X r q bs [e0] m) (hb : bs.all (fun b => !b) = true := by rfl) (hp : q = true ∨ p.isSl = true := by first | exact .inl rfl | exact .inr rfl)
    (hbase : attributeBase o "remove" X.env (eval o X.env) = eval o X.env := by rfl)
    (hfew : ((backTo cpos (starEach [e0] X.env)).all (fun x => !x.1) && (backToKw cpos (keywordEach [] X.env)).all (fun x => x.1.isSome)
      && decide (([e0] : List Expr).length + ([] : List Keyword).length + (if ([] : List Keyword).isEmpty then 0 else 1) < 30)) = true := by rfl)
    (hline : (apos.endLine == cpos.line) = true := by rfl) (hs : starEach [e0] X.env = (false, eval e0 X.env) :: starEach [] X.env := by rfl) :
    JE X r false false (.Call (.Attribute o "remove" apos) [e0] [] cpos) (chgA p fRemove m) := je_bm PySem.F.slot_list_remove PySem.F.type_list_remove mt_remove mo_remove ho ha hb hp hbase hfew hline hs
theorem je_insert (ho : JPl X r o p) (ha : JA X r q bs [e0, e1] m) (hb : bs.all (fun b => !b) = true := by rfl) (hp : q = true ∨ p.isSl = true := by first | exact .inl rfl | exact .inr rfl)
    (hbase : attributeBase o "insert" X.env (eval o X.env) = eval o X.env := by rfl)
    (hfew : ((backTo cpos (starEach [e0, e1] X.env)).all (fun x => !x.1) && (backToKw cpos (keywordEach [] X.env)).all (fun x => x.1.isSome)
      && decide (([e0, e1] : List Expr).length + ([] : List Keyword).length + (if ([] : List Keyword).isEmpty then 0 else 1) < 30)) = true := by rfl)
    (hline : (apos.endLine == cpos.line) = true := by rfl) (hs : starEach [e0, e1] X.env = (false, eval e0 X.env) :: starEach [e1] X.env := by rfl) (hpl : (backTo cpos (starEach [e1] X.env)).any (·.1) = false := by rfl) :
    JE X r false false (.Call (.Attribute o "insert" apos) [e0, e1] [] cpos) (chgA p fInsert m) := je_bm PySem.F.slot_list_insert PySem.F.type_list_insert mt_insert mo_insert ho ha hb hp hbase hfew hline hs hpl
theorem je_pop0 (ho : JPl X r o p) (hbase : attributeBase o "pop" X.env (eval o X.env) = eval o X.env := by rfl) (hline : (apos.endLine == cpos.line) = true := by rfl) : JE X r false false (.Call (.Attribute o "pop" apos) [] [] cpos) (chgA p fPop argN) := je_bm0 PySem.F.slot_list_pop PySem.F.type_list_pop mt_pop mo_pop ho hbase hline
theorem je_reverse0 (ho : JPl X r o p) (hbase : attributeBase o "reverse" X.env (eval o X.env) = eval o X.env := by rfl) (hline : (apos.endLine == cpos.line) = true := by rfl) : JE X r false false (.Call (.Attribute o "reverse" apos) [] [] cpos) (chgA p fReverse argN) := je_bm0 PySem.F.slot_list_reverse PySem.F.type_list_reverse mt_reverse mo_reverse ho hbase hline
end
end
end Ow
end

section
set_option linter.all false
set_option autoImplicit false
set_option maxRecDepth 100000
set_option maxHeartbeats 4000000
/-! OwZ: the end: a law's def keeps its promise, so the law holds. -/
namespace Ow
open PySem PySem.Spec L2
open PyProof.Rows hiding St

/-- what the law's def is handed, and what it must tell -/
theorem spec_law {K : PySem.W.Frag} {ct : Nat → Addr} {g : List D → O} {H : Hp} {a : Addr} {ns : List Int} {m : D} (hS : SqL K H a (ns.map V.int)) (hg : g [.lst false (ns.map .int)] = .ok (.bl true) m) : SpW K ct false [.ro] g [.ref a] H (fun v _ => v = .bl true) fun _ _ _ => False := by
  refine ⟨rfl, H, .non, .non, [.lst false (ns.map .int)], [.ref a], [], [], fun _ => False, fun _ => False, rfl, rfl, .ro (.lstF hS (RelL.mkInts ns) rfl) (fun _ h => absurd h (by simp)) .nil, ⟨Lq.refl H, List.nodup_nil, fun _ h => absurd h (by simp), fun _ h => h.elim⟩, fun _ h => h, ?_⟩
  show KF K ct false .non H H _ _ _ (g [.lst false (ns.map .int)])
  rw [hg]
  intro v F' H' Lm Lr _ _ _ rel _
  cases rel
  rfl
section
variable {P : Program} {w : World} {K : PySem.W.Frag} {mg mb : Str → Option Value} {k : Nat} {fa a : Addr} {fd : FuncData} {x : Str} {sp : Sp} {s₁ : Shared} {vs : List Value} {ns : List Int}
/-- the run from an abstract heap that tracks the script at most -/
theorem law_from (KX : K.In s₁.heap) (hns : s₁.heap.Ns mainGlobals mg) (hb : s₁.heap.Ns builtinsNs mb) (hbb : ∀ x : Str, x ≠ "__name__" → mb x = bootBuiltins x) (hlim : s₁.heap.NoLimit) (hg : s₁.gens = #[]) (ha : s₁.heap.get? a = some { cls := .type "list", data := .seq vs.toArray }) (hr : Room k callerA)
    (F : ∀ base : Heap, K.In base → base.Ns mainGlobals mg → FnG P w K mg base k fa fd [x] sp) (hbind : ∀ (s : Shared) (u : Value), BindsTo s fd ⟨[u], []⟩ [(x, u)]) {H : Hp} (hsp : sp [.ref a] H (fun v _ => v = .bl true) fun _ _ _ => False)
    (hok : HOk P w H s₁.heap) (hA : ∀ b, H b ≠ none → b = a) (hK : H a ≠ none → K.lookup a = none) (hF : ∀ b, H b = none ∨ ∃ o xs, H b = some (.frz o (.lst xs))) :
    codeAny (model P w) callerA (.call (.ref fa) ⟨[.ref a], []⟩) (fun r s' => r = .ok (.ret (.bool true)) ∧ OldK s₁.heap s'.heap ∧ s'.os = s₁.os ∧ AllBare s'.gens) s₁ := by
  -- the base: all but what is tracked
  have off : ∀ {b : Addr}, b ≠ a → H b = none := fun {b} hb => by
    cases q : H b with
    | none => rfl
    | some u => exact absurd (hA b (by rw [q]; simp)) hb
  have dictOff : ∀ {b : Addr} {o : Obj} {es : Array DictEntry} {ep : Nat}, s₁.heap.get? b = some o → o.data = .dict es ep → H b = none := fun {b o es ep} e d => off fun z => by
    subst z
    rw [ha] at e
    cases e
    cases (show Data.seq vs.toArray _ = Data.dict es ep from d)
  have ns_ : ∀ {b : Addr} {m : Str → Option Value}, s₁.heap.Ns b m → (hidT s₁.heap H).Ns b m := fun {b m} ⟨o, es, ep, e, d, r⟩ => ⟨o, es, ep, hidT_get e (dictOff e d), d, r⟩
  have kin : K.In (hidT s₁.heap H) := fun b o e => by
    refine hidT_get (KX b o e) ?_
    by_cases hb : b = a
    · subst hb
      cases q : H b with
      | none => rfl
      | some u => rw [hK (by rw [q]; simp)] at e; cases e
    · exact off hb
  obtain ⟨mc, l1, l2⟩ := hlim
  have e0 : Env0 P w K mg (hidT s₁.heap H) callerA [] s₁ H := ⟨rfl, ⟨kin, ns_ hns, ⟨mb, ns_ hb, hbb⟩, ⟨mc, ns_ l1, l2⟩⟩, fun b o e => of_hidT e, Nat.le_of_eq (hidT_size _ _), trivial, fun b hb => absurd (show b ∈ ([] : List Addr) from hb) (by simp), hok, .of_eq hg⟩
  refine codeAny_mono ((F _ kin (ns_ hns)).run callerA [] s₁ H ⟨[.ref a], []⟩ [.ref a] [.ref a] _ _ hr rfl e0 (hbind s₁ (.ref a)) (.cons rfl .nil) hsp) fun r s' h => ?_
  cases r with
  | error e =>
    obtain ⟨_, _, _, _, _, _, _, _, _, _, _, _, z⟩ := h
    exact z.elim
  | ok fl =>
    cases fl with
    | next => exact h.elim
    | brk => exact h.elim
    | cont => exact h.elim
    | ret u =>
      obtain ⟨v, H', os, bare, un, hok', rv, q⟩ := h
      have hv : v = .bl true := q
      subst hv
      cases (show u = Value.bool true from rv)
      refine ⟨rfl, OldK.of_keep fun b o e => ?_, os, bare⟩
      rcases hF b with z | ⟨ob, xs, z⟩
      · exact un.keep b o e z (by intro y; exact absurd (show b ∈ ([] : List Addr) from y) (by simp)) (by simp)
      · obtain ⟨e1, _⟩ := hok b _ z
        obtain ⟨e2, _⟩ := hok' b _ (un.frzs b ob _ z)
        rw [e] at e1
        cases e1
        exact e2
theorem law_ow (KX : K.In s₁.heap) (hns : s₁.heap.Ns mainGlobals mg) (hb : s₁.heap.Ns builtinsNs mb) (hbb : ∀ x : Str, x ≠ "__name__" → mb x = bootBuiltins x) (hlim : s₁.heap.NoLimit) (hg : s₁.gens = #[]) (ha : s₁.heap.get? a = some { cls := .type "list", data := .seq vs.toArray }) (hi : IntsAre vs ns) (hl : ns.length ≤ sizeLine) (hr : Room k callerA)
    (F : ∀ base : Heap, K.In base → base.Ns mainGlobals mg → FnG P w K mg base k fa fd [x] sp) (hbind : ∀ (s : Shared) (u : Value), BindsTo s fd ⟨[u], []⟩ [(x, u)]) (hsp : ∀ H : Hp, SqL K H a (ns.map V.int) → sp [.ref a] H (fun v _ => v = .bl true) fun _ _ _ => False) :
    codeAny (model P w) callerA (.call (.ref fa) ⟨[.ref a], []⟩) (fun r s' => r = .ok (.ret (.bool true)) ∧ OldK s₁.heap s'.heap ∧ s'.os = s₁.os ∧ AllBare s'.gens) s₁ := by
  have rv := vals_ints hi
  cases hk : K.lookup a with
  | some o =>
    have e := KX a o hk
    rw [ha] at e
    cases e
    have hS : SqL K (fun _ => none) a (ns.map V.int) := .inr ⟨_, vs.toArray, _, hk, rfl, rfl, rfl, by rw [List.size_toArray, hi.length]; exact hl, by simpa using rv⟩
    exact law_from KX hns hb hbb hlim hg ha hr F hbind (hsp _ hS) (fun b u z => by cases z) (fun b z => absurd rfl z) (fun z => absurd rfl z) fun b => .inl rfl
  | none =>
    let H : Hp := fun b => if b = a then some (.frz { cls := .type "list", data := .seq vs.toArray } (.lst (ns.map V.int))) else none
    have hH : H a = some (.frz { cls := .type "list", data := .seq vs.toArray } (.lst (ns.map V.int))) := if_pos rfl
    have hO : ∀ b, b ≠ a → H b = none := fun b h => if_neg h
    refine law_from KX hns hb hbb hlim hg ha hr F hbind (hsp H (.inl (.inr ⟨_, hH⟩))) (fun b u z => ?_) (fun b z => ?_) (fun _ => hk) fun b => ?_
    · by_cases q : b = a
      · subst q
        rw [hH] at z
        cases z
        exact ⟨ha, by rw [List.length_map]; exact hl, vs, _, rv, ha⟩
      · rw [hO b q] at z; cases z
    · by_cases q : b = a
      · exact q
      · exact absurd (hO b q) z
    · by_cases q : b = a
      · subst q; exact .inr ⟨_, _, hH⟩
      · exact .inl (hO b q)
end
theorem walk_ow {l : PySem.W.OpenLaw} {n k : Nat} {q : Program} {loose : List Str} {XP : (Str → Option Value) → Heap → Prop} {YP : World → Heap → Prop} {d : DefRec} {x : Str}
    (hn : l.most = some n) (hn2 : n ≤ sizeLine) (hdf : d.params.defaults = []) (hr : Room k callerA)
    (F : ∀ (w : World) (mg : Str → Option Value) (fa : Addr) (h : Heap), YP w h → h.Ns mainGlobals mg → mg d.name = some (.ref fa) →
      ∃ (K : PySem.W.Frag) (fd : FuncData) (ct : Nat → Addr) (g : List D → O), K.In h ∧ (∀ (s : Shared) (u : Value), BindsTo s fd ⟨[u], []⟩ [(x, u)]) ∧
        (∀ ns : List Int, ns.length ≤ n → ∃ m, g [.lst false (ns.map .int)] = .ok (.bl true) m) ∧
        ∀ base : Heap, K.In base → base.Ns mainGlobals mg → FnG l.prog w K mg base k fa fd [x] (SpW K ct false [.ro] g)) :
    PySem.W.WalkO q loose XP YP l.row.toRowW d [] (fun f vs => PySem.call f vs) := by
  refine Att.attach_call hn hdf fun w s₀ s₁ mg mb fa o pm cd doc a vs ns G Y ho hd hcd hmg hobj hints hlen hg => ?_
  obtain ⟨K, fd, ct, g, KX, hb, hp, hF⟩ := F w mg fa _ Y G.T.g hmg
  obtain ⟨m, hm⟩ := hp ns hlen
  exact law_ow KX G.T.g G.T.b G.T.builtins G.T.nolimit hg hobj hints (Nat.le_trans hlen hn2) hr hF hb fun H hS => spec_law hS hm
end Ow
end

section
set_option linter.all false
set_option autoImplicit false
set_option maxRecDepth 100000
set_option maxHeartbeats 4000000
/-! OwQ: plain facts about the mirror's combinators. -/
namespace Ow

theorem forL_inv {t : Tg} {body : S} (I : Nat → Env → Prop) : ∀ {ds : List D} {k : Nat} {e : Env}, (∀ i d e, ds[i]? = some d → I (k + i) e → ∃ e1 e2, t.asg d e = some e1 ∧ (body e1 = .ok .next e2 ∨ body e1 = .ok .cont e2) ∧ I (k + i + 1) e2) → I k e → ∃ e', forL t body ds e = .ok .next e' ∧ I (k + ds.length) e'
  | [], k, e, _, h => ⟨e, rfl, h⟩
  | d :: ds, k, e, hs, h => by
    obtain ⟨e1, e2, h1, h2, h3⟩ := hs 0 d e rfl h
    obtain ⟨e', h4, h5⟩ := forL_inv (t := t) (body := body) I (ds := ds) (k := k + 1) (e := e2) (fun i d' e' hd hi => by
      obtain ⟨a, b, c1, c2, c3⟩ := hs (i + 1) d' e' (by simpa using hd) (by rw [show k + (i + 1) = k + 1 + i by omega]; exact hi)
      exact ⟨a, b, c1, c2, by rw [show k + 1 + i + 1 = k + (i + 1) + 1 by omega]; exact c3⟩) h3
    refine ⟨e', ?_, by rw [show k + (d :: ds).length = k + 1 + ds.length by simp; omega]; exact h5⟩
    rw [forL_cons, h1]
    dsimp only
    rcases h2 with h2 | h2
    · rw [h2]; exact h4
    · rw [h2]; exact h4
theorem lcL_inv {own : List Nat} {t : Tg} {c : M Bool} {elt : M D} (I : Nat → List D → Env → Prop) : ∀ {ds : List D} {k : Nat} {acc : List D} {e : Env},
    (∀ i d acc e, ds[i]? = some d → I (k + i) acc e → ∃ e1, t.asg d (wipe own e) = some e1 ∧ ((∃ e2 v v' e3, c e1 = .ok true e2 ∧ elt e2 = .ok v e3 ∧ v.freeze = some v' ∧ acc.length < lineN ∧ I (k + i + 1) (acc ++ [v']) e3) ∨ ∃ e2, c e1 = .ok false e2 ∧ I (k + i + 1) acc e2)) →
    I k acc e → ∃ acc' e', lcL own t c elt ds acc e = some (acc', wipe own e') ∧ I (k + ds.length) acc' e'
  | [], k, acc, e, _, h => ⟨acc, e, rfl, h⟩
  | d :: ds, k, acc, e, hs, h => by
    obtain ⟨e1, h1, h2⟩ := hs 0 d acc e rfl h
    have hs' : ∀ i d acc e, ds[i]? = some d → I (k + 1 + i) acc e → ∃ e1, t.asg d (wipe own e) = some e1 ∧ ((∃ e2 v v' e3, c e1 = .ok true e2 ∧ elt e2 = .ok v e3 ∧ v.freeze = some v' ∧ acc.length < lineN ∧ I (k + 1 + i + 1) (acc ++ [v']) e3) ∨ ∃ e2, c e1 = .ok false e2 ∧ I (k + 1 + i + 1) acc e2) := fun i d' acc' e' hd hi => by
      have := hs (i + 1) d' acc' e' (by simpa using hd) (by rw [show k + (i + 1) = k + 1 + i by omega]; exact hi)
      rw [show k + 1 + i + 1 = k + (i + 1) + 1 by omega]
      exact this
    rw [show k + (d :: ds).length = k + 1 + ds.length by simp; omega]
    rcases h2 with ⟨e2, v, v', e3, a1, a2, a3, a4, a5⟩ | ⟨e2, a1, a2⟩
    · obtain ⟨acc', e', b1, b2⟩ := lcL_inv I hs' a5
      refine ⟨acc', e', ?_, b2⟩
      rw [lcL_cons, h1]
      dsimp only
      rw [a1]
      dsimp only
      rw [a2]
      dsimp only
      rw [a3]
      dsimp only
      rw [if_pos a4]
      exact b1
    · obtain ⟨acc', e', b1, b2⟩ := lcL_inv I hs' a2
      refine ⟨acc', e', ?_, b2⟩
      rw [lcL_cons, h1]
      dsimp only
      rw [a1]
      exact b1
theorem lc_ok {own : List Nat} {its : M (List D)} {t : Tg} {c : M Bool} {elt : M D} {e e1 e' : Env} {ds acc : List D} (h1 : its e = .ok ds e1) (h2 : lcL own t c elt ds [] e1 = some (acc, e')) : lc own its t c elt e = .ok (.lst true acc) e' := by
  unfold lc bd
  rw [h1]
  dsimp only
  rw [h2]
theorem lcL_wipe {own : List Nat} {t : Tg} {c : M Bool} {elt : M D} {e e' : Env} (h : wipe own e = wipe own e') : ∀ {ds acc : List D}, lcL own t c elt ds acc e = lcL own t c elt ds acc e'
  | [], acc => by
    show some (acc, wipe own e) = some (acc, wipe own e')
    rw [h]
  | d :: ds, acc => by rw [lcL_cons, lcL_cons, h]
/-- one name, no test, an environment that stays -/
theorem lcL_map {i : Nat} {elt : M D} {f : D → D} {e : Env} : ∀ {ds acc : List D}, (∀ d, d ∈ ds → elt (st i (some d) e) = .ok (f d) (st i (some d) e) ∧ (f d).freeze = some (f d)) → acc.length + ds.length ≤ lineN → st i none e = e →
    lcL [i] (.nm i) yes elt ds acc e = some (acc ++ ds.map f, e)
  | [], acc, _, _, he => by
    show some (acc, st i none e) = _
    simp [he]
  | d :: ds, acc, h, hl, he => by
    obtain ⟨h1, h2⟩ := h d List.mem_cons_self
    have w1 : wipe [i] e = e := he
    have w2 : wipe [i] (st i (some d) e) = wipe [i] e := by
      show st i none (st i (some d) e) = st i none e
      rw [st_st]
    have ih := lcL_map (i := i) (elt := elt) (f := f) (e := e) (ds := ds) (acc := acc ++ [f d]) (fun d' hd => h d' (List.mem_cons_of_mem _ hd)) (by simp at hl ⊢; omega) he
    rw [lcL_cons, w1]
    simp only [Tg.asg]
    rw [show yes (st i (some d) e) = .ok true (st i (some d) e) from rfl]
    dsimp only
    rw [h1]
    dsimp only
    rw [h2]
    dsimp only
    rw [if_pos (by simp at hl; omega), lcL_wipe w2, ih]
    simp
/-- .. with a test -/
theorem lcL_filter {i : Nat} {c : M Bool} {elt : M D} {p : D → Bool} {f : D → D} {e : Env} : ∀ {ds acc : List D}, (∀ d, d ∈ ds → c (st i (some d) e) = .ok (p d) (st i (some d) e) ∧ (p d = true → elt (st i (some d) e) = .ok (f d) (st i (some d) e) ∧ (f d).freeze = some (f d))) → acc.length + ds.length ≤ lineN → st i none e = e →
    lcL [i] (.nm i) c elt ds acc e = some (acc ++ (ds.filter p).map f, e)
  | [], acc, _, _, he => by
    show some (acc, st i none e) = _
    simp [he]
  | d :: ds, acc, h, hl, he => by
    obtain ⟨h0, h1⟩ := h d List.mem_cons_self
    have w1 : wipe [i] e = e := he
    have w2 : wipe [i] (st i (some d) e) = wipe [i] e := by
      show st i none (st i (some d) e) = st i none e
      rw [st_st]
    rw [lcL_cons, w1]
    simp only [Tg.asg]
    rw [h0]
    cases hp : p d with
    | false =>
      dsimp only
      rw [lcL_wipe w2, lcL_filter (fun d' hd => h d' (List.mem_cons_of_mem _ hd)) (by simp at hl; omega) he]
      simp [hp]
    | true =>
      obtain ⟨a1, a2⟩ := h1 hp
      dsimp only
      rw [a1]
      dsimp only
      rw [a2]
      dsimp only
      rw [if_pos (by simp at hl; omega), lcL_wipe w2, lcL_filter (fun d' hd => h d' (List.mem_cons_of_mem _ hd)) (by simp at hl ⊢; omega) he]
      simp [hp]
theorem noOwnL_ints (xs : List Int) : noOwnL (xs.map .int) = true := by
  induction xs with
  | nil => rfl
  | cons x xs ih => simp [noOwnL, D.noOwn, ih]
theorem ints_map (xs : List Int) : ints? (xs.map .int) = some xs := by
  induction xs with
  | nil => rfl
  | cons x xs ih => simp [ints?, ih]
theorem freezeL_ints (xs : List Int) : freezeL (xs.map .int) = some (xs.map .int) := by
  induction xs with
  | nil => rfl
  | cons x xs ih => simp [freezeL, D.freeze, ih]
theorem isDataL_ints (n : Nat) (xs : List Int) : isDataL n (xs.map .int) = true := by
  induction xs with
  | nil => rfl
  | cons x xs ih => simp [isDataL, D.isData, ih]
theorem eqvL_ints : ∀ (xs ys : List Int), eqvL (xs.map .int) (ys.map .int) = (xs == ys)
  | [], [] => rfl
  | [], _ :: _ => rfl
  | _ :: _, [] => rfl
  | x :: xs, y :: ys => by simp [eqvL, eqv, eqvL_ints xs ys]
theorem cut_map {α β : Type} (f : α → β) (xs : List α) (l h : Option Int) : cut (xs.map f) l h = (cut xs l h).map f := by
  unfold cut
  simp [List.map_drop, List.map_take]
/-- a list of ints -/
def IL (o : Bool) (xs : List Int) : D := .lst o (xs.map .int)
theorem bitsOk_of {i j : Int} {a b : Nat} (h1 : i.natAbs < 2 ^ a) (h2 : j.natAbs < 2 ^ b) (h : a + b ≤ 1000000 := by omega) (ha : 0 < a := by omega) : bitsOk i j = true := by
  unfold bitsOk
  have e1 : i.natAbs.log2 < a := by
    by_cases z : i.natAbs = 0
    · rw [z]; simpa using ha
    · exact (Nat.log2_lt z).mpr h1
  have e2 : j.natAbs.log2 ≤ b := by
    by_cases z : j.natAbs = 0
    · rw [z]; simp
    · exact Nat.le_of_lt ((Nat.log2_lt z).mpr h2)
  exact decide_eq_true (by omega)
theorem IL_nil {o : Bool} : IL o [] = .lst o [] := rfl
theorem IL_one {o : Bool} {x : Int} : IL o [x] = .lst o [.int x] := rfl
theorem neD_IL (o o' : Bool) (xs ys : List Int) : neD (IL o xs) (IL o' ys) = some (.bl (!(xs == ys))) := by
  simp [IL, neD, D.isData, isDataL_ints, eqv, eqvL_ints]
theorem eqD_IL (o o' : Bool) (xs ys : List Int) : eqD (IL o xs) (IL o' ys) = some (.bl (xs == ys)) := by
  simp [IL, eqD, D.isData, isDataL_ints, eqv, eqvL_ints]
theorem neD_ILn (o o' : Bool) (xs : List Int) : neD (IL o xs) (.lst o' []) = some (.bl (!xs.isEmpty)) := by
  have := neD_IL o o' xs []
  rw [IL_nil] at this
  rw [this]
  cases xs <;> rfl
theorem freeze_IL {o : Bool} {xs : List Int} : (IL o xs).freeze = some (IL false xs) := by
  simp [IL, D.freeze, freezeL_ints]
theorem noOwn_IL {xs : List Int} : (IL false xs).noOwn = true := by
  simp [IL, D.noOwn, noOwnL_ints]
theorem lenD_IL {o : Bool} {xs : List Int} : lenD (IL o xs) = some (.int xs.length) := by
  simp [IL, lenD]
theorem slO_IL {o : Bool} {xs : List Int} {l h : Option Int} : slO (IL o xs) l h = some (IL true (cut xs l h)) := by
  simp [IL, slO, noOwnL_ints, cut_map]
theorem addD_IL {o o' : Bool} {xs ys : List Int} (h : xs.length + ys.length ≤ lineN) : addD (IL o xs) (IL o' ys) = some (IL true (xs ++ ys)) := by
  simp [IL, addD, noOwnL_ints, h]
theorem ixD_IL {o : Bool} {xs : List Int} {i : Int} (h0 : 0 ≤ i) (h1 : i < xs.length) : ∃ y, y ∈ xs ∧ xs[i.toNat]? = some y ∧ ixD (IL o xs) (.int i) = some (.int y) := by
  have hi : i.toNat < xs.length := by omega
  refine ⟨xs[i.toNat], List.getElem_mem hi, List.getElem?_eq_getElem hi, ?_⟩
  have e : pyIx xs.length i = some i.toNat := by
    unfold pyIx
    rw [if_pos h0, if_pos h1]
  simp [IL, ixD, atI, e, hi, D.noOwn]
theorem cut_tail {α : Type} (x : α) (xs : List α) : cut (x :: xs) (some 1) none = xs := by
  simp [cut, clip]
theorem cut_from0 {α : Type} (xs : List α) (k : Int) (h : 0 ≤ k) : cut xs none (some k) = xs.take k.toNat := by
  have : ¬ k < 0 := by omega
  simp [cut, clip, this]
theorem fdivD_ok {i j : Int} (h0 : 0 < j) (h1 : j < 2 ^ 200) : fdivD (.int i) (.int j) = some (.int (i / j)) := by
  unfold fdivD
  refine if_pos ⟨h0, ?_⟩
  have : j.natAbs < 2 ^ 200 := by omega
  have h := (Nat.log2_lt (n := j.natAbs) (k := 200) (by omega)).mpr this
  omega
theorem modD_ok {i j : Int} (h0 : 0 < j) : modD (.int i) (.int j) = some (.int (i % j)) := if_pos h0
theorem itL_IL {o : Bool} {xs : List Int} : itL (IL o xs) = some (xs.map .int) := by
  simp [IL, itL, noOwnL_ints]
theorem lc_map {i : Nat} {its : M (List D)} {elt : M D} {f : D → D} {e e1 : Env} {ds : List D} (h1 : its e = .ok ds e1) (h : ∀ d, d ∈ ds → elt (st i (some d) (st i none e1)) = .ok (f d) (st i (some d) (st i none e1)) ∧ (f d).freeze = some (f d)) (hl : ds.length ≤ lineN) :
    lc [i] its (.nm i) yes elt e = .ok (.lst true (ds.map f)) (st i none e1) := by
  refine lc_ok h1 ?_
  rw [lcL_wipe (e' := st i none e1) (by show st i none e1 = st i none (st i none e1); rw [st_st])]
  have := lcL_map (i := i) (elt := elt) (f := f) (e := st i none e1) (ds := ds) (acc := []) h (by simpa using hl) (by rw [st_st])
  simpa using this
theorem lc_filter {i : Nat} {its : M (List D)} {c : M Bool} {elt : M D} {p : D → Bool} {f : D → D} {e e1 : Env} {ds : List D} (h1 : its e = .ok ds e1)
    (h : ∀ d, d ∈ ds → c (st i (some d) (st i none e1)) = .ok (p d) (st i (some d) (st i none e1)) ∧ (p d = true → elt (st i (some d) (st i none e1)) = .ok (f d) (st i (some d) (st i none e1)) ∧ (f d).freeze = some (f d))) (hl : ds.length ≤ lineN) :
    lc [i] its (.nm i) c elt e = .ok (.lst true ((ds.filter p).map f)) (st i none e1) := by
  refine lc_ok h1 ?_
  rw [lcL_wipe (e' := st i none e1) (by show st i none e1 = st i none (st i none e1); rw [st_st])]
  have := lcL_filter (i := i) (c := c) (elt := elt) (p := p) (f := f) (e := st i none e1) (ds := ds) (acc := []) h (by simpa using hl) (by rw [st_st])
  simpa using this
theorem lc_mapI {i : Nat} {its : M (List D)} {elt : M D} {g : Int → Int} {e e1 : Env} {xs : List Int} (h1 : its e = .ok (xs.map .int) e1) (h : ∀ x, x ∈ xs → elt (st i (some (.int x)) (st i none e1)) = .ok (.int (g x)) (st i (some (.int x)) (st i none e1))) (hl : xs.length ≤ lineN) :
    lc [i] its (.nm i) yes elt e = .ok (IL true (xs.map g)) (st i none e1) := by
  have := lc_map (i := i) (elt := elt) (f := fun d => match d with | .int x => .int (g x) | d => d) h1 (fun d hd => by
    obtain ⟨x, hx, rfl⟩ := List.mem_map.mp hd
    exact ⟨h x hx, rfl⟩) (by simpa using hl)
  rw [this]
  simp [IL, Function.comp_def]
theorem lc_filterI {i : Nat} {its : M (List D)} {c : M Bool} {elt : M D} {p : Int → Bool} {g : Int → Int} {e e1 : Env} {xs : List Int} (h1 : its e = .ok (xs.map .int) e1)
    (h : ∀ x, x ∈ xs → c (st i (some (.int x)) (st i none e1)) = .ok (p x) (st i (some (.int x)) (st i none e1)) ∧ (p x = true → elt (st i (some (.int x)) (st i none e1)) = .ok (.int (g x)) (st i (some (.int x)) (st i none e1)))) (hl : xs.length ≤ lineN) :
    lc [i] its (.nm i) c elt e = .ok (IL true ((xs.filter p).map g)) (st i none e1) := by
  have := lc_filter (i := i) (c := c) (elt := elt) (p := fun d => match d with | .int x => p x | _ => false) (f := fun d => match d with | .int x => .int (g x) | d => d) h1 (fun d hd => by
    obtain ⟨x, hx, rfl⟩ := List.mem_map.mp hd
    exact ⟨(h x hx).1, fun hp => ⟨(h x hx).2 hp, rfl⟩⟩) (by simpa using hl)
  rw [this]
  simp [IL, List.filter_map, Function.comp_def]
/-! ### how pieces run -/
section
variable {α β : Type} {a b : S} {m : M D} {ms : M (List D)} {e e1 e2 e' : Env} {d x y z dm m' : D} {ds dds : List D} {t : Tg} {f : D → D → Option D} {g1 : D → Option D} {g : List D → O} {c : M Bool} {ma mb : M D}
theorem cst_ok : cst d e = .ok d e := rfl
theorem bw_ok {p : Pl} (h : p.get e = some d) : bw p e = .ok d e := by simp only [bw, h]
theorem bwS_ok {i : Nat} (h : gt i e = some d) : bw (.sl i) e = .ok d e := by simp only [bw, Pl.get, h]
theorem mv_ok {i : Nat} (h : gt i e = some d) : mv i e = .ok d (st i none e) := by simp only [mv, h]
theorem rdS_ok {i : Nat} (h : gt i e = some d) (h2 : d.noOwn = true) : rdS i e = .ok d e := by simp only [rdS, h, h2, if_true]
theorem rdF_ok {i : Nat} (h : gt i e = some d) (h2 : d.freeze = some z) : rdF i e = .ok z (st i (some z) e) := by simp only [rdF, h, h2]
theorem roS_ok (h2 : d.noOwn = true) : roS d e = .ok d e := by simp only [roS, h2, if_true]
theorem intE_ok {i : Int} : cst (.int i) e = .ok (.int i) e := rfl
theorem sq_next (h : a e = .ok .next e') : sq a b e = b e' := by simp only [sq, h]
theorem sq_ret (h : a e = .ok (.ret d) e') : sq a b e = .ok (.ret d) e' := by simp only [sq, h]
theorem sq_ex (h : a e = .ex x e') : sq a b e = .ex x e' := by simp only [sq, h]
theorem asg_ok (h : m e = .ok d e1) (h2 : t.asg d e1 = some e2) : asg t m e = .ok .next e2 := by simp only [asg, bd, h, h2]
theorem parS_ok {is : List Nat} (h : ms e = .ok ds e1) (h2 : asgL (is.map .nm) ds e1 = some e2) : parS is ms e = .ok .next e2 := by simp only [parS, bd, h, h2]
theorem forS_ok {its : M (List D)} (h : its e = .ok ds e1) (h2 : forL t a ds e1 = .ok .next e2) : forS its t a e = .ok .next e2 := by simp only [forS, bd, h, h2]
theorem retS_ok (h : m e = .ok d e1) : retS m e = .ok (.ret d) e1 := by simp only [retS, bd, h, ret1]
theorem drop_ok (h : m e = .ok d e1) : drop m e = .ok .next e1 := by simp only [drop, bd, h, ret1]
theorem ifS_t (h : c e = .ok true e1) : ifS c a b e = a e1 := by simp only [ifS, bd, h, if_true]
theorem ifS_f (h : c e = .ok false e1) : ifS c a b e = b e1 := by simp only [ifS, bd, h, Bool.false_eq_true, if_false]
theorem ifE_t (h : c e = .ok true e1) : ifE c ma mb e = ma e1 := by simp only [ifE, bd, h, if_true]
theorem ifE_f (h : c e = .ok false e1) : ifE c ma mb e = mb e1 := by simp only [ifE, bd, h, Bool.false_eq_true, if_false]
theorem op1_ok (h : m e = .ok x e1) (h2 : g1 x = some z) : op1 g1 m e = .ok z e1 := by simp only [op1, bd, h, op, h2]
theorem op2_ok (h : ma e = .ok x e1) (h1 : mb e1 = .ok y e2) (h2 : f x y = some z) : op2 f ma mb e = .ok z e2 := by simp only [op2, bd, h, h1, op, h2]
theorem argC_ok (h : m e = .ok d e1) (h1 : ms e1 = .ok ds e2) : argC m ms e = .ok (d :: ds) e2 := by simp only [argC, bd, h, h1, ret1]
theorem argN_ok : argN e = .ok [] e := rfl
theorem lstE_ok (h : ms e = .ok ds e1) (h2 : mkL ds = some z) : lstE ms e = .ok z e1 := by simp only [lstE, bd, h, op, h2]
theorem tupE_ok (h : ms e = .ok ds e1) (h2 : mkT ds = some z) : tupE ms e = .ok z e1 := by simp only [tupE, bd, h, op, h2]
theorem tb_ok {k : Bool} (h : m e = .ok d e1) (h2 : truD d = some k) : tb m e = .ok k e1 := by simp only [tb, bd, h, op, h2]
theorem tbB_ok {k : Bool} (h : m e = .ok (.bl k) e1) : tbB m e = .ok k e1 := by simp only [tbB, bd, h, op, blOf]
theorem notB_ok {k : Bool} (h : c e = .ok k e1) : notB c e = .ok (!k) e1 := by simp only [notB, bd, h, ret1]
theorem callW_ok (h : ms e = .ok ds e1) (h2 : g (ds ++ dds) = .ok d m') : callW g dds ms e = .ok d e1 := by simp only [callW, bd, h, fin0, h2]
theorem callPW_ok {chk : D → Bool} {p : Pl} {ks : List Ak} {d0 : D} (h0 : p.get e = some d0) (hc : chk d0 = true) (h : ms e = .ok ds e1) (h1 : p.get e1 = some dm) (hb : borOk ks ds = true) (h2 : g (dm :: (ds ++ dds)) = .ok d m') : callPW chk p g dds ks ms e = .ok d (p.put m' e1) := by
  simp only [callPW, h0, hc, if_true, bd, h, h1, hb, finP, h2]
theorem withRo_ok {i : Nat} {F : D → M α} {r : α} (h : gt i e = some d) (h2 : F d (st i none e) = .ok r e') : withRo i F e = .ok r (st i (some d) e') := by simp only [withRo, h, h2]
theorem withRo_st {i : Nat} {F : D → M α} {r : α} {e3 : Env} (h : gt i e = some d) (h2 : F d (st i none e) = .ok r e') (h3 : st i (some d) e' = e3) : withRo i F e = .ok r e3 := by simp only [withRo, h, h2, h3]
theorem chgA_ok {p : Pl} {F : List D → D → Option (D × D)} {o : Bool} {xs as : List D} {x' res : D} (h0 : p.get e = some (.lst o xs)) (h : ms e = .ok ds e1) (hf : freezeL ds = some as) (h1 : p.get e1 = some x) (h2 : F as x = some (res, x')) : chgA p F ms e = .ok res (p.put x' e1) := by
  simp only [chgA, h0, bd, h, hf, h1, h2]
theorem sthE_ok {s : List Nat} (h : ma e = .ok (.str s) e1) (h1 : mb e1 = .ok y e2) (h2 : f (.str s) y = some z) : sthE ma mb f e = .ok z e2 := by simp only [sthE, bd, h, h1, op, h2]
theorem runF_ret (h : a e = .ok (.ret d) e') : runF false a e = .ok d .non := by simp only [runF, h, Bool.false_eq_true, if_false]
theorem runF_retM (h : a e = .ok (.ret d) e') (h2 : gt 0 e' = some x) : runF true a e = .ok d x := by simp only [runF, h, if_true, h2]
theorem runF_end (h : a e = .ok .next e') : runF false a e = .ok .non .non := by simp only [runF, h, Bool.false_eq_true, if_false]
theorem andV_t (h : ma e = .ok x e1) (h2 : truD x = some true) : andV ma mb e = mb e1 := by simp only [andV, bd, h, op, h2, if_true]
theorem andV_f (h : ma e = .ok x e1) (h2 : truD x = some false) : andV ma mb e = .ok x e1 := by simp only [andV, bd, h, op, h2, Bool.false_eq_true, if_false, ret1]
theorem andB_t {c2 : M Bool} (h : c e = .ok true e1) : andB c c2 e = c2 e1 := by simp only [andB, bd, h, if_true]
theorem andB_f {c2 : M Bool} (h : c e = .ok false e1) : andB c c2 e = .ok false e1 := by simp only [andB, bd, h, Bool.false_eq_true, if_false, ret1]
theorem orB_t {c2 : M Bool} (h : c e = .ok true e1) : orB c c2 e = .ok true e1 := by simp only [orB, bd, h, if_true, ret1]
theorem orB_f {c2 : M Bool} (h : c e = .ok false e1) : orB c c2 e = c2 e1 := by simp only [orB, bd, h, Bool.false_eq_true, if_false]
theorem enumE_ok {o : Bool} {xs : List D} (h : m e = .ok (.lst o xs) e1) (hn : noOwnL xs = true) : enumE m e = .ok (enumL xs) e1 := by simp only [enumE, bd, h, op, itEnumL, hn, if_true]
theorem walkE_ok {o : Bool} {xs : List D} (h : m e = .ok (.lst o xs) e1) (hn : noOwnL xs = true) : walkE m e = .ok xs e1 := by simp only [walkE, bd, h, op, itL, hn, if_true]
end
end Ow
end

section
set_option linter.all false
set_option autoImplicit false
set_option maxRecDepth 100000
set_option maxHeartbeats 4000000
/-! OwT: plain facts about number texts, joined texts, representations. -/
namespace Ow
open PySem L2

/-- the signs of a number that is not negative -/
def numI (x : Int) : List Nat := TL.numL x.toNat
theorem numI_str {x : Int} (h : 0 ≤ x) : (Str.ofString (toString x)).cps.toList = numI x := by
  have e : x = ((x.toNat : Nat) : Int) := by omega
  unfold numI
  rw [← TL.tl_num, ← e]
theorem numI_ofStr {x : Int} (h : 0 ≤ x) : Str.ofString (toString x) = mkS (numI x) := by
  have e := SX.num_S x.toNat
  have e2 : ((x.toNat : Nat) : Int) = x := by omega
  rw [e2] at e
  exact e
theorem log2_le_of {n k : Nat} (h : n < 2 ^ k) (hk : 0 < k) : n.log2 < k := by
  by_cases z : n = 0
  · rw [z]; simpa using hk
  · exact (Nat.log2_lt z).mpr h
theorem strD_num {x : Int} (h0 : 0 ≤ x) (h1 : x < 10000000000000000000000000000000) : strD (.int x) = some (.str (numI x)) := by
  have : x.natAbs.log2 < 1920 := by
    have := log2_le_of (n := x.natAbs) (k := 200) (by omega) (by omega)
    omega
  simp only [strD, this, if_true, numI_str h0]
theorem numI_len {x : Int} (h0 : 0 ≤ x) (h1 : x < 10000000000000000000000000000000) : (numI x).length ≤ 31 := TL.numL_len (by omega) (by omega)
theorem numI_ne (x : Int) : numI x ≠ [] := TL.numL_ne _
theorem numI_dig {x : Int} {c : Nat} (h : c ∈ numI x) : 48 ≤ c ∧ c ≤ 57 := TL.numL_digits _ c h
theorem numI_free {x : Int} {s : Nat} (h : s < 48 ∨ 57 < s) : s ∉ numI x := TL.numL_free h
theorem numI_head : ∀ (n : Nat), ∃ c r, TL.numL n = c :: r ∧ (c = 48 → n = 0) := fun n => by
  induction n using Nat.strongRecOn with
  | _ n ih =>
    by_cases h : n < 10
    · exact ⟨_, _, TL.numL_lt h, fun e => by omega⟩
    · obtain ⟨c, r, e, hc⟩ := ih (n / 10) (by omega)
      refine ⟨c, r ++ [48 + n % 10], by rw [TL.numL_step (by omega), e]; rfl, fun z => ?_⟩
      have := hc z
      omega
theorem intAD_num {x : Int} (h0 : 0 ≤ x) (h1 : x < 10000000000000000000000000000000) : intAD (.str (numI x)) = some (.int x) := by
  have l := numI_len h0 h1
  have e := TL.int_num (n := x.toNat) (by have : (TL.numL x.toNat).length ≤ 31 := l; omega)
  have e2 : ((x.toNat : Nat) : Int) = x := by omega
  rw [e2, numI_ofStr h0] at e
  simp only [intAD, e, Option.map_some]
  rw [if_pos (by omega)]
theorem strs_map {α : Type} (f : α → List Nat) : ∀ xs : List α, strs? (xs.map fun x => D.str (f x)) = some (xs.map f)
  | [] => rfl
  | x :: xs => by simp [strs?, strs_map f xs]
/-- numbers with a blank between them -/
def fmtI (xs : List Int) : List Nat := TL.joinL [32] (xs.map numI)
theorem sum_le_of {α : Type} (f : α → Nat) (k : Nat) : ∀ (xs : List α), (∀ x, x ∈ xs → f x ≤ k) → (xs.map f).sum ≤ xs.length * k
  | [], _ => by simp
  | x :: xs, h => by
    have h1 := sum_le_of f k xs fun y hy => h y (List.mem_cons_of_mem _ hy)
    have h2 := h x List.mem_cons_self
    simp only [List.map_cons, List.sum_cons, List.length_cons, Nat.add_mul]
    omega
theorem joinL_len (S : List Nat) : ∀ ps : List (List Nat), (TL.joinL S ps).length ≤ (ps.map List.length).sum + ps.length * S.length
  | [] => by simp [TL.joinL]
  | [p] => by simp [TL.joinL]
  | p :: q :: r => by
    have h := joinL_len S (q :: r)
    simp only [TL.joinL, List.length_append, List.map_cons, List.sum_cons, List.length_cons, Nat.add_mul] at h ⊢
    omega
theorem joinA_txt {o : Bool} {ss : List (List Nat)} {sep : List Nat} (h : (ss.map List.length).sum + ss.length * sep.length ≤ lineN) : joinA (.str sep) (.lst o (ss.map .str)) = some (.str (TL.joinL sep ss)) := by
  have e := SX.join_S sep ss
  have hs : strs? (ss.map D.str) = some ss := by
    have := strs_map (fun x : List Nat => x) ss
    simpa using this
  have e2 : Txt.join (mkS sep) (ss.map mkS) = mkS (TL.joinL sep ss) := e
  simp only [joinA, hs]
  rw [if_pos h, e2]
  rfl
theorem fmtI_bound {xs : List Int} (h : ∀ x, x ∈ xs → 0 ≤ x ∧ x < 10000000000000000000000000000000) : (((xs.map numI).map List.length).sum) + (xs.map numI).length * 1 ≤ xs.length * 32 := by
  have := sum_le_of (fun x => (numI x).length) 31 xs fun x hx => numI_len (h x hx).1 (h x hx).2
  simp only [List.map_map, List.length_map, Function.comp_def] at this ⊢
  omega
theorem joinA_num {o : Bool} {xs : List Int} (h : ∀ x, x ∈ xs → 0 ≤ x ∧ x < 10000000000000000000000000000000) (hl : xs.length ≤ 1000) : joinA (.str [32]) (.lst o (xs.map fun x => .str (numI x))) = some (.str (fmtI xs)) := by
  have := joinA_txt (o := o) (ss := xs.map numI) (sep := [32]) (by
    have := fmtI_bound h
    simp only [List.length_cons, List.length_nil, lineN] at this ⊢
    omega)
  rw [List.map_map] at this
  exact this
theorem fmtI_len {xs : List Int} (h : ∀ x, x ∈ xs → 0 ≤ x ∧ x < 10000000000000000000000000000000) : (fmtI xs).length ≤ xs.length * 32 := by
  have := joinL_len [32] (xs.map numI)
  have h2 := fmtI_bound h
  unfold fmtI
  simp only [List.length_cons, List.length_nil] at this
  omega
theorem fmtI_ne : ∀ {xs : List Int}, xs ≠ [] → fmtI xs ≠ []
  | [], h => absurd rfl h
  | [x], _ => numI_ne x
  | x :: y :: r, _ => fun e => by
    have e' : numI x ++ ([32] ++ TL.joinL [32] ((y :: r).map numI)) = [] := e
    have := (List.append_eq_nil_iff.mp e').1
    exact numI_ne x this
theorem fmtI_nil : fmtI [] = [] := rfl
theorem splitA_fmt {xs : List Int} (hn : xs ≠ []) (h : ∀ x, x ∈ xs → 0 ≤ x ∧ x < 10000000000000000000000000000000) (hl : xs.length ≤ 1000) : splitA (.str (fmtI xs)) (.str [32]) = some (.lst true (xs.map fun x => .str (numI x))) := by
  have e := SX.split_S (a := fmtI xs) (b := [32]) (by simp) (by decide)
  have e2 : TL.spl [32] 0 [] (fmtI xs) = xs.map numI := SX.spl_join (sep := []) (by simpa using hn) fun p hp => by
    obtain ⟨x, _, rfl⟩ := List.mem_map.mp hp
    exact numI_free (by omega)
  rw [e2] at e
  have e3 : Txt.split (mkS (fmtI xs)) (mkS [32]) = (xs.map numI).map mkS := e
  have l := fmtI_len h
  simp only [splitA, e3]
  rw [if_pos ⟨by simp, by unfold lineN; omega⟩]
  simp only [List.map_map]
  rfl

/-! ### representations -/
/-- every sign below 128 -/
def AsL (l : List Nat) : Prop := ∀ c, c ∈ l → c < 128
theorem AsL.app {a b : List Nat} (h : AsL a) (k : AsL b) : AsL (a ++ b) := fun c hc => (List.mem_append.mp hc).elim (h c) (k c)
theorem AsL.join {S : List Nat} (h : AsL S) : ∀ {ps : List (List Nat)}, (∀ p, p ∈ ps → AsL p) → AsL (TL.joinL S ps)
  | [], _ => fun c hc => by cases hc
  | [p], k => k p List.mem_cons_self
  | p :: q :: r, k => (k p List.mem_cons_self).app (h.app (AsL.join h fun z hz => k z (List.mem_cons_of_mem _ hz)))
theorem AsL.ok {l : List Nat} (h : AsL l) : sgnOk l = true := List.all_eq_true.mpr fun c hc => decide_eq_true (by have := h c hc; omega)
theorem AsL.joinT {S : Str} (h : AsL S.cps.toList) {ps : List Str} (k : ∀ p, p ∈ ps → AsL p.cps.toList) : AsL (Str.join S ps).cps.toList := by
  have e : (Str.join S ps).cps.toList = TL.joinL S.cps.toList (ps.map fun p => p.cps.toList) := TL.tl_join S ps
  rw [e]
  refine AsL.join h fun p hp => ?_
  obtain ⟨z, hz, rfl⟩ := List.mem_map.mp hp
  exact k z hz
theorem AsL.appT {a b : Str} (h : AsL a.cps.toList) (k : AsL b.cps.toList) : AsL (a ++ b).cps.toList := by
  have e : (a ++ b).cps.toList = a.cps.toList ++ b.cps.toList := TL.tl_append a b
  rw [e]
  exact h.app k
theorem AsL.num (x : Int) : AsL (Str.ofString (toString x)).cps.toList := PySem.W.KSb.asc_num x
theorem AsL.dec {l : List Nat} (h : l.all (fun c => decide (c < 128)) = true) : AsL l := fun c hc => of_decide_eq_true (List.all_eq_true.mp h c hc)
structure Sh (n w : Nat) (p : D) : Prop where
  da : p.isData n = true
  sh : (toPy p).showable = true
  hd : (toPy p).hasDict = false
  lf : (toPy p).leavesShort 31 = true
  wt : (toPy p).bulk ≤ w
  as : AsL (toPy p).shown.cps.toList
structure ShL (n w : Nat) (ps : List D) : Prop where
  da : isDataL n ps = true
  sh : PyData.showableAll (toPyL ps) = true
  hd : PyData.hasDictAll (toPyL ps) = false
  lf : PyData.leavesShortAll 31 (toPyL ps) = true
  wt : PyData.bulkAll (toPyL ps) ≤ w
  as : ∀ t, t ∈ PyData.shownAll (toPyL ps) → AsL t.cps.toList
theorem ShL.nil {n w : Nat} : ShL n w [] := ⟨rfl, rfl, rfl, rfl, Nat.zero_le _, fun t ht => by rw [show toPyL [] = [] from rfl, PyData.shownAll_nil] at ht; cases ht⟩
theorem ShL.cons {n w1 w2 w : Nat} {p : D} {ps : List D} (h : Sh n w1 p) (hs : ShL n w2 ps) (hw : w1 + 1 + w2 ≤ w) : ShL n w (p :: ps) :=
  ⟨by simp [isDataL, h.da, hs.da], by simp [toPyL, PyData.showableAll, h.sh, hs.sh], by simp [toPyL, PyData.hasDictAll, h.hd, hs.hd], by simp [toPyL, PyData.leavesShortAll, h.lf, hs.lf], by
    have a := h.wt
    have b := hs.wt
    simp only [toPyL, PyData.bulkAll]
    omega, fun t ht => by
    rw [show toPyL (p :: ps) = toPy p :: toPyL ps from rfl, PyData.shownAll_cons] at ht
    rcases List.mem_cons.mp ht with rfl | ht
    · exact h.as
    · exact hs.as t ht⟩
theorem Sh.lst {n w : Nat} {o : Bool} {ps : List D} (h : ShL n w ps) : Sh (n + 1) w (.lst o ps) :=
  ⟨by simp [D.isData, h.da], by simp [toPy, PyData.showable, h.sh], by simp [toPy, PyData.hasDict, h.hd], by simp [toPy, PyData.leavesShort, h.lf], by simpa [toPy, PyData.bulk] using h.wt, by
    rw [show toPy (.lst o ps) = .list (toPyL ps) from rfl, PyData.shown_list]
    exact ((AsL.dec (by decide)).appT (AsL.joinT (AsL.dec (by decide)) h.as)).appT (AsL.dec (by decide))⟩
theorem Sh.tup {n w : Nat} {ps : List D} (h : ShL n w ps) : Sh (n + 1) w (.tup ps) :=
  ⟨by simp [D.isData, h.da], by simp [toPy, PyData.showable, h.sh], by simp [toPy, PyData.hasDict, h.hd], by simp [toPy, PyData.leavesShort, h.lf], by simpa [toPy, PyData.bulk] using h.wt, by
    rw [show toPy (.tup ps) = .tuple (toPyL ps) from rfl, PyData.shown_tuple]
    refine ((AsL.dec (by decide)).appT (AsL.joinT (AsL.dec (by decide)) h.as)).appT ?_
    split <;> exact AsL.dec (by decide)⟩
theorem Sh.int {n : Nat} {x : Int} (h0 : 0 ≤ x) (h1 : x < 10000000000000000000000000000000) : Sh n 0 (.int x) := by
  refine ⟨by simp [D.isData], ?_, rfl, ?_, ?_, by rw [show toPy (.int x) = .int x from rfl, PyData.shown_int]; exact AsL.num x⟩
  · have := log2_le_of (n := x.natAbs) (k := 200) (by omega) (by omega)
    simp only [toPy, PyData.showable, decide_eq_true_eq]
    omega
  · have e : (PyData.shown (.int x)).length ≤ 31 := by
      rw [PyData.shown_int]
      exact PyProof.Rows.toString_length_le h0 (by decide) (by omega)
    simp only [toPy, PyData.leavesShort, decide_eq_true_eq]
    exact e
  · simp only [toPy, PyData.bulk]
    exact Nat.le_refl _
theorem Sh.non {n w : Nat} : Sh n w .non := ⟨by simp [D.isData], rfl, rfl, rfl, Nat.zero_le _, by rw [show toPy .non = .none from rfl, PyData.shown_none]; exact AsL.dec (by decide)⟩
theorem Sh.mono {n w w' : Nat} {p : D} (h : Sh n w p) (hw : w ≤ w') : Sh n w' p := ⟨h.da, h.sh, h.hd, h.lf, Nat.le_trans h.wt hw, h.as⟩
theorem ShL.ints {n : Nat} : ∀ {xs : List Int}, (∀ x, x ∈ xs → 0 ≤ x ∧ x < 10000000000000000000000000000000) → ShL n xs.length (xs.map .int)
  | [], _ => .nil
  | x :: xs, h => by
    have a := h x List.mem_cons_self
    exact ShL.cons (Sh.int a.1 a.2) (ShL.ints fun y hy => h y (List.mem_cons_of_mem _ hy)) (by simp only [List.length_cons]; omega)
theorem reprD_ok {w : Nat} {d : D} (h : Sh 60 w d) (hs : isSeqD d = true) (hw : 33 * w + 31 ≤ 1000000) : reprD d = some (.str (toPy d).shown.cps.toList) := by
  have l := PyData.shown_le_bulk 31 (by decide) (toPy d) h.lf
  have w1 := h.wt
  have l2 : (toPy d).shown.length ≤ lineN := by
    have : (31 + 2) * (toPy d).bulk ≤ 33 * w := Nat.mul_le_mul_left 33 w1
    unfold lineN
    omega
  unfold reprD
  rw [if_pos]
  simp [h.da, hs, h.sh, h.hd, l2]
theorem reprL_ok {w : Nat} {ms : M (List D)} {ds : List D} {e e1 : Env} (hm : ms e = .ok ds e1) (h : ShL 59 w ds) (hw : 33 * w + 31 ≤ 1000000) (hl : ds.length ≤ 1000) : reprL ms e = .ok (.str (PyData.list (toPyL ds)).shown.cps.toList) e1 := by
  have e2 := reprD_ok (d := .lst false ds) (Sh.lst h) rfl hw
  have l : ds.length ≤ lineN := by unfold lineN; omega
  simp only [reprL, bd, hm, l, if_true, e2, Ow.op]
  rfl
theorem toPyL_ints (xs : List Int) : toPyL (xs.map .int) = xs.map .int := by
  induction xs with
  | nil => rfl
  | cons x xs ih => simp [toPyL, toPy, ih]
theorem neD_str {s t : List Nat} (h : sgnOk s = true) (k : sgnOk t = true) : neD (.str s) (.str t) = some (.bl (!(s == t))) := by simp [neD, D.isData, eqv, h, k]
theorem eqD_str {s t : List Nat} (h : sgnOk s = true) (k : sgnOk t = true) : eqD (.str s) (.str t) = some (.bl (s == t)) := by simp [eqD, D.isData, eqv, h, k]
theorem numI_as (x : Int) : AsL (numI x) := fun c hc => by have := numI_dig hc; omega
theorem fmtI_as (xs : List Int) : AsL (fmtI xs) := AsL.join (AsL.dec (by decide)) fun p hp => by
  obtain ⟨x, _, rfl⟩ := List.mem_map.mp hp
  exact numI_as x
/-- a list of ints or a tuple of them -/
def SQ (xs : List Int) (d : D) : Prop := (∃ o, d = IL o xs) ∨ d = .tup (xs.map .int)
theorem SQ.sh {xs : List Int} {d : D} {n : Nat} (h : SQ xs d) (hb : ∀ x, x ∈ xs → 0 ≤ x ∧ x < 10000000000000000000000000000000) : Sh (n + 1) xs.length d := by
  rcases h with ⟨o, rfl⟩ | rfl
  · exact Sh.lst (ShL.ints hb)
  · exact Sh.tup (ShL.ints hb)
theorem SQ.itL {xs : List Int} {d : D} (h : SQ xs d) : itL d = some (xs.map .int) := by
  rcases h with ⟨o, rfl⟩ | rfl
  · exact itL_IL
  · simp [Ow.itL, noOwnL_ints]
theorem SQ.len {xs : List Int} {d : D} (h : SQ xs d) : lenD d = some (.int xs.length) := by
  rcases h with ⟨o, rfl⟩ | rfl
  · exact lenD_IL
  · simp [lenD]
theorem SQ.listD {xs : List Int} {d : D} (h : SQ xs d) : listD d = some (IL true xs) := by
  rcases h with ⟨o, rfl⟩ | rfl
  · simp [IL, Ow.listD, noOwnL_ints]
  · simp [IL, Ow.listD, noOwnL_ints]
theorem SQ.isi {xs : List Int} {d : D} (h : SQ xs d) : isiTD ["list", "tuple"] d = some (.bl true) := by
  rcases h with ⟨o, rfl⟩ | rfl <;> rfl
theorem distI_same : ∀ {xs : List Int}, xs.Nodup → distI xs = xs
  | [], _ => rfl
  | x :: xs, h => by
    have h' := List.nodup_cons.mp h
    have : xs.contains x = false := by simpa using h'.1
    simp only [distI, this, Bool.false_eq_true, if_false, distI_same h'.2]
theorem SQ.set {xs : List Int} {d : D} (h : SQ xs d) (hn : xs.Nodup) (hl : xs.length ≤ 4000) : lenSetD d = some (.int xs.length) := by
  rcases h with ⟨o, rfl⟩ | rfl
  · simp [IL, lenSetD, ints_map, hl, distI_same hn]
  · simp [lenSetD, ints_map, hl, distI_same hn]
theorem bls_map (f : Int → Bool) : ∀ xs : List Int, bls? (xs.map fun x => D.bl (f x)) = some (xs.map f)
  | [] => rfl
  | x :: xs => by simp [bls?, bls_map f xs]
theorem lc_txt {i : Nat} {its : M (List D)} {elt : M D} {g : Int → List Nat} {e e1 : Env} {xs : List Int} (h1 : its e = .ok (xs.map .int) e1) (h : ∀ x, x ∈ xs → elt (st i (some (.int x)) (st i none e1)) = .ok (.str (g x)) (st i (some (.int x)) (st i none e1))) (hl : xs.length ≤ lineN) :
    lc [i] its (.nm i) yes elt e = .ok (.lst true (xs.map fun x => .str (g x))) (st i none e1) := by
  have := lc_map (i := i) (elt := elt) (f := fun d => match d with | .int x => .str (g x) | d => d) h1 (fun d hd => by
    obtain ⟨x, hx, rfl⟩ := List.mem_map.mp hd
    exact ⟨h x hx, rfl⟩) (by simpa using hl)
  rw [this]
  simp [Function.comp_def]
theorem lc_bl {i : Nat} {its : M (List D)} {elt : M D} {g : Int → Bool} {e e1 : Env} {xs : List Int} (h1 : its e = .ok (xs.map .int) e1) (h : ∀ x, x ∈ xs → elt (st i (some (.int x)) (st i none e1)) = .ok (.bl (g x)) (st i (some (.int x)) (st i none e1))) (hl : xs.length ≤ lineN) :
    lc [i] its (.nm i) yes elt e = .ok (.lst true (xs.map fun x => .bl (g x))) (st i none e1) := by
  have := lc_map (i := i) (elt := elt) (f := fun d => match d with | .int x => .bl (g x) | d => d) h1 (fun d hd => by
    obtain ⟨x, hx, rfl⟩ := List.mem_map.mp hd
    exact ⟨h x hx, rfl⟩) (by simpa using hl)
  rw [this]
  simp [Function.comp_def]
theorem tryN_ok {m : S} {e e' : Env} {f : Fl} (h : m e = .ok f e') : tryN m e = .ok f e' := by simp only [tryN, h]
theorem lenD_lst {o : Bool} {xs : List D} : lenD (.lst o xs) = some (.int xs.length) := rfl
theorem lenD_tup {xs : List D} : lenD (.tup xs) = some (.int xs.length) := rfl
theorem isi_str {x : List Nat} : isiD "str" (.str x) = some (.bl true) := rfl
theorem isiT_int {x : Int} : isiTD ["list", "tuple"] (.int x) = some (.bl false) := rfl
theorem small9 {z : Int} (h0 : 0 ≤ z) (h1 : z ≤ 1000000) : smallI z = true := by simp [smallI]; omega
theorem rng1E_ok {m : M D} {e e' : Env} {z : Int} (h : m e = .ok (.int z) e') (hs : smallI z = true) : rng1E m e = .ok ((rangeI 0 z).map .int) e' := by
  simp only [rng1E, bd, h, Ow.op, itRange1, hs, if_true]
section
variable {m : M D} {e e1 e2 : Env} {x : D} {ma mb : M D} {c c2 : M Bool}
theorem orV_t (h : ma e = .ok x e1) (h2 : truD x = some true) : orV ma mb e = .ok x e1 := by simp only [orV, bd, h, op, h2, if_true, ret1]
theorem orV_f (h : ma e = .ok x e1) (h2 : truD x = some false) : orV ma mb e = mb e1 := by simp only [orV, bd, h, op, h2, Bool.false_eq_true, if_false]
theorem orB_ff {k : Bool} (h : c e = .ok false e1) (h2 : c2 e1 = .ok k e2) : orB c c2 e = .ok k e2 := (orB_f h).trans h2
theorem andB_tt {k : Bool} (h : c e = .ok true e1) (h2 : c2 e1 = .ok k e2) : andB c c2 e = .ok k e2 := (andB_t h).trans h2
theorem st_len {i : Nat} {x : Option D} : (st i x e).length = e.length := by simp [st]
end
end Ow
end

set_option Elab.async false
set_option linter.all false
set_option maxRecDepth 100000
set_option maxHeartbeats 0
set_option autoImplicit false
namespace Mi
open Ow
def B__law_reel (d_script : D) : S :=
    (sq (asg (.nm 1) (op2 powD (cst (.int (19))) (cst (.int (31)))))
    (sq (forS (walkE (slE (cst d_script) optN (optE (cst (.int (63)))))) (.nm 2) (asg (.nm 1) (op2 modD (op2 addD (op2 addD (op2 mulI (bw (.sl 1)) (bw (.sl 1))) (op2 modD (bw (.sl 2)) (cst (.int (1000000000000000003))))) (cst (.int (29)))) (op2 subD (op2 mulI (op2 powD (cst (.int (2))) (cst (.int (64)))) (op2 powD (cst (.int (2))) (cst (.int (63))))) (cst (.int (1)))))))
    (sq (asg (.nm 3) (lc [2] (walkE (slE (cst d_script) optN (optE (cst (.int (63)))))) (.nm 2) (tbB (op2 geD (bw (.sl 2)) (op2 powD (cst (.int (10))) (cst (.int (18)))))) (op2 subD (bw (.sl 2)) (op2 powD (cst (.int (10))) (cst (.int (18)))))))
    (retS (lstE (argC (rdF 3) (argC (op2 addD (lc [2] (walkE (slE (cst d_script) optN (optE (cst (.int (63)))))) (.nm 2) yes (op2 modD (bw (.sl 2)) (cst (.int (1000003))))) (lstE (argC (cst (.int (57))) argN))) (argC (cst (.int (0))) (argC (rdS 1) argN)))))))))
def F__law_reel : List D → O
  | [d_script] => runF false (B__law_reel d_script) [none, none, none, none]
  | _ => .no
def B__law_draw (d_many : D) : S :=
    (sq (ifS (tbB (op2 neD (op2 ixD (bw (.sl 0)) (cst (.int (0)))) (lstE argN))) (sq (asg (.nm 2) (op2 ixD (op2 ixD (bw (.sl 0)) (cst (.int (0)))) (cst (.int (0)))))
    (sq (subS (.sl 0) (op2 addD (op2 mulI (lstE (argC (op2 fdivD (bw (.sl 2)) (cst d_many)) argN)) (op1 intAD (op2 geD (bw (.sl 2)) (cst d_many)))) (slE (op2 ixD (bw (.sl 0)) (cst (.int (0)))) (optE (cst (.int (1)))) optN)) (cst (.int (0))))
    (retS (op2 modD (bw (.sl 2)) (cst d_many))))) skip)
    (sq (subS (.sl 0) (op2 addD (op2 ixD (bw (.sl 0)) (cst (.int (2)))) (cst (.int (1)))) (cst (.int (2))))
    (sq (asg (.nm 3) (op2 ixD (op2 ixD (bw (.sl 0)) (cst (.int (1)))) (op2 modD (op2 ixD (bw (.sl 0)) (cst (.int (2)))) (op1 lenD (op2 ixD (bw (.sl 0)) (cst (.int (1))))))))
    (sq (asg (.nm 4) (op2 addD (op2 addD (op2 mulI (op2 ixD (bw (.sl 0)) (cst (.int (3)))) (op2 ixD (bw (.sl 0)) (cst (.int (3))))) (op2 mulI (op2 addD (bw (.sl 3)) (cst (.int (13)))) (cst (.int (150889))))) (op2 mulI (op2 ixD (bw (.sl 0)) (cst (.int (2)))) (cst (.int (999961))))))
    (sq (subS (.sl 0) (op2 modD (bw (.sl 4)) (op2 subD (op2 mulI (op2 powD (cst (.int (2))) (cst (.int (64)))) (op2 powD (cst (.int (2))) (cst (.int (63))))) (cst (.int (1))))) (cst (.int (3))))
    (retS (op2 modD (op2 fdivD (op2 ixD (bw (.sl 0)) (cst (.int (3)))) (op2 powD (cst (.int (2))) (cst (.int (41))))) (cst d_many))))))))
def F__law_draw : List D → O
  | [d_reel, d_many] => runF true (B__law_draw d_many) [some d_reel, none, none, none, none]
  | _ => .no
def B__law_shuffled (d_values : D) : S :=
    (sq (asg (.nm 2) (op1 listD (cst d_values)))
    (retS (lc [3] (walkR d_values) (.nm 3) yes (chgA (.sl 2) fPopAt (argC (callPW (fun _ => true) (.sl 0) F__law_draw [] [.own] (argC (op1 lenD (bw (.sl 2))) argN)) argN)))))
def F__law_shuffled : List D → O
  | [d_reel, d_values] => runF true (B__law_shuffled d_values) [some d_reel, none, none, none]
  | _ => .no
def B__law_places (d_many : D) : S :=
    (sq (parS [2, 3, 4] (argC (op2 ixD (lstE (argC (cst (.int (1))) (argC (cst (.int (3))) (argC (op2 powD (cst (.int (10))) (cst (.int (27)))) argN)))) (callPW (fun _ => true) (.sl 0) F__law_draw [] [.own] (argC (cst (.int (3))) argN))) (argC (lstE argN) (argC (cst (.int (0))) argN))))
    (sq (forS (rng1E (cst d_many)) (.nm 5) (sq (asg (.nm 4) (op2 addD (rdS 4) (callPW (fun _ => true) (.sl 0) F__law_draw [] [.bor] (argC (bw (.sl 2)) argN))))
    (sq (drop (chgA (.sl 3) fAppend (argC (rdS 4) argN)))
    (asg (.nm 4) (op2 addD (bw (.sl 4)) (cst (.int (1))))))))
    (sq (asg (.nm 6) (callPW (fun _ => true) (.sl 0) F__law_draw [] [.own] (argC (cst (.int (4))) argN)))
    (withRo 3 fun z1 => (retS (ifE (tbB (op2 gtD (bw (.sl 6)) (cst (.int (1))))) (callPW (fun _ => true) (.sl 0) F__law_shuffled [] [.at] (argC (cst z1) argN)) (stepE (cst z1) (optE (op2 subD (cst (.int (1))) (op2 mulI (cst (.int (2))) (bw (.sl 6))))))))))))
def F__law_places : List D → O
  | [d_reel, d_many] => runF true (B__law_places d_many) [some d_reel, none, none, none, none, none, none]
  | _ => .no
def B__law_dressed (self_F : List D → O) (d_value : D) : S :=
    (sq (ifS (notB (tb (op1 (isiTD ["list", "tuple"]) (cst d_value)))) (retS (roS d_value)) skip)
    (sq (asg (.nm 2) (lc [3] (walkR d_value) (.nm 3) yes (callPW (fun _ => true) (.sl 0) self_F [] [.bor] (argC (bw (.sl 3)) argN))))
    (retS (ifE (tbB (op2 eqD (callPW (fun _ => true) (.sl 0) F__law_draw [] [.own] (argC (cst (.int (2))) argN)) (cst (.int (0))))) (mv 2) (op1 tupleD (bw (.sl 2)))))))
def F__law_dressed : Nat → List D → O
  | 0, _ => .no
  | n + 1, [d_reel, d_value] => runF true (B__law_dressed (F__law_dressed n) d_value) [some d_reel, none, none, none]
  | _, _ => .no
def B_is_listed (d_value : D) : S :=
    (retS (op1 (isiTD ["list", "tuple"]) (cst d_value)))
def F_is_listed : List D → O
  | [d_value] => runF false (B_is_listed d_value) [none]
  | _ => .no
def B_is_integer (d_value d_low d_high : D) : S :=
    (sq (ifS (orB (notB (tb (op1 (isiD "int") (cst d_value)))) (tb (op1 (isiD "bool") (cst d_value)))) (retS (cst (.bl false))) skip)
    (retS (andV (op2 leD (cst d_low) (cst d_value)) (orV (op2 isND (cst d_high) (cst .non)) (op2 leD (cst d_value) (cst d_high))))))
def F_is_integer : List D → O
  | [d_value, d_low, d_high] => runF false (B_is_integer d_value d_low d_high) [none, none, none]
  | _ => .no
def B_is_place_list (d_value : D) : S :=
    (sq (ifS (orB (notB (tb (callW F_is_listed [] (argC (cst d_value) argN)))) (tbB (op2 gtD (op1 lenD (cst d_value)) (cst (.int (200)))))) (retS (cst (.bl false))) skip)
    (retS (andV (op1 allD (lc [1] (walkR d_value) (.nm 1) yes (callW F_is_integer [] (argC (bw (.sl 1)) (argC (cst (.int (0))) (argC (cst (.int (1000000000000000000000000000000))) argN)))))) (op2 eqD (op1 lenSetD (cst d_value)) (op1 lenD (cst d_value))))))
def F_is_place_list : List D → O
  | [d_value] => runF false (B_is_place_list d_value) [none, none]
  | _ => .no
def B_checked_places (d_value : D) : S :=
    (sq (ifS (notB (tb (callW F_is_place_list [] (argC (cst d_value) argN)))) stuck skip)
    (retS (op1 listD (cst d_value))))
def F_checked_places : List D → O
  | [d_value] => runF false (B_checked_places d_value) [none]
  | _ => .no
def B_format_places (d_places : D) : S :=
    (retS (sthE (cst (.str [32])) (lc [1] (walkE (callW F_checked_places [] (argC (cst d_places) argN))) (.nm 1) yes (op1 strD (bw (.sl 1)))) joinA))
def F_format_places : List D → O
  | [d_places] => runF false (B_format_places d_places) [none, none]
  | _ => .no
def B_words_of (d_text d_most : D) : S :=
    (sq (ifS (notB (tb (op1 (isiD "str") (cst d_text)))) stuck skip)
    (sq (asg (.nm 2) (ifE (tbB (op2 neD (cst d_text) (cst (.str [])))) (sthE (cst d_text) (cst (.str [32])) splitA) (lstE argN)))
    (sq (ifS (tbB (op2 gtD (op1 lenD (bw (.sl 2))) (cst d_most))) stuck skip)
    (retS (mv 2)))))
def F_words_of : List D → O
  | [d_text, d_most] => runF false (B_words_of d_text d_most) [none, none, none]
  | _ => .no
def B_number_in (d_word : D) : S :=
    (sq (ifS (orB (tbB (op2 eqD (cst d_word) (cst (.str [])))) (orB (tb (op1 anyD (lc [1] (strE (cst d_word)) (.nm 1) yes (op2 notInStrD (bw (.sl 1)) (cst (.str [48, 49, 50, 51, 52, 53, 54, 55, 56, 57])))))) (andB (tbB (op2 eqD (op2 ixD (cst d_word) (cst (.int (0)))) (cst (.str [48])))) (tbB (op2 neD (cst d_word) (cst (.str [48]))))))) (retS (cst .non)) skip)
    (retS (op1 intAD (cst d_word))))
def F_number_in : List D → O
  | [d_word] => runF false (B_number_in d_word) [none, none]
  | _ => .no
def B_parse_places (d_text : D) : S :=
    (sq (asg (.nm 1) (lstE argN))
    (sq (forS (enumE (callW F_words_of [] (argC (cst d_text) (argC (cst (.int (200))) argN)))) (.tp [(.nm 2), (.nm 3)]) (sq (drop (chgA (.sl 1) fAppend (argC (callW F_number_in [] (argC (bw (.sl 3)) argN)) argN)))
    (tryN (drop (callW F_checked_places [] (argC (bw (.sl 1)) argN))))))
    (retS (mv 1))))
def F_parse_places : List D → O
  | [d_text] => runF false (B_parse_places d_text) [none, none, none, none]
  | _ => .no
def B_law (d_script : D) : S :=
    (sq (asg (.nm 1) (callW F__law_reel [] (argC (cst d_script) argN)))
    (sq (forS (rng1E (op2 addD (cst (.int (3))) (op2 min2 (op1 lenD (cst d_script)) (cst (.int (6)))))) (.nm 2) (sq (asg (.nm 3) (callPW (fun _ => true) (.sl 1) F__law_places [] [.own] (argC (callPW (fun _ => true) (.sl 1) F__law_draw [] [.own] (argC (op2 ixD (lstE (argC (cst (.int (12))) (argC (cst (.int (201))) argN))) (op2 modD (bw (.sl 2)) (cst (.int (2))))) argN)) argN)))
    (sq (ifS (tbB (op2 eqD (callPW (fun _ => true) (.sl 1) F__law_draw [] [.own] (argC (cst (.int (2))) argN)) (cst (.int (0))))) (asg (.nm 3) (op2 addD (slE (bw (.sl 3)) optN (optE (cst (.int (199))))) (lstE (argC (op2 powD (cst (.int (10))) (cst (.int (30)))) argN)))) skip)
    (sq (withRo 3 fun z1 => (asg (.nm 4) (callPW (fun _ => true) (.sl 1) (F__law_dressed 2) [] [.at] (argC (cst z1) argN))))
    (sq (asg (.nm 5) (reprL (argC (bw (.sl 3)) (argC (bw (.sl 4)) argN))))
    (sq (withRo 3 fun z2 => (asg (.nm 6) (sthE (cst (.str [32])) (lc [7] (walkR z2) (.nm 7) yes (op1 strD (bw (.sl 7)))) joinA)))
    (sq (ifS (orB (tbB (op2 neD (lstE (argC (callW F_format_places [] (argC (bw (.sl 3)) argN)) (argC (callW F_format_places [] (argC (bw (.sl 4)) argN)) argN))) (lstE (argC (rdS 6) (argC (rdS 6) argN))))) (tbB (op2 neD (reprL (argC (bw (.sl 3)) (argC (bw (.sl 4)) argN))) (bw (.sl 5))))) (retS (cst (.bl false))) skip)
    (sq (asg (.nm 8) (callW F_parse_places [] (argC (callW F_format_places [] (argC (bw (.sl 3)) argN)) argN)))
    (sq (ifS (tbB (op2 neD (op1 reprD (bw (.sl 8))) (op1 reprD (bw (.sl 3))))) (retS (cst (.bl false))) skip)
    (sq (drop (chgA (.sl 8) fAppend (argC (cst .non) argN)))
    (sq (ifS (tbB (op2 neD (op1 reprD (callW F_parse_places [] (argC (callW F_format_places [] (argC (bw (.sl 4)) argN)) argN))) (op1 reprD (bw (.sl 3))))) (retS (cst (.bl false))) skip)
    (ifS (tbB (op2 neD (bw (.sl 3)) (lstE argN))) (sq (drop (chgA (.sl 3) fPopAt (argC (callPW (fun _ => true) (.sl 1) F__law_draw [] [.own] (argC (op1 lenD (bw (.sl 3))) argN)) argN)))
    (ifS (tbB (op2 neD (callW F_format_places [] (argC (bw (.sl 3)) argN)) (sthE (cst (.str [32])) (lc [7] (walkE (mv 3)) (.nm 7) yes (op1 strD (bw (.sl 7)))) joinA))) (retS (cst (.bl false))) skip)) skip))))))))))))
    (retS (andV (op2 eqD (callW F_format_places [] (argC (tupE argN) argN)) (cst (.str []))) (andV (op2 eqD (callW F_parse_places [] (argC (cst (.str [])) argN)) (lstE argN)) (op2 eqD (callW F_parse_places [] (argC (cst (.str [48])) argN)) (lstE (argC (cst (.int (0))) argN))))))))
def F_law : List D → O
  | [d_script] => runF false (B_law d_script) [none, none, none, none, none, none, none, none, none]
  | _ => .no
end Mi
namespace Hd
open PySem PySem.Spec L2 Ow Mi
open PyProof.Rows hiding St
def topS (i : Nat) : Stmt := PySem.Challenge.pw_leftreturn_k50_places_as_text.main.body.getD i (.Pass ⟨0, 0, 0, 0⟩)
def inC (s : Stmt) (j : Nat) : Stmt := match s with
  | .ClassDef _ _ _ b _ _ _ _ _ _ _ => b.getD j (.Pass ⟨0, 0, 0, 0⟩)
  | _ => .Pass ⟨0, 0, 0, 0⟩
def d__law_reel : He.DefD := ⟨("_law_reel", none), "_law_reel", "_law_reel", defArgs (topS 20), defBody (topS 20), defScope (topS 20), [], []⟩
def N__law_reel : List Str := ["script", "stir", "cell", "great"]
theorem sc__law_reel : FnScope N__law_reel ["script"] d__law_reel.scope := ⟨by decide +kernel, by decide +kernel, by decide +kernel, by decide +kernel, by decide +kernel, by decide +kernel, by decide +kernel⟩
def d__law_draw : He.DefD := ⟨("_law_draw", none), "_law_draw", "_law_draw", defArgs (topS 21), defBody (topS 21), defScope (topS 21), [], []⟩
def N__law_draw : List Str := ["reel", "many", "rest", "extra", "stir"]
theorem sc__law_draw : FnScope N__law_draw ["reel", "many"] d__law_draw.scope := ⟨by decide +kernel, by decide +kernel, by decide +kernel, by decide +kernel, by decide +kernel, by decide +kernel, by decide +kernel⟩
def d__law_shuffled : He.DefD := ⟨("_law_shuffled", none), "_law_shuffled", "_law_shuffled", defArgs (topS 22), defBody (topS 22), defScope (topS 22), [], []⟩
def N__law_shuffled : List Str := ["reel", "values", "left", "value"]
theorem sc__law_shuffled : FnScope N__law_shuffled ["reel", "values"] d__law_shuffled.scope := ⟨by decide +kernel, by decide +kernel, by decide +kernel, by decide +kernel, by decide +kernel, by decide +kernel, by decide +kernel⟩
def d__law_places : He.DefD := ⟨("_law_places", none), "_law_places", "_law_places", defArgs (topS 23), defBody (topS 23), defScope (topS 23), [], []⟩
def N__law_places : List Str := ["reel", "many", "step", "found", "place", "turn", "way"]
theorem sc__law_places : FnScope N__law_places ["reel", "many"] d__law_places.scope := ⟨by decide +kernel, by decide +kernel, by decide +kernel, by decide +kernel, by decide +kernel, by decide +kernel, by decide +kernel⟩
def d__law_dressed : He.DefD := ⟨("_law_dressed", none), "_law_dressed", "_law_dressed", defArgs (topS 26), defBody (topS 26), defScope (topS 26), [], []⟩
def N__law_dressed : List Str := ["reel", "value", "parts", "part"]
theorem sc__law_dressed : FnScope N__law_dressed ["reel", "value"] d__law_dressed.scope := ⟨by decide +kernel, by decide +kernel, by decide +kernel, by decide +kernel, by decide +kernel, by decide +kernel, by decide +kernel⟩
def d_is_listed : He.DefD := ⟨("is_listed", none), "is_listed", "is_listed", defArgs (topS 7), defBody (topS 7), defScope (topS 7), [], []⟩
def N_is_listed : List Str := ["value"]
theorem sc_is_listed : FnScope N_is_listed ["value"] d_is_listed.scope := ⟨by decide +kernel, by decide +kernel, by decide +kernel, by decide +kernel, by decide +kernel, by decide +kernel, by decide +kernel⟩
def d_is_integer : He.DefD := ⟨("is_integer", none), "is_integer", "is_integer", defArgs (topS 6), defBody (topS 6), defScope (topS 6), [.non], []⟩
def N_is_integer : List Str := ["value", "low", "high"]
theorem sc_is_integer : FnScope N_is_integer ["value", "low", "high"] d_is_integer.scope := ⟨by decide +kernel, by decide +kernel, by decide +kernel, by decide +kernel, by decide +kernel, by decide +kernel, by decide +kernel⟩
def d_is_place_list : He.DefD := ⟨("is_place_list", none), "is_place_list", "is_place_list", defArgs (topS 10), defBody (topS 10), defScope (topS 10), [], []⟩
def N_is_place_list : List Str := ["value", "place"]
theorem sc_is_place_list : FnScope N_is_place_list ["value"] d_is_place_list.scope := ⟨by decide +kernel, by decide +kernel, by decide +kernel, by decide +kernel, by decide +kernel, by decide +kernel, by decide +kernel⟩
def d_checked_places : He.DefD := ⟨("checked_places", none), "checked_places", "checked_places", defArgs (topS 11), defBody (topS 11), defScope (topS 11), [], []⟩
def N_checked_places : List Str := ["value"]
theorem sc_checked_places : FnScope N_checked_places ["value"] d_checked_places.scope := ⟨by decide +kernel, by decide +kernel, by decide +kernel, by decide +kernel, by decide +kernel, by decide +kernel, by decide +kernel⟩
def d_format_places : He.DefD := ⟨("format_places", none), "format_places", "format_places", defArgs (topS 16), defBody (topS 16), defScope (topS 16), [], []⟩
def N_format_places : List Str := ["places", "place"]
theorem sc_format_places : FnScope N_format_places ["places"] d_format_places.scope := ⟨by decide +kernel, by decide +kernel, by decide +kernel, by decide +kernel, by decide +kernel, by decide +kernel, by decide +kernel⟩
def d_words_of : He.DefD := ⟨("words_of", none), "words_of", "words_of", defArgs (topS 17), defBody (topS 17), defScope (topS 17), [], []⟩
def N_words_of : List Str := ["text", "most", "words"]
theorem sc_words_of : FnScope N_words_of ["text", "most"] d_words_of.scope := ⟨by decide +kernel, by decide +kernel, by decide +kernel, by decide +kernel, by decide +kernel, by decide +kernel, by decide +kernel⟩
def d_number_in : He.DefD := ⟨("number_in", none), "number_in", "number_in", defArgs (topS 15), defBody (topS 15), defScope (topS 15), [], []⟩
def N_number_in : List Str := ["word", "sign"]
theorem sc_number_in : FnScope N_number_in ["word"] d_number_in.scope := ⟨by decide +kernel, by decide +kernel, by decide +kernel, by decide +kernel, by decide +kernel, by decide +kernel, by decide +kernel⟩
def d_parse_places : He.DefD := ⟨("parse_places", none), "parse_places", "parse_places", defArgs (topS 18), defBody (topS 18), defScope (topS 18), [], []⟩
def N_parse_places : List Str := ["text", "found", "index", "word"]
theorem sc_parse_places : FnScope N_parse_places ["text"] d_parse_places.scope := ⟨by decide +kernel, by decide +kernel, by decide +kernel, by decide +kernel, by decide +kernel, by decide +kernel, by decide +kernel⟩
def d_law : He.DefD := ⟨("law", none), "law", "law", defArgs (topS 27), defBody (topS 27), defScope (topS 27), [], []⟩
def N_law : List Str := ["script", "reel", "k", "places", "dressed", "kept", "due", "place", "found"]
theorem sc_law : FnScope N_law ["script"] d_law.scope := ⟨by decide +kernel, by decide +kernel, by decide +kernel, by decide +kernel, by decide +kernel, by decide +kernel, by decide +kernel⟩
def ctK (K : PySem.W.Frag) : Nat → Addr
  | _ => 0
def fn : List He.DefD := [d__law_reel, d__law_draw, d__law_shuffled, d__law_places, d__law_dressed, d_is_listed, d_is_integer, d_is_place_list, d_checked_places, d_format_places, d_words_of, d_number_in, d_parse_places, d_law]
def fa : List He.Fa := [.free "all", .free "any", .free "bool", .free "enumerate", .free "int", .free "isinstance", .free "len", .free "list", .free "min", .free "range", .free "repr", .free "set", .free "str", .free "tuple", .str "DIGITS" "0123456789", .int "MAX_PLACE" (1000000000000000000000000000000), .int "MAX_PLACES" (200), .int "MAX_SIZE" (200), .glo "_law_reel", .glo "_law_draw", .glo "_law_shuffled", .glo "_law_places", .glo "_law_dressed", .glo "is_listed", .glo "is_integer", .glo "is_place_list", .glo "checked_places", .glo "format_places", .glo "words_of", .glo "number_in", .glo "parse_places", .glo "law", .glo "InvalidPlaces"]
structure Fs (K : PySem.W.Frag) (mg : Str → Option Value) : Prop where
  b_all : mg "all" = none
  b_any : mg "any" = none
  b_bool : mg "bool" = none
  b_enumerate : mg "enumerate" = none
  b_int : mg "int" = none
  b_isinstance : mg "isinstance" = none
  b_len : mg "len" = none
  b_list : mg "list" = none
  b_min : mg "min" = none
  b_range : mg "range" = none
  b_repr : mg "repr" = none
  b_set : mg "set" = none
  b_str : mg "str" = none
  b_tuple : mg "tuple" = none
  c_DIGITS : ∃ t, mg "DIGITS" = some (.str ⟨[48, 49, 50, 51, 52, 53, 54, 55, 56, 57].toArray⟩ t)
  c_MAX_PLACE : ∃ t, mg "MAX_PLACE" = some (.int (1000000000000000000000000000000) t)
  c_MAX_PLACES : ∃ t, mg "MAX_PLACES" = some (.int (200) t)
  c_MAX_SIZE : ∃ t, mg "MAX_SIZE" = some (.int (200) t)
  g__law_reel : mg "_law_reel" = some (.ref (He.ga K "_law_reel"))
  g__law_draw : mg "_law_draw" = some (.ref (He.ga K "_law_draw"))
  g__law_shuffled : mg "_law_shuffled" = some (.ref (He.ga K "_law_shuffled"))
  g__law_places : mg "_law_places" = some (.ref (He.ga K "_law_places"))
  g__law_dressed : mg "_law_dressed" = some (.ref (He.ga K "_law_dressed"))
  g_is_listed : mg "is_listed" = some (.ref (He.ga K "is_listed"))
  g_is_integer : mg "is_integer" = some (.ref (He.ga K "is_integer"))
  g_is_place_list : mg "is_place_list" = some (.ref (He.ga K "is_place_list"))
  g_checked_places : mg "checked_places" = some (.ref (He.ga K "checked_places"))
  g_format_places : mg "format_places" = some (.ref (He.ga K "format_places"))
  g_words_of : mg "words_of" = some (.ref (He.ga K "words_of"))
  g_number_in : mg "number_in" = some (.ref (He.ga K "number_in"))
  g_parse_places : mg "parse_places" = some (.ref (He.ga K "parse_places"))
  g_law : mg "law" = some (.ref (He.ga K "law"))
  g_InvalidPlaces : mg "InvalidPlaces" = some (.ref (He.ga K "InvalidPlaces"))
  f__law_reel : ∃ fd, FunD K "_law_reel" "_law_reel" d__law_reel.params d__law_reel.body d__law_reel.scope (d__law_reel.dvs K) (d__law_reel.kws K) (He.fAd K d__law_reel.at_) fd
  f__law_draw : ∃ fd, FunD K "_law_draw" "_law_draw" d__law_draw.params d__law_draw.body d__law_draw.scope (d__law_draw.dvs K) (d__law_draw.kws K) (He.fAd K d__law_draw.at_) fd
  f__law_shuffled : ∃ fd, FunD K "_law_shuffled" "_law_shuffled" d__law_shuffled.params d__law_shuffled.body d__law_shuffled.scope (d__law_shuffled.dvs K) (d__law_shuffled.kws K) (He.fAd K d__law_shuffled.at_) fd
  f__law_places : ∃ fd, FunD K "_law_places" "_law_places" d__law_places.params d__law_places.body d__law_places.scope (d__law_places.dvs K) (d__law_places.kws K) (He.fAd K d__law_places.at_) fd
  f__law_dressed : ∃ fd, FunD K "_law_dressed" "_law_dressed" d__law_dressed.params d__law_dressed.body d__law_dressed.scope (d__law_dressed.dvs K) (d__law_dressed.kws K) (He.fAd K d__law_dressed.at_) fd
  f_is_listed : ∃ fd, FunD K "is_listed" "is_listed" d_is_listed.params d_is_listed.body d_is_listed.scope (d_is_listed.dvs K) (d_is_listed.kws K) (He.fAd K d_is_listed.at_) fd
  f_is_integer : ∃ fd, FunD K "is_integer" "is_integer" d_is_integer.params d_is_integer.body d_is_integer.scope (d_is_integer.dvs K) (d_is_integer.kws K) (He.fAd K d_is_integer.at_) fd
  f_is_place_list : ∃ fd, FunD K "is_place_list" "is_place_list" d_is_place_list.params d_is_place_list.body d_is_place_list.scope (d_is_place_list.dvs K) (d_is_place_list.kws K) (He.fAd K d_is_place_list.at_) fd
  f_checked_places : ∃ fd, FunD K "checked_places" "checked_places" d_checked_places.params d_checked_places.body d_checked_places.scope (d_checked_places.dvs K) (d_checked_places.kws K) (He.fAd K d_checked_places.at_) fd
  f_format_places : ∃ fd, FunD K "format_places" "format_places" d_format_places.params d_format_places.body d_format_places.scope (d_format_places.dvs K) (d_format_places.kws K) (He.fAd K d_format_places.at_) fd
  f_words_of : ∃ fd, FunD K "words_of" "words_of" d_words_of.params d_words_of.body d_words_of.scope (d_words_of.dvs K) (d_words_of.kws K) (He.fAd K d_words_of.at_) fd
  f_number_in : ∃ fd, FunD K "number_in" "number_in" d_number_in.params d_number_in.body d_number_in.scope (d_number_in.dvs K) (d_number_in.kws K) (He.fAd K d_number_in.at_) fd
  f_parse_places : ∃ fd, FunD K "parse_places" "parse_places" d_parse_places.params d_parse_places.body d_parse_places.scope (d_parse_places.dvs K) (d_parse_places.kws K) (He.fAd K d_parse_places.at_) fd
  f_law : ∃ fd, FunD K "law" "law" d_law.params d_law.body d_law.scope (d_law.dvs K) (d_law.kws K) (He.fAd K d_law.at_) fd
theorem fs_of {K : PySem.W.Frag} {h : Heap} {mg : Str → Option Value} (X : K.In h) (G : h.Ns mainGlobals mg) (c : He.SaysD fa fn K) : Fs K mg where
  b_all := He.free_ok X G (c.fact 0 (f := .free "all") rfl)
  b_any := He.free_ok X G (c.fact 1 (f := .free "any") rfl)
  b_bool := He.free_ok X G (c.fact 2 (f := .free "bool") rfl)
  b_enumerate := He.free_ok X G (c.fact 3 (f := .free "enumerate") rfl)
  b_int := He.free_ok X G (c.fact 4 (f := .free "int") rfl)
  b_isinstance := He.free_ok X G (c.fact 5 (f := .free "isinstance") rfl)
  b_len := He.free_ok X G (c.fact 6 (f := .free "len") rfl)
  b_list := He.free_ok X G (c.fact 7 (f := .free "list") rfl)
  b_min := He.free_ok X G (c.fact 8 (f := .free "min") rfl)
  b_range := He.free_ok X G (c.fact 9 (f := .free "range") rfl)
  b_repr := He.free_ok X G (c.fact 10 (f := .free "repr") rfl)
  b_set := He.free_ok X G (c.fact 11 (f := .free "set") rfl)
  b_str := He.free_ok X G (c.fact 12 (f := .free "str") rfl)
  b_tuple := He.free_ok X G (c.fact 13 (f := .free "tuple") rfl)
  c_DIGITS := He.str_ok X G (c.fact 14 (f := .str "DIGITS" "0123456789") rfl)
  c_MAX_PLACE := He.int_ok X G (c.fact 15 (f := .int "MAX_PLACE" (1000000000000000000000000000000)) rfl)
  c_MAX_PLACES := He.int_ok X G (c.fact 16 (f := .int "MAX_PLACES" (200)) rfl)
  c_MAX_SIZE := He.int_ok X G (c.fact 17 (f := .int "MAX_SIZE" (200)) rfl)
  g__law_reel := He.glo_ok X G (c.fact 18 (f := .glo "_law_reel") rfl)
  g__law_draw := He.glo_ok X G (c.fact 19 (f := .glo "_law_draw") rfl)
  g__law_shuffled := He.glo_ok X G (c.fact 20 (f := .glo "_law_shuffled") rfl)
  g__law_places := He.glo_ok X G (c.fact 21 (f := .glo "_law_places") rfl)
  g__law_dressed := He.glo_ok X G (c.fact 22 (f := .glo "_law_dressed") rfl)
  g_is_listed := He.glo_ok X G (c.fact 23 (f := .glo "is_listed") rfl)
  g_is_integer := He.glo_ok X G (c.fact 24 (f := .glo "is_integer") rfl)
  g_is_place_list := He.glo_ok X G (c.fact 25 (f := .glo "is_place_list") rfl)
  g_checked_places := He.glo_ok X G (c.fact 26 (f := .glo "checked_places") rfl)
  g_format_places := He.glo_ok X G (c.fact 27 (f := .glo "format_places") rfl)
  g_words_of := He.glo_ok X G (c.fact 28 (f := .glo "words_of") rfl)
  g_number_in := He.glo_ok X G (c.fact 29 (f := .glo "number_in") rfl)
  g_parse_places := He.glo_ok X G (c.fact 30 (f := .glo "parse_places") rfl)
  g_law := He.glo_ok X G (c.fact 31 (f := .glo "law") rfl)
  g_InvalidPlaces := He.glo_ok X G (c.fact 32 (f := .glo "InvalidPlaces") rfl)
  f__law_reel := c.def_ 0 (d := d__law_reel) rfl
  f__law_draw := c.def_ 1 (d := d__law_draw) rfl
  f__law_shuffled := c.def_ 2 (d := d__law_shuffled) rfl
  f__law_places := c.def_ 3 (d := d__law_places) rfl
  f__law_dressed := c.def_ 4 (d := d__law_dressed) rfl
  f_is_listed := c.def_ 5 (d := d_is_listed) rfl
  f_is_integer := c.def_ 6 (d := d_is_integer) rfl
  f_is_place_list := c.def_ 7 (d := d_is_place_list) rfl
  f_checked_places := c.def_ 8 (d := d_checked_places) rfl
  f_format_places := c.def_ 9 (d := d_format_places) rfl
  f_words_of := c.def_ 10 (d := d_words_of) rfl
  f_number_in := c.def_ 11 (d := d_number_in) rfl
  f_parse_places := c.def_ 12 (d := d_parse_places) rfl
  f_law := c.def_ 13 (d := d_law) rfl
section
variable {P : Program} {w : World} {K : PySem.W.Frag} {mg : Str → Option Value} {base : Heap}
theorem fo__law_reel (T : Fs K mg) {fd : FuncData} (Fd : FunD K "_law_reel" "_law_reel" d__law_reel.params d__law_reel.body d__law_reel.scope (d__law_reel.dvs K) (d__law_reel.kws K) (He.fAd K d__law_reel.at_) fd) : FnG P w K mg base (1) (He.fAd K d__law_reel.at_) fd ["script"] (SpW K (ctK K) false [.ro] F__law_reel) := by
  refine fn_ow (m := fun ds => match ds with | [d_script] => B__law_reel d_script | _ => stuck) (n := 3) Fd sc__law_reel rfl rfl (fun dm ds h => ?_) (fun cdv A outer s H E ds h cl => ?_)
  · exact match ds, h with | [d_script], _ => rfl
  · exact match ds, h with | [d_script], _ => (show JSs _ _ _ (B__law_reel d_script) from by
    unfold B__law_reel
    exact (js_cons (by exact (js_set (i := 1) sc__law_reel.nd rfl (by first | exact Or.inl rfl | exact Or.inr rfl) (e_pow je_int je_int)))
    (js_cons (by exact (js_for (passes_of rfl) cl.cm (by exact (ji_val (je_sl (je_ro (pv 0) (by exact (.head _))) jo_none (jo_some je_int)))) (jg_nm (i := 2) sc__law_reel.nd rfl (by first | exact Or.inl rfl | exact Or.inr rfl)) (js_one (by exact (js_set (i := 1) sc__law_reel.nd rfl (by first | exact Or.inl rfl | exact Or.inr rfl) (e_mod (e_add (e_add (e_mul (je_bw (pv 1)) (je_bw (pv 1))) (e_mod (je_bw (pv 2)) je_int)) je_int) (e_sub (e_mul (e_pow je_int je_int) (e_pow je_int je_int)) je_int)))))))
    (js_cons (by exact (js_setLc (i := 3) cl.cm sc__law_reel.nd rfl rfl (sw_true rfl rfl rfl (by decide +kernel)) (by exact (ji_val (je_sl (je_ro (pv 0) (by exact (.head _))) jo_none (jo_some je_int)))) (blkOk_by (own := [("cell", 2)]) (N := N__law_reel) (sc := d__law_reel.scope) (by decide +kernel)) (fun _ _ _ _ _ => by exact (jg_nm (i := 2) sc__law_reel.nd rfl (by first | exact Or.inl rfl | exact Or.inr rfl))) (fun _ _ _ _ _ => by exact (jts_one (t_ge (je_bw (pv 2)) (e_pow je_int je_int)))) (fun _ _ _ _ _ => by exact (e_sub (je_bw (pv 2)) (e_pow je_int je_int)))))
    (js_one (by exact (js_ret (je_lst (ja_cons (je_rdF (pv 3)) (ja_cons (e_add (je_lc cl.cm sc__law_reel.nd (by exact (ji_val (je_sl (je_ro (pv 0) (by exact (.head _))) jo_none (jo_some je_int)))) (blkOk_by (own := [("cell", 2)]) (N := N__law_reel) (sc := d__law_reel.scope) (by decide +kernel)) (fun _ _ _ _ _ => by exact (jg_nm (i := 2) sc__law_reel.nd rfl (by first | exact Or.inl rfl | exact Or.inr rfl))) (fun _ _ _ _ _ => by exact (jts_nil (q := true))) (fun _ _ _ _ _ => by exact (e_mod (je_bw (pv 2)) je_int))) (je_lst (ja_cons je_int ja_nil))) (ja_cons je_int (ja_cons (je_rdS (pv 1)) ja_nil))))))))))))
theorem ok__law_reel (T : Fs K mg) : Glb P w K mg base "_law_reel" 1 [] (SpW K (ctK K) false [.ro] F__law_reel) := by
  obtain ⟨fd, Fd⟩ := T.f__law_reel
  have F := fo__law_reel (P := P) (w := w) (base := base) T Fd
  exact ⟨_, fd, ["script"], [], F, T.g__law_reel, Fd.kp, Fd.bindsN fun _ _ _ _ _ _ us hl => match us, hl with | [_], _ => rfl, .nil⟩
theorem fo__law_draw (T : Fs K mg) {fd : FuncData} (Fd : FunD K "_law_draw" "_law_draw" d__law_draw.params d__law_draw.body d__law_draw.scope (d__law_draw.dvs K) (d__law_draw.kws K) (He.fAd K d__law_draw.at_) fd) : FnG P w K mg base (1) (He.fAd K d__law_draw.at_) fd ["reel", "many"] (SpW K (ctK K) true [.ro] F__law_draw) := by
  refine fn_ow (m := fun ds => match ds with | [d_many] => B__law_draw d_many | _ => stuck) (n := 3) Fd sc__law_draw rfl rfl (fun dm ds h => ?_) (fun cdv A outer s H E ds h cl => ?_)
  · exact match ds, h with | [d_many], _ => rfl
  · exact match ds, h with | [d_many], _ => (show JSs _ _ _ (B__law_draw d_many) from by
    unfold B__law_draw
    exact (js_cons (by exact (js_if (t_ne (je_ix (je_bw (pv 0)) je_int (fun _ _ => rfl)) (je_lst ja_nil) (cl := cl)) (js_cons (by exact (js_set (i := 2) sc__law_draw.nd rfl (by first | exact Or.inl rfl | exact Or.inr rfl) (je_ix (je_ix (je_bw (pv 0)) je_int (fun _ _ => rfl)) je_int (fun _ _ => rfl))))
    (js_cons (by exact (js_sub (e_add (e_mul (je_lst (ja_cons (e_fdiv (je_bw (pv 2)) (je_ro (pv 1) (by exact (.head _)))) ja_nil)) (e_int T.b_int (e_ge (je_bw (pv 2)) (je_ro (pv 1) (by exact (.head _)))))) (je_sl (je_ix (je_bw (pv 0)) je_int (fun _ _ => rfl)) (jo_some je_int) jo_none)) (jpl_sl (pv 0)) je_int))
    (js_one (by exact (js_ret (e_mod (je_bw (pv 2)) (je_ro (pv 1) (by exact (.head _))))))))) js_nil))
    (js_cons (by exact (js_sub (e_add (je_ix (je_bw (pv 0)) je_int (fun _ _ => rfl)) je_int) (jpl_sl (pv 0)) je_int))
    (js_cons (by exact (js_set (i := 3) sc__law_draw.nd rfl (by first | exact Or.inl rfl | exact Or.inr rfl) (je_ix (je_ix (je_bw (pv 0)) je_int (fun _ _ => rfl)) (e_mod (je_ix (je_bw (pv 0)) je_int (fun _ _ => rfl)) (e_len T.b_len (je_ix (je_bw (pv 0)) je_int (fun _ _ => rfl)))) (fun _ _ => rfl))))
    (js_cons (by exact (js_set (i := 4) sc__law_draw.nd rfl (by first | exact Or.inl rfl | exact Or.inr rfl) (e_add (e_add (e_mul (je_ix (je_bw (pv 0)) je_int (fun _ _ => rfl)) (je_ix (je_bw (pv 0)) je_int (fun _ _ => rfl))) (e_mul (e_add (je_bw (pv 3)) je_int) je_int)) (e_mul (je_ix (je_bw (pv 0)) je_int (fun _ _ => rfl)) je_int))))
    (js_cons (by exact (js_sub (e_mod (je_bw (pv 4)) (e_sub (e_mul (e_pow je_int je_int) (e_pow je_int je_int)) je_int)) (jpl_sl (pv 0)) je_int))
    (js_one (by exact (js_ret (e_mod (e_fdiv (je_ix (je_bw (pv 0)) je_int (fun _ _ => rfl)) (e_pow je_int je_int)) (je_ro (pv 1) (by exact (.head _)))))))))))))
theorem ok__law_draw (T : Fs K mg) : Glb P w K mg base "_law_draw" 1 [] (SpW K (ctK K) true [.ro] F__law_draw) := by
  obtain ⟨fd, Fd⟩ := T.f__law_draw
  have F := fo__law_draw (P := P) (w := w) (base := base) T Fd
  exact ⟨_, fd, ["reel", "many"], [], F, T.g__law_draw, Fd.kp, Fd.bindsN fun _ _ _ _ _ _ us hl => match us, hl with | [_, _], _ => rfl, .nil⟩
theorem fo__law_shuffled (T : Fs K mg) {fd : FuncData} (Fd : FunD K "_law_shuffled" "_law_shuffled" d__law_shuffled.params d__law_shuffled.body d__law_shuffled.scope (d__law_shuffled.dvs K) (d__law_shuffled.kws K) (He.fAd K d__law_shuffled.at_) fd) : FnG P w K mg base (2) (He.fAd K d__law_shuffled.at_) fd ["reel", "values"] (SpW K (ctK K) true [.ro] F__law_shuffled) := by
  refine fn_ow (m := fun ds => match ds with | [d_values] => B__law_shuffled d_values | _ => stuck) (n := 2) Fd sc__law_shuffled rfl rfl (fun dm ds h => ?_) (fun cdv A outer s H E ds h cl => ?_)
  · exact match ds, h with | [d_values], _ => rfl
  · exact match ds, h with | [d_values], _ => (show JSs _ _ _ (B__law_shuffled d_values) from by
    unfold B__law_shuffled
    exact (js_cons (by exact (js_set (i := 2) sc__law_shuffled.nd rfl (by first | exact Or.inl rfl | exact Or.inr rfl) (e_list T.b_list (je_ro (pv 1) (by exact (.head _))))))
    (js_one (by exact (js_ret (je_lc cl.cm sc__law_shuffled.nd (by exact (ji_ro (pv 1) (by exact (.head _)))) (blkOk_by (own := [("value", 3)]) (N := N__law_shuffled) (sc := d__law_shuffled.scope) (by decide +kernel)) (fun _ _ _ _ _ => by exact (jg_nm (i := 3) sc__law_shuffled.nd rfl (by first | exact Or.inl rfl | exact Or.inr rfl))) (fun _ _ _ _ _ => by exact (jts_nil (q := true))) (fun _ _ _ _ _ => by exact (je_popAt (jpl_sl (pv 2)) (ja_cons (je_callP (ms := [.ro]) (msd := []) (dds := []) (dvs := []) (ok__law_draw T) (cl.blk.mono (by omega)) rfl (fun _ _ _ => .nil) (jpl_sl (pv 0)) (jk_own (e_len T.b_len (je_bw (pv 2))) jk_nil)) ja_nil)))))))))
theorem ok__law_shuffled (T : Fs K mg) : Glb P w K mg base "_law_shuffled" 2 [] (SpW K (ctK K) true [.ro] F__law_shuffled) := by
  obtain ⟨fd, Fd⟩ := T.f__law_shuffled
  have F := fo__law_shuffled (P := P) (w := w) (base := base) T Fd
  exact ⟨_, fd, ["reel", "values"], [], F, T.g__law_shuffled, Fd.kp, Fd.bindsN fun _ _ _ _ _ _ us hl => match us, hl with | [_, _], _ => rfl, .nil⟩
theorem fo__law_places (T : Fs K mg) {fd : FuncData} (Fd : FunD K "_law_places" "_law_places" d__law_places.params d__law_places.body d__law_places.scope (d__law_places.dvs K) (d__law_places.kws K) (He.fAd K d__law_places.at_) fd) : FnG P w K mg base (3) (He.fAd K d__law_places.at_) fd ["reel", "many"] (SpW K (ctK K) true [.ro] F__law_places) := by
  refine fn_ow (m := fun ds => match ds with | [d_many] => B__law_places d_many | _ => stuck) (n := 5) Fd sc__law_places rfl rfl (fun dm ds h => ?_) (fun cdv A outer s H E ds h cl => ?_)
  · exact match ds, h with | [d_many], _ => rfl
  · exact match ds, h with | [d_many], _ => (show JSs _ _ _ (B__law_places d_many) from by
    unfold B__law_places
    exact (js_cons (by exact (js_par3 (i := 2) (j := 3) (l := 4) cl.cm sc__law_places.nd rfl rfl rfl (by decide) (by decide) (by decide) rfl rfl rfl (ja_cons (je_ix (je_lst (ja_cons je_int (ja_cons je_int (ja_cons (e_pow je_int je_int) ja_nil)))) (je_callP (ms := [.ro]) (msd := []) (dds := []) (dvs := []) (ok__law_draw T) (cl.mono (by omega)) rfl (fun _ _ _ => .nil) (jpl_sl (pv 0)) (jk_own je_int jk_nil)) (fun _ _ => rfl)) (ja_cons (je_lst ja_nil) (ja_cons je_int ja_nil))) rfl))
    (js_cons (by exact (js_for (passes_of rfl) cl.cm (by exact (ji_range1 rfl T.b_range (je_ro (pv 1) (by exact (.head _))))) (jg_nm (i := 5) sc__law_places.nd rfl (by first | exact Or.inl rfl | exact Or.inr rfl)) (js_cons (by exact (js_set (i := 4) sc__law_places.nd rfl (by first | exact Or.inl rfl | exact Or.inr rfl) (e_add (je_rdS (pv 4)) (je_callP (ms := [.ro]) (msd := []) (dds := []) (dvs := []) (ok__law_draw T) (cl.mono (by omega)) rfl (fun _ _ _ => .nil) (jpl_sl (pv 0)) (jk_bor (je_bw (pv 2)) jk_nil)))))
    (js_cons (by exact (js_expr (je_append (jpl_sl (pv 3)) (ja_cons (je_rdS (pv 4)) ja_nil))))
    (js_one (by exact (js_set (i := 4) sc__law_places.nd rfl (by first | exact Or.inl rfl | exact Or.inr rfl) (e_add (je_bw (pv 4)) je_int))))))))
    (js_cons (by exact (js_set (i := 6) sc__law_places.nd rfl (by first | exact Or.inl rfl | exact Or.inr rfl) (je_callP (ms := [.ro]) (msd := []) (dds := []) (dvs := []) (ok__law_draw T) (cl.mono (by omega)) rfl (fun _ _ _ => .nil) (jpl_sl (pv 0)) (jk_own je_int jk_nil))))
    (js_one (by exact (js_ro fun z1 => by exact (js_ret (je_ifE (t_gt (je_bw (pv 6)) je_int) (je_callP (ms := [.ro]) (msd := []) (dds := []) (dvs := []) (ok__law_shuffled T) (cl.ro.mono (by omega)) rfl (fun _ _ _ => .nil) (jpl_sl (pv 0)) (jk_at (pv 3) (by exact (.head _)) jk_nil)) (je_step (je_ro (pv 3) (by exact (.head _))) (jo_some (e_sub je_int (e_mul je_int (je_bw (pv 6)))))))))))))))
theorem ok__law_places (T : Fs K mg) : Glb P w K mg base "_law_places" 3 [] (SpW K (ctK K) true [.ro] F__law_places) := by
  obtain ⟨fd, Fd⟩ := T.f__law_places
  have F := fo__law_places (P := P) (w := w) (base := base) T Fd
  exact ⟨_, fd, ["reel", "many"], [], F, T.g__law_places, Fd.kp, Fd.bindsN fun _ _ _ _ _ _ us hl => match us, hl with | [_, _], _ => rfl, .nil⟩
theorem fo__law_dressed (n : Nat) (ih : Glb P w K mg base "_law_dressed" (n + 1) [] (SpW K (ctK K) true [.ro] (F__law_dressed n))) (T : Fs K mg) {fd : FuncData} (Fd : FunD K "_law_dressed" "_law_dressed" d__law_dressed.params d__law_dressed.body d__law_dressed.scope (d__law_dressed.dvs K) (d__law_dressed.kws K) (He.fAd K d__law_dressed.at_) fd) : FnG P w K mg base (n + 1 + 1) (He.fAd K d__law_dressed.at_) fd ["reel", "value"] (SpW K (ctK K) true [.ro] (F__law_dressed (n + 1))) := by
  refine fn_ow (m := fun ds => match ds with | [d_value] => B__law_dressed (F__law_dressed n) d_value | _ => stuck) (n := 2) Fd sc__law_dressed rfl rfl (fun dm ds h => ?_) (fun cdv A outer s H E ds h cl => ?_)
  · exact match ds, h with | [d_value], _ => rfl
  · exact match ds, h with | [d_value], _ => (show JSs _ _ _ (B__law_dressed (F__law_dressed n) d_value) from by
    unfold B__law_dressed
    exact (js_cons (by exact (js_if (jt_not (jt_val (je_isi2 (T1 := "list") (T2 := "tuple") rfl T.b_isinstance rfl T.b_list bt_list rfl T.b_tuple bt_tuple (je_ro (pv 1) (by exact (.head _)))))) (js_one (by exact (js_ret (je_roS (pv 1) (by exact (.head _)))))) js_nil))
    (js_cons (by exact (js_setLc (i := 2) cl.cm sc__law_dressed.nd rfl rfl (sw_true rfl rfl rfl (by decide +kernel)) (by exact (ji_ro (pv 1) (by exact (.head _)))) (blkOk_by (own := [("part", 3)]) (N := N__law_dressed) (sc := d__law_dressed.scope) (by decide +kernel)) (fun _ _ _ _ _ => by exact (jg_nm (i := 3) sc__law_dressed.nd rfl (by first | exact Or.inl rfl | exact Or.inr rfl))) (fun _ _ _ _ _ => by exact (jts_nil (q := true))) (fun _ _ _ _ _ => by exact (je_callP (ms := [.ro]) (msd := []) (dds := []) (dvs := []) ih cl.blk rfl (fun _ _ _ => .nil) (jpl_sl (pv 0)) (jk_bor (je_bw (pv 3)) jk_nil)))))
    (js_one (by exact (js_ret (je_ifE (t_eq (je_callP (ms := [.ro]) (msd := []) (dds := []) (dvs := []) (ok__law_draw T) (cl.mono (by omega)) rfl (fun _ _ _ => .nil) (jpl_sl (pv 0)) (jk_own je_int jk_nil)) je_int (cl := cl)) (je_mv (pv 2)) (e_tuple T.b_tuple (je_bw (pv 2))))))))))
theorem ok__law_dressed (T : Fs K mg) : ∀ n : Nat, Glb P w K mg base "_law_dressed" (n + 1) [] (SpW K (ctK K) true [.ro] (F__law_dressed n))
  | 0 => by
    obtain ⟨fd, Fd⟩ := T.f__law_dressed
    refine ⟨_, fd, ["reel", "value"], [], ⟨fun vs H Q E h => h.1, fun A outer s H args us vs Q E hr hg e0 hb rv hsp => ?_⟩, T.g__law_dressed, Fd.kp, Fd.bindsN fun _ _ _ _ _ _ us hl => match us, hl with | [_, _], _ => rfl, .nil⟩
    obtain ⟨_, F, dm, vm, ds, vs, Lm, La, N, G, _, _, _, _, _, k⟩ := hsp
    exact (show False from k).elim
  | n + 1 => by
    obtain ⟨fd, Fd⟩ := T.f__law_dressed
    exact ⟨_, fd, ["reel", "value"], [], fo__law_dressed n (ok__law_dressed T n) T Fd, T.g__law_dressed, Fd.kp, Fd.bindsN fun _ _ _ _ _ _ us hl => match us, hl with | [_, _], _ => rfl, .nil⟩
theorem fo_is_listed (T : Fs K mg) {fd : FuncData} (Fd : FunD K "is_listed" "is_listed" d_is_listed.params d_is_listed.body d_is_listed.scope (d_is_listed.dvs K) (d_is_listed.kws K) (He.fAd K d_is_listed.at_) fd) : FnG P w K mg base (1) (He.fAd K d_is_listed.at_) fd ["value"] (SpW K (ctK K) false [.ro] F_is_listed) := by
  refine fn_ow (m := fun ds => match ds with | [d_value] => B_is_listed d_value | _ => stuck) (n := 0) Fd sc_is_listed rfl rfl (fun dm ds h => ?_) (fun cdv A outer s H E ds h cl => ?_)
  · exact match ds, h with | [d_value], _ => rfl
  · exact match ds, h with | [d_value], _ => (show JSs _ _ _ (B_is_listed d_value) from by
    unfold B_is_listed
    exact (js_one (by exact (js_ret (je_isi2 (T1 := "list") (T2 := "tuple") rfl T.b_isinstance rfl T.b_list bt_list rfl T.b_tuple bt_tuple (je_ro (pv 0) (by exact (.head _))))))))
theorem ok_is_listed (T : Fs K mg) : Glb P w K mg base "is_listed" 1 [] (SpW K (ctK K) false [.ro] F_is_listed) := by
  obtain ⟨fd, Fd⟩ := T.f_is_listed
  have F := fo_is_listed (P := P) (w := w) (base := base) T Fd
  exact ⟨_, fd, ["value"], [], F, T.g_is_listed, Fd.kp, Fd.bindsN fun _ _ _ _ _ _ us hl => match us, hl with | [_], _ => rfl, .nil⟩
theorem fo_is_integer (T : Fs K mg) {fd : FuncData} (Fd : FunD K "is_integer" "is_integer" d_is_integer.params d_is_integer.body d_is_integer.scope (d_is_integer.dvs K) (d_is_integer.kws K) (He.fAd K d_is_integer.at_) fd) : FnG P w K mg base (1) (He.fAd K d_is_integer.at_) fd ["value", "low", "high"] (SpW K (ctK K) false [.ro, .ro, .ro] F_is_integer) := by
  refine fn_ow (m := fun ds => match ds with | [d_value, d_low, d_high] => B_is_integer d_value d_low d_high | _ => stuck) (n := 0) Fd sc_is_integer rfl rfl (fun dm ds h => ?_) (fun cdv A outer s H E ds h cl => ?_)
  · exact match ds, h with | [d_value, d_low, d_high], _ => rfl
  · exact match ds, h with | [d_value, d_low, d_high], _ => (show JSs _ _ _ (B_is_integer d_value d_low d_high) from by
    unfold B_is_integer
    exact (js_cons (by exact (js_if (JW.jt (jw_or (jt_not (jt_val (je_isi (T := "int") rfl T.b_isinstance rfl T.b_int bt_int (je_ro (pv 0) (by exact (.head _)))))) (jw_or1 (jt_val (je_isi (T := "bool") rfl T.b_isinstance rfl T.b_bool bt_bool (je_ro (pv 0) (by exact (.head _)))))))) (js_one (by exact (js_ret je_bl))) js_nil))
    (js_one (by exact (js_ret (je_and (e_le (je_ro (pv 1) (by exact (.tail _ (.head _)))) (je_ro (pv 0) (by exact (.head _)))) (je_one (je_or (e_isN (je_ro (pv 2) (by exact (.tail _ (.tail _ (.head _))))) je_non) (je_one (e_le (je_ro (pv 0) (by exact (.head _))) (je_ro (pv 2) (by exact (.tail _ (.tail _ (.head _)))))))))))))))
theorem ok_is_integer (T : Fs K mg) : Glb P w K mg base "is_integer" 1 [] (SpW K (ctK K) false [.ro, .ro, .ro] F_is_integer) := by
  obtain ⟨fd, Fd⟩ := T.f_is_integer
  have F := fo_is_integer (P := P) (w := w) (base := base) T Fd
  obtain ⟨ds, hv, hb⟩ := Fd.binds1 (ps := ["value", "low", "high"]) 3 1 (List.cons_ne_nil _ _) rfl fun _ _ _ _ _ _ _ us its hl hl2 => match us, hl, its, hl2 with | [_, _, _], _, [_], _ => ⟨_, rfl, rfl⟩
  exact ⟨_, fd, _, ds, F, T.g_is_integer, Fd.kp, hb, hv⟩
theorem ok_is_integer_1 (T : Fs K mg) : Glb P w K mg base "is_integer" 1 [.non] (SpW K (ctK K) false [.ro, .ro, .ro] F_is_integer) := by
  obtain ⟨fd, Fd⟩ := T.f_is_integer
  have F := fo_is_integer (P := P) (w := w) (base := base) T Fd
  obtain ⟨ds, hv, hb⟩ := Fd.binds1 (ps := ["value", "low", "high"]) 2 0 (List.cons_ne_nil _ _) rfl fun _ _ _ _ _ _ _ us its hl hl2 => match us, hl, its, hl2 with | [_, _], _, [_], _ => ⟨_, rfl, rfl⟩
  exact ⟨_, fd, _, ds, F, T.g_is_integer, Fd.kp, hb, hv⟩
theorem fo_is_place_list (T : Fs K mg) {fd : FuncData} (Fd : FunD K "is_place_list" "is_place_list" d_is_place_list.params d_is_place_list.body d_is_place_list.scope (d_is_place_list.dvs K) (d_is_place_list.kws K) (He.fAd K d_is_place_list.at_) fd) : FnG P w K mg base (2) (He.fAd K d_is_place_list.at_) fd ["value"] (SpW K (ctK K) false [.ro] F_is_place_list) := by
  refine fn_ow (m := fun ds => match ds with | [d_value] => B_is_place_list d_value | _ => stuck) (n := 1) Fd sc_is_place_list rfl rfl (fun dm ds h => ?_) (fun cdv A outer s H E ds h cl => ?_)
  · exact match ds, h with | [d_value], _ => rfl
  · exact match ds, h with | [d_value], _ => (show JSs _ _ _ (B_is_place_list d_value) from by
    unfold B_is_place_list
    exact (js_cons (by exact (js_if (JW.jt (jw_or (jt_not (jt_val (je_call (ms := [.ro]) (msd := []) (dds := []) (dvs := []) (ok_is_listed T) (cl.mono (by omega)) rfl (fun _ _ _ => .nil) (jk_at (pv 0) (by exact (.head _)) jk_nil)))) (jw_or1 (t_gt (e_len T.b_len (je_ro (pv 0) (by exact (.head _)))) (e_gint (i := 200) T.c_MAX_SIZE))))) (js_one (by exact (js_ret je_bl))) js_nil))
    (js_one (by exact (js_ret (je_and (e_all cl.cm T.b_all (je_lc cl.cm sc_is_place_list.nd (by exact (ji_ro (pv 0) (by exact (.head _)))) (blkOk_by (own := [("place", 1)]) (N := N_is_place_list) (sc := d_is_place_list.scope) (by decide +kernel)) (fun _ _ _ _ _ => by exact (jg_nm (i := 1) sc_is_place_list.nd rfl (by first | exact Or.inl rfl | exact Or.inr rfl))) (fun _ _ _ _ _ => by exact (jts_nil (q := true))) (fun _ _ _ _ _ => by exact (je_call (ms := [.ro, .ro, .ro]) (msd := []) (dds := []) (dvs := []) (ok_is_integer T) (cl.blk.mono (by omega)) rfl (fun _ _ _ => .nil) (jk_bor (je_bw (pv 1)) (jk_own je_int (jk_own (e_gint (i := 1000000000000000000000000000000) T.c_MAX_PLACE) jk_nil))))))) (je_one (e_eq (je_lenSet cl.cm rfl T.b_len rfl T.b_set (je_ro (pv 0) (by exact (.head _)))) (e_len T.b_len (je_ro (pv 0) (by exact (.head _)))) (cl := cl)))))))))
theorem ok_is_place_list (T : Fs K mg) : Glb P w K mg base "is_place_list" 2 [] (SpW K (ctK K) false [.ro] F_is_place_list) := by
  obtain ⟨fd, Fd⟩ := T.f_is_place_list
  have F := fo_is_place_list (P := P) (w := w) (base := base) T Fd
  exact ⟨_, fd, ["value"], [], F, T.g_is_place_list, Fd.kp, Fd.bindsN fun _ _ _ _ _ _ us hl => match us, hl with | [_], _ => rfl, .nil⟩
theorem fo_checked_places (T : Fs K mg) {fd : FuncData} (Fd : FunD K "checked_places" "checked_places" d_checked_places.params d_checked_places.body d_checked_places.scope (d_checked_places.dvs K) (d_checked_places.kws K) (He.fAd K d_checked_places.at_) fd) : FnG P w K mg base (3) (He.fAd K d_checked_places.at_) fd ["value"] (SpW K (ctK K) false [.ro] F_checked_places) := by
  refine fn_ow (m := fun ds => match ds with | [d_value] => B_checked_places d_value | _ => stuck) (n := 0) Fd sc_checked_places rfl rfl (fun dm ds h => ?_) (fun cdv A outer s H E ds h cl => ?_)
  · exact match ds, h with | [d_value], _ => rfl
  · exact match ds, h with | [d_value], _ => (show JSs _ _ _ (B_checked_places d_value) from by
    unfold B_checked_places
    exact (js_cons (by exact (js_if (jt_not (jt_val (je_call (ms := [.ro]) (msd := []) (dds := []) (dvs := []) (ok_is_place_list T) (cl.mono (by omega)) rfl (fun _ _ _ => .nil) (jk_at (pv 0) (by exact (.head _)) jk_nil)))) (js_one (by exact js_never)) js_nil))
    (js_one (by exact (js_ret (e_list T.b_list (je_ro (pv 0) (by exact (.head _)))))))))
theorem ok_checked_places (T : Fs K mg) : Glb P w K mg base "checked_places" 3 [] (SpW K (ctK K) false [.ro] F_checked_places) := by
  obtain ⟨fd, Fd⟩ := T.f_checked_places
  have F := fo_checked_places (P := P) (w := w) (base := base) T Fd
  exact ⟨_, fd, ["value"], [], F, T.g_checked_places, Fd.kp, Fd.bindsN fun _ _ _ _ _ _ us hl => match us, hl with | [_], _ => rfl, .nil⟩
theorem fo_format_places (T : Fs K mg) {fd : FuncData} (Fd : FunD K "format_places" "format_places" d_format_places.params d_format_places.body d_format_places.scope (d_format_places.dvs K) (d_format_places.kws K) (He.fAd K d_format_places.at_) fd) : FnG P w K mg base (4) (He.fAd K d_format_places.at_) fd ["places"] (SpW K (ctK K) false [.ro] F_format_places) := by
  refine fn_ow (m := fun ds => match ds with | [d_places] => B_format_places d_places | _ => stuck) (n := 1) Fd sc_format_places rfl rfl (fun dm ds h => ?_) (fun cdv A outer s H E ds h cl => ?_)
  · exact match ds, h with | [d_places], _ => rfl
  · exact match ds, h with | [d_places], _ => (show JSs _ _ _ (B_format_places d_places) from by
    unfold B_format_places
    exact (js_one (by exact (js_ret (je_join (je_str (s := [32]) rfl) (je_lc cl.cm sc_format_places.nd (by exact (ji_val (je_call (ms := [.ro]) (msd := []) (dds := []) (dvs := []) (ok_checked_places T) (cl.mono (by omega)) rfl (fun _ _ _ => .nil) (jk_at (pv 0) (by exact (.head _)) jk_nil)))) (blkOk_by (own := [("place", 1)]) (N := N_format_places) (sc := d_format_places.scope) (by decide +kernel)) (fun _ _ _ _ _ => by exact (jg_nm (i := 1) sc_format_places.nd rfl (by first | exact Or.inl rfl | exact Or.inr rfl))) (fun _ _ _ _ _ => by exact (jts_nil (q := true))) (fun _ _ _ _ _ => by exact (e_str T.b_str (je_bw (pv 1))))))))))
theorem ok_format_places (T : Fs K mg) : Glb P w K mg base "format_places" 4 [] (SpW K (ctK K) false [.ro] F_format_places) := by
  obtain ⟨fd, Fd⟩ := T.f_format_places
  have F := fo_format_places (P := P) (w := w) (base := base) T Fd
  exact ⟨_, fd, ["places"], [], F, T.g_format_places, Fd.kp, Fd.bindsN fun _ _ _ _ _ _ us hl => match us, hl with | [_], _ => rfl, .nil⟩
theorem fo_words_of (T : Fs K mg) {fd : FuncData} (Fd : FunD K "words_of" "words_of" d_words_of.params d_words_of.body d_words_of.scope (d_words_of.dvs K) (d_words_of.kws K) (He.fAd K d_words_of.at_) fd) : FnG P w K mg base (1) (He.fAd K d_words_of.at_) fd ["text", "most"] (SpW K (ctK K) false [.ro, .ro] F_words_of) := by
  refine fn_ow (m := fun ds => match ds with | [d_text, d_most] => B_words_of d_text d_most | _ => stuck) (n := 1) Fd sc_words_of rfl rfl (fun dm ds h => ?_) (fun cdv A outer s H E ds h cl => ?_)
  · exact match ds, h with | [d_text, d_most], _ => rfl
  · exact match ds, h with | [d_text, d_most], _ => (show JSs _ _ _ (B_words_of d_text d_most) from by
    unfold B_words_of
    exact (js_cons (by exact (js_if (jt_not (jt_val (je_isi (T := "str") rfl T.b_isinstance rfl T.b_str bt_str (je_ro (pv 0) (by exact (.head _)))))) (js_one (by exact js_never)) js_nil))
    (js_cons (by exact (js_set (i := 2) sc_words_of.nd rfl (by first | exact Or.inl rfl | exact Or.inr rfl) (je_ifE (t_ne (je_ro (pv 0) (by exact (.head _))) (je_str (s := []) rfl) (cl := cl)) (je_split (je_ro (pv 0) (by exact (.head _))) (je_str (s := [32]) rfl)) (je_lst ja_nil))))
    (js_cons (by exact (js_if (t_gt (e_len T.b_len (je_bw (pv 2))) (je_ro (pv 1) (by exact (.tail _ (.head _))))) (js_one (by exact js_never)) js_nil))
    (js_one (by exact (js_ret (je_mv (pv 2)))))))))
theorem ok_words_of (T : Fs K mg) : Glb P w K mg base "words_of" 1 [] (SpW K (ctK K) false [.ro, .ro] F_words_of) := by
  obtain ⟨fd, Fd⟩ := T.f_words_of
  have F := fo_words_of (P := P) (w := w) (base := base) T Fd
  exact ⟨_, fd, ["text", "most"], [], F, T.g_words_of, Fd.kp, Fd.bindsN fun _ _ _ _ _ _ us hl => match us, hl with | [_, _], _ => rfl, .nil⟩
theorem fo_number_in (T : Fs K mg) {fd : FuncData} (Fd : FunD K "number_in" "number_in" d_number_in.params d_number_in.body d_number_in.scope (d_number_in.dvs K) (d_number_in.kws K) (He.fAd K d_number_in.at_) fd) : FnG P w K mg base (1) (He.fAd K d_number_in.at_) fd ["word"] (SpW K (ctK K) false [.ro] F_number_in) := by
  refine fn_ow (m := fun ds => match ds with | [d_word] => B_number_in d_word | _ => stuck) (n := 1) Fd sc_number_in rfl rfl (fun dm ds h => ?_) (fun cdv A outer s H E ds h cl => ?_)
  · exact match ds, h with | [d_word], _ => rfl
  · exact match ds, h with | [d_word], _ => (show JSs _ _ _ (B_number_in d_word) from by
    unfold B_number_in
    exact (js_cons (by exact (js_if (JW.jt (jw_or (t_eq (je_ro (pv 0) (by exact (.head _))) (je_str (s := []) rfl) (cl := cl)) (jw_or (jt_val (e_any cl.cm T.b_any (je_lc cl.cm sc_number_in.nd (by exact (ji_str (jv_ro (pv 0) (by exact (.head _))))) (blkOk_by (own := [("sign", 1)]) (N := N_number_in) (sc := d_number_in.scope) (by decide +kernel)) (fun _ _ _ _ _ => by exact (jg_nm (i := 1) sc_number_in.nd rfl (by first | exact Or.inl rfl | exact Or.inr rfl))) (fun _ _ _ _ _ => by exact (jts_nil (q := true))) (fun _ _ _ _ _ => by exact (e_notInStr (je_bw (pv 1)) (e_gstr (s := [48, 49, 50, 51, 52, 53, 54, 55, 56, 57]) T.c_DIGITS)))))) (jw_or1 (JW.jt (jw_and (t_eq (je_ix (je_ro (pv 0) (by exact (.head _))) je_int (fun _ _ => rfl)) (je_str (s := [48]) rfl) (cl := cl)) (jw_and1 (t_ne (je_ro (pv 0) (by exact (.head _))) (je_str (s := [48]) rfl) (cl := cl))))))))) (js_one (by exact (js_ret je_non))) js_nil))
    (js_one (by exact (js_ret (e_int T.b_int (je_ro (pv 0) (by exact (.head _)))))))))
theorem ok_number_in (T : Fs K mg) : Glb P w K mg base "number_in" 1 [] (SpW K (ctK K) false [.ro] F_number_in) := by
  obtain ⟨fd, Fd⟩ := T.f_number_in
  have F := fo_number_in (P := P) (w := w) (base := base) T Fd
  exact ⟨_, fd, ["word"], [], F, T.g_number_in, Fd.kp, Fd.bindsN fun _ _ _ _ _ _ us hl => match us, hl with | [_], _ => rfl, .nil⟩
theorem fo_parse_places (T : Fs K mg) {fd : FuncData} (Fd : FunD K "parse_places" "parse_places" d_parse_places.params d_parse_places.body d_parse_places.scope (d_parse_places.dvs K) (d_parse_places.kws K) (He.fAd K d_parse_places.at_) fd) : FnG P w K mg base (4) (He.fAd K d_parse_places.at_) fd ["text"] (SpW K (ctK K) false [.ro] F_parse_places) := by
  refine fn_ow (m := fun ds => match ds with | [d_text] => B_parse_places d_text | _ => stuck) (n := 3) Fd sc_parse_places rfl rfl (fun dm ds h => ?_) (fun cdv A outer s H E ds h cl => ?_)
  · exact match ds, h with | [d_text], _ => rfl
  · exact match ds, h with | [d_text], _ => (show JSs _ _ _ (B_parse_places d_text) from by
    unfold B_parse_places
    exact (js_cons (by exact (js_set (i := 1) sc_parse_places.nd rfl (by first | exact Or.inl rfl | exact Or.inr rfl) (je_lst ja_nil)))
    (js_cons (by exact (js_for (passes_of rfl) cl.cm (by exact (ji_enum rfl T.b_enumerate (jv_val (je_call (ms := [.ro, .ro]) (msd := []) (dds := []) (dvs := []) (ok_words_of T) (cl.mono (by omega)) rfl (fun _ _ _ => .nil) (jk_at (pv 0) (by exact (.head _)) (jk_own (e_gint (i := 200) T.c_MAX_PLACES) jk_nil)))))) (jg_tp rfl (jgs_cons (jg_nm (i := 2) sc_parse_places.nd rfl (by first | exact Or.inl rfl | exact Or.inr rfl)) (jgs_cons (jg_nm (i := 3) sc_parse_places.nd rfl (by first | exact Or.inl rfl | exact Or.inr rfl)) jgs_nil))) (js_cons (by exact (js_expr (je_append (jpl_sl (pv 1)) (ja_cons (je_call (ms := [.ro]) (msd := []) (dds := []) (dvs := []) (ok_number_in T) (cl.mono (by omega)) rfl (fun _ _ _ => .nil) (jk_bor (je_bw (pv 3)) jk_nil)) ja_nil))))
    (js_one (by exact (js_tryN ⟨rfl, by decide, Or.inl T.g_InvalidPlaces⟩ (fun W pn xe tk po => by exact (js_one (by exact (js_expr (je_call (ms := [.ro]) (msd := []) (dds := []) (dvs := []) (ok_checked_places T) ((cl.tr tk).mono (by omega)) rfl (fun _ _ _ => .nil) (jk_bor (je_bw (pv 1)) jk_nil))))))))))))
    (js_one (by exact (js_ret (je_mv (pv 1))))))))
theorem ok_parse_places (T : Fs K mg) : Glb P w K mg base "parse_places" 4 [] (SpW K (ctK K) false [.ro] F_parse_places) := by
  obtain ⟨fd, Fd⟩ := T.f_parse_places
  have F := fo_parse_places (P := P) (w := w) (base := base) T Fd
  exact ⟨_, fd, ["text"], [], F, T.g_parse_places, Fd.kp, Fd.bindsN fun _ _ _ _ _ _ us hl => match us, hl with | [_], _ => rfl, .nil⟩
theorem fo_law (T : Fs K mg) {fd : FuncData} (Fd : FunD K "law" "law" d_law.params d_law.body d_law.scope (d_law.dvs K) (d_law.kws K) (He.fAd K d_law.at_) fd) : FnG P w K mg base (5) (He.fAd K d_law.at_) fd ["script"] (SpW K (ctK K) false [.ro] F_law) := by
  refine fn_ow (m := fun ds => match ds with | [d_script] => B_law d_script | _ => stuck) (n := 8) Fd sc_law rfl rfl (fun dm ds h => ?_) (fun cdv A outer s H E ds h cl => ?_)
  · exact match ds, h with | [d_script], _ => rfl
  · exact match ds, h with | [d_script], _ => (show JSs _ _ _ (B_law d_script) from by
    unfold B_law
    exact (js_cons (by exact (js_set (i := 1) sc_law.nd rfl (by first | exact Or.inl rfl | exact Or.inr rfl) (je_call (ms := [.ro]) (msd := []) (dds := []) (dvs := []) (ok__law_reel T) (cl.mono (by omega)) rfl (fun _ _ _ => .nil) (jk_at (pv 0) (by exact (.head _)) jk_nil))))
    (js_cons (by exact (js_for (passes_of rfl) cl.cm (by exact (ji_range1 rfl T.b_range (e_add je_int (e_min2 cl.cm T.b_min (e_len T.b_len (je_ro (pv 0) (by exact (.head _)))) je_int)))) (jg_nm (i := 2) sc_law.nd rfl (by first | exact Or.inl rfl | exact Or.inr rfl)) (js_cons (by exact (js_set (i := 3) sc_law.nd rfl (by first | exact Or.inl rfl | exact Or.inr rfl) (je_callP (ms := [.ro]) (msd := []) (dds := []) (dvs := []) (ok__law_places T) (cl.mono (by omega)) rfl (fun _ _ _ => .nil) (jpl_sl (pv 1)) (jk_own (je_callP (ms := [.ro]) (msd := []) (dds := []) (dvs := []) (ok__law_draw T) (cl.mono (by omega)) rfl (fun _ _ _ => .nil) (jpl_sl (pv 1)) (jk_own (je_ix (je_lst (ja_cons je_int (ja_cons je_int ja_nil))) (e_mod (je_bw (pv 2)) je_int) (fun _ _ => rfl)) jk_nil)) jk_nil))))
    (js_cons (by exact (js_if (t_eq (je_callP (ms := [.ro]) (msd := []) (dds := []) (dvs := []) (ok__law_draw T) (cl.mono (by omega)) rfl (fun _ _ _ => .nil) (jpl_sl (pv 1)) (jk_own je_int jk_nil)) je_int (cl := cl)) (js_one (by exact (js_set (i := 3) sc_law.nd rfl (by first | exact Or.inl rfl | exact Or.inr rfl) (e_add (je_sl (je_bw (pv 3)) jo_none (jo_some je_int)) (je_lst (ja_cons (e_pow je_int je_int) ja_nil)))))) js_nil))
    (js_cons (by exact (js_ro fun z1 => by exact (js_set (i := 4) sc_law.nd rfl (by first | exact Or.inl rfl | exact Or.inr rfl) (je_callP (ms := [.ro]) (msd := []) (dds := []) (dvs := []) (ok__law_dressed T 2) (cl.ro.mono (by omega)) rfl (fun _ _ _ => .nil) (jpl_sl (pv 1)) (jk_at (pv 3) (by exact (.head _)) jk_nil)))))
    (js_cons (by exact (js_set (i := 5) sc_law.nd rfl (by first | exact Or.inl rfl | exact Or.inr rfl) (je_reprL cl.gd cl.u70 rfl T.b_repr (ja_cons (je_bw (pv 3)) (ja_cons (je_bw (pv 4)) ja_nil)))))
    (js_cons (by exact (js_ro fun z2 => by exact (js_set (i := 6) sc_law.nd rfl (by first | exact Or.inl rfl | exact Or.inr rfl) (je_join (je_str (s := [32]) rfl) (je_lc cl.cm sc_law.nd (by exact (ji_ro (pv 3) (by exact (.head _)))) (blkOk_by (own := [("place", 7)]) (N := N_law) (sc := d_law.scope) (by decide +kernel)) (fun _ _ _ _ _ => by exact (jg_nm (i := 7) sc_law.nd rfl (by first | exact Or.inl rfl | exact Or.inr rfl))) (fun _ _ _ _ _ => by exact (jts_nil (q := true))) (fun _ _ _ _ _ => by exact (e_str T.b_str (je_bw (pv 7)))))))))
    (js_cons (by exact (js_if (JW.jt (jw_or (t_ne (je_lst (ja_cons (je_call (ms := [.ro]) (msd := []) (dds := []) (dvs := []) (ok_format_places T) (cl.mono (by omega)) rfl (fun _ _ _ => .nil) (jk_bor (je_bw (pv 3)) jk_nil)) (ja_cons (je_call (ms := [.ro]) (msd := []) (dds := []) (dvs := []) (ok_format_places T) (cl.mono (by omega)) rfl (fun _ _ _ => .nil) (jk_bor (je_bw (pv 4)) jk_nil)) ja_nil))) (je_lst (ja_cons (je_rdS (pv 6)) (ja_cons (je_rdS (pv 6)) ja_nil))) (cl := cl)) (jw_or1 (t_ne (je_reprL cl.gd cl.u70 rfl T.b_repr (ja_cons (je_bw (pv 3)) (ja_cons (je_bw (pv 4)) ja_nil))) (je_bw (pv 5)) (cl := cl))))) (js_one (by exact (js_ret je_bl))) js_nil))
    (js_cons (by exact (js_set (i := 8) sc_law.nd rfl (by first | exact Or.inl rfl | exact Or.inr rfl) (je_call (ms := [.ro]) (msd := []) (dds := []) (dvs := []) (ok_parse_places T) (cl.mono (by omega)) rfl (fun _ _ _ => .nil) (jk_own (je_call (ms := [.ro]) (msd := []) (dds := []) (dvs := []) (ok_format_places T) (cl.mono (by omega)) rfl (fun _ _ _ => .nil) (jk_bor (je_bw (pv 3)) jk_nil)) jk_nil))))
    (js_cons (by exact (js_if (t_ne (e_repr cl T.b_repr (je_bw (pv 8))) (e_repr cl T.b_repr (je_bw (pv 3))) (cl := cl)) (js_one (by exact (js_ret je_bl))) js_nil))
    (js_cons (by exact (js_expr (je_append (jpl_sl (pv 8)) (ja_cons je_non ja_nil))))
    (js_cons (by exact (js_if (t_ne (e_repr cl T.b_repr (je_call (ms := [.ro]) (msd := []) (dds := []) (dvs := []) (ok_parse_places T) (cl.mono (by omega)) rfl (fun _ _ _ => .nil) (jk_own (je_call (ms := [.ro]) (msd := []) (dds := []) (dvs := []) (ok_format_places T) (cl.mono (by omega)) rfl (fun _ _ _ => .nil) (jk_bor (je_bw (pv 4)) jk_nil)) jk_nil))) (e_repr cl T.b_repr (je_bw (pv 3))) (cl := cl)) (js_one (by exact (js_ret je_bl))) js_nil))
    (js_one (by exact (js_if (t_ne (je_bw (pv 3)) (je_lst ja_nil) (cl := cl)) (js_cons (by exact (js_expr (je_popAt (jpl_sl (pv 3)) (ja_cons (je_callP (ms := [.ro]) (msd := []) (dds := []) (dvs := []) (ok__law_draw T) (cl.mono (by omega)) rfl (fun _ _ _ => .nil) (jpl_sl (pv 1)) (jk_own (e_len T.b_len (je_bw (pv 3))) jk_nil)) ja_nil))))
    (js_one (by exact (js_if (t_ne (je_call (ms := [.ro]) (msd := []) (dds := []) (dvs := []) (ok_format_places T) (cl.mono (by omega)) rfl (fun _ _ _ => .nil) (jk_bor (je_bw (pv 3)) jk_nil)) (je_join (je_str (s := [32]) rfl) (je_lc cl.cm sc_law.nd (by exact (ji_val (je_mv (pv 3)))) (blkOk_by (own := [("place", 7)]) (N := N_law) (sc := d_law.scope) (by decide +kernel)) (fun _ _ _ _ _ => by exact (jg_nm (i := 7) sc_law.nd rfl (by first | exact Or.inl rfl | exact Or.inr rfl))) (fun _ _ _ _ _ => by exact (jts_nil (q := true))) (fun _ _ _ _ _ => by exact (e_str T.b_str (je_bw (pv 7)))))) (cl := cl)) (js_one (by exact (js_ret je_bl))) js_nil)))) js_nil)))))))))))))))
    (js_one (by exact (js_ret (je_and (e_eq (je_call (ms := [.ro]) (msd := []) (dds := []) (dvs := []) (ok_format_places T) (cl.mono (by omega)) rfl (fun _ _ _ => .nil) (jk_own (je_tup ja_nil) jk_nil)) (je_str (s := []) rfl) (cl := cl)) (je_and (e_eq (je_call (ms := [.ro]) (msd := []) (dds := []) (dvs := []) (ok_parse_places T) (cl.mono (by omega)) rfl (fun _ _ _ => .nil) (jk_own (je_str (s := []) rfl) jk_nil)) (je_lst ja_nil) (cl := cl)) (je_one (e_eq (je_call (ms := [.ro]) (msd := []) (dds := []) (dvs := []) (ok_parse_places T) (cl.mono (by omega)) rfl (fun _ _ _ => .nil) (jk_own (je_str (s := [48]) rfl) jk_nil)) (je_lst (ja_cons je_int ja_nil)) (cl := cl)))))))))))
theorem ok_law (T : Fs K mg) : Glb P w K mg base "law" 5 [] (SpW K (ctK K) false [.ro] F_law) := by
  obtain ⟨fd, Fd⟩ := T.f_law
  have F := fo_law (P := P) (w := w) (base := base) T Fd
  exact ⟨_, fd, ["script"], [], F, T.g_law, Fd.kp, Fd.bindsN fun _ _ _ _ _ _ us hl => match us, hl with | [_], _ => rfl, .nil⟩
end
def loose : List Str := ["ShelfError", "InvalidText", "InvalidPlaces", "is_integer", "is_listed", "is_place_list", "checked_places", "number_in", "format_places", "words_of", "parse_places", "_law_reel", "_law_draw", "_law_shuffled", "_law_places", "_law_pattern", "_law_fills", "_law_dressed", "MAX_SIZE", "MAX_PLACE", "DIGITS", "MAX_PLACES"]
abbrev R : PySem.W.OpenRow := PySem.W.OpenLaw.row PySem.Challenge.rw_leftreturn_k50_places_as_text
abbrev hk : PySem.W.Hook := He.hookD 5 fa fn
def ob (s : PySem.W.SharedT) : He.AlD := He.obsDG 5 fa fn (HandSHeadRun.getT s)
theorem ob_eq (s : PySem.W.SharedT) : ob s = hk.obs s.abs := He.obsDG_eq (HandSHeadRun.getT_eq s)
theorem run (w : World) : HandSHeadRun.RunEq R (PySem.W.view R.prog [27]) hk ob 6000 loose w := by
  intro os
  kernel_rfl
end Hd
namespace Mi
open Ow
/-! ### the reel -/
def reelD (gr cs : List Int) (c s : Int) : D := .lst true [IL false gr, IL false cs, .int c, .int s]
structure Reel (gr cs : List Int) (c s : Int) (n : Nat) : Prop where
  cne : cs ≠ []
  g0 : ∀ x, x ∈ gr → 0 ≤ x
  c0 : ∀ x, x ∈ cs → 0 ≤ x ∧ x < 1000003
  k0 : 0 ≤ c
  kn : c ≤ n
  s0 : 0 ≤ s
  s1 : s < 2 ^ 140
  gl : gr.length ≤ 63
  cl : cs.length ≤ 64
def IsReel (n : Nat) (d : D) : Prop := ∃ gr cs c s, d = reelD gr cs c s ∧ Reel gr cs c s n
theorem ixD_reel0 {gr cs : List Int} {c s : Int} : ixD (reelD gr cs c s) (.int 0) = some (IL false gr) := by
  simp [reelD, ixD, atI, pyIx, noOwn_IL]
theorem ixD_reel1 {gr cs : List Int} {c s : Int} : ixD (reelD gr cs c s) (.int 1) = some (IL false cs) := by
  simp [reelD, ixD, atI, pyIx, noOwn_IL]
theorem ixD_reel2 {gr cs : List Int} {c s : Int} : ixD (reelD gr cs c s) (.int 2) = some (.int c) := by
  simp [reelD, ixD, atI, pyIx, D.noOwn]
theorem ixD_reel3 {gr cs : List Int} {c s : Int} : ixD (reelD gr cs c s) (.int 3) = some (.int s) := by
  simp [reelD, ixD, atI, pyIx, D.noOwn]
theorem setAt_reel0 {gr cs xs : List Int} {c s : Int} : setAt (.int 0) (IL false xs) (reelD gr cs c s) = some (reelD xs cs c s) := by
  simp [reelD, setAt, pyIx, noOwnL, D.noOwn, noOwn_IL]
theorem setAt_reel2 {gr cs : List Int} {c s c' : Int} : setAt (.int 2) (.int c') (reelD gr cs c s) = some (reelD gr cs c' s) := by
  simp [reelD, setAt, pyIx, noOwnL, D.noOwn, noOwn_IL]
theorem setAt_reel3 {gr cs : List Int} {c s s' : Int} : setAt (.int 3) (.int s') (reelD gr cs c s) = some (reelD gr cs c s') := by
  simp [reelD, setAt, pyIx, noOwnL, D.noOwn, noOwn_IL]

theorem draw_ok {n : Nat} {d : D} (h : IsReel n d) (hn : n < 2 ^ 200) {many : Int} (hm : 0 < many) (hm2 : many < 2 ^ 200) : ∃ r d', F__law_draw [d, .int many] = .ok (.int r) d' ∧ 0 ≤ r ∧ r < many ∧ IsReel (n + 1) d' := by
  obtain ⟨gr, cs, c, s, rfl, R⟩ := h
  cases gr with
  | cons g gs =>
    obtain ⟨y, _, e1, ix0⟩ := ixD_IL (o := false) (xs := g :: gs) (i := 0) (by omega) (by simp)
    have e2 : g = y := by simpa using e1
    subst e2
    have gl := R.gl
    simp only [List.length_cons] at gl
    refine ⟨g % many, reelD ((if many ≤ g then [g / many] else []) ++ gs) cs c s, ?_, Int.emod_nonneg _ (by omega), Int.emod_lt_of_pos _ hm, _, _, _, _, rfl, ⟨R.cne, fun x hx => ?_, R.c0, R.k0, by have := R.kn; omega, R.s0, R.s1, ?_, R.cl⟩⟩
    · have hmu : mulI (.lst true [.int (g / many)]) (.int (if many ≤ g then 1 else 0)) = some (IL true (if many ≤ g then [g / many] else [])) := by
        by_cases hg : many ≤ g <;> simp [mulI, hg, IL, noOwnL, D.noOwn, lineN]
      have hadd : addD (IL true (if many ≤ g then [g / many] else [])) (IL true gs) = some (IL true ((if many ≤ g then [g / many] else []) ++ gs)) := addD_IL (by
        have : (if many ≤ g then [g / many] else []).length ≤ 1 := by split <;> simp
        unfold lineN
        omega)
      simp [F__law_draw, B__law_draw, sq, ifS, tb, tbB, bd, op, bw, cst, Pl.get, Pl.put, gt, st, ret1, argN, argC, mkL, mkT, freezeL, D.freeze, blOf, truD, asg, Tg.asg, asgL, slE, optN, optE, intOf, subS, retS, retN, drop, skip, stuck, rdS, rdF, roS, mv, runF, D.noOwn, noOwnL, andB, orB, notB, ifE, andV, orV, lineN, yes, ixD_reel0, neD_ILn, ix0, fdivD_ok hm hm2, modD_ok hm, geD, intAD, slO_IL, cut_tail, hmu, hadd, freeze_IL, setAt_reel0]
    · rcases List.mem_append.mp hx with h | h
      · split at h
        · have : x = g / many := by simpa using h
          rw [this]
          exact Int.ediv_nonneg (R.g0 g List.mem_cons_self) (by omega)
        · cases h
      · exact R.g0 x (List.mem_cons_of_mem _ h)
    · rw [List.length_append]
      have : (if many ≤ g then [g / many] else []).length ≤ 1 := by split <;> simp
      omega
  | nil =>
    have kn := R.kn
    have k0 := R.k0
    have cpos : 0 < cs.length := List.length_pos_iff.mpr R.cne
    obtain ⟨y, hy, _, ix⟩ := ixD_IL (o := false) (xs := cs) (i := (c + 1) % (cs.length : Int)) (Int.emod_nonneg _ (by omega)) (Int.emod_lt_of_pos _ (by omega))
    have y0 := R.c0 y hy
    have s0 := R.s0
    have s1 := R.s1
    have b1 : bitsOk s s = true := bitsOk_of (a := 140) (b := 140) (by omega) (by omega)
    have b2 : bitsOk (y + 13) 150889 = true := bitsOk_of (a := 30) (b := 30) (by omega) (by omega)
    have b3 : bitsOk (c + 1) 999961 = true := bitsOk_of (a := 201) (b := 30) (by omega) (by omega)
    have ps : (0 : Int) < 170141183460469231731687303715884105727 := by decide
    have b4 : bitsOk 18446744073709551616 9223372036854775808 = true := by decide +kernel
    have p64 : powD (.int 2) (.int 64) = some (.int 18446744073709551616) := by simp [powD]
    have p63 : powD (.int 2) (.int 63) = some (.int 9223372036854775808) := by simp [powD]
    have p41 : powD (.int 2) (.int 41) = some (.int 2199023255552) := by simp [powD]
    have s2 : ∀ z : Int, 0 ≤ z % 170141183460469231731687303715884105727 ∧ z % 170141183460469231731687303715884105727 < 170141183460469231731687303715884105728 := fun z => ⟨Int.emod_nonneg _ (by omega), by have := Int.emod_lt_of_pos z ps; omega⟩
    refine ⟨(s * s + (y + 13) * 150889 + (c + 1) * 999961) % 170141183460469231731687303715884105727 / 2199023255552 % many, reelD [] cs (c + 1) ((s * s + (y + 13) * 150889 + (c + 1) * 999961) % 170141183460469231731687303715884105727), ?_, Int.emod_nonneg _ (by omega), Int.emod_lt_of_pos _ hm, [], cs, _, _, rfl, ⟨R.cne, R.g0, R.c0, by omega, by omega, (s2 _).1, by have := (s2 (s * s + (y + 13) * 150889 + (c + 1) * 999961)).2; omega, by simp, R.cl⟩⟩
    simp [F__law_draw, B__law_draw, sq, ifS, tb, tbB, bd, op, bw, cst, Pl.get, Pl.put, gt, st, ret1, argN, argC, mkL, mkT, freezeL, D.freeze, blOf, truD, asg, Tg.asg, asgL, slE, optN, optE, intOf, subS, retS, retN, drop, skip, stuck, rdS, rdF, roS, mv, runF, D.noOwn, noOwnL, andB, orB, notB, ifE, andV, orV, lineN, yes, ixD_reel0, ixD_reel1, ixD_reel2, ixD_reel3, neD_ILn, lenD_IL, setAt_reel2, setAt_reel3, p64, p63, p41, modD_ok hm, modD_ok ps, modD_ok (show (0 : Int) < cs.length by omega), addD, mulI, subD, b1, b2, b3, b4, ix, fdivD_ok (show (0 : Int) < 2199023255552 by decide) (by decide)]

theorem reel_ok (ns : List Int) : ∃ d m, F__law_reel [IL false ns] = .ok d m ∧ IsReel 0 d := by
  have hits : ∀ e : Env, walkE (slE (cst (IL false ns)) optN (optE (cst (.int 63)))) e = .ok ((ns.take 63).map .int) e := fun e => by
    simp [walkE, sq, ifS, tb, tbB, bd, op, bw, cst, Pl.get, Pl.put, gt, st, ret1, argN, argC, mkL, mkT, freezeL, D.freeze, blOf, truD, asg, Tg.asg, asgL, slE, optN, optE, intOf, subS, retS, retN, drop, skip, stuck, rdS, rdF, roS, mv, runF, D.noOwn, noOwnL, andB, orB, notB, ifE, andV, orV, lineN, yes, slO_IL, itL_IL, cut_from0 ns 63 (by decide)]
  have lt : (ns.take 63).length ≤ 63 := by simp; omega
  have p19 : powD (.int 19) (.int 31) = some (.int 4378865740046709085864680868712732574619) := by simp [powD]
  have p64 : powD (.int 2) (.int 64) = some (.int 18446744073709551616) := by simp [powD]
  have p63 : powD (.int 2) (.int 63) = some (.int 9223372036854775808) := by simp [powD]
  have p18 : powD (.int 10) (.int 18) = some (.int 1000000000000000000) := by simp [powD]
  have b4 : bitsOk 18446744073709551616 9223372036854775808 = true := by decide +kernel
  have ps : (0 : Int) < 170141183460469231731687303715884105727 := by decide
  have pp : (0 : Int) < 1000000000000000003 := by decide
  have p3 : (0 : Int) < 1000003 := by decide
  -- the loop
  obtain ⟨e1, l1, s, o2, rfl, s0, s1⟩ := forL_inv (t := .nm 2) (body := (asg (.nm 1) (op2 modD (op2 addD (op2 addD (op2 mulI (bw (.sl 1)) (bw (.sl 1))) (op2 modD (bw (.sl 2)) (cst (.int (1000000000000000003))))) (cst (.int (29)))) (op2 subD (op2 mulI (op2 powD (cst (.int (2))) (cst (.int (64)))) (op2 powD (cst (.int (2))) (cst (.int (63))))) (cst (.int (1)))))))
    (fun _ e => ∃ s o2, e = [none, some (.int s), o2, none] ∧ 0 ≤ s ∧ s < 2 ^ 140) (ds := (ns.take 63).map .int) (k := 0) (e := [none, some (.int 4378865740046709085864680868712732574619), none, none]) (fun i d e hd ⟨s, o2, he, s0, s1⟩ => by
      rw [List.getElem?_map] at hd
      obtain ⟨x, hx, rfl⟩ := Option.map_eq_some_iff.mp hd
      subst he
      have b1 : bitsOk s s = true := bitsOk_of (a := 140) (b := 140) (by omega) (by omega)
      have m0 := Int.emod_nonneg (s * s + x % 1000000000000000003 + 29) (show (170141183460469231731687303715884105727 : Int) ≠ 0 by decide)
      have m1 := Int.emod_lt_of_pos (s * s + x % 1000000000000000003 + 29) ps
      exact ⟨[none, some (.int s), some (.int x), none], [none, some (.int ((s * s + x % 1000000000000000003 + 29) % 170141183460469231731687303715884105727)), some (.int x), none], rfl, .inl (by
        simp [sq, ifS, tb, tbB, bd, op, bw, cst, Pl.get, Pl.put, gt, st, ret1, argN, argC, mkL, mkT, freezeL, D.freeze, blOf, truD, asg, Tg.asg, asgL, slE, optN, optE, intOf, subS, retS, retN, drop, skip, stuck, rdS, rdF, roS, mv, runF, D.noOwn, noOwnL, andB, orB, notB, ifE, andV, orV, lineN, yes, p64, p63, addD, mulI, subD, b1, b4, modD_ok ps, modD_ok pp]), _, _, rfl, m0, by omega⟩) ⟨_, _, rfl, by decide, by decide⟩
  have gr := lc_filterI (i := 2) (e := [none, some (.int s), o2, none]) (c := (tbB (op2 geD (bw (.sl 2)) (op2 powD (cst (.int (10))) (cst (.int (18))))))) (elt := (op2 subD (bw (.sl 2)) (op2 powD (cst (.int (10))) (cst (.int (18)))))) (p := fun x => decide (1000000000000000000 ≤ x)) (g := fun x => x - 1000000000000000000) (hits _)
    (fun x hx => ⟨by simp [sq, ifS, tb, tbB, bd, op, bw, cst, Pl.get, Pl.put, gt, st, ret1, argN, argC, mkL, mkT, freezeL, D.freeze, blOf, truD, asg, Tg.asg, asgL, slE, optN, optE, intOf, subS, retS, retN, drop, skip, stuck, rdS, rdF, roS, mv, runF, D.noOwn, noOwnL, andB, orB, notB, ifE, andV, orV, lineN, yes, p18, geD], fun _ => by simp [sq, ifS, tb, tbB, bd, op, bw, cst, Pl.get, Pl.put, gt, st, ret1, argN, argC, mkL, mkT, freezeL, D.freeze, blOf, truD, asg, Tg.asg, asgL, slE, optN, optE, intOf, subS, retS, retN, drop, skip, stuck, rdS, rdF, roS, mv, runF, D.noOwn, noOwnL, andB, orB, notB, ifE, andV, orV, lineN, yes, p18, subD]⟩) (by unfold lineN; omega)
  have cs := lc_mapI (i := 2) (e := [none, some (.int s), none, some (IL false (((ns.take 63).filter fun x => decide (1000000000000000000 ≤ x)).map fun x => x - 1000000000000000000))]) (elt := (op2 modD (bw (.sl 2)) (cst (.int (1000003))))) (g := fun x => x % 1000003) (hits _)
    (fun x hx => by simp [sq, ifS, tb, tbB, bd, op, bw, cst, Pl.get, Pl.put, gt, st, ret1, argN, argC, mkL, mkT, freezeL, D.freeze, blOf, truD, asg, Tg.asg, asgL, slE, optN, optE, intOf, subS, retS, retN, drop, skip, stuck, rdS, rdF, roS, mv, runF, D.noOwn, noOwnL, andB, orB, notB, ifE, andV, orV, lineN, yes, modD_ok p3]) (by unfold lineN; omega)
  have lg : ((ns.take 63).filter fun x => decide (1000000000000000000 ≤ x)).length ≤ 63 := Nat.le_trans (List.length_filter_le _ _) lt
  have cl : ((ns.take 63).map (fun x => x % 1000003)).length = (ns.take 63).length := List.length_map ..
  obtain ⟨e9, hb⟩ : ∃ e9, B__law_reel (IL false ns) [none, none, none, none] = .ok (.ret (reelD (((ns.take 63).filter fun x => decide (1000000000000000000 ≤ x)).map fun x => x - 1000000000000000000) ((ns.take 63).map (fun x => x % 1000003) ++ [57]) 0 s)) e9 := by
    refine ⟨[none, some (.int s), none, some (IL false (((ns.take 63).filter fun x => decide (1000000000000000000 ≤ x)).map fun x => x - 1000000000000000000))], ?_⟩
    unfold B__law_reel
    refine (sq_next (asg_ok (op2_ok cst_ok cst_ok p19) rfl)).trans ?_
    refine (sq_next (forS_ok (hits _) l1)).trans ?_
    refine (sq_next (asg_ok gr rfl)).trans ?_
    refine retS_ok (lstE_ok (argC_ok (rdF_ok rfl freeze_IL) (argC_ok (op2_ok cs (lstE_ok (argC_ok cst_ok argN_ok) rfl) (addD_IL (ys := [57]) ?_)) (argC_ok cst_ok (argC_ok (rdS_ok rfl rfl) argN_ok)))) ?_)
    · rw [cl]
      simp [lineN]
      omega
    · simp [mkL, freezeL, freeze_IL, D.freeze, reelD, lineN]
  refine ⟨_, _, runF_ret hb, _, _, _, _, rfl, ⟨by simp, fun x hx => ?_, fun x hx => ?_, by decide, by decide, s0, s1, by rw [List.length_map]; exact lg, by simp; omega⟩⟩
  · obtain ⟨y, hy, rfl⟩ := List.mem_map.mp hx
    have := (List.mem_filter.mp hy).2
    simp at this
    omega
  · rcases List.mem_append.mp hx with h | h
    · obtain ⟨y, _, rfl⟩ := List.mem_map.mp h
      exact ⟨Int.emod_nonneg _ (by decide), Int.emod_lt_of_pos _ p3⟩
    · have : x = 57 := by simpa using h
      omega

theorem borOk_int (ks : List Ak) (i : Int) : borOk ks [.int i] = true := by
  cases ks with
  | nil => rfl
  | cons k ks => cases k <;> cases ks <;> simp [borOk, D.noOwn]
theorem drawC {p : Pl} {ks : List Ak} {ms : M (List D)} {e e1 : Env} {n : Nat} {rd : D} {many : Int} (h : IsReel n rd) (hn : n < 2 ^ 200) (hm : 0 < many) (hm2 : many < 2 ^ 200) (h0 : p.get e = some rd) (ha : ms e = .ok [.int many] e1) (h1 : p.get e1 = some rd) :
    ∃ x rd', callPW (fun _ => true) p F__law_draw [] ks ms e = .ok (.int x) (p.put rd' e1) ∧ 0 ≤ x ∧ x < many ∧ IsReel (n + 1) rd' := by
  obtain ⟨x, rd', h2, h3, h4, h5⟩ := draw_ok h hn hm hm2
  exact ⟨x, rd', callPW_ok h0 rfl ha h1 (borOk_int _ _) h2, h3, h4, h5⟩
theorem perm_pop {α : Type} : ∀ {xs : List α} {i : Nat} (h : i < xs.length), List.Perm (xs[i] :: xs.eraseIdx i) xs
  | x :: xs, 0, _ => List.Perm.refl _
  | x :: xs, i + 1, h => by
    have := perm_pop (xs := xs) (i := i) (by simpa using h)
    simp only [List.getElem_cons_succ, List.eraseIdx_cons_succ]
    exact (List.Perm.swap x _ _).trans (this.cons x)
theorem map_eraseIdx' {α β : Type} (f : α → β) : ∀ (xs : List α) (i : Nat), (xs.map f).eraseIdx i = (xs.eraseIdx i).map f
  | [], _ => by simp
  | x :: xs, 0 => by simp
  | x :: xs, i + 1 => by simp [map_eraseIdx' f xs i]
theorem fPopAt_IL {xs : List Int} {i : Int} (h0 : 0 ≤ i) (h1 : i < xs.length) (hl : xs.length < 1000000) : ∃ y zs, fPopAt [.int i] (IL true xs) = some (.int y, IL true zs) ∧ List.Perm (y :: zs) xs ∧ zs.length + 1 = xs.length := by
  have hi : i.toNat < xs.length := by omega
  refine ⟨xs[i.toNat], xs.eraseIdx i.toNat, ?_, perm_pop hi, by rw [List.length_eraseIdx_of_lt hi]; omega⟩
  have e : pyIx xs.length i = some i.toNat := by
    unfold pyIx
    rw [if_pos h0, if_pos h1]
  have b : -(2 ^ 63) ≤ i ∧ i < 2 ^ 63 := ⟨by omega, by omega⟩
  simp [fPopAt, IL, noOwnL_ints, e, hi, map_eraseIdx']
  exact b
theorem listD_IL {o : Bool} {xs : List Int} : listD (IL o xs) = some (IL true xs) := by simp [IL, listD, noOwnL_ints]
theorem shuffled_ok {n : Nat} {rd : D} {xs : List Int} {o : Bool} (h : IsReel n rd) (hn : n + xs.length < 2 ^ 200) (hl : xs.length < 1000000) : ∃ ys rd', F__law_shuffled [rd, IL o xs] = .ok (IL true ys) rd' ∧ List.Perm ys xs ∧ IsReel (n + xs.length) rd' := by
  obtain ⟨acc, e', h1, h2⟩ := lcL_inv (own := [3]) (t := .nm 3) (c := yes) (elt := chgA (.sl 2) fPopAt (argC (callPW (fun _ => true) (.sl 0) F__law_draw [] [.own] (argC (op1 lenD (bw (.sl 2))) argN)) argN))
    (fun k acc e => ∃ rd left o3 got, e = [some rd, none, some (IL true left), o3] ∧ IsReel (n + k) rd ∧ acc = got.map D.int ∧ List.Perm (got ++ left) xs ∧ left.length + k = xs.length ∧ got.length = k)
    (ds := xs.map D.int) (k := 0) (acc := []) (e := [some rd, none, some (IL true xs), none]) (fun i d acc e hd ⟨rd, left, o3, got, he, hr, ha, hp, hll, hg⟩ => by
      subst he ha
      have hi := (List.getElem?_eq_some_iff.mp hd).1
      rw [List.length_map] at hi
      obtain ⟨x, rd', d1, d2, d3, d4⟩ := drawC (p := .sl 0) (ks := [.own]) (ms := argC (op1 lenD (bw (.sl 2))) argN) (e := [some rd, none, some (IL true left), some d]) (many := left.length) hr (by omega) (by omega) (by omega) rfl (argC_ok (op1_ok (bwS_ok rfl) lenD_IL) argN_ok) rfl
      obtain ⟨y, zs, f1, f2, f3⟩ := fPopAt_IL (xs := left) d2 d3 (by omega)
      refine ⟨[some rd, none, some (IL true left), some d], rfl, .inl ⟨_, .int y, .int y, _, rfl, chgA_ok (o := true) (xs := left.map .int) rfl (argC_ok d1 argN_ok) rfl rfl f1, rfl, by simp [lineN]; omega, rd', zs, some d, got ++ [y], rfl, hr.elim fun _ _ => d4, by simp, ?_, by omega, by simp; omega⟩⟩
      rw [List.append_assoc]
      exact ((f2.append_left got)).trans hp) ⟨rd, xs, none, [], rfl, h, rfl, List.Perm.refl _, rfl, rfl⟩
  obtain ⟨rd', left, o3, got, rfl, hr, rfl, hp, hll, hg⟩ := h2
  have l0 : left = [] := List.length_eq_zero_iff.mp (by simp only [List.length_map] at hll; omega)
  subst l0
  rw [List.append_nil] at hp
  have hb : B__law_shuffled (IL o xs) [some rd, none, none, none] = .ok (.ret (IL true got)) [some rd', none, some (IL true []), none] := by
    unfold B__law_shuffled
    refine (sq_next (asg_ok (op1_ok cst_ok listD_IL) rfl)).trans ?_
    exact retS_ok (lc_ok (by simp only [walkR, itL_IL, Ow.op]; rfl) h1)
  exact ⟨got, rd', runF_retM hb rfl, hp, by simpa using hr⟩

theorem smallI_of {n : Int} (h0 : 0 ≤ n) (h1 : n < 1000) : smallI n = true ∨ True := .inr trivial
theorem draw_arg {e : Env} {m : Int} : (argC (cst (.int m)) argN) e = .ok [.int m] e := rfl
theorem stepD_IL1 {o : Bool} {xs : List Int} : stepD (IL o xs) (some 1) = some (IL true xs) := by simp [IL, stepD, noOwnL_ints]
theorem stepD_ILm {o : Bool} {xs : List Int} : stepD (IL o xs) (some (-1)) = some (IL true xs.reverse) := by simp [IL, stepD, noOwnL_ints]
theorem fAppend_IL {xs : List Int} {x : Int} (hl : xs.length < lineN) : fAppend [.int x] (IL true xs) = some (.non, IL true (xs ++ [x])) := by simp [fAppend, IL, noOwnL_ints, hl]
theorem nodup_rev {xs : List Int} (h : xs.Nodup) : xs.reverse.Nodup := (List.reverse_perm xs).nodup_iff.mpr h
theorem nodup_snoc {xs : List Int} {x : Int} (h : xs.Nodup) (hx : ∀ y, y ∈ xs → y < x) : (xs ++ [x]).Nodup := by
  rw [List.nodup_append]
  exact ⟨h, by simp, fun a ha b hb => by
    have : b = x := by simpa using hb
    have := hx a ha
    omega⟩
theorem places_ok {n : Nat} {rd : D} {many : Int} (h : IsReel n rd) (hn : n + 1000 < 2 ^ 100) (h0 : 0 ≤ many) (h1 : many ≤ 400) : ∃ xs rd' n', F__law_places [rd, .int many] = .ok (IL true xs) rd' ∧ xs.length = many ∧ xs.Nodup ∧ (∀ x, x ∈ xs → 0 ≤ x ∧ x < 1000000000000000000000000000000) ∧ IsReel n' rd' ∧ n' ≤ n + 1000 := by
  have p27 : powD (.int 10) (.int 27) = some (.int 1000000000000000000000000000) := by simp [powD]
  obtain ⟨w, rd1, d1, d2, d3, d4⟩ := drawC (p := .sl 0) (ks := [.own]) (ms := argC (cst (.int 3)) argN) (e := [some rd, none, none, none, none, none, none]) (many := 3) h (by omega) (by omega) (by omega) rfl draw_arg rfl
  obtain ⟨step, s1, s2, s3⟩ : ∃ s : Int, ixD (.lst true [.int 1, .int 3, .int 1000000000000000000000000000]) (.int w) = some (.int s) ∧ 0 < s ∧ s ≤ 1000000000000000000000000000 := by
    obtain rfl | rfl | rfl : w = 0 ∨ w = 1 ∨ w = 2 := by omega
    · exact ⟨1, rfl, by decide, by decide⟩
    · exact ⟨3, rfl, by decide, by decide⟩
    · exact ⟨1000000000000000000000000000, rfl, by decide, by decide⟩
  obtain ⟨e', l1, rd2, found, pl, o5, rfl, r2, f1, f2, f3, f4⟩ := forL_inv (t := .nm 5) (body := (sq (asg (.nm 4) (op2 addD (rdS 4) (callPW (fun _ => true) (.sl 0) F__law_draw [] [.bor] (argC (bw (.sl 2)) argN))))
    (sq (drop (chgA (.sl 3) fAppend (argC (rdS 4) argN)))
    (asg (.nm 4) (op2 addD (bw (.sl 4)) (cst (.int (1))))))))
    (fun k e => ∃ rd found pl o5, e = [some rd, none, some (.int step), some (IL true found), some (.int pl), o5, none] ∧ IsReel (n + 1 + k) rd ∧ found.length = k ∧ found.Nodup ∧ (∀ x, x ∈ found → 0 ≤ x ∧ x < pl) ∧ 0 ≤ pl ∧ pl ≤ k * 1000000000000000000000000000)
    (ds := (rangeI 0 many).map D.int) (k := 0) (e := [some rd1, none, some (.int step), some (.lst true []), some (.int 0), none, none]) (fun i d e hd ⟨rd, found, pl, o5, he, r1, f1, f2, f3, f4, f5⟩ => by
      subst he
      have hi := (List.getElem?_eq_some_iff.mp hd).1
      have hm : ((rangeI 0 many).map D.int).length = many.toNat := by simp [rangeI]
      rw [hm] at hi
      obtain ⟨x, rd', d1, d2, d3, d4⟩ := drawC (p := .sl 0) (ks := [.bor]) (ms := argC (bw (.sl 2)) argN) (e := [some rd, none, some (.int step), some (IL true found), some (.int pl), some d, none]) (many := step) r1 (by omega) s2 (by omega) rfl (argC_ok (bwS_ok rfl) argN_ok) rfl
      refine ⟨_, [some rd', none, some (.int step), some (IL true (found ++ [pl + x])), some (.int (pl + x + 1)), some d, none], rfl, .inl ?_, rd', found ++ [pl + x], pl + x + 1, some d, rfl, d4, by simp; omega, nodup_snoc f2 fun y hy => ?_, fun y hy => ?_, by omega, ?_⟩
      · refine (sq_next (asg_ok (op2_ok (rdS_ok rfl rfl) d1 rfl) rfl)).trans ?_
        refine (sq_next (drop_ok (chgA_ok (o := true) (xs := found.map .int) rfl (argC_ok (rdS_ok rfl rfl) argN_ok) rfl rfl (fAppend_IL (by unfold lineN; omega))))).trans ?_
        exact asg_ok (op2_ok (bwS_ok rfl) cst_ok rfl) rfl
      · have := (f3 y hy).2
        omega
      · rcases List.mem_append.mp hy with hy | hy
        · have := f3 y hy
          omega
        · have : y = pl + x := by simpa using hy
          omega
      · omega) ⟨rd1, [], 0, none, rfl, d4, rfl, List.nodup_nil, fun x hx => (by cases hx), by omega, by omega⟩
  have hm : ((rangeI 0 many).map D.int).length = many.toNat := by simp [rangeI]
  rw [hm] at r2 f1 f4
  obtain ⟨way, rd3, w1, w2, w3, w4⟩ := drawC (p := .sl 0) (ks := [.own]) (ms := argC (cst (.int 4)) argN) (e := [some rd2, none, some (.int step), some (IL true found), some (.int pl), o5, none]) (many := 4) r2 (by omega) (by omega) (by omega) rfl draw_arg rfl
  have bnd : ∀ x, x ∈ found → 0 ≤ x ∧ x < 1000000000000000000000000000000 := fun x hx => by
    have := f3 x hx
    omega
  have hit : rng1E (cst (.int many)) [some rd1, none, some (.int step), some (.lst true []), some (.int 0), none, none] = .ok ((rangeI 0 many).map .int) [some rd1, none, some (.int step), some (.lst true []), some (.int 0), none, none] := by
    have hs : smallI many = true := by simp [smallI]; omega
    simp only [rng1E, bd, cst, Ow.op, itRange1, hs, if_true]
  obtain ⟨ys, rd4, m4, q1, q2, q3, q4⟩ : ∃ ys rd4 m4, (withRo 3 fun z1 => (retS (ifE (tbB (op2 gtD (bw (.sl 6)) (cst (.int (1))))) (callPW (fun _ => true) (.sl 0) F__law_shuffled [] [.at] (argC (cst z1) argN)) (stepE (cst z1) (optE (op2 subD (cst (.int (1))) (op2 mulI (cst (.int (2))) (bw (.sl 6))))))))) [some rd3, none, some (.int step), some (IL true found), some (.int pl), o5, some (.int way)] = .ok (.ret (IL true ys)) [some rd4, none, some (.int step), some (IL true found), some (.int pl), o5, some (.int way)] ∧ List.Perm ys found ∧ IsReel m4 rd4 ∧ m4 ≤ n + 1000 := by
    by_cases hw : way > 1
    · obtain ⟨ys, rd4, y1, y2, y3⟩ := shuffled_ok (o := true) (xs := found) w4 (by omega) (by omega)
      refine ⟨ys, rd4, _, withRo_st (e' := [some rd4, none, some (.int step), none, some (.int pl), o5, some (.int way)]) rfl (retS_ok ((ifE_t (tbB_ok (op2_ok (bwS_ok rfl) cst_ok (show gtD (.int way) (.int 1) = some (.bl true) by simp [gtD]; exact hw)))).trans ?_)) rfl, y2, y3, by omega⟩
      exact callPW_ok rfl rfl (argC_ok cst_ok argN_ok) rfl rfl y1
    · obtain rfl | rfl : way = 0 ∨ way = 1 := by omega
      · refine ⟨found, rd3, _, withRo_st (e' := [some rd3, none, some (.int step), none, some (.int pl), o5, some (.int 0)]) rfl (retS_ok ((ifE_f rfl).trans ?_)) rfl, List.Perm.refl _, w4, by omega⟩
        simp [stepE, sq, ifS, tb, tbB, bd, op, bw, cst, Pl.get, Pl.put, gt, st, ret1, argN, argC, mkL, mkT, freezeL, D.freeze, blOf, truD, asg, Tg.asg, asgL, slE, optN, optE, intOf, subS, retS, retN, drop, skip, stuck, rdS, rdF, roS, mv, runF, D.noOwn, noOwnL, andB, orB, notB, ifE, andV, orV, lineN, yes, mulI, subD, stepD_IL1, show bitsOk 2 0 = true by decide +kernel]
      · refine ⟨found.reverse, rd3, _, withRo_st (e' := [some rd3, none, some (.int step), none, some (.int pl), o5, some (.int 1)]) rfl (retS_ok ((ifE_f rfl).trans ?_)) rfl, List.reverse_perm _, w4, by omega⟩
        simp [stepE, sq, ifS, tb, tbB, bd, op, bw, cst, Pl.get, Pl.put, gt, st, ret1, argN, argC, mkL, mkT, freezeL, D.freeze, blOf, truD, asg, Tg.asg, asgL, slE, optN, optE, intOf, subS, retS, retN, drop, skip, stuck, rdS, rdF, roS, mv, runF, D.noOwn, noOwnL, andB, orB, notB, ifE, andV, orV, lineN, yes, mulI, subD, stepD_ILm, show bitsOk 2 1 = true by decide +kernel]
  have hb : B__law_places (.int many) [some rd, none, none, none, none, none, none] = .ok (.ret (IL true ys)) [some rd4, none, some (.int step), some (IL true found), some (.int pl), o5, some (.int way)] := by
    unfold B__law_places
    refine (sq_next (parS_ok (argC_ok (op2_ok (lstE_ok (argC_ok cst_ok (argC_ok cst_ok (argC_ok (op2_ok cst_ok cst_ok p27) argN_ok))) rfl) d1 s1) (argC_ok (lstE_ok argN_ok rfl) (argC_ok cst_ok argN_ok))) rfl)).trans ?_
    refine (sq_next (forS_ok hit l1)).trans ?_
    refine (sq_next (asg_ok w1 rfl)).trans ?_
    exact q1
  refine ⟨ys, rd4, m4, runF_retM hb rfl, by rw [q2.length_eq]; omega, q2.nodup_iff.mpr f2, fun x hx => bnd x (q2.mem_iff.mp hx), q3, q4⟩

/-! ### places checked, written, read -/
theorem isL_ok {xs : List Int} {d : D} (h : SQ xs d) : F_is_listed [d] = .ok (.bl true) .non := by
  have : B_is_listed d [none] = .ok (.ret (.bl true)) [none] := retS_ok (op1_ok cst_ok h.isi)
  exact runF_ret this
theorem isI_ok {x lo hi : Int} (h0 : lo ≤ x) (h1 : x ≤ hi) : F_is_integer [.int x, .int lo, .int hi] = .ok (.bl true) .non := by
  have : B_is_integer (.int x) (.int lo) (.int hi) [none, none, none] = .ok (.ret (.bl true)) [none, none, none] := by
    unfold B_is_integer
    refine (sq_next (ifS_f ?_)).trans (retS_ok ((andV_t (op2_ok cst_ok cst_ok (show leD (.int lo) (.int x) = some (.bl true) by simp [leD, h0])) rfl).trans ((orV_f (op2_ok cst_ok cst_ok rfl) rfl).trans (op2_ok cst_ok cst_ok (show leD (.int x) (.int hi) = some (.bl true) by simp [leD, h1])))))
    rfl
  exact runF_ret this
structure Pls (xs : List Int) : Prop where
  nd : xs.Nodup
  bd : ∀ x, x ∈ xs → 0 ≤ x ∧ x ≤ 1000000000000000000000000000000
  ln : xs.length ≤ 200
theorem Pls.b31 {xs : List Int} (h : Pls xs) : ∀ x, x ∈ xs → 0 ≤ x ∧ x < 10000000000000000000000000000000 := fun x hx => by
  have := h.bd x hx
  omega
theorem isP_ok {xs : List Int} {d : D} (h : SQ xs d) (p : Pls xs) : F_is_place_list [d] = .ok (.bl true) .non := by
  have hl : lc [1] (walkR d) (.nm 1) yes (callW F_is_integer [] (argC (bw (.sl 1)) (argC (cst (.int (0))) (argC (cst (.int (1000000000000000000000000000000))) argN)))) [none, none] = .ok (.lst true (xs.map fun _ => .bl true)) [none, none] :=
    lc_bl (g := fun _ => true) (e1 := [none, none]) (by simp only [walkR, h.itL, Ow.op]) (fun x hx => by
      have b := p.bd x hx
      exact callW_ok (argC_ok (bwS_ok rfl) (argC_ok cst_ok (argC_ok cst_ok argN_ok))) (isI_ok b.1 b.2)) (by have := p.ln; unfold lineN; omega)
  have : B_is_place_list d [none, none] = .ok (.ret (.bl true)) [none, none] := by
    unfold B_is_place_list
    have l := p.ln
    have hg : gtD (.int (xs.length : Int)) (.int 200) = some (.bl false) := by
      have : ¬ (200 : Int) < (xs.length : Int) := by omega
      simp [gtD, this]
    have ha : allD (.lst true (xs.map fun _ => D.bl true)) = some (.bl true) := by
      simp [allD, bls_map (fun _ => true) xs]
    refine (sq_next (ifS_f (orB_ff (notB_ok (tb_ok (callW_ok (argC_ok cst_ok argN_ok) (isL_ok h)) rfl)) (tbB_ok (op2_ok (op1_ok cst_ok h.len) cst_ok hg))))).trans (retS_ok ((andV_t (op1_ok hl ha) rfl).trans (op2_ok (op1_ok cst_ok (h.set p.nd (by omega))) (op1_ok cst_ok h.len) ?_)))
    simp [eqD, D.isData, eqv]
  exact runF_ret this
theorem chk_ok {xs : List Int} {d : D} (h : SQ xs d) (p : Pls xs) : F_checked_places [d] = .ok (IL true xs) .non := by
  have : B_checked_places d [none] = .ok (.ret (IL true xs)) [none] :=
    (sq_next (ifS_f (notB_ok (tb_ok (callW_ok (argC_ok cst_ok argN_ok) (isP_ok h p)) rfl)))).trans (retS_ok (op1_ok cst_ok h.listD))
  exact runF_ret this
theorem wr_txt {i : Nat} {its : M (List D)} {e e1 : Env} {xs : List Int} (p : ∀ x, x ∈ xs → 0 ≤ x ∧ x < 10000000000000000000000000000000) (hl : xs.length ≤ 1000) (hi : i < e1.length) (h : its e = .ok (xs.map .int) e1) : sthE (cst (.str [32])) (lc [i] its (.nm i) yes (op1 strD (bw (.sl i)))) joinA e = .ok (.str (fmtI xs)) (st i none e1) :=
  sthE_ok cst_ok (lc_txt (g := numI) h (fun x hx => op1_ok (bwS_ok (gt_st_same (by rw [st_len]; exact hi))) (strD_num (p x hx).1 (p x hx).2)) (by unfold lineN; omega)) (joinA_num p hl)
theorem fmt_ok {xs : List Int} {d : D} (h : SQ xs d) (p : Pls xs) : F_format_places [d] = .ok (.str (fmtI xs)) .non := by
  have : B_format_places d [none, none] = .ok (.ret (.str (fmtI xs))) [none, none] :=
    retS_ok (wr_txt p.b31 (by have := p.ln; omega) (by simp) (walkE_ok (o := true) (callW_ok (argC_ok cst_ok argN_ok) (chk_ok h p)) (noOwnL_ints _)))
  exact runF_ret this

theorem anyF : ∀ l : List D, anyD (.lst true (l.map fun _ => .bl false)) = some (.bl false) := fun l => by
  have h : bls? (l.map fun _ => D.bl false) = some (l.map fun _ => false) := by
    induction l with
    | nil => rfl
    | cons x l ih => simp [bls?, ih]
  simp [anyD, h]
theorem dig_in {c : Nat} (h : 48 ≤ c ∧ c ≤ 57) : inS [c] [48, 49, 50, 51, 52, 53, 54, 55, 56, 57] = true := by
  have k : ∀ c : Fin 10, inS [48 + c.1] [48, 49, 50, 51, 52, 53, 54, 55, 56, 57] = true := by decide +kernel
  have := k ⟨c - 48, by omega⟩
  rw [show 48 + (c - 48) = c by omega] at this
  exact this
theorem numIn_ok {x : Int} (h0 : 0 ≤ x) (h1 : x < 10000000000000000000000000000000) : F_number_in [.str (numI x)] = .ok (.int x) .non := by
  have l := numI_len h0 h1
  have la : sgnOk (numI x) = true := (numI_as x).ok
  have e0 : eqD (.str (numI x)) (.str []) = some (.bl false) := by
    rw [eqD_str la rfl]
    have := numI_ne x
    cases h : numI x with
    | nil => exact absurd h this
    | cons c r => rfl
  have hl : lc [1] (strE (cst (.str (numI x)))) (.nm 1) yes (op2 notInStrD (bw (.sl 1)) (cst (.str [48, 49, 50, 51, 52, 53, 54, 55, 56, 57]))) [none, none] = .ok (.lst true (((numI x).map fun c => D.str [c]).map fun _ => .bl false)) [none, none] :=
    lc_map (e1 := [none, none]) (f := fun _ => .bl false) (by simp [strE, bd, cst, Ow.op, itStr]) (fun d hd => by
      obtain ⟨c, hc, rfl⟩ := List.mem_map.mp hd
      refine ⟨op2_ok (bwS_ok rfl) cst_ok ?_, rfl⟩
      simp [notInStrD, dig_in (numI_dig hc)]) (by simp; unfold lineN; omega)
  obtain ⟨c, r, hc, hz⟩ := numI_head x.toNat
  have hc' : numI x = c :: r := hc
  have hz0 : andB (tbB (op2 eqD (op2 ixD (cst (.str (numI x))) (cst (.int (0)))) (cst (.str [48])))) (tbB (op2 neD (cst (.str (numI x))) (cst (.str [48])))) [none, none] = .ok false [none, none] := by
    have hx : ixD (.str (numI x)) (.int 0) = some (.str [c]) := by
      rw [hc'] at l ⊢
      have l2 : (c :: r).length ≤ lineN := by unfold lineN; omega
      simp only [ixD, l2, if_true]
      simp [atI, pyIx]
    have lc : sgnOk [c] = true := AsL.ok fun z hz => by
      have : z = c := by simpa using hz
      have := numI_as x c (by rw [hc']; exact List.mem_cons_self)
      omega
    by_cases h48 : c = 48
    · have x0 := hz h48
      refine andB_tt (tbB_ok (k := true) (op2_ok (op2_ok cst_ok cst_ok hx) cst_ok ?_)) (tbB_ok (op2_ok cst_ok cst_ok ?_))
      · rw [eqD_str lc rfl, h48]; rfl
      · have : numI x = [48] := by
          unfold numI
          rw [x0]
          exact TL.numL_lt (by omega)
        rw [this]
        rfl
    · refine (andB_f (tbB_ok (op2_ok (op2_ok cst_ok cst_ok hx) cst_ok ?_)))
      rw [eqD_str lc rfl]
      simp [h48]
  have : B_number_in (.str (numI x)) [none, none] = .ok (.ret (.int x)) [none, none] :=
    (sq_next (ifS_f (orB_ff (tbB_ok (op2_ok cst_ok cst_ok e0)) (orB_ff (tb_ok (op1_ok hl (anyF _)) rfl) hz0)))).trans (retS_ok (op1_ok cst_ok (intAD_num h0 h1)))
  exact runF_ret this
theorem words_ok {xs : List Int} (p : Pls xs) : F_words_of [.str (fmtI xs), .int 200] = .ok (.lst true (xs.map fun x => .str (numI x))) .non := by
  have hs : (ifE (tbB (op2 neD (cst (.str (fmtI xs))) (cst (.str [])))) (sthE (cst (.str (fmtI xs))) (cst (.str [32])) splitA) (lstE argN)) [none, none, none] = .ok (.lst true (xs.map fun x => .str (numI x))) [none, none, none] := by
    by_cases hn : xs = []
    · subst hn
      rfl
    · refine (ifE_t (tbB_ok (op2_ok cst_ok cst_ok ?_))).trans (sthE_ok cst_ok cst_ok (splitA_fmt hn p.b31 (by have := p.ln; omega)))
      rw [neD_str (fmtI_as xs).ok rfl]
      have := fmtI_ne hn
      cases h : fmtI xs with
      | nil => exact absurd h this
      | cons c r => rfl
  have hg : gtD (.int ((xs.map fun x => D.str (numI x)).length : Int)) (.int 200) = some (.bl false) := by
    have l := p.ln
    have : ¬ (200 : Int) < (xs.length : Int) := by omega
    simp [gtD, this]
  have : B_words_of (.str (fmtI xs)) (.int 200) [none, none, none] = .ok (.ret (.lst true (xs.map fun x => .str (numI x)))) [none, none, none] :=
    (sq_next (ifS_f (notB_ok (tb_ok (op1_ok cst_ok isi_str) rfl)))).trans ((sq_next (asg_ok hs rfl)).trans ((sq_next (ifS_f (tbB_ok (op2_ok (op1_ok (bwS_ok rfl) lenD_lst) cst_ok hg)))).trans (retS_ok (mv_ok rfl))))
  exact runF_ret this
theorem enumL_get (ds : List D) (i : Nat) : (enumL ds)[i]? = (ds[i]?).map fun d => .tup [.int i, d] := by
  simp [enumL, List.getElem?_zipIdx]
  cases ds[i]? <;> rfl
theorem Pls.take {xs : List Int} (p : Pls xs) (k : Nat) : Pls (xs.take k) := ⟨p.nd.sublist (List.take_sublist k xs), fun x hx => p.bd x (List.mem_of_mem_take hx), by have := p.ln; simp; omega⟩
theorem enumL_len (ds : List D) : (enumL ds).length = ds.length := by simp [enumL]
theorem noOwnL_strs (xs : List Int) : noOwnL (xs.map fun x => D.str (numI x)) = true := by
  induction xs with
  | nil => rfl
  | cons x xs ih => simp [noOwnL, D.noOwn, ih]
theorem parse_ok {xs : List Int} (p : Pls xs) : F_parse_places [.str (fmtI xs)] = .ok (IL true xs) .non := by
  obtain ⟨e', l1, o2, o3, rfl⟩ := forL_inv (t := .tp [(.nm 2), (.nm 3)]) (body := (sq (drop (chgA (.sl 1) fAppend (argC (callW F_number_in [] (argC (bw (.sl 3)) argN)) argN)))
    (tryN (drop (callW F_checked_places [] (argC (bw (.sl 1)) argN))))))
    (fun k e => ∃ o2 o3, e = [none, some (IL true (xs.take k)), o2, o3]) (ds := enumL (xs.map fun x => .str (numI x))) (k := 0) (e := [none, some (.lst true []), none, none]) (fun i d e hd ⟨o2, o3, he⟩ => by
      subst he
      rw [enumL_get, List.getElem?_map] at hd
      cases hx : xs[i]? with
      | none => rw [hx] at hd; cases hd
      | some x =>
        rw [hx] at hd
        cases hd
        have hb := p.b31 x (List.mem_of_getElem? hx)
        have ht : xs.take (i + 1) = xs.take i ++ [x] := by rw [List.take_succ, hx]; rfl
        have l := p.ln
        refine ⟨_, [none, some (IL true (xs.take (i + 1))), some (.int i), some (.str (numI x))], rfl, .inl ?_, _, _, by rw [Nat.zero_add]⟩
        rw [Nat.zero_add]
        refine (sq_next (drop_ok (chgA_ok (o := true) (xs := (xs.take i).map .int) rfl (argC_ok (callW_ok (argC_ok (bwS_ok rfl) argN_ok) (numIn_ok hb.1 hb.2)) argN_ok) rfl rfl (fAppend_IL (by simp; unfold lineN; omega))))).trans ?_
        rw [← ht]
        exact tryN_ok (drop_ok (callW_ok (argC_ok (bwS_ok rfl) argN_ok) (chk_ok (.inl ⟨_, rfl⟩) (p.take _))))) ⟨none, none, rfl⟩
  rw [enumL_len, List.length_map, Nat.zero_add, List.take_length] at l1
  have : B_parse_places (.str (fmtI xs)) [none, none, none, none] = .ok (.ret (IL true xs)) [none, none, o2, o3] :=
    (sq_next (asg_ok (lstE_ok argN_ok rfl) rfl)).trans ((sq_next (forS_ok (enumE_ok (callW_ok (argC_ok cst_ok (argC_ok cst_ok argN_ok)) (words_ok p)) (noOwnL_strs xs)) l1)).trans (retS_ok (mv_ok rfl)))
  exact runF_ret this
/-! ### dressed -/
theorem dress1 (rd : D) (x : Int) : F__law_dressed 1 [rd, .int x] = .ok (.int x) rd := by
  have : B__law_dressed (F__law_dressed 0) (.int x) [some rd, none, none, none] = .ok (.ret (.int x)) [some rd, none, none, none] := by
    unfold B__law_dressed
    refine (sq_ret ((ifS_t (notB_ok (tb_ok (op1_ok cst_ok isiT_int) rfl))).trans (retS_ok (roS_ok rfl))))
  exact runF_retM this rfl
theorem dress_ok {n : Nat} {rd : D} {xs : List Int} {o : Bool} (h : IsReel n rd) (hn : n < 2 ^ 100) (hl : xs.length ≤ 1000) : ∃ d rd', F__law_dressed 2 [rd, IL o xs] = .ok d rd' ∧ SQ xs d ∧ IsReel (n + 1) rd' := by
  obtain ⟨w, rd1, d1, d2, d3, d4⟩ := drawC (p := .sl 0) (ks := [.own]) (ms := argC (cst (.int 2)) argN) (e := [some rd, none, some (IL true xs), none]) (many := 2) h (by omega) (by omega) (by omega) rfl draw_arg rfl
  have hm := lc_mapI (i := 3) (its := walkR (IL o xs)) (e := [some rd, none, none, none]) (e1 := [some rd, none, none, none]) (elt := (callPW (fun _ => true) (.sl 0) (F__law_dressed 1) [] [.bor] (argC (bw (.sl 3)) argN))) (g := fun x => x) (xs := xs) (by simp only [walkR, itL_IL, Ow.op]) (fun x hx => by
    exact callPW_ok rfl rfl (argC_ok (bwS_ok rfl) argN_ok) rfl rfl (dress1 rd x)) (by unfold lineN; omega)
  rw [List.map_id'] at hm
  obtain ⟨d, e9, hb, hq⟩ : ∃ d e9, B__law_dressed (F__law_dressed 1) (IL o xs) [some rd, none, none, none] = .ok (.ret d) (some rd1 :: e9) ∧ SQ xs d := by
    unfold B__law_dressed
    obtain rfl | rfl : w = 0 ∨ w = 1 := by omega
    · refine ⟨IL true xs, [none, none, none], ?_, .inl ⟨_, rfl⟩⟩
      refine (sq_next (ifS_f (notB_ok (tb_ok (op1_ok cst_ok (SQ.isi (.inl ⟨o, rfl⟩))) rfl)))).trans ?_
      refine (sq_next (asg_ok hm rfl)).trans (retS_ok ((ifE_t (tbB_ok (op2_ok d1 cst_ok rfl))).trans (mv_ok rfl)))
    · refine ⟨.tup (xs.map .int), [none, some (IL true xs), none], ?_, .inr rfl⟩
      refine (sq_next (ifS_f (notB_ok (tb_ok (op1_ok cst_ok (SQ.isi (.inl ⟨o, rfl⟩))) rfl)))).trans ?_
      refine (sq_next (asg_ok hm rfl)).trans (retS_ok ((ifE_f (tbB_ok (op2_ok d1 cst_ok rfl))).trans (op1_ok (bwS_ok rfl) ?_)))
      simp [IL, tupleD, noOwnL_ints]
  exact ⟨d, rd1, runF_retM hb rfl, hq, d4⟩

/-! ### the law -/
theorem snoc_take {xs : List Int} (h1 : xs.Nodup) (h2 : ∀ x, x ∈ xs → 0 ≤ x ∧ x < 1000000000000000000000000000000) : Pls (xs.take 199 ++ [1000000000000000000000000000000]) :=
  ⟨nodup_snoc (h1.sublist (List.take_sublist _ _)) fun y hy => (h2 y (List.mem_of_mem_take hy)).2, fun x hx => by
    rcases List.mem_append.mp hx with hx | hx
    · have := h2 x (List.mem_of_mem_take hx)
      omega
    · have : x = 1000000000000000000000000000000 := by simpa using hx
      omega, by simp; omega⟩
theorem noOwn_SQ {ys : List Int} {d : D} (h : SQ ys d) : isSeqD d = true := by
  rcases h with ⟨o, rfl⟩ | rfl <;> rfl
theorem reprI {ys : List Int} {o : Bool} (p : Pls ys) : ∃ s, reprD (IL o ys) = some (.str s) ∧ sgnOk s = true := by
  have h : Sh 60 ys.length (IL o ys) := SQ.sh (.inl ⟨_, rfl⟩) p.b31
  have l := p.ln
  exact ⟨_, reprD_ok h rfl (by omega), h.as.ok⟩
theorem neD_self {s : List Nat} (h : sgnOk s = true) : neD (.str s) (.str s) = some (.bl false) := by
  rw [neD_str h h]
  simp
theorem pls_pop {y : Int} {zs ys : List Int} (p : Pls ys) (h : List.Perm (y :: zs) ys) : Pls zs :=
  ⟨(List.nodup_cons.mp (h.nodup_iff.mpr p.nd)).2, fun x hx => p.bd x (h.mem_iff.mp (List.mem_cons_of_mem _ hx)), by have := h.length_eq; have := p.ln; simp at *; omega⟩
theorem body_ok {n : Nat} {rd : D} {i : Int} {a3 a4 a5 a6 a7 a8 : Option D} (h : IsReel n rd) (hn : n + 2000 < 2 ^ 90) (hi : 0 ≤ i) : ∃ rd' n' b2 b3 b4 b5 b6 b7 b8, ((sq (asg (.nm 3) (callPW (fun _ => true) (.sl 1) F__law_places [] [.own] (argC (callPW (fun _ => true) (.sl 1) F__law_draw [] [.own] (argC (op2 ixD (lstE (argC (cst (.int (12))) (argC (cst (.int (201))) argN))) (op2 modD (bw (.sl 2)) (cst (.int (2))))) argN)) argN)))
    (sq (ifS (tbB (op2 eqD (callPW (fun _ => true) (.sl 1) F__law_draw [] [.own] (argC (cst (.int (2))) argN)) (cst (.int (0))))) (asg (.nm 3) (op2 addD (slE (bw (.sl 3)) optN (optE (cst (.int (199))))) (lstE (argC (op2 powD (cst (.int (10))) (cst (.int (30)))) argN)))) skip)
    (sq (withRo 3 fun z1 => (asg (.nm 4) (callPW (fun _ => true) (.sl 1) (F__law_dressed 2) [] [.at] (argC (cst z1) argN))))
    (sq (asg (.nm 5) (reprL (argC (bw (.sl 3)) (argC (bw (.sl 4)) argN))))
    (sq (withRo 3 fun z2 => (asg (.nm 6) (sthE (cst (.str [32])) (lc [7] (walkR z2) (.nm 7) yes (op1 strD (bw (.sl 7)))) joinA)))
    (sq (ifS (orB (tbB (op2 neD (lstE (argC (callW F_format_places [] (argC (bw (.sl 3)) argN)) (argC (callW F_format_places [] (argC (bw (.sl 4)) argN)) argN))) (lstE (argC (rdS 6) (argC (rdS 6) argN))))) (tbB (op2 neD (reprL (argC (bw (.sl 3)) (argC (bw (.sl 4)) argN))) (bw (.sl 5))))) (retS (cst (.bl false))) skip)
    (sq (asg (.nm 8) (callW F_parse_places [] (argC (callW F_format_places [] (argC (bw (.sl 3)) argN)) argN)))
    (sq (ifS (tbB (op2 neD (op1 reprD (bw (.sl 8))) (op1 reprD (bw (.sl 3))))) (retS (cst (.bl false))) skip)
    (sq (drop (chgA (.sl 8) fAppend (argC (cst .non) argN)))
    (sq (ifS (tbB (op2 neD (op1 reprD (callW F_parse_places [] (argC (callW F_format_places [] (argC (bw (.sl 4)) argN)) argN))) (op1 reprD (bw (.sl 3))))) (retS (cst (.bl false))) skip)
    (ifS (tbB (op2 neD (bw (.sl 3)) (lstE argN))) (sq (drop (chgA (.sl 3) fPopAt (argC (callPW (fun _ => true) (.sl 1) F__law_draw [] [.own] (argC (op1 lenD (bw (.sl 3))) argN)) argN)))
    (ifS (tbB (op2 neD (callW F_format_places [] (argC (bw (.sl 3)) argN)) (sthE (cst (.str [32])) (lc [7] (walkE (mv 3)) (.nm 7) yes (op1 strD (bw (.sl 7)))) joinA))) (retS (cst (.bl false))) skip)) skip)))))))))))) [none, some rd, some (.int i), a3, a4, a5, a6, a7, a8] = .ok .next [none, some rd', b2, b3, b4, b5, b6, b7, b8] ∧ IsReel n' rd' ∧ n' ≤ n + 2000 := by
  have hm : ∃ m, ixD (.lst true [.int 12, .int 201]) (.int (i % 2)) = some (.int m) ∧ 0 < m ∧ m ≤ 201 := by
    obtain e | e : i % 2 = 0 ∨ i % 2 = 1 := by omega
    · exact ⟨12, by rw [e]; rfl, by decide, by decide⟩
    · exact ⟨201, by rw [e]; rfl, by decide, by decide⟩
  obtain ⟨m, m1, m2, m3⟩ := hm
  obtain ⟨many, rd1, d1, d2, d3, d4⟩ := drawC (p := .sl 1) (ks := [.own]) (ms := (argC (op2 ixD (lstE (argC (cst (.int (12))) (argC (cst (.int (201))) argN))) (op2 modD (bw (.sl 2)) (cst (.int (2))))) argN)) (e := [none, some rd, some (.int i), a3, a4, a5, a6, a7, a8]) (many := m) h (by omega) (by omega) (by omega) rfl
    (argC_ok (op2_ok (lstE_ok (argC_ok cst_ok (argC_ok cst_ok argN_ok)) rfl) (op2_ok (bwS_ok rfl) cst_ok (modD_ok (by decide))) m1) argN_ok) rfl
  obtain ⟨xs, rd2, n2, p1, p2, p3, p4, p5, p6⟩ := places_ok (many := many) d4 (by omega) (by omega) (by omega)
  obtain ⟨w, rd3, w1, w2, w3, w4⟩ := drawC (p := .sl 1) (ks := [.own]) (ms := argC (cst (.int 2)) argN) (e := [none, some rd2, some (.int i), some (IL true xs), a4, a5, a6, a7, a8]) (many := 2) p5 (by omega) (by omega) (by omega) rfl draw_arg rfl
  have p30 : powD (.int 10) (.int 30) = some (.int 1000000000000000000000000000000) := by simp [powD]
  obtain ⟨ys, q1, q2⟩ : ∃ ys, (ifS (tbB (op2 eqD (callPW (fun _ => true) (.sl 1) F__law_draw [] [.own] (argC (cst (.int (2))) argN)) (cst (.int (0))))) (asg (.nm 3) (op2 addD (slE (bw (.sl 3)) optN (optE (cst (.int (199))))) (lstE (argC (op2 powD (cst (.int (10))) (cst (.int (30)))) argN)))) skip) [none, some rd2, some (.int i), some (IL true xs), a4, a5, a6, a7, a8] = .ok .next [none, some rd3, some (.int i), some (IL true ys), a4, a5, a6, a7, a8] ∧ Pls ys := by
    obtain rfl | rfl : w = 0 ∨ w = 1 := by omega
    · refine ⟨xs.take 199 ++ [1000000000000000000000000000000], (ifS_t (tbB_ok (op2_ok w1 cst_ok rfl))).trans (asg_ok (op2_ok (y := IL true [1000000000000000000000000000000]) (x := IL true (xs.take 199)) (e1 := [none, some rd3, some (.int i), some (IL true xs), a4, a5, a6, a7, a8]) ?_ (lstE_ok (argC_ok (op2_ok cst_ok cst_ok p30) argN_ok) rfl) (addD_IL ?_)) rfl), snoc_take p3 p4⟩
      · simp [sq, ifS, tb, tbB, bd, op, bw, cst, Pl.get, Pl.put, gt, st, ret1, argN, argC, mkL, mkT, freezeL, D.freeze, blOf, truD, asg, Tg.asg, asgL, slE, optN, optE, intOf, subS, retS, retN, drop, skip, stuck, rdS, rdF, roS, mv, runF, D.noOwn, noOwnL, andB, orB, notB, ifE, andV, orV, lineN, yes, slO_IL, cut_from0]
      · simp [lineN]; omega
    · exact ⟨xs, (ifS_f (tbB_ok (op2_ok w1 cst_ok rfl))).trans rfl, p3, fun x hx => by have := p4 x hx; omega, by omega⟩
  obtain ⟨d, rd4, r1, r2, r3⟩ := dress_ok (o := true) (xs := ys) w4 (by omega) (by have := q2.ln; omega)
  have yl := q2.ln
  have s1 : SQ ys (IL true ys) := .inl ⟨_, rfl⟩
  have hsh : ShL 59 1000 [IL true ys, d] := .cons (s1.sh q2.b31) (.cons (r2.sh q2.b31) (ShL.nil (w := 0)) (Nat.le_refl _)) (by omega)
  have hk : ∀ e : Env, gt 3 e = some (IL true ys) → gt 4 e = some d → reprL (argC (bw (.sl 3)) (argC (bw (.sl 4)) argN)) e = .ok (.str (PySem.PyData.list (toPyL [IL true ys, d])).shown.cps.toList) e := fun e h3 h4 => by
    refine reprL_ok (argC_ok (bwS_ok h3) (argC_ok (bwS_ok h4) argN_ok)) hsh (by omega) (by simp)
  have fo : sgnOk (fmtI ys) = true := (fmtI_as ys).ok
  have hne : neD (.lst true [.str (fmtI ys), .str (fmtI ys)]) (.lst true [.str (fmtI ys), .str (fmtI ys)]) = some (.bl false) := by
    simp [neD, D.isData, isDataL, eqv, eqvL, fo]
  have hks : sgnOk (PySem.PyData.list (toPyL [IL true ys, d])).shown.cps.toList = true := (Sh.lst (o := true) hsh).as.ok
  obtain ⟨rs, hrp, hro⟩ := reprI (o := true) q2
  have hap : fAppend [.non] (IL true ys) = some (.non, .lst true (ys.map .int ++ [.non])) := by
    have : ys.length < lineN := by unfold lineN; omega
    simp [fAppend, IL, noOwnL_ints, this]
  obtain ⟨b3, rd5, n5, z1, z2, z3⟩ : ∃ b3 rd5 n5, (ifS (tbB (op2 neD (bw (.sl 3)) (lstE argN))) (sq (drop (chgA (.sl 3) fPopAt (argC (callPW (fun _ => true) (.sl 1) F__law_draw [] [.own] (argC (op1 lenD (bw (.sl 3))) argN)) argN)))
    (ifS (tbB (op2 neD (callW F_format_places [] (argC (bw (.sl 3)) argN)) (sthE (cst (.str [32])) (lc [7] (walkE (mv 3)) (.nm 7) yes (op1 strD (bw (.sl 7)))) joinA))) (retS (cst (.bl false))) skip)) skip)
      [none, some rd4, some (.int i), some (IL true ys), some d, some (.str (PySem.PyData.list (toPyL [IL true ys, d])).shown.cps.toList), some (.str (fmtI ys)), none, some (.lst true (ys.map .int ++ [.non]))] = .ok .next
      [none, some rd5, some (.int i), b3, some d, some (.str (PySem.PyData.list (toPyL [IL true ys, d])).shown.cps.toList), some (.str (fmtI ys)), none, some (.lst true (ys.map .int ++ [.non]))] ∧ IsReel n5 rd5 ∧ n5 ≤ n + 2000 := by
    by_cases hy : ys = []
    · subst hy
      exact ⟨_, rd4, _, (ifS_f (tbB_ok (op2_ok (bwS_ok rfl) (lstE_ok argN_ok rfl) (neD_ILn ..)))).trans rfl, r3, by omega⟩
    · have hpos : 0 < ys.length := List.length_pos_iff.mpr hy
      have hemp : (!ys.isEmpty) = true := by cases ys with | nil => exact absurd rfl hy | cons _ _ => rfl
      obtain ⟨x, rd5, x1, x2, x3, x4⟩ := drawC (p := .sl 1) (ks := [.own]) (ms := argC (op1 lenD (bw (.sl 3))) argN) (e := [none, some rd4, some (.int i), some (IL true ys), some d, some (.str (PySem.PyData.list (toPyL [IL true ys, d])).shown.cps.toList), some (.str (fmtI ys)), none, some (.lst true (ys.map .int ++ [.non]))]) (many := ys.length) r3 (by omega) (by omega) (by omega) rfl (argC_ok (op1_ok (bwS_ok rfl) lenD_IL) argN_ok) rfl
      obtain ⟨y, zs, f1, f2, f3⟩ := fPopAt_IL (xs := ys) x2 x3 (by omega)
      have pz := pls_pop q2 f2
      have zl := pz.ln
      refine ⟨none, rd5, _, (ifS_t (tbB_ok (k := true) (op2_ok (bwS_ok rfl) (lstE_ok argN_ok rfl) (by rw [neD_ILn, hemp])))).trans ?_, x4, by omega⟩
      refine (sq_next (drop_ok (chgA_ok (o := true) (xs := ys.map .int) rfl (argC_ok x1 argN_ok) rfl rfl f1))).trans ?_
      have hwz := wr_txt (i := 7) (xs := zs) (its := walkE (mv 3)) (e := [none, some rd5, some (.int i), some (IL true zs), some d, some (.str (PySem.PyData.list (toPyL [IL true ys, d])).shown.cps.toList), some (.str (fmtI ys)), none, some (.lst true (ys.map .int ++ [.non]))])
        (e1 := [none, some rd5, some (.int i), none, some d, some (.str (PySem.PyData.list (toPyL [IL true ys, d])).shown.cps.toList), some (.str (fmtI ys)), none, some (.lst true (ys.map .int ++ [.non]))]) pz.b31 (by omega) (by simp) (walkE_ok (o := true) (mv_ok rfl) (noOwnL_ints _))
      exact (ifS_f (tbB_ok (op2_ok (callW_ok (argC_ok (bwS_ok rfl) argN_ok) (fmt_ok (.inl ⟨_, rfl⟩) pz)) hwz (neD_self (fmtI_as zs).ok)))).trans rfl
  refine ⟨rd5, n5, some (.int i), b3, some d, some (.str (PySem.PyData.list (toPyL [IL true ys, d])).shown.cps.toList), some (.str (fmtI ys)), none, some (.lst true (ys.map .int ++ [.non])), ?_, z2, z3⟩
  refine (sq_next (asg_ok (callPW_ok rfl rfl (argC_ok d1 argN_ok) rfl rfl p1) rfl)).trans ?_
  refine (sq_next q1).trans ?_
  refine (sq_next (withRo_st (e' := [none, some rd4, some (.int i), none, some d, a5, a6, a7, a8]) rfl (asg_ok (callPW_ok rfl rfl (argC_ok cst_ok argN_ok) rfl rfl r1) rfl) rfl)).trans ?_
  refine (sq_next (asg_ok (hk _ rfl rfl) rfl)).trans ?_
  refine (sq_next (withRo_st (e' := [none, some rd4, some (.int i), none, some d, some (.str (PySem.PyData.list (toPyL [IL true ys, d])).shown.cps.toList), some (.str (fmtI ys)), none, a8]) rfl (asg_ok (wr_txt (e1 := [none, some rd4, some (.int i), none, some d, some (.str (PySem.PyData.list (toPyL [IL true ys, d])).shown.cps.toList), a6, a7, a8]) q2.b31 (by omega) (by simp) (by simp only [walkR, itL_IL, Ow.op]; rfl)) rfl) rfl)).trans ?_
  refine (sq_next (ifS_f (orB_ff (tbB_ok (op2_ok (lstE_ok (argC_ok (callW_ok (argC_ok (bwS_ok rfl) argN_ok) (fmt_ok s1 q2)) (argC_ok (callW_ok (argC_ok (bwS_ok rfl) argN_ok) (fmt_ok r2 q2)) argN_ok)) rfl) (lstE_ok (argC_ok (rdS_ok rfl rfl) (argC_ok (rdS_ok rfl rfl) argN_ok)) rfl) hne)) (tbB_ok (op2_ok (hk _ rfl rfl) (bwS_ok rfl) (neD_self hks)))))).trans ?_
  refine (sq_next (asg_ok (callW_ok (argC_ok (callW_ok (argC_ok (bwS_ok rfl) argN_ok) (fmt_ok s1 q2)) argN_ok) (parse_ok q2)) rfl)).trans ?_
  refine (sq_next (ifS_f (tbB_ok (op2_ok (op1_ok (bwS_ok rfl) hrp) (op1_ok (bwS_ok rfl) hrp) (neD_self hro))))).trans ?_
  refine (sq_next (drop_ok (chgA_ok (o := true) (xs := ys.map .int) rfl (argC_ok cst_ok argN_ok) rfl rfl hap))).trans ?_
  refine (sq_next (ifS_f (tbB_ok (op2_ok (op1_ok (callW_ok (argC_ok (callW_ok (argC_ok (bwS_ok rfl) argN_ok) (fmt_ok r2 q2)) argN_ok) (parse_ok q2)) hrp) (op1_ok (bwS_ok rfl) hrp) (neD_self hro))))).trans ?_
  exact z1
theorem q0 : Pls [] := ⟨List.nodup_nil, fun x hx => (by cases hx), by simp⟩
theorem qz : Pls [0] := ⟨by simp, fun x hx => by
    have : x = 0 := by simpa using hx
    omega, by simp⟩
theorem t0 : F_format_places [.tup []] = .ok (.str []) .non := fmt_ok (xs := []) (.inr rfl) q0
theorem t1 : F_parse_places [.str []] = .ok (.lst true []) .non := parse_ok (xs := []) q0
theorem fmt0 : fmtI [0] = [48] := by
  have : numI 0 = [48] := TL.numL_lt (n := 0) (by omega)
  simp only [fmtI, List.map_cons, List.map_nil, TL.joinL, this]
theorem t2 : F_parse_places [.str [48]] = .ok (.lst true [.int 0]) .non := by
    have := parse_ok (xs := [0]) qz
    rw [fmt0] at this
    exact this
theorem hA (ns : List Int) : min2 (.int (ns.length : Int)) (.int 6) = some (.int (if (6 : Int) < (ns.length : Int) then (6 : Int) else (ns.length : Int))) := rfl
theorem hB (ns : List Int) : ∃ N : Nat, (3 : Int) + (if (6 : Int) < (ns.length : Int) then (6 : Int) else (ns.length : Int)) = (N : Int) ∧ N ≤ 9 := by
  by_cases h : 6 < ns.length
  · exact ⟨9, by rw [if_pos (by omega)]; rfl, by omega⟩
  · exact ⟨3 + ns.length, by rw [if_neg (by omega)]; omega, by omega⟩
theorem hit (ns : List Int) (e : Env) : ∃ N : Nat, N ≤ 9 ∧ rng1E (op2 addD (cst (.int (3))) (op2 min2 (op1 lenD (cst (IL false ns))) (cst (.int (6))))) e = .ok ((rangeI 0 N).map .int) e := by
  obtain ⟨N, hN, hN0⟩ := hB ns
  refine ⟨N, hN0, ?_⟩
  rw [← hN]
  exact rng1E_ok (op2_ok cst_ok (op2_ok (op1_ok cst_ok lenD_IL) cst_ok (hA ns)) rfl) (small9 (by omega) (by omega))
theorem pure_law (ns : List Int) (h : ns.length ≤ 63) : ∃ m, F_law [.lst false (ns.map .int)] = .ok (.bl true) m := by
  obtain ⟨rd0, m0, h0, hr⟩ := reel_ok ns
  obtain ⟨N, hN0, hit⟩ := hit ns [none, some rd0, none, none, none, none, none, none, none]
  obtain ⟨e', l1, rd1, n1, b2, b3, b4, b5, b6, b7, b8, rfl, k1, k2⟩ := forL_inv (t := .nm 2) (body := (sq (asg (.nm 3) (callPW (fun _ => true) (.sl 1) F__law_places [] [.own] (argC (callPW (fun _ => true) (.sl 1) F__law_draw [] [.own] (argC (op2 ixD (lstE (argC (cst (.int (12))) (argC (cst (.int (201))) argN))) (op2 modD (bw (.sl 2)) (cst (.int (2))))) argN)) argN)))
    (sq (ifS (tbB (op2 eqD (callPW (fun _ => true) (.sl 1) F__law_draw [] [.own] (argC (cst (.int (2))) argN)) (cst (.int (0))))) (asg (.nm 3) (op2 addD (slE (bw (.sl 3)) optN (optE (cst (.int (199))))) (lstE (argC (op2 powD (cst (.int (10))) (cst (.int (30)))) argN)))) skip)
    (sq (withRo 3 fun z1 => (asg (.nm 4) (callPW (fun _ => true) (.sl 1) (F__law_dressed 2) [] [.at] (argC (cst z1) argN))))
    (sq (asg (.nm 5) (reprL (argC (bw (.sl 3)) (argC (bw (.sl 4)) argN))))
    (sq (withRo 3 fun z2 => (asg (.nm 6) (sthE (cst (.str [32])) (lc [7] (walkR z2) (.nm 7) yes (op1 strD (bw (.sl 7)))) joinA)))
    (sq (ifS (orB (tbB (op2 neD (lstE (argC (callW F_format_places [] (argC (bw (.sl 3)) argN)) (argC (callW F_format_places [] (argC (bw (.sl 4)) argN)) argN))) (lstE (argC (rdS 6) (argC (rdS 6) argN))))) (tbB (op2 neD (reprL (argC (bw (.sl 3)) (argC (bw (.sl 4)) argN))) (bw (.sl 5))))) (retS (cst (.bl false))) skip)
    (sq (asg (.nm 8) (callW F_parse_places [] (argC (callW F_format_places [] (argC (bw (.sl 3)) argN)) argN)))
    (sq (ifS (tbB (op2 neD (op1 reprD (bw (.sl 8))) (op1 reprD (bw (.sl 3))))) (retS (cst (.bl false))) skip)
    (sq (drop (chgA (.sl 8) fAppend (argC (cst .non) argN)))
    (sq (ifS (tbB (op2 neD (op1 reprD (callW F_parse_places [] (argC (callW F_format_places [] (argC (bw (.sl 4)) argN)) argN))) (op1 reprD (bw (.sl 3))))) (retS (cst (.bl false))) skip)
    (ifS (tbB (op2 neD (bw (.sl 3)) (lstE argN))) (sq (drop (chgA (.sl 3) fPopAt (argC (callPW (fun _ => true) (.sl 1) F__law_draw [] [.own] (argC (op1 lenD (bw (.sl 3))) argN)) argN)))
    (ifS (tbB (op2 neD (callW F_format_places [] (argC (bw (.sl 3)) argN)) (sthE (cst (.str [32])) (lc [7] (walkE (mv 3)) (.nm 7) yes (op1 strD (bw (.sl 7)))) joinA))) (retS (cst (.bl false))) skip)) skip))))))))))))
    (fun k e => ∃ rd n b2 b3 b4 b5 b6 b7 b8, e = [none, some rd, b2, b3, b4, b5, b6, b7, b8] ∧ IsReel n rd ∧ n ≤ k * 2000) (ds := (rangeI 0 N).map D.int) (k := 0) (e := [none, some rd0, none, none, none, none, none, none, none]) (fun i d e hd ⟨rd, n, b2, b3, b4, b5, b6, b7, b8, he, k1, k2⟩ => by
      subst he
      have hi := (List.getElem?_eq_some_iff.mp hd).1
      have hm : ((rangeI 0 N).map D.int).length = N := by simp [rangeI]
      rw [hm] at hi
      obtain ⟨j, hj, rfl⟩ : ∃ j : Int, 0 ≤ j ∧ d = .int j := by
        have := List.mem_of_getElem? hd
        obtain ⟨j, hj, rfl⟩ := List.mem_map.mp this
        refine ⟨j, ?_, rfl⟩
        simp [rangeI] at hj
        omega
      obtain ⟨rd', n', c2, c3, c4, c5, c6, c7, c8, x1, x2, x3⟩ := body_ok (a3 := b3) (a4 := b4) (a5 := b5) (a6 := b6) (a7 := b7) (a8 := b8) k1 (by omega) hj
      exact ⟨_, _, rfl, .inl x1, rd', n', _, _, _, _, _, _, _, rfl, x2, by omega⟩) ⟨rd0, 0, _, _, _, _, _, _, _, rfl, hr, by omega⟩
  have hb : B_law (IL false ns) [none, none, none, none, none, none, none, none, none] = .ok (.ret (.bl true)) [none, some rd1, b2, b3, b4, b5, b6, b7, b8] := by
    refine (sq_next (asg_ok (callW_ok (argC_ok cst_ok argN_ok) h0) rfl)).trans ?_
    refine (sq_next (forS_ok hit l1)).trans ?_
    exact retS_ok ((andV_t (op2_ok (callW_ok (argC_ok (tupE_ok argN_ok rfl) argN_ok) t0) cst_ok rfl) rfl).trans ((andV_t (op2_ok (callW_ok (argC_ok cst_ok argN_ok) t1) (lstE_ok argN_ok rfl) rfl) rfl).trans (op2_ok (callW_ok (argC_ok cst_ok argN_ok) t2) (lstE_ok (argC_ok cst_ok argN_ok) rfl) rfl)))
  exact ⟨_, runF_ret hb⟩

end Mi

open PySem PySem.W PySem.Calls PyProof.Rows
theorem PySem.Challenge.cw_leftreturn_k50_places_as_text_holds : PySem.Challenge.rw_leftreturn_k50_places_as_text.Holds := by
  w_on; o_law
  refine HandSHeadRun.head_any (r := OpenLaw.row PySem.Challenge.rw_leftreturn_k50_places_as_text) (q := view (OpenLaw.row PySem.Challenge.rw_leftreturn_k50_places_as_text).prog [27]) (H := Hd.hk) (ob := Hd.ob) (M := 6000) (loose := Hd.loose) (d := HandSHeadRun.topDef (OpenLaw.row PySem.Challenge.rw_leftreturn_k50_places_as_text).prog 27) (kwd := []) Hd.ob_eq
    (by kernel_rfl) (fun s => by kernel_rfl) Hd.run (by kernel_rfl) (by kernel_rfl) (by kernel_rfl) (by rfl) (by first | assumption | decide +kernel) (by decide +kernel) ⟨rfl, rfl, rfl, rfl, rfl, by decide +kernel⟩ ?hw ?hc
  case hw => w_witness2
  case hc =>
    refine Ow.walk_ow (l := PySem.Challenge.rw_leftreturn_k50_places_as_text) (n := 63) (k := 5) (x := "script") rfl (by decide) (by kernel_rfl) ⟨rfl, by decide, by decide⟩ ?F
    intro w mg fa h Y G hmg0
    obtain ⟨K, KX, c⟩ := Y
    have hmg : mg ("law" : PySem.Str) = some (.ref fa) := by
      have e : (HandSHeadRun.topDef (OpenLaw.row PySem.Challenge.rw_leftreturn_k50_places_as_text).prog 27).name = ("law" : PySem.Str) := by kernel_rfl
      rw [← e]
      exact hmg0
    have T := Hd.fs_of KX G c
    obtain ⟨fd, Fd⟩ := T.f_law
    have e := hmg.symm.trans T.g_law
    cases e
    exact ⟨K, fd, Hd.ctK K, Mi.F_law, KX, fun s u => L2.FunD.bindsA (ps := ["script"]) Fd (fun _ _ _ _ _ _ us hl => match us, hl with | [_], _ => rfl) s [u] rfl, Mi.pure_law, fun base _ _ => Hd.fo_law T Fd⟩
