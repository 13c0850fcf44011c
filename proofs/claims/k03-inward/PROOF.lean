import PyProof.Rows.All
import Wide.All
import OpenK.AllK
import Wide.FinOn
import KE.KStateDown
import HandS.ForMost
import HandS.ForExc
import HandS.TryMany
import HandS.ExcInit
import HandS.ExcField
import HandS.ExcIs
import HandS.IsInst
import HandS.Rev
import HandS.Walk
import HandS.TupAny
import HandS.TupMul
import HandS.Wide
import HandS.Deep
import HandS.WordsExc
import HandS.TupLe
import HandS.Style
import HandS.Lambda
import PyProof.ReprRoads
import PyProof.CompFree
import HandS.Exc
import HandS.Call
import HandS.Zip
import KE.GoesMore
import HandS.HeadWalk
import KE.KTryMore
import HandS.DictComp
import KE.KExcIs
import HandS.Defaults
import HandS.Ends
import HandS.HeadEnd
import HandS.Head0
import HandS.Head1
import HandS.Head2
import HandS.HeadHook1
import HandS.HeadHook2
import HandS.HeadHook3
import KE.KNestM
import HandS.Base
import HandS.More
import HandS.Words
import PySem.Challenge.RW_wholesay_k03_nots_driven_inward
section
set_option Elab.async false
/-! Core: plain data, a small syntax, an interpreter. Plain Lean, on its own. -/
set_option autoImplicit false
namespace Dl

/-- plain data; hnd stands for the one dict that the law draws from -/
inductive D where
  | non
  | bl (b : Bool)
  | int (i : Int)
  | str (s : String)
  | tup (l : List D)
  | lst (l : List D)
  | hnd
  | dct (ks : List Int) (vs : List D)

mutual
/-- the very same data -/
def D.same : D → D → Bool
  | .non, .non => true
  | .bl a, .bl b => a == b
  | .int a, .int b => a == b
  | .str a, .str b => a == b
  | .tup a, .tup b => D.sames a b
  | .lst a, .lst b => D.sames a b
  | .hnd, .hnd => true
  | .dct k a, .dct j b => k == j && D.sames a b
  | _, _ => false
def D.sames : List D → List D → Bool
  | [], [] => true
  | a :: l, b :: r => D.same a b && D.sames l r
  | _, _ => false
end

def b2i (b : Bool) : Int := if b then 1 else 0
mutual
/-- Python's == -/
def D.eqv : D → D → Bool
  | .non, .non => true
  | .bl a, .bl b => a == b
  | .bl a, .int b => b2i a == b
  | .int a, .bl b => a == b2i b
  | .int a, .int b => a == b
  | .str a, .str b => a == b
  | .tup a, .tup b => D.eqvs a b
  | .lst a, .lst b => D.eqvs a b
  | _, _ => false
def D.eqvs : List D → List D → Bool
  | [], [] => true
  | a :: l, b :: r => D.eqv a b && D.eqvs l r
  | _, _ => false
end
mutual
/-- how deep; hnd is out of bounds -/
def D.dep : D → Nat
  | .tup l => D.deps l + 1
  | .lst l => D.deps l + 1
  | .hnd => 1000
  | .dct _ _ => 1000
  | _ => 0
def D.deps : List D → Nat
  | [] => 0
  | a :: l => max (D.dep a) (D.deps l)
end
mutual
/-- more than the signs of its repr; hnd is out of bounds -/
def D.wid : D → Nat
  | .non => 4
  | .bl _ => 5
  | .int i => if i.natAbs < 2 ^ 1900 then i.natAbs.log2 + 3 else 100000000
  | .str s => 10 * s.length + 2
  | .tup l => D.wids l + 3
  | .lst l => D.wids l + 2
  | .hnd => 100000000
  | .dct _ _ => 100000000
def D.wids : List D → Nat
  | [] => 0
  | a :: l => D.wid a + 2 + D.wids l
end
/-- repr may be asked -/
def D.shw (d : D) : Bool := decide (d.wid ≤ 16000000) && decide (d.dep ≤ 100)
/-- == may be asked -/
def D.shp (d : D) : Bool := decide (d.dep ≤ 64)

/-- the most items of a list -/
abbrev SZ : Nat := 16777216

/-- what a slot holds: data; a list of this def's own; such a list, seen from within; a dict of this def's own; an error -/
inductive DV where
  | im (d : D)
  | ml (l : List D)
  | rd (l : List D)
  | md (ks : List Int) (vs : List D)
  | exc (c : String) (fs : List (String × D))

/-- the law's source of draws -/
structure GS where
  cells : List Int
  lefts : List Int
  at_ : Nat

structure Exn where
  cls : String
  fs : List (String × D)

structure S where
  env : List (Option DV)
  g : Option GS

inductive R (α : Type) where
  | ok (a : α) (s : S)
  | ex (e : Exn) (s : S)
  | stuck

def R.bind {α β : Type} (r : R α) (f : α → S → R β) : R β := match r with
  | .ok a s => f a s
  | .ex e s => .ex e s
  | .stuck => .stuck
def ofO {α : Type} (o : Option α) (s : S) : R α := match o with
  | some a => .ok a s
  | none => .stuck

@[simp] theorem R.bind_ok {α β : Type} (a : α) (s : S) (f : α → S → R β) : (R.ok a s).bind f = f a s := (rfl)
@[simp] theorem R.bind_ex {α β : Type} (e : Exn) (s : S) (f : α → S → R β) : (R.ex e s : R α).bind f = .ex e s := (rfl)
@[simp] theorem R.bind_stuck {α β : Type} (f : α → S → R β) : (R.stuck : R α).bind f = .stuck := (rfl)
@[simp] theorem ofO_some {α : Type} (a : α) (s : S) : ofO (some a) s = .ok a s := (rfl)
@[simp] theorem ofO_none {α : Type} (s : S) : ofO (none : Option α) s = .stuck := (rfl)

/-- what a call gives -/
inductive RC where
  | ok (d : D) (g : Option GS)
  | ex (e : Exn) (g : Option GS)
  | stuck

inductive Op2 where
  | add | sub | mul | fdiv | mod | pow
  deriving DecidableEq
inductive Cmp where
  | eq | ne | lt | le | gt | ge | inn | nin | is_ | isn
  deriving DecidableEq
inductive Ty where
  | int | bool | str | tuple | list
  deriving DecidableEq
inductive Blt where
  | len | abs | max | min | sum | sorted | tuple | list | int
  deriving DecidableEq

inductive Tgt where
  | one (i : Nat)
  | many (l : List Nat)
inductive Ex where
  | non
  | bl (b : Bool)
  | int (i : Int)
  | str (s : String)
  | var (i : Nat)
  | bor (i : Nat)
  | gl (x : String)
  | tup (l : List Ex)
  | lst (l : List Ex)
  | bin (o : Op2) (a b : Ex)
  | neg (a : Ex)
  | cmp (o : Cmp) (a b : Ex)
  | chain (o p : Cmp) (a b c : Ex)
  | isN (a : Ex)
  | notN (a : Ex)
  | and (a b : Ex)
  | or (a b : Ex)
  | not (a : Ex)
  | ife (c a b : Ex)
  | ix (a i : Ex)
  | sl (a lo hi : Ex)
  | call (f : String) (l : List Ex)
  | slr (a : Ex)
  | lrev (a : Ex)
  | cnt (a x : Ex)
  | b1 (f : Blt) (a : Ex)
  | b2 (f : Blt) (a b : Ex)
  | isi (a : Ex) (t : Ty)
  | isE (i : Nat) (c : String)
  | fld (i : Nat) (f : String)
  | like (a b : Ex)
  | lc (x : Ex) (t : Tgt) (own : List Nat) (i : Ex) (c : Ex)
  | iSeq (a : Ex)
  | iRng (a : Ex)
  | iRng2 (a b : Ex)
  | iEnum (a : Ex)
  | iZip (a b : Ex)
  | iRev (a : Ex)
  | caught (f : String) (e : Ex)
  | keys (a : Ex)
  | dix (a k : Ex)
  | dc (kx vx : Ex) (t : Tgt) (own : List Nat) (i : Ex) (c : Ex)
  | lcX (x : Ex) (t : Tgt) (own : List Nat) (i : Ex) (c : Ex)
  | kix (x : String) (t : List (String × String)) (i : Nat)
  | lit2 (a b c d : String) (i : Nat)
  | stAt (i : Nat)
  | stLen (i : Nat)
  | stCell (i : Nat) (a : Ex)
  | stLeft (i : Nat) (a : Ex)

inductive St where
  | set (i : Nat) (e : Ex)
  | setL (i : Nat) (e : Ex)
  | unp (l : List Nat) (e : Ex)
  | par (l : List (Nat × Bool × Ex))
  | setIx (i : Nat) (k e : Ex)
  | app (i : Nat) (e : Ex)
  | ext (i : Nat) (e : Ex)
  | pop (t : Tgt) (i : Nat)
  | expr (e : Ex)
  | ret (e : Ex)
  | ifs (c : Ex) (a b : List St)
  | fors (t : Tgt) (i : Ex) (b : List St)
  | whil (c : Ex) (b : List St)
  | brk
  | cont
  | pass
  | raise (c : String) (l : List Ex)
  | tryS (b : List St) (hs : List (List String × Option Nat × List St))
  | stSetAt (i : Nat) (e : Ex)
  | stSetLeft (i : Nat) (k e : Ex)
  | begin_ (i : Nat) (x : Ex)
  | newD (i : Nat)
  | bump (i j m : Nat)
  | retD (i : Nat)

/-! ### what a thunk gives, as data -/
def encG : Option GS → D
  | none => .non
  | some g => .tup [.lst (g.cells.map .int), .lst (g.lefts.map .int), .int (g.at_ : Nat)]
def encOk (g g1 : Option GS) (d : D) : D := .tup [encG g, encG g1, .bl true, d]
def encEx (g g1 : Option GS) (e : Exn) : D := .tup [encG g, encG g1, .bl false, .str e.cls, .tup (e.fs.map fun p => .str p.1), .tup (e.fs.map fun p => p.2)]
def intz0 : List D → Option (List Int)
  | [] => some []
  | .int i :: l => (intz0 l).map (i :: ·)
  | _ :: _ => none
def decG : D → Option (Option GS)
  | .non => some none
  | .tup [.lst c, .lst l, .int a] => match intz0 c, intz0 l with
    | some c, some l => some (some ⟨c, l, a.toNat⟩)
    | _, _ => none
  | _ => none
def strs0 : List D → Option (List String)
  | [] => some []
  | .str i :: l => (strs0 l).map (i :: ·)
  | _ :: _ => none
/-- the thunk asked for, the source at g -/
def decR (x : D) (g : Option GS) : RC := match x with
  | .tup [g0, g1, .bl true, d] => if D.same g0 (encG g) then (match decG g1 with
    | some g1 => .ok d g1
    | none => .stuck) else .stuck
  | .tup [g0, g1, .bl false, .str c, .tup ns, .tup ds] => if D.same g0 (encG g) then (match decG g1, strs0 ns with
    | some g1, some l => .ex ⟨c, l.zip ds⟩ g1
    | _, _ => .stuck) else .stuck
  | _ => .stuck
def thk (call : String → List D → Option GS → RC) (x : D) : String → List D → Option GS → RC := fun h ds g => if h = "()" then decR x g else call h ds g

/-! ### operations on data -/
def mulOk (a b : Int) : Bool := decide (a.natAbs < 2 ^ 64) || decide (b.natAbs < 2 ^ 64) || (decide (a.natAbs < 2 ^ 4000) && decide (b.natAbs < 2 ^ 4000))
def rep {α : Type} : Nat → List α → List α
  | 0, _ => []
  | n + 1, l => l ++ rep n l
def addD : D → D → Option D
  | .int a, .int b => some (.int (a + b))
  | .tup a, .tup b => if a.length + b.length ≤ SZ then some (.tup (a ++ b)) else none
  | .lst a, .lst b => if a.length + b.length ≤ SZ then some (.lst (a ++ b)) else none
  | _, _ => none
def subD : D → D → Option D
  | .int a, .int b => some (.int (a - b))
  | _, _ => none
def mulD : D → D → Option D
  | .int a, .int b => if mulOk a b then some (.int (a * b)) else none
  | .tup a, .int n => if a = [] ∨ n = 1 then (if -(2 ^ 62) < n ∧ n < 2 ^ 62 then some (.tup a) else none) else if 2 ≤ n ∧ n ≤ 1000 ∧ a.length ≤ 1000 then some (.tup (rep n.toNat a)) else none
  | .lst a, .int n => if n < 2 ^ 62 ∧ -(2 ^ 62) < n ∧ a.length * n.toNat ≤ SZ then some (.lst (rep n.toNat a)) else none
  | _, _ => none
def fdivD : D → D → Option D
  | .int a, .int b => if 0 < b ∧ b < 2 ^ 900 then some (.int (a / b)) else none
  | _, _ => none
def modD : D → D → Option D
  | .int a, .int b => if 0 < b then some (.int (a % b)) else none
  | _, _ => none
def powD : D → D → Option D
  | .int a, .int b => if 0 ≤ b ∧ b ≤ 100000 ∧ a.natAbs < 2 ^ 64 then some (.int (a ^ b.toNat)) else none
  | _, _ => none
def op2 : Op2 → D → D → Option D
  | .add => addD
  | .sub => subD
  | .mul => mulD
  | .fdiv => fdivD
  | .mod => modD
  | .pow => powD
/-- order of lists of intz -/
def lexI : List Int → List Int → Bool
  | [], [] => false
  | [], _ :: _ => true
  | _ :: _, [] => false
  | a :: l, b :: r => if a = b then lexI l r else decide (a < b)
def intz : List D → Option (List Int)
  | [] => some []
  | .int i :: l => (intz l).map (i :: ·)
  | _ :: _ => none
def anyEqv (x : D) : List D → Bool
  | [] => false
  | a :: l => D.eqv a x || anyEqv x l
def eqD (x y : D) : Option Bool := if x.shp && y.shp then some (D.eqv x y) else none
def ltD : D → D → Option Bool
  | .int a, .int b => some (decide (a < b))
  | .tup a, .tup b => match intz a, intz b with
    | some l, some r => some (lexI l r)
    | _, _ => none
  | _, _ => none
def gtD : D → D → Option Bool
  | .int a, .int b => some (decide (b < a))
  | _, _ => none
def geD : D → D → Option Bool
  | .int a, .int b => some (decide (b ≤ a))
  | _, _ => none
def leD : D → D → Option Bool
  | .int a, .int b => some (decide (a ≤ b))
  | _, _ => none
def inD (x : D) : D → Option Bool
  | .tup l => if x.shp && (D.lst l).shp then some (anyEqv x l) else none
  | .lst l => if x.shp && (D.lst l).shp then some (anyEqv x l) else none
  | _ => none
def isD : D → D → Option Bool
  | .bl a, .bl b => some (decide (a = b))
  | _, _ => none
def cmp2 : Cmp → D → D → Option Bool
  | .eq, x, y => eqD x y
  | .ne, x, y => (eqD x y).map fun b => !b
  | .lt, x, y => ltD x y
  | .le, x, y => leD x y
  | .gt, x, y => gtD x y
  | .ge, x, y => geD x y
  | .inn, x, y => inD x y
  | .nin, x, y => (inD x y).map fun b => !b
  | .is_, x, y => isD x y
  | .isn, x, y => (isD x y).map fun b => !b
def cntE (x : D) : List D → Nat
  | [] => 0
  | a :: l => (if D.eqv a x then 1 else 0) + cntE x l
/-- how often x stands in a tuple -/
def cntD (a x : D) : Option D := match a with
  | .tup l => if x.shp && (D.lst l).shp then some (.int (cntE x l : Nat)) else none
  | _ => none
def isNonD : D → Bool
  | .non => true
  | _ => false
def isTy (t : Ty) (d : D) : Option Bool := match d, t with
  | .hnd, _ => none
  | .dct _ _, _ => none
  | .int _, .int => some true
  | .bl _, .int => some true
  | .bl _, .bool => some true
  | .str _, .str => some true
  | .tup _, .tuple => some true
  | .lst _, .list => some true
  | _, _ => some false
def atD (l : List D) (i : Int) : Option D :=
  if 0 ≤ i then l[i.toNat]? else if -(l.length : Int) ≤ i then l[(i + l.length).toNat]? else none
def ixD (a i : D) : Option D := match a, i with
  | .tup l, .int i => atD l i
  | .lst l, .int i => atD l i
  | _, _ => none
def bnd (n d : Nat) (o : Option Int) : Nat := match o with
  | none => d
  | some i => if i < 0 then (i + n).toNat else min i.toNat n
def cut (l : List D) (lo hi : Option Int) : List D := (l.drop (bnd l.length 0 lo)).take (bnd l.length l.length hi - bnd l.length 0 lo)
/-- a slice's bound: left out, or an int -/
def partOf : Ex → D → Option (Option Int)
  | .non, _ => some none
  | _, .int i => some (some i)
  | _, _ => none
def slD (a : D) (lo hi : Option Int) : Option D := match a with
  | .tup l => some (.tup (cut l lo hi))
  | .lst l => some (.lst (cut l lo hi))
  | _ => none
def maxI : Int → List Int → Int
  | m, [] => m
  | m, a :: l => maxI (if a > m then a else m) l
def minI : Int → List Int → Int
  | m, [] => m
  | m, a :: l => minI (if a < m then a else m) l
def sumI : List Int → Int
  | [] => 0
  | a :: l => a + sumI l
def lenD (d : D) : Option Nat := match d with
  | .tup l => some l.length
  | .lst l => some l.length
  | _ => none
def seqD (d : D) : Option (List D) := match d with
  | .tup l => some l
  | .lst l => some l
  | _ => none
def lstD (d : D) : Option (List D) := match d with
  | .lst l => some l
  | _ => none
def ins (a : Int) : List Int → List Int
  | [] => [a]
  | b :: l => if a ≤ b then a :: b :: l else b :: ins a l
def srt : List Int → List Int
  | [] => []
  | a :: l => ins a (srt l)
def blt1 (f : Blt) (d : D) : Option D := match f with
  | .len => (lenD d).map fun n => .int n
  | .abs => match d with
    | .int i => some (.int (if i < 0 then -i else i))
    | _ => none
  | .max => match (lstD d).bind intz with
    | some (a :: l) => some (.int (maxI a l))
    | _ => none
  | .min => match (lstD d).bind intz with
    | some (a :: l) => some (.int (minI a l))
    | _ => none
  | .sum => ((lstD d).bind intz).map fun l => .int (sumI l)
  | .sorted => match (lstD d).bind intz with
    | some l => if l.length < 64 then some (.lst ((srt l).map .int)) else none
    | none => none
  | .tuple => (seqD d).map .tup
  | .list => (seqD d).map .lst
  | .int => match d with
    | .int i => some (.int i)
    | .bl b => some (.int (b2i b))
    | _ => none
def blt2 (f : Blt) (x y : D) : Option D := match f, x, y with
  | .max, .int a, .int b => some (.int (if b > a then b else a))
  | .min, .int a, .int b => some (.int (if b < a then b else a))
  | _, _, _ => none

/-! ### dicts with ints as keys -/
def dGet : List Int → List D → Int → Option D
  | a :: ks, b :: vs, k => if a = k then some b else dGet ks vs k
  | _, _, _ => none
def rpl : List Int → List D → Int → D → List D
  | a :: ks, b :: vs, k, v => (if a = k then v else b) :: rpl ks vs k v
  | _, _, _, _ => []
def dPut (ks : List Int) (vs : List D) (k : Int) (v : D) : List Int × List D := if (dGet ks vs k).isSome then (ks, rpl ks vs k v) else (ks ++ [k], vs ++ [v])
def dOf : List D → List Int → List D → Option (List Int × List D)
  | [], ks, vs => some (ks, vs)
  | .tup [.int k, v] :: l, ks, vs => dOf l (dPut ks vs k v).1 (dPut ks vs k v).2
  | _, _, _ => none

/-! ### slots -/
def S.put (s : S) (i : Nat) (v : DV) : S := { s with env := s.env.set i (some v) }
def S.get (s : S) (i : Nat) : Option DV := (s.env[i]?).getD none
def puts : List Nat → List D → List (Option DV) → Option (List (Option DV))
  | [], [], e => some e
  | i :: r, d :: l, e => puts r l (e.set i (some (.im d)))
  | _, _, _ => none
def bindT (t : Tgt) (d : D) (s : S) : Option S := match t with
  | .one i => some (s.put i (.im d))
  | .many l => match d with
    | .tup ds => (puts l ds s.env).map fun e => { s with env := e }
    | _ => none
def veil : Option DV → Option DV
  | some (.ml l) => some (.rd l)
  | some (.md _ _) => none
  | o => o
/-- the slots as they are seen from within a comprehension -/
def inner (own : List Nat) (e : List (Option DV)) : List (Option DV) := own.foldl (fun e i => e.set i none) (e.map veil)
def zipD : List D → List D → List D
  | a :: l, b :: r => .tup [a, b] :: zipD l r
  | _, _ => []
def zip2 : D → D → Option (List D)
  | .tup l, .tup r => some (zipD l r)
  | .lst l, .lst r => some (zipD l r)
  | _, _ => none
def enumD : Nat → List D → List D
  | _, [] => []
  | n, a :: l => .tup [.int n, a] :: enumD (n + 1) l
def rangeD (lo : Int) : Nat → List D
  | 0 => []
  | n + 1 => .int lo :: rangeD (lo + 1) n
def small (i : Int) : Bool := decide (-(2 ^ 62) ≤ i) && decide (i < 2 ^ 62)

/-- no slot holds a dict of this def's own -/
def noMd (e : List (Option DV)) : Bool := e.all fun o => match o with
  | some (.md _ _) => false
  | _ => true
/-- a table of texts, asked for a text -/
def selD (t : List (String × String)) (o : Option DV) (s : S) : R D := match o with
  | some (.im (.str k)) => ofO ((t.lookup k).map .str) s
  | _ => .stuck
/-- the end of a list comprehension whose items may raise -/
def lcE (env : List (Option DV)) (r : R (List D)) : R D := match r with
  | .ok ds s => if ds.length < SZ then .ok (.lst ds) { s with env := env } else .stuck
  | .ex e s => .ex e { s with env := env }
  | .stuck => .stuck
/-- a pair of a dict -/
def pairR (y z : D) (s : S) : R D := match y with
  | .int k => .ok (.tup [.int k, z]) s
  | _ => .stuck
/-! ### expressions -/
/-- nothing is raised (the library's rule of a comprehension does not carry it) -/
def quiet {α : Type} : R α → R α
  | .ok a s => .ok a s
  | _ => .stuck
/-- a comprehension's turns -/
def turns (f : S → R D) (c : S → R D) (t : Tgt) (e0 : List (Option DV)) : List D → S → R (List D)
  | [], s => .ok [] s
  | d :: l, s => (ofO (bindT t d { s with env := e0 }) s).bind fun _ s0 =>
      match bindT t d { s0 with env := e0 } with
      | none => .stuck
      | some s1 => (c s1).bind fun b s2 => match b with
        | .bl true => (f s2).bind fun x s3 => (turns f c t e0 l s3).bind fun xs s4 => .ok (x :: xs) s4
        | .bl false => turns f c t e0 l s2
        | _ => .stuck

mutual
def evE (gl : String → Option D) (call : String → List D → Option GS → RC) : Ex → S → R D
  | .non, s => .ok .non s
  | .bl b, s => .ok (.bl b) s
  | .int i, s => .ok (.int i) s
  | .str x, s => .ok (.str x) s
  | .var i, s => match s.get i with
    | some (.im d) => .ok d s
    | some (.ml l) => .ok (.lst l) (s.put i (.im (.lst l)))
    | _ => .stuck
  | .bor i, s => match s.get i with
    | some (.im d) => .ok d s
    | some (.ml l) => .ok (.lst l) s
    | some (.rd l) => .ok (.lst l) s
    | _ => .stuck
  | .gl x, s => ofO (gl x) s
  | .tup l, s => (evEs gl call l s).bind fun ds s => .ok (.tup ds) s
  | .lst l, s => (evEs gl call l s).bind fun ds s => .ok (.lst ds) s
  | .bin o a b, s => (evE gl call a s).bind fun x s => (evE gl call b s).bind fun y s => ofO (op2 o x y) s
  | .neg a, s => (evE gl call a s).bind fun x s => match x with
    | .int i => .ok (.int (-i)) s
    | _ => .stuck
  | .cmp o a b, s => (evE gl call a s).bind fun x s => (evE gl call b s).bind fun y s => ofO ((cmp2 o x y).map .bl) s
  | .chain o p a b c, s => (evE gl call a s).bind fun x s => (evE gl call b s).bind fun y s => match cmp2 o x y with
    | some true => (evE gl call c s).bind fun z s => ofO ((cmp2 p y z).map .bl) s
    | some false => .ok (.bl false) s
    | none => .stuck
  | .isN a, s => (evE gl call a s).bind fun x s => .ok (.bl (isNonD x)) s
  | .notN a, s => (evE gl call a s).bind fun x s => .ok (.bl (!isNonD x)) s
  | .and a b, s => (evE gl call a s).bind fun x s => match x with
    | .bl true => evE gl call b s
    | .bl false => .ok (.bl false) s
    | _ => .stuck
  | .or a b, s => (evE gl call a s).bind fun x s => match x with
    | .bl true => .ok (.bl true) s
    | .bl false => evE gl call b s
    | _ => .stuck
  | .not a, s => (evE gl call a s).bind fun x s => match x with
    | .bl b => .ok (.bl (!b)) s
    | _ => .stuck
  | .ife c a b, s => (evE gl call c s).bind fun x s => match x with
    | .bl true => evE gl call a s
    | .bl false => evE gl call b s
    | _ => .stuck
  | .ix a i, s => (evE gl call a s).bind fun x s => (evE gl call i s).bind fun y s => ofO (ixD x y) s
  | .sl a lo hi, s => (evE gl call a s).bind fun x s => (evE gl call lo s).bind fun y s => (ofO (partOf lo y) s).bind fun i s =>
      (evE gl call hi s).bind fun z s => (ofO (partOf hi z) s).bind fun j s => ofO (slD x i j) s
  | .call f l, s => (evEs gl call l s).bind fun ds s => match call f ds s.g with
    | .ok d g => .ok d { s with g := g }
    | .ex e g => .ex e { s with g := g }
    | .stuck => .stuck
  | .slr a, s => (evE gl call a s).bind fun x s => ofO ((lstD x).map fun l => .lst l.reverse) s
  | .lrev a, s => (evE gl call a s).bind fun x s => ofO ((seqD x).map fun l => .lst l.reverse) s
  | .cnt a x, s => (evE gl call a s).bind fun u s => (evE gl call x s).bind fun v s => ofO (cntD u v) s
  | .b1 f a, s => (evE gl call a s).bind fun x s => ofO (blt1 f x) s
  | .b2 f a b, s => (evE gl call a s).bind fun x s => (evE gl call b s).bind fun y s => ofO (blt2 f x y) s
  | .isi a t, s => (evE gl call a s).bind fun x s => ofO ((isTy t x).map .bl) s
  | .isE i c, s => match s.get i with
    | some (.exc k _) => .ok (.bl (k == c || c == "SayError" || c == "ValueError")) s
    | _ => .stuck
  | .fld i f, s => match s.get i with
    | some (.exc _ fs) => ofO (fs.lookup f) s
    | _ => .stuck
  | .like a b, s => (evE gl call a s).bind fun x s => if x.shw then (evE gl call b s).bind fun y s => if D.same x y then .ok (.bl true) s else .stuck else .stuck
  | .lc x t own i c, s => (evI gl call i s).bind fun l s =>
      (quiet (turns (evE gl call x) (evE gl call c) t (inner own s.env) l s)).bind fun ds s' => if ds.length < SZ then .ok (.lst ds) { s' with env := s.env } else .stuck
  | .caught f e, s => match evE gl call e ⟨inner [] s.env, s.g⟩ with
    | .ok d s1 => (match call f [encOk s.g s1.g d] s.g with
      | .ok v g => .ok v { s with g := g }
      | _ => .stuck)
    | .ex x s1 => (match call f [encEx s.g s1.g x] s.g with
      | .ok v g => .ok v { s with g := g }
      | _ => .stuck)
    | .stuck => .stuck
  | .lcX x t own i c, s => (evI gl call i s).bind fun l s => if l.length < SZ then lcE s.env (turns (evE gl call x) (evE gl call c) t (inner own s.env) l s) else .stuck
  | .kix _ t i, s => selD t (s.get i) s
  | .lit2 a b c d i, s => if a = c then .stuck else selD [(a, b), (c, d)] (s.get i) s
  | .keys a, s => (evE gl call a s).bind fun x s => match x with
    | .dct ks _ => if ks.length < 64 then .ok (.lst ((srt ks).map .int)) s else .stuck
    | _ => .stuck
  | .dix a k, s => (evE gl call a s).bind fun x s => (evE gl call k s).bind fun y s => match x, y with
    | .dct ks vs, .int k => ofO (dGet ks vs k) s
    | _, _ => .stuck
  | .dc kx vx t own i c, s => (evI gl call i s).bind fun l s => if noMd s.env = true then
      (quiet (turns (fun s => (evE gl call kx s).bind fun y s => (evE gl call vx s).bind fun z s => pairR y z s) (evE gl call c) t (inner own s.env) l s)).bind fun ds s' => if ds.length < SZ then (match dOf ds [] [] with
        | some p => .ok (.dct p.1 p.2) { s' with env := s.env }
        | none => .stuck) else .stuck
    else .stuck
  | .stAt i, s => match s.get i, s.g with
    | some (.im .hnd), some g => .ok (.int (g.at_ : Nat)) s
    | _, _ => .stuck
  | .stLen i, s => match s.get i, s.g with
    | some (.im .hnd), some g => .ok (.int (g.cells.length : Nat)) s
    | _, _ => .stuck
  | .stCell i a, s => match s.get i with
    | some (.im .hnd) => (evE gl call a s).bind fun x s => match x, s.g with
      | .int j, some g => if 0 ≤ j then ofO ((g.cells[j.toNat]?).map .int) s else .stuck
      | _, _ => .stuck
    | _ => .stuck
  | .stLeft i a, s => match s.get i with
    | some (.im .hnd) => (evE gl call a s).bind fun x s => match x, s.g with
      | .int j, some g => if 0 ≤ j then ofO ((g.lefts[j.toNat]?).map .int) s else .stuck
      | _, _ => .stuck
    | _ => .stuck
  | _, _ => .stuck
def evEs (gl : String → Option D) (call : String → List D → Option GS → RC) : List Ex → S → R (List D)
  | [], s => .ok [] s
  | e :: l, s => (evE gl call e s).bind fun d s => (evEs gl call l s).bind fun ds s => .ok (d :: ds) s
/-- what is walked -/
def evI (gl : String → Option D) (call : String → List D → Option GS → RC) : Ex → S → R (List D)
  | .iSeq a, s => (evE gl call a s).bind fun x s => ofO (seqD x) s
  | .iRng a, s => (evE gl call a s).bind fun x s => match x with
    | .int i => if small i then .ok (rangeD 0 i.toNat) s else .stuck
    | _ => .stuck
  | .iRng2 a b, s => (evE gl call a s).bind fun x s => (evE gl call b s).bind fun y s => match x, y with
    | .int i, .int j => if small i && small j then .ok (rangeD i (j - i).toNat) s else .stuck
    | _, _ => .stuck
  | .iEnum a, s => (evE gl call a s).bind fun x s => ofO ((seqD x).map (enumD 0)) s
  | .iZip a b, s => (evE gl call a s).bind fun x s => (evE gl call b s).bind fun y s => ofO (zip2 x y) s
  | .iRev a, s => (evE gl call a s).bind fun x s => ofO ((seqD x).map List.reverse) s
  | _, _ => .stuck
end

/-! ### statements -/
inductive Fl where
  | nx | brk | cont
  | ret (d : D)

/-- a loop's turns -/
def walk (f : D → S → R Fl) : List D → S → R Fl
  | [], s => .ok .nx s
  | d :: l, s => (f d s).bind fun r s => match r with
    | .nx => walk f l s
    | .cont => walk f l s
    | .brk => .ok .nx s
    | .ret v => .ok (.ret v) s
def whileN (c : S → R D) (f : S → R Fl) : Nat → S → R Fl
  | 0, _ => .stuck
  | n + 1, s => (c s).bind fun b s => match b with
    | .bl false => .ok .nx s
    | .bl true => (f s).bind fun r s => match r with
      | .nx => whileN c f n s
      | .cont => whileN c f n s
      | .brk => .ok .nx s
      | .ret v => .ok (.ret v) s
    | _ => .stuck
/-- the most turns of a while -/
def MOST : Nat := 1000000
def putsV : List (Nat × Bool × D) → S → S
  | [], s => s
  | (i, true, .lst l) :: r, s => putsV r (s.put i (.ml l))
  | (i, _, d) :: r, s => putsV r (s.put i (.im d))
def setAt (l : List D) (i : Int) (d : D) : Option (List D) :=
  if 0 ≤ i then (if i < l.length then some (l.set i.toNat d) else none) else if -(l.length : Int) ≤ i then some (l.set (i + l.length).toNat d) else none
/-- does a clause take an error -/
def takes (k : String) (cs : List String) : Bool := cs.any fun c => k == c || c == "SayError" || c == "ValueError"
/-- no slot holds an error -/
def noExc (e : List (Option DV)) : Bool := e.all fun o => match o with
  | some (.exc ..) => false
  | _ => true
/-- d[k] = d.get(k, 0) + v -/
def bumpD (ks : List Int) (vs : List D) (k v : Int) : Option (List Int × List D) := match dGet ks vs k with
  | some (.int u) => some (dPut ks vs k (.int (u + v)))
  | none => some (dPut ks vs k (.int (0 + v)))
  | _ => none
/-- the fields of an error, by its class -/
abbrev Flds := String → Option (List String)

mutual
def evS (fl : Flds) (gl : String → Option D) (call : String → List D → Option GS → RC) : St → S → R Fl
  | .set i e, s => (evE gl call e s).bind fun d s => .ok .nx (s.put i (.im d))
  | .setL i e, s => (evE gl call e s).bind fun d s => match d with
    | .lst l => .ok .nx (s.put i (.ml l))
    | d => .ok .nx (s.put i (.im d))
  | .unp l e, s => (evE gl call e s).bind fun d s => match bindT (.many l) d s with
    | some s => .ok .nx s
    | none => .stuck
  | .par l, s => (evP gl call l s).bind fun vs s => .ok .nx (putsV vs s)
  | .setIx i k e, s => (evE gl call e s).bind fun d s => match s.get i with
    | some (.ml _) => (evE gl call k s).bind fun j s => match s.get i, j with
      | some (.ml l), .int j => match setAt l j d with
        | some l => .ok .nx (s.put i (.ml l))
        | none => .stuck
      | _, _ => .stuck
    | _ => .stuck
  | .app i e, s => match s.get i with
    | some (.ml _) => (evE gl call e s).bind fun d s => match s.get i with
      | some (.ml l) => if l.length < SZ then .ok .nx (s.put i (.ml (l ++ [d]))) else .stuck
      | _ => .stuck
    | _ => .stuck
  | .ext i e, s => match s.get i with
    | some (.ml _) => (evE gl call e s).bind fun d s => match s.get i, d with
      | some (.ml l), .lst r => if l.length + r.length ≤ SZ then .ok .nx (s.put i (.ml (l ++ r))) else .stuck
      | _, _ => .stuck
    | _ => .stuck
  | .pop t i, s => match s.get i with
    | some (.ml l) => match l.getLast? with
      | some d => match bindT t d (s.put i (.ml l.dropLast)) with
        | some s => .ok .nx s
        | none => .stuck
      | none => .stuck
    | _ => .stuck
  | .expr e, s => (evE gl call e s).bind fun _ s => .ok .nx s
  | .ret e, s => (evE gl call e s).bind fun d s => .ok (.ret d) s
  | .ifs c a b, s => (evE gl call c s).bind fun x s => match x with
    | .bl true => evB fl gl call a s
    | .bl false => evB fl gl call b s
    | _ => .stuck
  | .fors t i b, s => (evI gl call i s).bind fun l s => walk (fun d s => match bindT t d s with
    | some s => evB fl gl call b s
    | none => .stuck) l s
  | .whil c b, s => whileN (evE gl call c) (evB fl gl call b) MOST s
  | .brk, s => .ok .brk s
  | .cont, s => .ok .cont s
  | .pass, s => .ok .nx s
  | .raise c l, s => (evEs gl call l s).bind fun ds s => match fl c with
    | some ns => if ns.length = ds.length then .ex ⟨c, ns.zip ds⟩ s else .stuck
    | none => .stuck
  | .tryS b hs, s => match evB fl gl call b s with
    | .ok r s => .ok r s
    | .ex e s => evH fl gl call hs e s
    | .stuck => .stuck
  | .stSetAt i e, s => (evE gl call e s).bind fun d s => match s.get i, s.g, d with
    | some (.im .hnd), some g, .int j => if 0 ≤ j then .ok .nx { s with g := some ⟨g.cells, g.lefts, j.toNat⟩ } else .stuck
    | _, _, _ => .stuck
  | .stSetLeft i k e, s => (evE gl call e s).bind fun d s => match s.get i with
    | some (.im .hnd) => (evE gl call k s).bind fun x s => match s.g, x, d with
      | some g, .int j, .int v => if 0 ≤ j ∧ j.toNat < g.lefts.length then .ok .nx { s with g := some ⟨g.cells, g.lefts.set j.toNat v, g.at_⟩ } else .stuck
      | _, _, _ => .stuck
    | _ => .stuck
  | .begin_ i x, s => match s.get i with
    | some (.ml _) => if noMd s.env then (evE gl call x s).bind fun d s => match s.get i, d, s.g with
      | some (.ml l), .lst r, none => match intz l, intz r with
        | some cs, some ls => if (ls.length = cs.length ∧ 0 < cs.length) ∧ noMd s.env = true then .ok (.ret .hnd) ⟨s.env.set i none, some ⟨cs, ls, 0⟩⟩ else .stuck
        | _, _ => .stuck
      | _, _, _ => .stuck
      else .stuck
    | _ => .stuck
  | .newD i, s => if noMd s.env then .ok .nx (s.put i (.md [] [])) else .stuck
  | .bump i j m, s => match s.get i, s.get j, s.get m with
    | some (.md ks vs), some (.im (.int k)), some (.im (.int v)) => if noMd (s.env.set i none) = true ∧ ks.length < SZ then (match bumpD ks vs k v with
      | some p => .ok .nx (s.put i (.md p.1 p.2))
      | none => .stuck) else .stuck
    | _, _, _ => .stuck
  | .retD i, s => match s.get i with
    | some (.md ks vs) => if noMd (s.env.set i none) then .ok (.ret (.dct ks vs)) (s.put i (.im (.dct ks vs))) else .stuck
    | _ => .stuck
def evB (fl : Flds) (gl : String → Option D) (call : String → List D → Option GS → RC) : List St → S → R Fl
  | [], s => .ok .nx s
  | x :: l, s => (evS fl gl call x s).bind fun r s => match r with
    | .nx => evB fl gl call l s
    | r => .ok r s
def evH (fl : Flds) (gl : String → Option D) (call : String → List D → Option GS → RC) : List (List String × Option Nat × List St) → Exn → S → R Fl
  | [], e, s => .ex e s
  | (cs, n, b) :: r, e, s => if takes e.cls cs then
      (match n with
        | some i => match evB fl gl call b (s.put i (.exc e.cls e.fs)) with
          | .ok r s => if noExc (s.env.set i none) then .ok r { s with env := s.env.set i none } else .stuck
          | _ => .stuck
        | none => match evB fl gl call b s with
          | .ok r s => if noExc s.env then .ok r s else .stuck
          | _ => .stuck)
    else evH fl gl call r e s
def evP (gl : String → Option D) (call : String → List D → Option GS → RC) : List (Nat × Bool × Ex) → S → R (List (Nat × Bool × D))
  | [], s => .ok [] s
  | (i, o, e) :: l, s => (evE gl call e s).bind fun d s => (evP gl call l s).bind fun ds s => .ok ((i, o, d) :: ds) s
end

/-! ### programs -/
structure Fn where
  params : Nat
  slots : Nat
  body : List St
structure Pr where
  fn : String → Option Fn
  gl : String → Option D
  fl : Flds
  th : String → Bool := fun _ => false

def mixed (c k : Int) : Int := (c % 2147483647 * (48271 + 2 * k * k) + 69621 * k + 11) % 2147483647 * 69621 % 2147483629
/-- one draw below n -/
def drawn (g : GS) (n : Int) : Option (Int × GS) :=
  let p := g.at_ % g.cells.length
  match g.lefts[p]?, g.cells[p]? with
  | some l, some c =>
    if 0 < n ∧ n < 2 ^ 900 ∧ g.at_ < 2 ^ 60 then
      if l > 0 then some (l % n, ⟨g.cells, g.lefts.set p (l / n), g.at_ + 1⟩)
      else
        let k := mixed (mixed c g.at_) (40 + g.at_)
        some ((k * 2147483647 + mixed k (7 + g.at_)) / 64 % n, ⟨g.cells, g.lefts, g.at_ + 1⟩)
    else none
  | _, _ => none
def begun (l : List D) : Option GS := match intz l with
  | some [] => some ⟨[0], [0], 0⟩
  | some l => some ⟨l, l.map fun c => if c ≥ 10 ^ 18 then c else 0, 0⟩
  | none => none
def finish (r : R Fl) : RC := match r with
  | .ok .nx s => .ok .non s.g
  | .ok (.ret d) s => .ok d s.g
  | .ok _ _ => .stuck
  | .ex e s => .ex e s.g
  | .stuck => .stuck
def start (n : Nat) (ds : List D) : List (Option DV) := ds.map (fun d => some (.im d)) ++ List.replicate (n - ds.length) none
/-- a def called with n levels of room -/
def run (P : Pr) : Nat → String → List D → Option GS → RC
  | 0, _, _, _ => .stuck
  | n + 1, f, ds, g =>
    match P.fn f with
      | some F => if P.th f then (match ds with
          | [x] => finish (evB P.fl P.gl (thk (run P n) x) F.body ⟨start F.slots [], g⟩)
          | _ => .stuck)
        else if ds.length = F.params then finish (evB P.fl P.gl (run P n) F.body ⟨start F.slots ds, g⟩) else .stuck
      | none => .stuck
end Dl
end
section
set_option Elab.async false
set_option autoImplicit false
set_option linter.all false
/-! Prg: a program of the small syntax, by lists. -/
namespace Dl
def glL (intz : List (String × Int)) (tups : List (String × List Int)) (x : String) : Option D := match intz.lookup x with
  | some i => some (.int i)
  | none => match tups.lookup x with
    | some l => some (.tup (l.map .int))
    | none => none
def flL (cls : List (String × String)) (c : String) : Option (List String) := match cls.lookup c with
  | some f => some [f]
  | none => none
def mkP (fnL : List (String × Fn)) (intz : List (String × Int)) (tups : List (String × List Int)) (cls : List (String × String)) (ths : List String := []) : Pr := ⟨fun f => fnL.lookup f, glL intz tups, flL cls, fun f => ths.contains f⟩
mutual
theorem same_refl : ∀ d : D, D.same d d = true
  | .non => rfl
  | .bl a => by simp [D.same]
  | .int a => by simp [D.same]
  | .str a => by simp [D.same]
  | .tup l => by rw [D.same]; exact sames_refl l
  | .lst l => by rw [D.same]; exact sames_refl l
  | .hnd => rfl
  | .dct k l => by rw [D.same, sames_refl l]; simp
theorem sames_refl : ∀ l : List D, D.sames l l = true
  | [] => rfl
  | a :: l => by rw [D.sames, same_refl a, sames_refl l]; rfl
end
theorem intz0_map : ∀ l : List Int, intz0 (l.map .int) = some l
  | [] => rfl
  | a :: l => by rw [List.map_cons, intz0, intz0_map l]; rfl
theorem strs0_map : ∀ l : List String, strs0 (l.map .str) = some l
  | [] => rfl
  | a :: l => by rw [List.map_cons, strs0, strs0_map l]; rfl
theorem decG_enc (g : Option GS) : decG (encG g) = some g := by
  cases g with
  | none => rfl
  | some g => simp [encG, decG, intz0_map]
theorem decR_ok (g g1 : Option GS) (d : D) : decR (encOk g g1 d) g = .ok d g1 := by
  simp [encOk, decR, same_refl, decG_enc]
theorem decR_ex (g g1 : Option GS) (e : Exn) : decR (encEx g g1 e) g = .ex e g1 := by
  have h : strs0 (e.fs.map fun p => D.str p.1) = some (e.fs.map fun p => p.1) := by
    have := strs0_map (e.fs.map fun p => p.1)
    rw [List.map_map] at this
    exact this
  have z : ∀ l : List (String × D), (l.map fun p => p.1).zip (l.map fun p => p.2) = l := fun l => by
    induction l with
    | nil => rfl
    | cons a l ih => simp [ih]
  simp [encEx, decR, same_refl, decG_enc, h, z]
end Dl
end
section
set_option Elab.async false
set_option Elab.async false
set_option linter.all false
set_option maxRecDepth 100000
set_option maxHeartbeats 4000000
set_option autoImplicit false
/-! Snd0: data over the abstract heap; what a slot holds; what an outcome wants. -/
namespace Ds
open PySem PySem.Spec PyProof.Rows
open L2 (V Hp HO upd upd_same upd_ne RelV SqL SqT TE TA TT TS TG TI VK XK WX Cx Inv PE PA PT PS PSs Rd)
open Dl (D DV GS S R RC Ex)

/-- where the source of draws stands: the dict, its two lists -/
structure AS where
  sa : Addr
  ca : Addr
  la : Addr
/-- the table of a def's code object, and what stands in it: one row a def of the written part -/
def tabOf (K : PySem.W.Frag) (o : Obj) : List (Addr × Str) := match o.data with
  | .func fd => (match fd.code with
    | .ref c => (match List.lookup c K with
      | some ⟨_, _, .fields vs, _⟩ => (match (vs[11]? : Option Value) with
        | some (.ref P) => [(P, fd.qualname ++ ".<locals>." ++ "<lambda>")]
        | _ => [])
      | _ => [])
    | _ => [])
  | _ => []
def tabs (K : PySem.W.Frag) : List (Addr × Str) := K.flatMap fun p => tabOf K p.2
def isM (K : PySem.W.Frag) (A : Option AS) (a : Addr) : Prop := (match A with
  | none => False
  | some z => a = z.sa ∨ a = z.ca ∨ a = z.la) ∨ ∃ q, (a, q) ∈ tabs K
abbrev ky (s : String) : L2.Key := .inr (Str.ofString s)
def SOk (A : Option AS) (g : Option GS) (H : Hp) : Prop := match A, g with
  | none, none => True
  | some z, some g => H z.sa = some (.dK [(ky "cells", .ref z.ca), (ky "lefts", .ref z.la), (ky "at", .int (g.at_ : Nat))]) ∧
      H z.ca = some (.lst (g.cells.map V.int)) ∧ H z.la = some (.lst (g.lefts.map V.int)) ∧ z.ca ≠ z.la ∧ g.lefts.length = g.cells.length ∧ 0 < g.cells.length
  | _, _ => False
def GOk (K : PySem.W.Frag) (A : Option AS) (g : Option GS) (H : Hp) : Prop := SOk A g H ∧ LamX.Tabs (tabs K) H
/-- what never changes -/
structure Per (H H' : Hp) : Prop where
  tup : ∀ a xs, H a = some (.tup xs) → H' a = some (.tup xs)
  frz : ∀ a o u, H a = some (.frz o u) → H' a = some (.frz o u)
  xd : ∀ a fs, H a = some (.xd fs) → H' a = some (.xd fs)
  ext : ∀ a f, H a = some (.ext f) → H' a = some (.ext f)
theorem Per.refl (H : Hp) : Per H H := ⟨fun _ _ h => h, fun _ _ _ h => h, fun _ _ h => h, fun _ _ h => h⟩
theorem Per.trans {H H1 H2 : Hp} (a : Per H H1) (b : Per H1 H2) : Per H H2 :=
  ⟨fun c xs h => b.tup c xs (a.tup c xs h), fun c o u h => b.frz c o u (a.frz c o u h), fun c f h => b.xd c f (a.xd c f h), fun c f h => b.ext c f (a.ext c f h)⟩
/-- the source is made once -/
def Ext (A A' : Option AS) : Prop := A' = A ∨ A = none
theorem Ext.refl (A : Option AS) : Ext A A := .inl rfl
theorem Ext.trans {A A1 A2 : Option AS} (a : Ext A A1) (b : Ext A1 A2) : Ext A A2 := by
  rcases a with rfl | rfl
  · exact b
  · exact .inr rfl
theorem Ext.m {K : PySem.W.Frag} {A A' : Option AS} (e : Ext A A') {a : Addr} (m : isM K A a) : isM K A' a := by
  rcases e with rfl | rfl
  · exact m
  · rcases m with m | m
    · exact m.elim
    · exact .inr m
/-- a def's entry -/
structure Ent where
  A : Option AS
  H : Hp
  P : List Addr := []

/-- a list that is not changed any more -/
def KL (K : PySem.W.Frag) (a : Addr) (xs : List V) : Prop := ∃ (its : List Value) (n : Nat), List.lookup a K = some { cls := .type "list", data := .seq its.toArray n } ∧ xs.length ≤ sizeLine ∧ L2.Vals xs its
def FzL (K : PySem.W.Frag) (H : Hp) (a : Addr) (xs : List V) : Prop := (∃ o, H a = some (.frz o (.lst xs))) ∨ KL K a xs
def RdL (K : PySem.W.Frag) (H : Hp) (a : Addr) (xs : List V) : Prop := Rd H a (.lst xs) ∨ KL K a xs
theorem RdL.sq {K : PySem.W.Frag} {H : Hp} {a : Addr} {xs : List V} (h : RdL K H a xs) : SqL K H a xs := by
  rcases h with h | ⟨its, n, h1, h2, h3⟩
  · exact .inl h
  · exact .inr ⟨_, its.toArray, n, h1, rfl, rfl, rfl, by rw [List.size_toArray, ← h3.length]; exact h2, by simpa using h3⟩
theorem FzL.rd {K : PySem.W.Frag} {H : Hp} {a : Addr} {xs : List V} (h : FzL K H a xs) : RdL K H a xs := by
  rcases h with h | h
  · exact .inl (.inr h)
  · exact .inr h
theorem FzL.sq {K : PySem.W.Frag} {H : Hp} {a : Addr} {xs : List V} (h : FzL K H a xs) : SqL K H a xs := h.rd.sq
theorem FzL.per {K : PySem.W.Frag} {H H' : Hp} {a : Addr} {xs : List V} (p : Per H H') (h : FzL K H a xs) : FzL K H' a xs := by
  rcases h with ⟨o, h⟩ | h
  · exact .inl ⟨o, p.frz _ _ _ h⟩
  · exact .inr h
theorem RdL.ok {X : Cx} {pins : List (Addr × Obj)} {σ : List (Option V)} {s : Shared} {H : Hp} {a : Addr} {xs : List V} (h : RdL X.K H a xs) (I : Inv X pins σ H s) : ∃ (its : List Value) (n : Nat), L2.Vals xs its ∧ s.heap.get? a = some { cls := .type "list", data := .seq its.toArray n } := by
  rcases h with h | ⟨its, n, h1, _, h3⟩
  · obtain ⟨_, its, n, r, e⟩ := h.ok I.hok
    exact ⟨its, n, r, e⟩
  · exact ⟨its, n, h3, I.kIn _ _ h1⟩
theorem sqT_per {K : PySem.W.Frag} {H H' : Hp} {a : Addr} {xs : List V} (p : Per H H') (h : SqT K H a xs) : SqT K H' a xs := by
  rcases h with (h | ⟨o, h⟩) | h
  · exact .inl (.inl (p.tup _ _ h))
  · exact .inl (.inr ⟨o, p.frz _ _ _ h⟩)
  · exact .inr h

mutual
/-- the value v is the data d -/
inductive Rp (K : PySem.W.Frag) (A : Option AS) (H : Hp) : V → D → Prop
  | non : Rp K A H .non .non
  | bl (b : Bool) : Rp K A H (.bl b) (.bl b)
  | int (i : Int) : Rp K A H (.int i) (.int i)
  | str (s : String) : Rp K A H (.str (Str.ofString s)) (.str s)
  | tup {a : Addr} {xs : List V} {l : List D} : SqT K H a xs → Rps K A H xs l → Rp K A H (.ref a) (.tup l)
  | lst {a : Addr} {xs : List V} {l : List D} : FzL K H a xs → Rps K A H xs l → Rp K A H (.ref a) (.lst l)
  | hnd {z : AS} : A = some z → Rp K A H (.ref z.sa) .hnd
  | dct {a : Addr} {o : Obj} {kvs : List (L2.Key × V)} {ks : List Int} {vs : List D} : H a = some (.frz o (.dK kvs)) → kvs.map (fun p => p.1) = ks.map Sum.inl → Rps K A H (kvs.map fun p => p.2) vs → Rp K A H (.ref a) (.dct ks vs)
inductive Rps (K : PySem.W.Frag) (A : Option AS) (H : Hp) : List V → List D → Prop
  | nil : Rps K A H [] []
  | cons {v : V} {d : D} {vs : List V} {ds : List D} : Rp K A H v d → Rps K A H vs ds → Rps K A H (v :: vs) (d :: ds)
end
section
variable {K : PySem.W.Frag} {A A' : Option AS} {H H' : Hp}
theorem ext_some {z : AS} (e : Ext A A') (h : A = some z) : A' = some z := by
  rcases e with e | e
  · rw [e, h]
  · rw [h] at e; cases e
mutual
theorem Rp.per (p : Per H H') (e : Ext A A') : ∀ {v : V} {d : D}, Rp K A H v d → Rp K A' H' v d
  | _, _, .non => .non
  | _, _, .bl b => .bl b
  | _, _, .int i => .int i
  | _, _, .str s => .str s
  | _, _, .tup h r => .tup (sqT_per p h) (Rps.per p e r)
  | _, _, .lst h r => .lst (h.per p) (Rps.per p e r)
  | _, _, .hnd h => .hnd (ext_some e h)
  | _, _, .dct h k r => .dct (p.frz _ _ _ h) k (Rps.per p e r)
theorem Rps.per (p : Per H H') (e : Ext A A') : ∀ {vs : List V} {ds : List D}, Rps K A H vs ds → Rps K A' H' vs ds
  | _, _, .nil => .nil
  | _, _, .cons r q => .cons (Rp.per p e r) (Rps.per p e q)
end
theorem Rps.length : ∀ {vs : List V} {ds : List D}, Rps K A H vs ds → vs.length = ds.length
  | _, _, .nil => rfl
  | _, _, .cons _ q => by rw [List.length_cons, List.length_cons, Rps.length q]
theorem Rps.get : ∀ {vs : List V} {ds : List D} {i : Nat} {d : D}, Rps K A H vs ds → ds[i]? = some d → ∃ v, vs[i]? = some v ∧ Rp K A H v d
  | _, _, i, _, .nil, h => by simp at h
  | _, _, 0, _, .cons r _, h => by simp at h; subst h; exact ⟨_, by simp, r⟩
  | _, _, i + 1, _, .cons _ q, h => by
    obtain ⟨v, e, r⟩ := Rps.get (i := i) q (by simpa using h)
    exact ⟨v, by simpa using e, r⟩
theorem Rps.get' : ∀ {vs : List V} {ds : List D} {i : Nat} {v : V}, Rps K A H vs ds → vs[i]? = some v → ∃ d, ds[i]? = some d ∧ Rp K A H v d
  | _, _, i, _, .nil, h => by simp at h
  | _, _, 0, _, .cons r _, h => by simp at h; subst h; exact ⟨_, by simp, r⟩
  | _, _, i + 1, _, .cons _ q, h => by
    obtain ⟨v, e, r⟩ := Rps.get' (i := i) q (by simpa using h)
    exact ⟨v, by simpa using e, r⟩
theorem Rps.append : ∀ {vs ws : List V} {ds es : List D}, Rps K A H vs ds → Rps K A H ws es → Rps K A H (vs ++ ws) (ds ++ es)
  | _, _, _, _, .nil, q => q
  | _, _, _, _, .cons r t, q => .cons r (Rps.append t q)
theorem Rps.take : ∀ {vs : List V} {ds : List D} (n : Nat), Rps K A H vs ds → Rps K A H (vs.take n) (ds.take n)
  | _, _, 0, _ => .nil
  | _, _, _ + 1, .nil => .nil
  | _, _, n + 1, .cons r q => .cons r (Rps.take n q)
theorem Rps.drop : ∀ {vs : List V} {ds : List D} (n : Nat), Rps K A H vs ds → Rps K A H (vs.drop n) (ds.drop n)
  | _, _, 0, r => r
  | _, _, _ + 1, .nil => .nil
  | _, _, n + 1, .cons _ q => Rps.drop n q
theorem Rps.set : ∀ {vs : List V} {ds : List D} (i : Nat) {v : V} {d : D}, Rps K A H vs ds → Rp K A H v d → Rps K A H (vs.set i v) (ds.set i d)
  | _, _, _, _, _, .nil, _ => .nil
  | _, _, 0, _, _, .cons _ q, r => .cons r q
  | _, _, i + 1, _, _, .cons p q, r => .cons p (Rps.set i q r)
theorem Rps.reverse {vs : List V} {ds : List D} (r : Rps K A H vs ds) : Rps K A H vs.reverse ds.reverse := by
  induction ds generalizing vs with
  | nil => cases r; exact .nil
  | cons d ds ih =>
    cases r with
    | cons p q =>
      rw [List.reverse_cons, List.reverse_cons]
      exact (ih q).append (.cons p .nil)
end

/-- what a slot holds, over the def's entry -/
def SlotOk (K : PySem.W.Frag) (Z : Option (Addr × Value × Option Addr)) (cad : String → Option Addr) (A : Option AS) (e0 : Ent) (H : Hp) (v : V) : DV → Prop
  | .im d => Rp K A H v d
  | .ml l => ∃ a xs, v = .ref a ∧ H a = some (.lst xs) ∧ Rps K A H xs l ∧ e0.H a = none ∧ ¬ isM K A a
  | .rd l => ∃ a xs, v = .ref a ∧ H a = some (.lst xs) ∧ Rps K A H xs l ∧ e0.H a = some (.lst xs) ∧ ¬ isM K e0.A a ∧ a ∉ e0.P
  | .md ks vs => ∃ (a : Addr) (kvs : List (L2.Key × V)), v = .ref a ∧ H a = some (.dK kvs) ∧ kvs.map (fun p => p.1) = ks.map Sum.inl ∧ Rps K A H (kvs.map fun p => p.2) vs ∧ e0.H a = none ∧ ¬ isM K A a
  | .exc c fs => ∃ a C dd vfs, Z = some (a, .ref C, some dd) ∧ v = .ref a ∧ cad c = some C ∧ H dd = some (.xd vfs) ∧
      ∀ f d, fs.lookup f = some d → ∃ x, vfs.lookup (Str.ofString f) = some x ∧ Rp K A H x d
/-- the slots, the source, what stands since the entry -/
structure DI (K : PySem.W.Frag) (Z : Option (Addr × Value × Option Addr)) (cad : String → Option Addr) (A : Option AS) (e0 : Ent) (env : List (Option DV)) (g : Option GS) (σ : List (Option V)) (H : Hp) : Prop where
  keep : ∀ a o, e0.H a = some o → ¬ isM K e0.A a → H a = some o ∧ ¬ isM K A a
  src : Ext e0.A A
  gok : GOk K A g H
  len : env.length = σ.length
  slot : ∀ (i : Nat) (dv : DV), env[i]? = some (some dv) → ∃ v, σ[i]? = some (some v) ∧ SlotOk K Z cad A e0 H v dv
  inj : ∀ (i j : Nat) (l l' : List D) (a : Addr), env[i]? = some (some (.ml l)) → env[j]? = some (some (.ml l')) → σ[i]? = some (some (.ref a)) → σ[j]? = some (some (.ref a)) → i = j
/-- an error that lies there -/
def ExR (K : PySem.W.Frag) (cad : String → Option Addr) (A : Option AS) (H : Hp) (cls : Value) (dd : Option Addr) (e : Dl.Exn) : Prop :=
  ∃ C d vfs, cls = .ref C ∧ cad e.cls = some C ∧ dd = some d ∧ H d = some (.xd vfs) ∧ ∀ f x, e.fs.lookup f = some x → ∃ v, vfs.lookup (Str.ofString f) = some v ∧ Rp K A H v x
end Ds
end
section
set_option Elab.async false
set_option Elab.async false
set_option linter.all false
set_option maxRecDepth 100000
set_option maxHeartbeats 4000000
set_option autoImplicit false
/-! Snd1: steps of the slots and the source; outcomes. -/
namespace Ds
open PySem PySem.Spec PyProof.Rows
open L2 (V Hp HO upd upd_same upd_ne RelV SqL SqT TE TA TT TS TG TI VK XK WX Cx Inv PE PA PT PS PSs Rd)
open Dl (D DV GS S R RC Ex)
section
variable {K : PySem.W.Frag} {Z : Option (Addr × Value × Option Addr)} {cad : String → Option Addr} {A A' : Option AS} {e0 : Ent} {H H' : Hp} {env : List (Option DV)} {g : Option GS} {σ : List (Option V)}

theorem GOk.there (h : GOk K A g H) {a : Addr} (m : isM K A a) : ∃ o, H a = some o ∧ (∀ xs, o ≠ .tup xs) ∧ (∀ q u, o ≠ .frz q u) ∧ (∀ f, o ≠ .xd f) ∧ ∀ f, o ≠ .ext f := by
  rcases m with m | ⟨q, m⟩
  · cases A with
    | none => exact m.elim
    | some z =>
      cases g with
      | none => exact h.1.elim
      | some g =>
        obtain ⟨h1, h2, h3, _⟩ := h.1
        rcases m with e | e | e <;> subst e
        · exact ⟨_, h1, fun _ z => (nomatch z), fun _ _ z => (nomatch z), fun _ z => (nomatch z), fun _ z => (nomatch z)⟩
        · exact ⟨_, h2, fun _ z => (nomatch z), fun _ _ z => (nomatch z), fun _ z => (nomatch z), fun _ z => (nomatch z)⟩
        · exact ⟨_, h3, fun _ z => (nomatch z), fun _ _ z => (nomatch z), fun _ z => (nomatch z), fun _ z => (nomatch z)⟩
  · obtain ⟨ps, e, _⟩ := h.2 _ m
    exact ⟨_, e, fun _ z => (nomatch z), fun _ _ z => (nomatch z), fun _ z => (nomatch z), fun _ z => (nomatch z)⟩
theorem GOk.mono (h : GOk K A g H) (k : ∀ a, isM K A a → H' a = H a) (x : ∀ a f, H a = some (.ext f) → H' a = some (.ext f)) : GOk K A g H' := by
  refine ⟨?_, fun p m => ?_⟩
  · cases A with
    | none => cases g with
      | none => trivial
      | some _ => exact h.1.elim
    | some z =>
      cases g with
      | none => exact h.1.elim
      | some g =>
        obtain ⟨h1, h2, h3, h4⟩ := h.1
        exact ⟨(k _ (.inl (.inl rfl))).trans h1, (k _ (.inl (.inr (.inl rfl)))).trans h2, (k _ (.inl (.inr (.inr rfl)))).trans h3, h4⟩
  · obtain ⟨ps, e1, e2, e3⟩ := h.2 p m
    refine ⟨ps, (k _ (.inr ⟨p.2, m⟩)).trans e1, e2, fun pos cv hc => ?_⟩
    obtain ⟨c, q1, q2⟩ := e3 pos cv hc
    exact ⟨c, q1, x _ _ q2⟩
theorem GOk.some_iff (h : GOk K A g H) : A.isSome = g.isSome := by
  cases A <;> cases g <;> first | rfl | exact h.1.elim

theorem tabs_upd {T : List (Addr × Str)} {b : Addr} {o : HO} (h : LamX.Tabs T H) (n : ∀ ps, H b ≠ some (.tbl ps)) (n2 : ∀ f, H b ≠ some (.ext f)) : LamX.Tabs T (upd H b o) := fun p m => by
  obtain ⟨ps, e1, e2, e3⟩ := h p m
  refine ⟨ps, by rw [upd_ne (fun z => n ps (by rw [← z]; exact e1))]; exact e1, e2, fun pos cv hc => ?_⟩
  obtain ⟨c, q1, q2⟩ := e3 pos cv hc
  exact ⟨c, q1, by rw [upd_ne (fun z => n2 _ (by rw [← z]; exact q2))]; exact q2⟩
/-- a place where nothing tracked stands -/
theorem DI.fresh (d : DI K Z cad A e0 env g σ H) {p : Addr} (n : H p = none) : e0.H p = none ∧ ¬ isM K A p := by
  have nm : ¬ isM K A p := fun m => by
    obtain ⟨o, e, _⟩ := d.gok.there m
    rw [n] at e; cases e
  refine ⟨?_, nm⟩
  cases e : e0.H p with
  | none => rfl
  | some o =>
    have := (d.keep p o e fun m => nm (d.src.m m)).1
    rw [n] at this; cases this
theorem per_new {p : Addr} {o : HO} (n : H p = none) : Per H (upd H p o) :=
  ⟨fun a xs e => by rw [upd_ne (L2.ne_of_none e n)]; exact e, fun a q u e => by rw [upd_ne (L2.ne_of_none e n)]; exact e, fun a f e => by rw [upd_ne (L2.ne_of_none e n)]; exact e, fun a f e => by rw [upd_ne (L2.ne_of_none e n)]; exact e⟩
/-- a dict of one's own changes -/
theorem per_dK {p : Addr} {o : HO} {kvs : List (L2.Key × V)} (n : H p = some (.dK kvs)) : Per H (upd H p o) :=
  ⟨fun a xs e => by rw [upd_ne (L2.ne_of e n (by intro z; cases z))]; exact e, fun a q u e => by rw [upd_ne (L2.ne_of e n (by intro z; cases z))]; exact e,
    fun a f e => by rw [upd_ne (L2.ne_of e n (by intro z; cases z))]; exact e, fun a f e => by rw [upd_ne (L2.ne_of e n (by intro z; cases z))]; exact e⟩
/-- a list of one's own changes -/
theorem per_lst {p : Addr} {o : HO} {xs : List V} (n : H p = some (.lst xs)) : Per H (upd H p o) :=
  ⟨fun a xs e => by rw [upd_ne (L2.ne_of e n (by intro z; cases z))]; exact e, fun a q u e => by rw [upd_ne (L2.ne_of e n (by intro z; cases z))]; exact e,
    fun a f e => by rw [upd_ne (L2.ne_of e n (by intro z; cases z))]; exact e, fun a f e => by rw [upd_ne (L2.ne_of e n (by intro z; cases z))]; exact e⟩
theorem slot_per (p : Per H H') (kl : ∀ (a : Addr) (xs : List V), H a = some (.lst xs) → H' a = some (.lst xs)) (kd : ∀ (a : Addr) (xs : List (L2.Key × V)), H a = some (.dK xs) → H' a = some (.dK xs)) {v : V} {dv : DV} (h : SlotOk K Z cad A e0 H v dv) : SlotOk K Z cad A e0 H' v dv := by
  cases dv with
  | im d => exact Rp.per p (Ext.refl A) h
  | ml l =>
    obtain ⟨a, xs, e, ha, r, h0, m⟩ := h
    exact ⟨a, xs, e, kl a xs ha, Rps.per p (Ext.refl A) r, h0, m⟩
  | rd l =>
    obtain ⟨a, xs, e, ha, r, h0, m⟩ := h
    exact ⟨a, xs, e, kl a xs ha, Rps.per p (Ext.refl A) r, h0, m⟩
  | md ks vs =>
    obtain ⟨a, xs, e, ha, k, r, h0, m⟩ := h
    exact ⟨a, xs, e, kd a xs ha, k, Rps.per p (Ext.refl A) r, h0, m⟩
  | exc c fs =>
    obtain ⟨a, C, dd, vfs, e1, e2, e3, e4, e5⟩ := h
    exact ⟨a, C, dd, vfs, e1, e2, e3, p.xd _ _ e4, fun f d q => let ⟨x, q1, q2⟩ := e5 f d q; ⟨x, q1, Rp.per p (Ext.refl A) q2⟩⟩
/-- a new object -/
theorem DI.new (d : DI K Z cad A e0 env g σ H) {p : Addr} {o : HO} (n : H p = none) : DI K Z cad A e0 env g σ (upd H p o) := by
  refine ⟨fun a u e m => ?_, d.src, d.gok.mono (fun a m => ?_) (per_new n).ext, d.len, fun i dv e => ?_, d.inj⟩
  · obtain ⟨q, nm⟩ := d.keep a u e m
    rw [upd_ne (L2.ne_of_none q n)]; exact ⟨q, nm⟩
  · obtain ⟨u, q, _⟩ := d.gok.there m
    exact upd_ne (L2.ne_of_none q n)
  · obtain ⟨v, h1, h2⟩ := d.slot i dv e
    exact ⟨v, h1, slot_per (per_new n) (fun a xs q => by rw [upd_ne (L2.ne_of_none q n)]; exact q) (fun a xs q => by rw [upd_ne (L2.ne_of_none q n)]; exact q) h2⟩
/-- a slot gets data -/
theorem DI.put (d : DI K Z cad A e0 env g σ H) {i : Nat} {v : V} {x : D} (r : Rp K A H v x) : DI K Z cad A e0 (env.set i (some (.im x))) g (σ.set i (some v)) H := by
  refine ⟨d.keep, d.src, d.gok, by simpa using d.len, fun j dv e => ?_, fun j k l l' a e1 e2 e3 e4 => ?_⟩
  · by_cases hj : j = i
    · subst hj
      have hlt : j < env.length := by
        have := (List.getElem?_eq_some_iff.mp e).1
        simpa using this
      rw [List.getElem?_set_self hlt] at e
      cases e
      exact ⟨v, by rw [List.getElem?_set_self (by rw [← d.len]; exact hlt)], r⟩
    · rw [List.getElem?_set_ne (Ne.symm hj)] at e
      obtain ⟨w, h1, h2⟩ := d.slot j dv e
      exact ⟨w, by rw [List.getElem?_set_ne (Ne.symm hj)]; exact h1, h2⟩
  · have nj : ∀ {j : Nat} {l : List D}, (env.set i (some (.im x)))[j]? = some (some (.ml l)) → j ≠ i := fun {j l} e z => by
      subst z
      have hlt : j < env.length := by
        have := (List.getElem?_eq_some_iff.mp e).1
        simpa using this
      rw [List.getElem?_set_self hlt] at e
      cases e
    have n1 := nj e1
    have n2 := nj e2
    rw [List.getElem?_set_ne (Ne.symm n1)] at e1 e3
    rw [List.getElem?_set_ne (Ne.symm n2)] at e2 e4
    exact d.inj j k l l' a e1 e2 e3 e4
/-- a slot is emptied -/
theorem DI.wipe1 (d : DI K Z cad A e0 env g σ H) (i : Nat) (v : Option V) : DI K Z cad A e0 (env.set i none) g (σ.set i v) H := by
  have nj : ∀ {j : Nat} {dv : DV}, (env.set i none)[j]? = some (some dv) → j ≠ i := fun {j dv} e z => by
    subst z
    have hlt : j < env.length := by
      have := (List.getElem?_eq_some_iff.mp e).1
      simpa using this
    rw [List.getElem?_set_self hlt] at e
    cases e
  refine ⟨d.keep, d.src, d.gok, by simpa using d.len, fun j dv e => ?_, fun j k l l' a e1 e2 e3 e4 => ?_⟩
  · have n := nj e
    rw [List.getElem?_set_ne (Ne.symm n)] at e
    obtain ⟨w, h1, h2⟩ := d.slot j dv e
    exact ⟨w, by rw [List.getElem?_set_ne (Ne.symm n)]; exact h1, h2⟩
  · have n1 := nj e1
    have n2 := nj e2
    rw [List.getElem?_set_ne (Ne.symm n1)] at e1 e3
    rw [List.getElem?_set_ne (Ne.symm n2)] at e2 e4
    exact d.inj j k l l' a e1 e2 e3 e4
/-- a list that is in no slot yet -/
def Frsh (K : PySem.W.Frag) (A : Option AS) (e0 : Ent) (H : Hp) (env : List (Option DV)) (σ : List (Option V)) (v : V) (l : List D) : Prop :=
  ∃ a xs, v = .ref a ∧ H a = some (.lst xs) ∧ Rps K A H xs l ∧ e0.H a = none ∧ ¬ isM K A a ∧ ∀ (i : Nat) (l' : List D), env[i]? = some (some (.ml l')) → σ[i]? ≠ some (some (.ref a))
theorem DI.putL (d : DI K Z cad A e0 env g σ H) {i : Nat} {v : V} {l : List D} (r : Frsh K A e0 H env σ v l) : DI K Z cad A e0 (env.set i (some (.ml l))) g (σ.set i (some v)) H := by
  obtain ⟨a, xs, rfl, ha, rs, h0, nm, dj⟩ := r
  refine ⟨d.keep, d.src, d.gok, by simpa using d.len, fun j dv e => ?_, fun j k l1 l2 b e1 e2 e3 e4 => ?_⟩
  · by_cases hj : j = i
    · subst hj
      have hlt : j < env.length := by
        have := (List.getElem?_eq_some_iff.mp e).1
        simpa using this
      rw [List.getElem?_set_self hlt] at e
      cases e
      exact ⟨_, by rw [List.getElem?_set_self (by rw [← d.len]; exact hlt)], a, xs, rfl, ha, rs, h0, nm⟩
    · rw [List.getElem?_set_ne (Ne.symm hj)] at e
      obtain ⟨w, h1, h2⟩ := d.slot j dv e
      exact ⟨w, by rw [List.getElem?_set_ne (Ne.symm hj)]; exact h1, h2⟩
  · have self : ∀ {b : Addr}, (σ.set i (some (V.ref a)))[i]? = some (some (.ref b)) → b = a := fun {b} e => by
      have hlt : i < σ.length := by
        have := (List.getElem?_eq_some_iff.mp e).1
        simpa using this
      rw [List.getElem?_set_self hlt] at e
      cases e; rfl
    by_cases hj : j = i
    · by_cases hk : k = i
      · rw [hj, hk]
      · subst hj
        have eb := self e3
        subst eb
        rw [List.getElem?_set_ne (Ne.symm hk)] at e2 e4
        exact absurd e4 (dj k l2 e2)
    · by_cases hk : k = i
      · subst hk
        have eb := self e4
        subst eb
        rw [List.getElem?_set_ne (Ne.symm hj)] at e1 e3
        exact absurd e3 (dj j l1 e1)
      · rw [List.getElem?_set_ne (Ne.symm hj)] at e1 e3
        rw [List.getElem?_set_ne (Ne.symm hk)] at e2 e4
        exact d.inj j k l1 l2 b e1 e2 e3 e4
/-- a new list -/
theorem DI.frsh (d : DI K Z cad A e0 env g σ H) {p : Addr} {xs : List V} {l : List D} (n : H p = none) (r : Rps K A H xs l) : Frsh K A e0 (upd H p (.lst xs)) env σ (.ref p) l := by
  obtain ⟨h0, nm⟩ := d.fresh n
  refine ⟨p, xs, rfl, upd_same, Rps.per (per_new n) (Ext.refl A) r, h0, nm, fun i l' e q => ?_⟩
  obtain ⟨v, h1, a, ys, e2, ha, _⟩ := d.slot i _ e
  rw [q] at h1
  cases h1
  cases e2
  rw [n] at ha; cases ha
/-- one's own list is changed; o: what stands there then -/
theorem DI.chg (d : DI K Z cad A e0 env g σ H) {i : Nat} {a : Addr} {l : List D} {dv : DV} {o : HO} {xs : List V} (ei : env[i]? = some (some (.ml l))) (es : σ[i]? = some (some (.ref a))) (ha : H a = some (.lst xs))
    (ok : SlotOk K Z cad A e0 (upd H a o) (.ref a) dv) : DI K Z cad A e0 (env.set i (some dv)) g σ (upd H a o) := by
  obtain ⟨v, h1, b, ys, e2, hb, rs, h0, nm⟩ := d.slot i _ ei
  rw [es] at h1
  cases h1
  cases e2
  have hlt : i < env.length := (List.getElem?_eq_some_iff.mp ei).1
  refine ⟨fun c u e m => ?_, d.src, d.gok.mono (fun c m => ?_) (per_lst hb).ext, by simpa using d.len, fun j dw e => ?_, fun j k l1 l2 b e1 e2 e3 e4 => ?_⟩
  · rw [upd_ne (fun z => by subst z; rw [h0] at e; cases e)]; exact d.keep c u e m
  · exact upd_ne fun z => by subst z; exact nm m
  · by_cases hj : j = i
    · subst hj
      rw [List.getElem?_set_self hlt] at e
      cases e
      exact ⟨_, es, ok⟩
    · rw [List.getElem?_set_ne (Ne.symm hj)] at e
      obtain ⟨w, q1, q2⟩ := d.slot j dw e
      refine ⟨w, q1, ?_⟩
      have pr : Per H (upd H a o) := per_lst ha
      cases dw with
      | im x => exact Rp.per pr (Ext.refl A) q2
      | ml l2 =>
        obtain ⟨c, zs, rfl, hc, r2, g0, gm⟩ := q2
        refine ⟨c, zs, rfl, ?_, Rps.per pr (Ext.refl A) r2, g0, gm⟩
        rw [upd_ne fun z => hj (d.inj j i l2 l c e ei q1 (by rw [z]; exact es))]
        exact hc
      | rd l2 =>
        obtain ⟨c, zs, rfl, hc, r2, g0, gm⟩ := q2
        refine ⟨c, zs, rfl, ?_, Rps.per pr (Ext.refl A) r2, g0, gm⟩
        rw [upd_ne fun z => by subst z; rw [h0] at g0; cases g0]
        exact hc
      | md ks vs =>
        obtain ⟨c, zs, rfl, hc, kk, r2, g0, gm⟩ := q2
        refine ⟨c, zs, rfl, ?_, kk, Rps.per pr (Ext.refl A) r2, g0, gm⟩
        rw [upd_ne (L2.ne_of hc ha (by intro z; cases z))]
        exact hc
      | exc c fs =>
        obtain ⟨b, C, dd, vfs, e1, e2, e3, e4, e5⟩ := q2
        exact ⟨b, C, dd, vfs, e1, e2, e3, pr.xd _ _ e4, fun f d q => let ⟨x, w1, w2⟩ := e5 f d q; ⟨x, w1, Rp.per pr (Ext.refl A) w2⟩⟩
  · have key : ∀ {j : Nat} {l1 : List D} {b : Addr}, (env.set i (some dv))[j]? = some (some (.ml l1)) → ∃ l2, env[j]? = some (some (.ml l2)) := fun {j l1 b} e => by
      by_cases hj : j = i
      · subst hj; exact ⟨l, ei⟩
      · rw [List.getElem?_set_ne (Ne.symm hj)] at e; exact ⟨_, e⟩
    obtain ⟨m1, f1⟩ := key (b := b) e1
    obtain ⟨m2, f2⟩ := key (b := b) e2
    exact d.inj j k m1 m2 b f1 f2 e3 e4
/-- one's own list is not changed any more -/
theorem DI.freeze (d : DI K Z cad A e0 env g σ H) {i : Nat} {l : List D} (ei : env[i]? = some (some (.ml l))) : ∃ a xs, σ[i]? = some (some (.ref a)) ∧ H a = some (.lst xs) ∧
    ∀ od, DI K Z cad A e0 (env.set i (some (.im (.lst l)))) g σ (upd H a (.frz od (.lst xs))) ∧ Per H (upd H a (.frz od (.lst xs))) ∧ Rp K A (upd H a (.frz od (.lst xs))) (.ref a) (.lst l) := by
  obtain ⟨v, h1, a, xs, rfl, ha, rs, h0, nm⟩ := d.slot i _ ei
  refine ⟨a, xs, h1, ha, fun od => ?_⟩
  have pr : Per H (upd H a (.frz od (.lst xs))) := per_lst ha
  have rp : Rp K A (upd H a (.frz od (.lst xs))) (.ref a) (.lst l) := .lst (.inl ⟨od, upd_same⟩) (Rps.per pr (Ext.refl A) rs)
  exact ⟨d.chg ei h1 ha rp, pr, rp⟩
/-- a list that is in no slot changes -/
theorem DI.out (d : DI K Z cad A e0 env g σ H) {a : Addr} {xs : List V} {o : HO} (ha : H a = some (.lst xs)) (h0 : e0.H a = none) (nm : ¬ isM K A a) (dj : ∀ (i : Nat) (l' : List D), env[i]? = some (some (.ml l')) → σ[i]? ≠ some (some (.ref a))) :
    DI K Z cad A e0 env g σ (upd H a o) := by
  have pr : Per H (upd H a o) := per_lst ha
  refine ⟨fun c u e m => ?_, d.src, d.gok.mono (fun c m => upd_ne fun z => by subst z; exact nm m) pr.ext, d.len, fun j dw e => ?_, d.inj⟩
  · rw [upd_ne (fun z => by subst z; rw [h0] at e; cases e)]; exact d.keep c u e m
  · obtain ⟨w, q1, q2⟩ := d.slot j dw e
    refine ⟨w, q1, ?_⟩
    cases dw with
    | im x => exact Rp.per pr (Ext.refl A) q2
    | ml l2 =>
      obtain ⟨c, zs, rfl, hc, r2, g0, gm⟩ := q2
      refine ⟨c, zs, rfl, ?_, Rps.per pr (Ext.refl A) r2, g0, gm⟩
      rw [upd_ne fun z => by subst z; exact dj j l2 e q1]
      exact hc
    | rd l2 =>
      obtain ⟨c, zs, rfl, hc, r2, g0, gm⟩ := q2
      refine ⟨c, zs, rfl, ?_, Rps.per pr (Ext.refl A) r2, g0, gm⟩
      rw [upd_ne fun z => by subst z; rw [h0] at g0; cases g0]
      exact hc
    | md ks vs =>
      obtain ⟨c, zs, rfl, hc, kk, r2, g0, gm⟩ := q2
      refine ⟨c, zs, rfl, ?_, kk, Rps.per pr (Ext.refl A) r2, g0, gm⟩
      rw [upd_ne (L2.ne_of hc ha (by intro z; cases z))]
      exact hc
    | exc c fs =>
      obtain ⟨b, C, dd, vfs, e1, e2, e3, e4, e5⟩ := q2
      exact ⟨b, C, dd, vfs, e1, e2, e3, pr.xd _ _ e4, fun f d q => let ⟨x, w1, w2⟩ := e5 f d q; ⟨x, w1, Rp.per pr (Ext.refl A) w2⟩⟩
end
end Ds
end
section
set_option Elab.async false
set_option Elab.async false
set_option linter.all false
set_option maxRecDepth 100000
set_option maxHeartbeats 4000000
set_option autoImplicit false
/-! Snd2: what an evaluation leaves of the slots; outcomes; readings made of the interpreter. -/
namespace Dl
/-- the slots but for lists that are not changed any more -/
def Le (e e' : List (Option DV)) : Prop := e'.length = e.length ∧ ∀ i : Nat, e'[i]? = e[i]? ∨ ∃ l, e[i]? = some (some (.ml l)) ∧ e'[i]? = some (some (.im (.lst l)))
theorem Le.refl (e : List (Option DV)) : Le e e := ⟨rfl, fun _ => .inl rfl⟩
theorem Le.trans {e e1 e2 : List (Option DV)} (a : Le e e1) (b : Le e1 e2) : Le e e2 := by
  refine ⟨b.1.trans a.1, fun i => ?_⟩
  rcases b.2 i with h | ⟨l, h1, h2⟩
  · rcases a.2 i with q | ⟨l, q1, q2⟩
    · exact .inl (h.trans q)
    · exact .inr ⟨l, q1, h.trans q2⟩
  · rcases a.2 i with q | ⟨l', q1, q2⟩
    · exact .inr ⟨l, q ▸ h1, h2⟩
    · rw [q2] at h1; cases h1
theorem R.bind_eq {α β : Type} {r : R α} {f : α → S → R β} {b : β} {s : S} (h : r.bind f = .ok b s) : ∃ a s1, r = .ok a s1 ∧ f a s1 = .ok b s := by
  cases r with
  | ok a s1 => exact ⟨a, s1, rfl, h⟩
  | ex e s1 => cases h
  | stuck => cases h
theorem ofO_eq {α : Type} {o : Option α} {s s' : S} {a : α} (h : ofO o s = .ok a s') : o = some a ∧ s' = s := by
  cases o with
  | none => cases h
  | some b => cases h; exact ⟨rfl, rfl⟩
section
variable {gl : String → Option D} {call : String → List D → Option GS → RC}
mutual
theorem evE_le : ∀ (x : Ex) {s s' : S} {d : D}, evE gl call x s = .ok d s' → Le s.env s'.env
  | .non, s, s', d, h => by simp only [evE] at h; cases h; exact Le.refl _
  | .bl _, s, s', d, h => by simp only [evE] at h; cases h; exact Le.refl _
  | .int _, s, s', d, h => by simp only [evE] at h; cases h; exact Le.refl _
  | .str _, s, s', d, h => by simp only [evE] at h; cases h; exact Le.refl _
  | .var i, s, s', d, h => by
    simp only [evE] at h
    split at h
    · cases h; exact Le.refl _
    · rename_i l e
      cases h
      have e' : s.env[i]? = some (some (.ml l)) := by
        unfold S.get at e
        cases q : s.env[i]? with
        | none => rw [q] at e; cases e
        | some o => rw [q] at e; simpa using e
      refine ⟨by simp [S.put], fun j => ?_⟩
      by_cases hj : j = i
      · subst hj
        exact .inr ⟨l, e', by simp only [S.put]; rw [List.getElem?_set_self (List.getElem?_eq_some_iff.mp e').1]⟩
      · exact .inl (by simp only [S.put]; rw [List.getElem?_set_ne (Ne.symm hj)])
    · cases h
  | .bor i, s, s', d, h => by
    simp only [evE] at h
    split at h <;> cases h <;> exact Le.refl _
  | .gl x, s, s', d, h => by
    simp only [evE] at h
    obtain ⟨_, rfl⟩ := ofO_eq h; exact Le.refl _
  | .tup l, s, s', d, h => by
    simp only [evE] at h
    obtain ⟨a, s1, h1, h2⟩ := R.bind_eq h
    cases h2; exact evEs_le l h1
  | .lst l, s, s', d, h => by
    simp only [evE] at h
    obtain ⟨a, s1, h1, h2⟩ := R.bind_eq h
    cases h2; exact evEs_le l h1
  | .bin o a b, s, s', d, h => by
    simp only [evE] at h
    obtain ⟨x, s1, h1, h2⟩ := R.bind_eq h
    obtain ⟨y, s2, h3, h4⟩ := R.bind_eq h2
    obtain ⟨_, rfl⟩ := ofO_eq h4
    exact (evE_le a h1).trans (evE_le b h3)
  | .neg a, s, s', d, h => by
    simp only [evE] at h
    obtain ⟨x, s1, h1, h2⟩ := R.bind_eq h
    split at h2 <;> cases h2
    exact evE_le a h1
  | .cmp o a b, s, s', d, h => by
    simp only [evE] at h
    obtain ⟨x, s1, h1, h2⟩ := R.bind_eq h
    obtain ⟨y, s2, h3, h4⟩ := R.bind_eq h2
    obtain ⟨_, rfl⟩ := ofO_eq h4
    exact (evE_le a h1).trans (evE_le b h3)
  | .chain o p a b c, s, s', d, h => by
    simp only [evE] at h
    obtain ⟨x, s1, h1, h2⟩ := R.bind_eq h
    obtain ⟨y, s2, h3, h4⟩ := R.bind_eq h2
    split at h4
    · obtain ⟨z, s3, h5, h6⟩ := R.bind_eq h4
      obtain ⟨_, rfl⟩ := ofO_eq h6
      exact ((evE_le a h1).trans (evE_le b h3)).trans (evE_le c h5)
    · cases h4; exact (evE_le a h1).trans (evE_le b h3)
    · cases h4
  | .isN a, s, s', d, h => by
    simp only [evE] at h
    obtain ⟨x, s1, h1, h2⟩ := R.bind_eq h
    cases h2; exact evE_le a h1
  | .notN a, s, s', d, h => by
    simp only [evE] at h
    obtain ⟨x, s1, h1, h2⟩ := R.bind_eq h
    cases h2; exact evE_le a h1
  | .and a b, s, s', d, h => by
    simp only [evE] at h
    obtain ⟨x, s1, h1, h2⟩ := R.bind_eq h
    split at h2
    · exact (evE_le a h1).trans (evE_le b h2)
    · cases h2; exact evE_le a h1
    · cases h2
  | .or a b, s, s', d, h => by
    simp only [evE] at h
    obtain ⟨x, s1, h1, h2⟩ := R.bind_eq h
    split at h2
    · cases h2; exact evE_le a h1
    · exact (evE_le a h1).trans (evE_le b h2)
    · cases h2
  | .not a, s, s', d, h => by
    simp only [evE] at h
    obtain ⟨x, s1, h1, h2⟩ := R.bind_eq h
    split at h2 <;> cases h2
    exact evE_le a h1
  | .ife c a b, s, s', d, h => by
    simp only [evE] at h
    obtain ⟨x, s1, h1, h2⟩ := R.bind_eq h
    split at h2
    · exact (evE_le c h1).trans (evE_le a h2)
    · exact (evE_le c h1).trans (evE_le b h2)
    · cases h2
  | .ix a i, s, s', d, h => by
    simp only [evE] at h
    obtain ⟨x, s1, h1, h2⟩ := R.bind_eq h
    obtain ⟨y, s2, h3, h4⟩ := R.bind_eq h2
    obtain ⟨_, rfl⟩ := ofO_eq h4
    exact (evE_le a h1).trans (evE_le i h3)
  | .sl a lo hi, s, s', d, h => by
    simp only [evE] at h
    obtain ⟨x, s1, h1, h2⟩ := R.bind_eq h
    obtain ⟨y, s2, h3, h4⟩ := R.bind_eq h2
    obtain ⟨i, s3, h5, h6⟩ := R.bind_eq h4
    obtain ⟨_, rfl⟩ := ofO_eq h5
    obtain ⟨z, s4, h7, h8⟩ := R.bind_eq h6
    obtain ⟨j, s5, h9, h10⟩ := R.bind_eq h8
    obtain ⟨_, rfl⟩ := ofO_eq h9
    obtain ⟨_, rfl⟩ := ofO_eq h10
    exact ((evE_le a h1).trans (evE_le lo h3)).trans (evE_le hi h7)
  | .call f l, s, s', d, h => by
    simp only [evE] at h
    obtain ⟨x, s1, h1, h2⟩ := R.bind_eq h
    split at h2 <;> cases h2
    exact (evEs_le l h1 : Le s.env s1.env)
  | .b1 f a, s, s', d, h => by
    simp only [evE] at h
    obtain ⟨x, s1, h1, h2⟩ := R.bind_eq h
    obtain ⟨_, rfl⟩ := ofO_eq h2
    exact evE_le a h1
  | .b2 f a b, s, s', d, h => by
    simp only [evE] at h
    obtain ⟨x, s1, h1, h2⟩ := R.bind_eq h
    obtain ⟨y, s2, h3, h4⟩ := R.bind_eq h2
    obtain ⟨_, rfl⟩ := ofO_eq h4
    exact (evE_le a h1).trans (evE_le b h3)
  | .isi a t, s, s', d, h => by
    simp only [evE] at h
    obtain ⟨x, s1, h1, h2⟩ := R.bind_eq h
    obtain ⟨_, rfl⟩ := ofO_eq h2
    exact evE_le a h1
  | .isE i c, s, s', d, h => by
    simp only [evE] at h
    split at h <;> cases h
    exact Le.refl _
  | .fld i f, s, s', d, h => by
    simp only [evE] at h
    split at h
    · obtain ⟨_, rfl⟩ := ofO_eq h; exact Le.refl _
    · cases h
  | .like a b, s, s', d, h => by
    simp only [evE] at h
    obtain ⟨x, s1, h1, h2⟩ := R.bind_eq h
    split at h2
    · obtain ⟨y, s2, h3, h4⟩ := R.bind_eq h2
      split at h4 <;> cases h4
      exact (evE_le a h1).trans (evE_le b h3)
    · cases h2
  | .lc x t own i c, s, s', d, h => by
    simp only [evE] at h
    obtain ⟨y, s1, h1, h2⟩ := R.bind_eq h
    obtain ⟨z, s2, h3, h4⟩ := R.bind_eq h2
    split at h4 <;> cases h4
    exact (evI_le i h1 : Le s.env s1.env)
  | .stAt i, s, s', d, h => by
    simp only [evE] at h
    split at h <;> cases h
    exact Le.refl _
  | .caught f e, s, s', d, h => by
    simp only [evE] at h
    split at h
    · split at h <;> cases h
      exact Le.refl _
    · split at h <;> cases h
      exact Le.refl _
    · cases h
  | .slr a, s, s', d, h => by
    simp only [evE] at h
    obtain ⟨x, s1, h1, h2⟩ := R.bind_eq h
    obtain ⟨_, rfl⟩ := ofO_eq h2
    exact evE_le a h1
  | .lrev a, s, s', d, h => by
    simp only [evE] at h
    obtain ⟨x, s1, h1, h2⟩ := R.bind_eq h
    obtain ⟨_, rfl⟩ := ofO_eq h2
    exact evE_le a h1
  | .cnt a b, s, s', d, h => by
    simp only [evE] at h
    obtain ⟨x, s1, h1, h2⟩ := R.bind_eq h
    obtain ⟨y, s2, h3, h4⟩ := R.bind_eq h2
    obtain ⟨_, rfl⟩ := ofO_eq h4
    exact (evE_le a h1).trans (evE_le b h3)
  | .lcX x t own i c, s, s', d, h => by
    simp only [evE] at h
    obtain ⟨y, s1, h1, h2⟩ := R.bind_eq h
    split at h2
    · unfold lcE at h2
      split at h2
      · split at h2 <;> cases h2
        exact (evI_le i h1 : Le s.env s1.env)
      · cases h2
      · cases h2
    · cases h2
  | .kix x t i, s, s', d, h => by
    simp only [evE] at h
    unfold selD at h
    split at h
    · obtain ⟨_, rfl⟩ := ofO_eq h
      exact Le.refl _
    · cases h
  | .lit2 a b c d' i, s, s', d, h => by
    simp only [evE] at h
    split at h
    · cases h
    · unfold selD at h
      split at h
      · obtain ⟨_, rfl⟩ := ofO_eq h
        exact Le.refl _
      · cases h
  | .keys a, s, s', d, h => by
    simp only [evE] at h
    obtain ⟨x, s1, h1, h2⟩ := R.bind_eq h
    split at h2
    · split at h2 <;> cases h2
      exact evE_le a h1
    · cases h2
  | .dix a b, s, s', d, h => by
    simp only [evE] at h
    obtain ⟨x, s1, h1, h2⟩ := R.bind_eq h
    obtain ⟨y, s2, h3, h4⟩ := R.bind_eq h2
    split at h4
    · obtain ⟨_, rfl⟩ := ofO_eq h4
      exact (evE_le a h1).trans (evE_le b h3)
    · cases h4
  | .dc kx vx t own i c, s, s', d, h => by
    simp only [evE] at h
    obtain ⟨y, s1, h1, h2⟩ := R.bind_eq h
    split at h2
    · obtain ⟨z, s2, h3, h4⟩ := R.bind_eq h2
      split at h4
      · split at h4 <;> cases h4
        exact (evI_le i h1 : Le s.env s1.env)
      · cases h4
    · cases h2
  | .stLen i, s, s', d, h => by
    simp only [evE] at h
    split at h <;> cases h
    exact Le.refl _
  | .stCell i a, s, s', d, h => by
    simp only [evE] at h
    split at h
    · obtain ⟨x, s1, h1, h2⟩ := R.bind_eq h
      split at h2
      · split at h2
        · obtain ⟨_, rfl⟩ := ofO_eq h2; exact evE_le a h1
        · cases h2
      · cases h2
    · cases h
  | .stLeft i a, s, s', d, h => by
    simp only [evE] at h
    split at h
    · obtain ⟨x, s1, h1, h2⟩ := R.bind_eq h
      split at h2
      · split at h2
        · obtain ⟨_, rfl⟩ := ofO_eq h2; exact evE_le a h1
        · cases h2
      · cases h2
    · cases h
  | .iSeq _, s, s', d, h => by simp only [evE] at h; cases h
  | .iRng _, s, s', d, h => by simp only [evE] at h; cases h
  | .iRng2 _ _, s, s', d, h => by simp only [evE] at h; cases h
  | .iEnum _, s, s', d, h => by simp only [evE] at h; cases h
  | .iZip _ _, s, s', d, h => by simp only [evE] at h; cases h
  | .iRev _, s, s', d, h => by simp only [evE] at h; cases h
theorem evEs_le : ∀ (l : List Ex) {s s' : S} {ds : List D}, evEs gl call l s = .ok ds s' → Le s.env s'.env
  | [], s, s', d, h => by simp only [evEs] at h; cases h; exact Le.refl _
  | e :: l, s, s', d, h => by
    simp only [evEs] at h
    obtain ⟨x, s1, h1, h2⟩ := R.bind_eq h
    obtain ⟨y, s2, h3, h4⟩ := R.bind_eq h2
    cases h4
    exact (evE_le e h1).trans (evEs_le l h3)
theorem evI_le : ∀ (x : Ex) {s s' : S} {ds : List D}, evI gl call x s = .ok ds s' → Le s.env s'.env := fun x {s s' ds} h => by
  cases x with
  | iSeq a =>
    simp only [evI] at h
    obtain ⟨x, s1, h1, h2⟩ := R.bind_eq h
    obtain ⟨_, rfl⟩ := ofO_eq h2
    exact evE_le a h1
  | iRng a =>
    simp only [evI] at h
    obtain ⟨x, s1, h1, h2⟩ := R.bind_eq h
    split at h2
    · split at h2 <;> cases h2
      exact evE_le a h1
    · cases h2
  | iRng2 a b =>
    simp only [evI] at h
    obtain ⟨x, s1, h1, h2⟩ := R.bind_eq h
    obtain ⟨y, s2, h3, h4⟩ := R.bind_eq h2
    split at h4
    · split at h4 <;> cases h4
      exact (evE_le a h1).trans (evE_le b h3)
    · cases h4
  | iEnum a =>
    simp only [evI] at h
    obtain ⟨x, s1, h1, h2⟩ := R.bind_eq h
    obtain ⟨_, rfl⟩ := ofO_eq h2
    exact evE_le a h1
  | iZip a b =>
    simp only [evI] at h
    obtain ⟨x, s1, h1, h2⟩ := R.bind_eq h
    obtain ⟨y, s2, h3, h4⟩ := R.bind_eq h2
    obtain ⟨_, rfl⟩ := ofO_eq h4
    exact (evE_le a h1).trans (evE_le b h3)
  | iRev a =>
    simp only [evI] at h
    obtain ⟨x, s1, h1, h2⟩ := R.bind_eq h
    obtain ⟨_, rfl⟩ := ofO_eq h2
    exact evE_le a h1
  | _ => simp only [evI] at h; cases h
end
end
end Dl

namespace Ds
open PySem PySem.Spec PyProof.Rows
open L2 (V Hp HO upd upd_same upd_ne RelV SqL SqT TE TA TT TS TG TI VK XK WX Cx Inv PE PA PT PS PSs Rd)
open Dl (D DV GS S R RC Ex Le)
/-- data, no list -/
structure RpX (K : PySem.W.Frag) (A : Option AS) (H : Hp) (v : V) (d : D) : Prop where
  rp : Rp K A H v d
  nl : ∀ l, d ≠ .lst l
/-- what is fixed through a def -/
structure Gam where
  K : PySem.W.Frag
  fl : Dl.Flds
  gl : String → Option D
  call : String → List D → Option GS → RC
  cad : String → Option Addr
  Z : Option (Addr × Value × Option Addr)
abbrev Gam.DI (Γ : Gam) := Ds.DI Γ.K Γ.Z Γ.cad
/-- what is wanted of an outcome -/
def Out (Γ : Gam) (W : WX) (A : Option AS) (e0 : Ent) (σ : List (Option V)) (H : Hp) {α : Type} (r : R α) (k : α → S → Option AS → Hp → Prop) : Prop := match r with
  | .ok a s => ∀ A' H', Ext A A' → Γ.DI A' e0 s.env s.g σ H' → Per H H' → k a s A' H'
  | .ex e s => ∀ A' cls dd H', Ext A A' → Γ.DI A' e0 s.env s.g σ H' → Per H H' → ExR Γ.K Γ.cad A' H' cls dd e → W cls dd σ H'
  | .stuck => False
section
variable {Γ : Gam} {W : WX} {A A' A2 : Option AS} {e0 : Ent} {H H' H2 : Hp} {env : List (Option DV)} {g : Option GS} {σ : List (Option V)} {α β : Type}
theorem Out.imp {r : R α} {k k' : α → S → Option AS → Hp → Prop} (h : Out Γ W A e0 σ H r k) (i : ∀ a s A' H', r = .ok a s → Ext A A' → Γ.DI A' e0 s.env s.g σ H' → Per H H' → k a s A' H' → k' a s A' H') : Out Γ W A e0 σ H r k' := by
  cases r with
  | ok a s => exact fun A' H' e d p => i a s A' H' rfl e d p (h A' H' e d p)
  | ex e s => exact h
  | stuck => exact h
theorem Out.later {r : R α} {k : α → S → Option AS → Hp → Prop} (h : Out Γ W A e0 σ H r k) (e : Ext A A') (p : Per H H') : Out Γ W A' e0 σ H' r k := by
  cases r with
  | ok a s => exact fun A2 H2 e2 d2 p2 => h A2 H2 (e.trans e2) d2 (p.trans p2)
  | ex x s => exact fun A2 c dd H2 e2 d2 p2 => h A2 c dd H2 (e.trans e2) d2 (p.trans p2)
  | stuck => exact h
theorem Out.bind {r : R α} {f : α → S → R β} {k : β → S → Option AS → Hp → Prop} (h : Out Γ W A e0 σ H (r.bind f) k) : Out Γ W A e0 σ H r fun a s A' H' => Out Γ W A' e0 σ H' (f a s) k := by
  cases r with
  | ok a s => exact fun A' H' e d p => Out.later h e p
  | ex x s => exact h
  | stuck => exact h
theorem Out.here {a : α} {s : S} {k : α → S → Option AS → Hp → Prop} (h : Out Γ W A e0 σ H (.ok a s) k) (d : Γ.DI A e0 s.env s.g σ H) : k a s A H := h A H (Ext.refl A) d (Per.refl H)

/-- .. or a list of the def's own, looked at -/
def RB (Γ : Gam) (A : Option AS) (H : Hp) (env : List (Option DV)) (σ : List (Option V)) (v : V) (d : D) : Prop :=
  Rp Γ.K A H v d ∨ ∃ (i : Nat) (l : List D), (env[i]? = some (some (.ml l)) ∨ env[i]? = some (some (.rd l))) ∧ d = .lst l ∧ σ[i]? = some (some v)
theorem RB.step {env' : List (Option DV)} {g' : Option GS} {v : V} {d : D} (r : RB Γ A H env σ v d) (di : Γ.DI A' e0 env' g' σ H') (p : Per H H') (e : Ext A A') (le : Le env env') : RB Γ A' H' env' σ v d := by
  rcases r with r | ⟨i, l, h1, h2, h3⟩
  · exact .inl (Rp.per p e r)
  · rcases le.2 i with q | ⟨l', q1, q2⟩
    · exact .inr ⟨i, l, by rw [q]; exact h1, h2, h3⟩
    · obtain ⟨w, q3, q4⟩ := di.slot i _ q2
      rw [h3] at q3
      cases q3
      rcases h1 with h1 | h1
      · rw [q1] at h1
        cases h1
        exact .inl (h2 ▸ q4)
      · rw [q1] at h1; cases h1
/-- a list or a tuple, as it is read -/
theorem RB.lst {v : V} {l : List D} (r : RB Γ A H env σ v (.lst l)) (di : Γ.DI A e0 env g σ H) : ∃ a xs, v = .ref a ∧ RdL Γ.K H a xs ∧ Rps Γ.K A H xs l := by
  rcases r with r | ⟨i, l', h1, h2, h3⟩
  · cases r with
    | lst h q => exact ⟨_, _, rfl, h.rd, q⟩
  · cases h2
    rcases h1 with h1 | h1
    · obtain ⟨w, q1, a, xs, q2, q3, q4, _⟩ := di.slot i _ h1
      rw [h3] at q1
      cases q1
      exact ⟨a, xs, q2, .inl (Rd.of q3), q4⟩
    · obtain ⟨w, q1, a, xs, q2, q3, q4, _⟩ := di.slot i _ h1
      rw [h3] at q1
      cases q1
      exact ⟨a, xs, q2, .inl (Rd.of q3), q4⟩
theorem RB.rp {v : V} {d : D} (r : RB Γ A H env σ v d) (n : ∀ l, d ≠ .lst l) : Rp Γ.K A H v d := by
  rcases r with r | ⟨i, l', h1, h2, h3⟩
  · exact r
  · exact absurd h2 (n l')
theorem Rp.tup' {K : PySem.W.Frag} {v : V} {l : List D} (r : Rp K A H v (.tup l)) : ∃ a xs, v = .ref a ∧ SqT K H a xs ∧ Rps K A H xs l := by
  cases r with
  | tup h q => exact ⟨_, _, rfl, h, q⟩
theorem RB.tup {v : V} {l : List D} (r : RB Γ A H env σ v (.tup l)) : ∃ a xs, v = .ref a ∧ SqT Γ.K H a xs ∧ Rps Γ.K A H xs l := (r.rp (fun _ h => (nomatch h))).tup'
theorem RB.int {v : V} {i : Int} (r : RB Γ A H env σ v (.int i)) : v = .int i := by
  have q := r.rp (fun _ h => (nomatch h))
  cases q; rfl
theorem RB.bl {v : V} {i : Bool} (r : RB Γ A H env σ v (.bl i)) : v = .bl i := by
  have q := r.rp (fun _ h => (nomatch h))
  cases q; rfl
theorem RB.str {v : V} {i : String} (r : RB Γ A H env σ v (.str i)) : v = .str (Str.ofString i) := by
  have q := r.rp (fun _ h => (nomatch h))
  cases q; rfl
theorem RB.non {v : V} (r : RB Γ A H env σ v .non) : v = .non := by
  have q := r.rp (fun _ h => (nomatch h))
  cases q; rfl

/-! ### readings -/
/-- an expression whose value is kept -/
def tI (Γ : Gam) (W : WX) (x : Ex) : TE := fun σ H Q => ∃ A e0 env g, Γ.DI A e0 env g σ H ∧ Out Γ W A e0 σ H (Dl.evE Γ.gl Γ.call x ⟨env, g⟩) fun d _ A' H' => ∀ v, Rp Γ.K A' H' v d → Q v H'
/-- .. is looked at -/
def tB (Γ : Gam) (W : WX) (x : Ex) : TE := fun σ H Q => ∃ A e0 env g, Γ.DI A e0 env g σ H ∧ Out Γ W A e0 σ H (Dl.evE Γ.gl Γ.call x ⟨env, g⟩) fun d s A' H' => ∀ v, RB Γ A' H' s.env σ v d → Q v H'
/-- .. is a new list, or kept -/
def tF (Γ : Gam) (W : WX) (x : Ex) : TE := fun σ H Q => ∃ A e0 env g, Γ.DI A e0 env g σ H ∧ Out Γ W A e0 σ H (Dl.evE Γ.gl Γ.call x ⟨env, g⟩) fun d s A' H' =>
  ∀ v, (RpX Γ.K A' H' v d ∨ ∃ l, d = .lst l ∧ Frsh Γ.K A' e0 H' s.env σ v l) → Q v H'
/-- .. is a test -/
def tT (Γ : Gam) (W : WX) (x : Ex) : TT := fun σ H Q => ∃ A e0 env g, Γ.DI A e0 env g σ H ∧ Out Γ W A e0 σ H (Dl.evE Γ.gl Γ.call x ⟨env, g⟩) fun d _ _ H' => ∃ b, d = .bl b ∧ Q b H'
/-- arguments -/
def tA (Γ : Gam) (W : WX) (l : List Ex) : TA := fun σ H Q => ∃ A e0 env g, Γ.DI A e0 env g σ H ∧ Out Γ W A e0 σ H (Dl.evEs Γ.gl Γ.call l ⟨env, g⟩) fun ds _ A' H' => ∀ vs, Rps Γ.K A' H' vs ds → Q vs H'
end
end Ds
end
section
set_option Elab.async false
set_option Elab.async false
set_option linter.all false
set_option maxRecDepth 100000
set_option maxHeartbeats 4000000
set_option autoImplicit false
/-! Snd3: expressions: names, constants, operators. -/
namespace Ds
open PySem PySem.Spec PyProof.Rows
open L2 (V Hp HO upd upd_same upd_ne RelV SqL SqT TE TA TT TS TG TI VK XK WX Cx Inv PE PA PT PS PSs Rd EP OpR tOp pe_op R2 rI rI0)
open Dl (D DV GS S R RC Ex Le)
theorem PE.weak {X : Cx} {e : Expr} {te te' : TE} (h : PE X e te) (w : ∀ σ H Q, te' σ H Q → te σ H Q) : PE X e te' := ⟨fun pins s σ H Q I q => h.run pins s σ H Q I (w σ H Q q)⟩
theorem PT.weak {X : Cx} {e : Expr} {te te' : TT} (h : PT X e te) (w : ∀ σ H Q, te' σ H Q → te σ H Q) : PT X e te' := ⟨fun pins s σ H Q I q => h.run pins s σ H Q I (w σ H Q q)⟩
theorem PA.weak {X : Cx} {e : List Expr} {te te' : TA} (h : PA X e te) (w : ∀ σ H Q, te' σ H Q → te σ H Q) : PA X e te' := ⟨fun pos pins s σ H Q I q => h.run pos pins s σ H Q I (w σ H Q q)⟩
theorem PS.weak {X : Cx} {e : Stmt} {te te' : TS} (h : PS X e te) (w : ∀ D σ H, te' D σ H → te D σ H) : PS X e te' := ⟨fun pins s σ H D I q => h.run pins s σ H D I (w D σ H q)⟩
theorem PSs.weak {X : Cx} {e : List Stmt} {te te' : TS} (h : PSs X e te) (w : ∀ D σ H, te' D σ H → te D σ H) : PSs X e te' := ⟨fun pins s σ H D I q => h.run pins s σ H D I (w D σ H q)⟩
theorem OpR.weak {X : Cx} {f : Value → Value → Sem Value} {r r' : R2} (h : OpR X f r) (w : ∀ x y H Q, r' x y H Q → r x y H Q) : OpR X f r' := fun pins s σ H x y v u Q I rx ry q => h pins s σ H x y v u Q I rx ry (w _ _ _ _ q)

/-- a list that is made is not changed any more -/
def tFrz (te : TE) : TE := fun σ H Q => te σ H fun v H1 => Q v H1 ∨ ∃ a xs, v = .ref a ∧ H1 a = some (.lst xs) ∧ ∀ od, Q v (upd H1 a (.frz od (.lst xs)))
theorem pe_frz {X : Cx} {e : Expr} {te : TE} (h : PE X e te) : PE X e (tFrz te) := by
  refine ⟨fun pins s σ H Q I q => ?_⟩
  refine L2.thn (h.run pins s σ H _ I q) fun u s1 hq => ?_
  obtain ⟨v, H1, I1, r1, q1 | ⟨a, xs, rfl, ha, q1⟩⟩ := hq
  · exact ⟨v, H1, I1, r1, q1⟩
  · obtain ⟨od, I2⟩ := I1.lock ha True.intro
    exact ⟨_, _, I2, r1, q1 od⟩

section
variable {Γ : Gam} {W : WX} {A A' : Option AS} {e0 : Ent} {H H' : Hp} {env : List (Option DV)} {g : Option GS} {σ : List (Option V)} {X : Cx}
/-- the end of an evaluation: wherever one stands then -/
def End (Γ : Gam) (A : Option AS) (e0 : Ent) (σ : List (Option V)) (H : Hp) (s : S) (k : Option AS → Hp → Prop) : Prop := ∀ A' H', Ext A A' → Γ.DI A' e0 s.env s.g σ H' → Per H H' → k A' H'
theorem End.here {s : S} {k : Option AS → Hp → Prop} (h : End Γ A e0 σ H s k) (d : Γ.DI A e0 s.env s.g σ H) : k A H := h A H (Ext.refl A) d (Per.refl H)
theorem End.new {s : S} {k : Option AS → Hp → Prop} (h : End Γ A e0 σ H s k) (d : Γ.DI A e0 s.env s.g σ H) {p : Addr} {o : HO} (n : H p = none) : k A (upd H p o) := h A _ (Ext.refl A) (d.new n) (per_new n)
theorem Out.end_ {α : Type} {a : α} {s : S} {k : α → S → Option AS → Hp → Prop} (h : Out Γ W A e0 σ H (.ok a s) k) : End Γ A e0 σ H s (k a s) := h
/-- the three ends -/
abbrev KI (Γ : Gam) (Q : VK) : D → S → Option AS → Hp → Prop := fun d _ A' H' => ∀ v, Rp Γ.K A' H' v d → Q v H'
abbrev KB (Γ : Gam) (σ : List (Option V)) (Q : VK) : D → S → Option AS → Hp → Prop := fun d s A' H' => ∀ v, RB Γ A' H' s.env σ v d → Q v H'
abbrev KF (Γ : Gam) (e0 : Ent) (σ : List (Option V)) (Q : VK) : D → S → Option AS → Hp → Prop := fun d s A' H' => ∀ v, (RpX Γ.K A' H' v d ∨ ∃ l, d = .lst l ∧ Frsh Γ.K A' e0 H' s.env σ v l) → Q v H'
theorem tB_tI {x : Ex} {Q : VK} (h : tB Γ W x σ H Q) : tI Γ W x σ H Q := by
  obtain ⟨A, e0, env, g, d, o⟩ := h
  exact ⟨A, e0, env, g, d, o.imp fun _ _ _ _ _ _ _ _ k v r => k v (.inl r)⟩
theorem PE.toB {e : Expr} {x : Ex} (h : PE X e (tI Γ W x)) : PE X e (tB Γ W x) := PE.weak h fun _ _ _ => tB_tI
/-- a new list is frozen -/
theorem PE.toI {e : Expr} {x : Ex} (h : PE X e (tF Γ W x)) : PE X e (tI Γ W x) := by
  refine PE.weak (pe_frz h) fun σ H Q ⟨A, e0, env, g, d, o⟩ => ⟨A, e0, env, g, d, ?_⟩
  cases q : Dl.evE Γ.gl Γ.call x ⟨env, g⟩ with
  | ok z s =>
    rw [q] at o
    intro A' H' e1 d1 p1 v r
    rcases r with r | ⟨l, rfl, a, xs, rfl, ha, rs, h0, nm, dj⟩
    · exact .inl (o A' H' e1 d1 p1 v r.rp)
    · refine .inr ⟨a, xs, rfl, ha, fun od => ?_⟩
      have pr : Per H' (upd H' a (.frz od (.lst xs))) := per_lst ha
      exact o A' _ e1 (d1.out ha h0 nm dj) (p1.trans pr) _ (.lst (.inl ⟨od, upd_same⟩) (Rps.per pr (Ext.refl A') rs))
  | ex e s => rw [q] at o; exact o
  | stuck => rw [q] at o; exact o

/-! ### constants and names -/
theorem k_int {i : Int} {j pos} : PE X (.Constant (.int i) j pos) (tI Γ W (.int i)) := PE.weak L2.pe_int fun σ H Q ⟨A, e0, env, g, d, o⟩ => by
  simp only [Dl.evE] at o
  exact o.here d _ (.int i)
theorem k_bl {b : Bool} {j pos} : PE X (.Constant (.bool b) j pos) (tI Γ W (.bl b)) := PE.weak L2.pe_bl fun σ H Q ⟨A, e0, env, g, d, o⟩ => by
  simp only [Dl.evE] at o
  exact o.here d _ (.bl b)
theorem k_non {j pos} : PE X (.Constant .none j pos) (tI Γ W .non) := PE.weak L2.pe_non fun σ H Q ⟨A, e0, env, g, d, o⟩ => by
  simp only [Dl.evE] at o
  exact o.here d _ .non
theorem k_str {x : String} {j pos} : PE X (.Constant (.str x) j pos) (tI Γ W (.str x)) := PE.weak L2.pe_str fun σ H Q ⟨A, e0, env, g, d, o⟩ => by
  simp only [Dl.evE] at o
  exact o.here d _ (.str x)
theorem get_eq {s : S} {i : Nat} {dv : DV} (h : s.get i = some dv) : s.env[i]? = some (some dv) := by
  unfold S.get at h
  cases q : s.env[i]? with
  | none => rw [q] at h; cases h
  | some o => rw [q] at h; simpa using h
/-- a name's value, kept -/
theorem k_var {i : Nat} {x : Str} {pos : Pos} (hN : X.N[i]? = some x) (hv : L2.Vis X.env.scope x) (hd : (x == ("__debug__" : Str)) = false) (hcd : (x == ("__classdict__" : Str)) = false) : PE X (.Name x pos) (tI Γ W (.var i)) := by
  refine PE.weak (pe_frz (L2.pe_var hN hv hd hcd)) fun σ H Q ⟨A, e0, env, g, d, o⟩ => ?_
  simp only [Dl.evE] at o
  split at o
  · rename_i x e
    obtain ⟨v, h1, h2⟩ := d.slot i _ (get_eq e)
    exact ⟨v, h1, .inl (o.here d v h2)⟩
  · rename_i l e
    obtain ⟨a, xs, h1, ha, h2⟩ := DI.freeze d (get_eq e)
    refine ⟨_, h1, .inr ⟨a, xs, rfl, ha, fun od => ?_⟩⟩
    obtain ⟨d2, pr, rp⟩ := h2 od
    exact o A _ (Ext.refl A) d2 pr _ rp
  · exact o.elim
/-- a name's value, looked at -/
theorem k_bor {i : Nat} {x : Str} {pos : Pos} (hN : X.N[i]? = some x) (hv : L2.Vis X.env.scope x) (hd : (x == ("__debug__" : Str)) = false) (hcd : (x == ("__classdict__" : Str)) = false) : PE X (.Name x pos) (tB Γ W (.bor i)) := by
  refine PE.weak (L2.pe_var hN hv hd hcd) fun σ H Q ⟨A, e0, env, g, d, o⟩ => ?_
  simp only [Dl.evE] at o
  split at o
  · rename_i x e
    obtain ⟨v, h1, h2⟩ := d.slot i _ (get_eq e)
    exact ⟨v, h1, o.here d v (.inl h2)⟩
  · rename_i l e
    obtain ⟨v, h1, h2⟩ := d.slot i _ (get_eq e)
    exact ⟨v, h1, o.here d v (.inr ⟨i, l, .inl (get_eq e), rfl, h1⟩)⟩
  · rename_i l e
    obtain ⟨v, h1, h2⟩ := d.slot i _ (get_eq e)
    exact ⟨v, h1, o.here d v (.inr ⟨i, l, .inr (get_eq e), rfl, h1⟩)⟩
  · exact o.elim

/-! ### two operands -/
/-- the readings of two operands, one behind the other; rd: the operation by its values -/
theorem two {a b : Ex} {rd : R2} {Q : VK} {k : D → S → Option AS → Hp → Prop} {f : D → D → S → R D}
    (d : Γ.DI A e0 env g σ H) (o : Out Γ W A e0 σ H ((Dl.evE Γ.gl Γ.call a ⟨env, g⟩).bind fun x s => (Dl.evE Γ.gl Γ.call b s).bind fun y s => f x y s) k)
    (h : ∀ (A2 : Option AS) (H2 : Hp) (x y : D) (v u : V) (s : S), Γ.DI A2 e0 s.env s.g σ H2 → RB Γ A2 H2 s.env σ v x → RB Γ A2 H2 s.env σ u y → Out Γ W A2 e0 σ H2 (f x y s) k → rd v u H2 Q) : tOp rd (tB Γ W a) (tB Γ W b) σ H Q := by
  refine ⟨A, e0, env, g, d, o.bind.imp fun x s A1 H1 _ e1 d1 p1 o1 v1 r1 => ?_⟩
  refine ⟨A1, e0, s.env, s.g, d1, o1.bind.imp fun y s2 A2 H2 q2 e2 d2 p2 o2 v2 r2 => ?_⟩
  exact h A2 H2 x y v1 v2 s2 d2 (r1.step d2 p2 e2 (Dl.evE_le b q2)) r2 o2
theorem SZ_eq : Dl.SZ = sizeLine := by rw [sizeLine_eq]
/-- a new tuple is told -/
theorem rp_new_tup {p : Addr} {xs : List V} {l : List D} (n : H p = none) (r : Rps Γ.K A H xs l) : Rp Γ.K A (upd H p (.tup xs)) (.ref p) (.tup l) := .tup (SqT.of upd_same) (Rps.per (per_new n) (Ext.refl A) r)
/-- list + list, frozen ones too -/
def rCatL (K : PySem.W.Frag) : R2 := fun x y H Q => ∃ l b xs zs, x = .ref l ∧ y = .ref b ∧ RdL K H l xs ∧ RdL K H b zs ∧ xs.length + zs.length ≤ sizeLine ∧ ∀ p, H p = none → Q (.ref p) (upd H p (.lst (xs ++ zs)))
theorem op_catL : OpR X (binaryOp .Add) (rCatL X.K) := by
  intro pins s σ H x y v u Q I rx ry h
  obtain ⟨l, b, xs, zs, rfl, rfl, hH, hB, hz, q⟩ := h
  cases rx
  cases ry
  obtain ⟨its, n, r, e⟩ := hH.ok I
  obtain ⟨its2, n2, r2, e2⟩ := hB.ok I
  have l1 := r.length
  have l2 := r2.length
  refine PySem.P.add_list e e2 ?_ (by rw [List.size_toArray, List.size_toArray]; omega)
  have ea : its.toArray ++ its2.toArray = (its ++ its2).toArray := by simp
  rw [ea]
  exact ⟨.ref _, _, I.lnew (t' := s.toks) (r.append r2) (by rw [List.length_append]; omega), rfl, q _ I.fresh⟩
theorem k_add (hK : X.K = Γ.K) {a b : Expr} {x y : Ex} {pos : Pos} (ha : PE X a (tB Γ W x)) (hb : PE X b (tB Γ W y)) : PE X (.BinOp a .Add b pos) (tF Γ W (.bin .add x y)) := by
  have hc : OpR X (binaryOp .Add) (L2.rCatA Γ.K) := hK ▸ L2.op_catA
  have hl0 : OpR X (binaryOp .Add) (rCatL Γ.K) := hK ▸ op_catL
  refine PE.weak (pe_op (OpR.or L2.op_add (OpR.or hc hl0)) ha hb) fun σ H Q ⟨A, e0, env, g, d, o⟩ => ?_
  simp only [Dl.evE, Dl.op2] at o
  refine two d o fun A2 H2 x y v u s d2 r1 r2 o2 => ?_
  unfold Dl.addD at o2
  split at o2
  · rw [r1.int, r2.int]
    exact .inl ⟨_, _, rfl, rfl, o2.here d2 _ (.inl ⟨.int _, fun _ z => nomatch z⟩)⟩
  · split at o2
    · rename_i l l' hl
      obtain ⟨a1, xs, rfl, h1, q1⟩ := r1.tup
      obtain ⟨a2, ys, rfl, h2, q2⟩ := r2.tup
      refine .inr (.inl ⟨a1, a2, xs, ys, rfl, rfl, h1, h2, ?_, fun hn => ?_, fun hn hm => ?_, fun hn hm p np => ?_⟩)
      · rw [q1.length, q2.length, ← SZ_eq]; exact hl
      · subst hn
        cases q1
        exact o2.here d2 _ (.inl ⟨.tup h2 q2, fun _ z => nomatch z⟩)
      · subst hm
        cases q2
        refine o2.here d2 _ (.inl ⟨?_, fun _ z => nomatch z⟩)
        rw [List.append_nil]
        exact .tup h1 q1
      · exact o2.end_.new d2 np _ (.inl ⟨rp_new_tup np (q1.append q2), fun _ z => nomatch z⟩)
    · exact o2.elim
  · split at o2
    · rename_i l l' hl
      obtain ⟨a1, xs, rfl, h1, q1⟩ := r1.lst d2
      obtain ⟨a2, ys, rfl, h2, q2⟩ := r2.lst d2
      refine .inr (.inr ⟨a1, a2, xs, ys, rfl, rfl, h1, h2, ?_, fun p np => ?_⟩)
      · rw [q1.length, q2.length, ← SZ_eq]; exact hl
      · exact o2.end_.new d2 np _ (.inr ⟨_, rfl, DI.frsh d2 np (q1.append q2)⟩)
    · exact o2.elim
  · exact o2.elim
theorem k_sub {a b : Expr} {x y : Ex} {pos : Pos} (ha : PE X a (tB Γ W x)) (hb : PE X b (tB Γ W y)) : PE X (.BinOp a .Sub b pos) (tF Γ W (.bin .sub x y)) := by
  refine PE.weak (pe_op L2.op_sub ha hb) fun σ H Q ⟨A, e0, env, g, d, o⟩ => ?_
  simp only [Dl.evE, Dl.op2] at o
  refine two d o fun A2 H2 x y v u s d2 r1 r2 o2 => ?_
  unfold Dl.subD at o2
  split at o2
  · rw [r1.int, r2.int]
    exact ⟨_, _, rfl, rfl, o2.here d2 _ (.inl ⟨.int _, fun _ z => nomatch z⟩)⟩
  · exact o2.elim
theorem k_fdiv {a b : Expr} {x y : Ex} {pos : Pos} (ha : PE X a (tB Γ W x)) (hb : PE X b (tB Γ W y)) : PE X (.BinOp a .FloorDiv b pos) (tF Γ W (.bin .fdiv x y)) := by
  refine PE.weak (pe_op L2.op_fdivW ha hb) fun σ H Q ⟨A, e0, env, g, d, o⟩ => ?_
  simp only [Dl.evE, Dl.op2] at o
  refine two d o fun A2 H2 x y v u s d2 r1 r2 o2 => ?_
  unfold Dl.fdivD at o2
  split at o2
  · split at o2
    · rename_i i j h
      rw [r1.int, r2.int]
      exact ⟨_, _, rfl, rfl, L2.wide_div (b := 901) h.1 (by omega) (by decide) (by decide), o2.here d2 _ (.inl ⟨.int _, fun _ z => nomatch z⟩)⟩
    · exact o2.elim
  · exact o2.elim
theorem k_mod {a b : Expr} {x y : Ex} {pos : Pos} (ha : PE X a (tB Γ W x)) (hb : PE X b (tB Γ W y)) : PE X (.BinOp a .Mod b pos) (tF Γ W (.bin .mod x y)) := by
  refine PE.weak (pe_op L2.op_mod ha hb) fun σ H Q ⟨A, e0, env, g, d, o⟩ => ?_
  simp only [Dl.evE, Dl.op2] at o
  refine two d o fun A2 H2 x y v u s d2 r1 r2 o2 => ?_
  unfold Dl.modD at o2
  split at o2
  · split at o2
    · rename_i i j h
      rw [r1.int, r2.int]
      exact ⟨_, _, rfl, rfl, h, o2.here d2 _ (.inl ⟨.int _, fun _ z => nomatch z⟩)⟩
    · exact o2.elim
  · exact o2.elim
theorem k_pow {a b : Expr} {x y : Ex} {pos : Pos} (ha : PE X a (tB Γ W x)) (hb : PE X b (tB Γ W y)) : PE X (.BinOp a .Pow b pos) (tF Γ W (.bin .pow x y)) := by
  refine PE.weak (pe_op L2.op_pow ha hb) fun σ H Q ⟨A, e0, env, g, d, o⟩ => ?_
  simp only [Dl.evE, Dl.op2] at o
  refine two d o fun A2 H2 x y v u s d2 r1 r2 o2 => ?_
  unfold Dl.powD at o2
  split at o2
  · split at o2
    · rename_i i j h
      rw [r1.int, r2.int]
      exact ⟨_, _, rfl, rfl, ⟨h.1, by omega, h.2.2⟩, o2.here d2 _ (.inl ⟨.int _, fun _ z => nomatch z⟩)⟩
    · exact o2.elim
  · exact o2.elim
theorem rep_eq {α : Type} (l : List α) : ∀ n : Nat, Dl.rep n l = (List.replicate n l).flatten
  | 0 => rfl
  | n + 1 => by rw [Dl.rep, rep_eq l n, List.replicate_succ, List.flatten_cons]
theorem rps_rep {K : PySem.W.Frag} {xs : List V} {l : List D} (r : Rps K A H xs l) : ∀ n : Nat, Rps K A H (List.replicate n xs).flatten (Dl.rep n l)
  | 0 => .nil
  | n + 1 => by rw [List.replicate_succ, List.flatten_cons, Dl.rep]; exact r.append (rps_rep r n)
/-- list * int, a frozen one too -/
def rRepL (K : PySem.W.Frag) : R2 := fun x y H Q => ∃ l k xs, x = .ref l ∧ y = .int k ∧ RdL K H l xs ∧ -(2 ^ 63) ≤ k ∧ k < 2 ^ 63 ∧ xs.length * k.toNat ≤ sizeLine ∧ ∀ p, H p = none → Q (.ref p) (upd H p (.lst (List.replicate k.toNat xs).flatten))
theorem fold_rep (l : List Value) (m : Nat) : (List.replicate m l.toArray).foldl (fun p q => p ++ q) #[] = (List.replicate m l).flatten.toArray := by
  rw [L2.foldl_rep l m []]
  rfl
theorem op_repL : OpR X (binaryOp .Mult) (rRepL X.K) := by
  intro pins s σ H x y v u Q I rx ry ⟨l, k, xs, ex, ey, hH, h1, h2, hz, q⟩
  subst ex ey
  obtain rfl : v = Value.ref l := rx
  obtain ⟨t, rfl⟩ := ry
  obtain ⟨its, n, r, e⟩ := hH.ok I
  have hl := r.length
  have small : its.toArray.size * k.toNat ≤ sizeLine := by simpa [← hl] using hz
  have line : (sizeLine : Nat) ≤ (2 ^ 63 - 1) / 8 := by decide
  have c1 : ¬ (!Builtin.List.listFitsIndex k) = true := by simp [PySem.fitsIndex_both h1 h2]
  have c2 : ¬ its.toArray.size * k.toNat > (2 ^ 63 - 1) / 8 := Nat.not_lt.mpr (Nat.le_trans small line)
  have c3 : ¬ Builtin.List.listTooLong (its.toArray.size * k.toNat) = true := by rw [L2.notLongL small]; decide
  have made : List.foldl (fun p q => p ++ q) #[] (List.replicate (if its.toArray.isEmpty = true then 0 else k.toNat) its.toArray) = (List.replicate k.toNat its).flatten.toArray := by
    rw [fold_rep]
    cases its <;> simp
  have isL : s.TypeIs (Value.ref l) "list" := ⟨_, e, rfl⟩
  have isI := PySem.typeIs_int s k t
  refine wpAny_binaryOp_repeat_ref (T := "list") (U := "int") (by decide) isL (fun s' => PySem.typeIs_int s' k t) noFill_list_mul F.fills_int_mul F.slot_int_rmul repeat_list F.slot_int_index.lookup ?_
  refine call_meets F.slot_int_rmul isI F.entry_int_rmul (F.args_int_rmul_2 _ _) (PySem.int___rmul___int_list k t l its.toArray n) ⟨e, rfl, isL, ?_⟩
  refine call_meets F.slot_list_mul isL F.entry_list_mul (F.args_list_mul_2 _ _) (AutoListH.list___mul___list_int_3 l its.toArray n k t c1 c2 c3) ⟨e, ?_⟩
  rw [made]
  refine ⟨.ref _, _, I.lnew (ys := (List.replicate k.toNat xs).flatten) (its := (List.replicate k.toNat its).flatten) (t' := s.toks) (r.rep k.toNat) ?_, rfl, q _ I.fresh⟩
  have := hz
  simpa [List.length_flatten, Nat.mul_comm] using this
end
end Ds
end
section
set_option Elab.async false
set_option Elab.async false
set_option linter.all false
set_option maxRecDepth 100000
set_option maxHeartbeats 4000000
set_option autoImplicit false
/-! SndT: tuple * 1, the empty tuple * int: the tuple itself. -/
namespace Ds
open PySem PySem.Spec PyProof.Rows
open L2 (V Hp HO upd RelV SqL SqT Cx Inv OpR R2)
theorem tuple_mul1 (l : Addr) (items : Array Value) (n : Nat) (dd : Option Addr) (sl : Array (Option Value)) (x : Int) (u : Tok) (c0 : (decide (x < -(2 ^ 63)) || decide (x ≥ 2 ^ 63)) = false) (c1 : (items.isEmpty || x == 1) = true) :
    Meets (Builtin.«tuple.__mul__» ⟨[.ref l, .int x u], []⟩) (fun _ R s => s.heap.get? l = some { cls := .type "tuple", dict := dd, data := .seq items n, slots := sl } ∧
      R (.ok (.ret (.ref l))) s) :=
  .of_wp fun prog w A R s h => by
    obtain ⟨hp, g, d, tk, os⟩ := s
    obtain ⟨hl, h⟩ := h
    have f1 := AutoSeq1.idx_int
    wp_walk using wpAny_loadPart' hl
    repeat (first
      | (refine wpAny_ite_false (decide_eq_false (by rw [c0]; exact Bool.false_ne_true)) ?_; wp_walk using wpAny_loadPart' hl)
      | (refine wpAny_ite_true (decide_eq_true c1) ?_; wp_walk using wpAny_loadPart' hl))
    exact ⟨_, rfl, h⟩
/-- tuple * int, the tuple itself -/
def rRepT1 (K : PySem.W.Frag) : R2 := fun x y H Q => ∃ l k xs, x = .ref l ∧ y = .int k ∧ SqT K H l xs ∧ (xs = [] ∨ k = 1) ∧ -(2 ^ 63) ≤ k ∧ k < 2 ^ 63 ∧ Q (.ref l) H
section
variable {X : Cx}
theorem op_repT1 : OpR X (binaryOp .Mult) (rRepT1 X.K) := by
  intro pins s σ H x y v u Q I rx ry h
  obtain ⟨l, k, xs, rfl, rfl, hT, hne, h1, h2, q⟩ := h
  cases rx
  obtain ⟨t, rfl⟩ := ry
  obtain ⟨its, r, ⟨⟨cls, dd, data, sl⟩, ho, hc, n, hd⟩, hs⟩ := I.tuple hT
  simp only at hc hd
  subst hc hd
  have hle : its.length = xs.length := r.length.symm
  have c0 : (decide (k < -(2 ^ 63)) || decide (k ≥ 2 ^ 63)) = false := by
    rw [decide_eq_false (by omega), decide_eq_false (by omega)] <;> rfl
  have c1 : (its.toArray.isEmpty || k == 1) = true := by
    rcases hne with z | z
    · subst z
      have : its = [] := List.eq_nil_of_length_eq_zero hle
      subst this
      rfl
    · subst z
      simp
  refine wpAny_binaryOp_repeat_ref (T := "tuple") (U := "int") (by decide) ⟨_, ho, rfl⟩ (fun s' => typeIs_int s' k t) L2.noFill_tuple_mul F.fills_int_mul F.slot_int_rmul L2.repeat_tuple F.slot_int_index.lookup
    (call_meets F.slot_int_rmul (typeIs_int s k t) F.entry_int_rmul (F.args_int_rmul_2 _ _) (L2.int_rmul_tuple k t l its.toArray n dd sl)
      ⟨ho, rfl, ⟨_, ho, rfl⟩, call_meets F.slot_tuple_mul ⟨_, ho, rfl⟩ F.entry_tuple_mul (F.args_tuple_mul_2 _ _) (tuple_mul1 l its.toArray n dd sl k t c0 c1) ⟨ho, ?_⟩⟩)
  exact ⟨.ref l, H, I, rfl, q⟩
end
end Ds
end
section
set_option Elab.async false
set_option Elab.async false
set_option linter.all false
set_option maxRecDepth 100000
set_option maxHeartbeats 4000000
set_option autoImplicit false
/-! Snd4: products, comparisons, data compared. -/
namespace Ds
open PySem PySem.Spec PyProof.Rows
open L2 (V Hp HO upd upd_same upd_ne RelV SqL SqT TE TA TT TS TG TI VK XK WX Cx Inv PE PA PT PS PSs Rd EP OpR tOp pe_op R2 rI rI0 Dp DpAll)
open Dl (D DV GS S R RC Ex Le)
section
variable {Γ : Gam} {W : WX} {A A' : Option AS} {e0 : Ent} {H H' : Hp} {env : List (Option DV)} {g : Option GS} {σ : List (Option V)} {X : Cx}
theorem mulOk_ok {a b : Int} (h : Dl.mulOk a b = true) : L2.CMul a b ∨ L2.CMulW a b := by
  unfold Dl.mulOk at h
  simp only [Bool.or_eq_true, Bool.and_eq_true, decide_eq_true_eq] at h
  rcases h with (h | h) | ⟨h1, h2⟩
  · exact .inl (.inl (by omega))
  · exact .inl (.inr (by omega))
  · exact .inr (L2.wide_mul h1 h2 (by decide) (by decide) (by decide))
theorem k_mul (hK : X.K = Γ.K) {a b : Expr} {x y : Ex} {pos : Pos} (ha : PE X a (tB Γ W x)) (hb : PE X b (tB Γ W y)) : PE X (.BinOp a .Mult b pos) (tF Γ W (.bin .mul x y)) := by
  have hc : OpR X (binaryOp .Mult) (L2.rRepT Γ.K) := hK ▸ L2.op_repT
  have hc1 : OpR X (binaryOp .Mult) (rRepT1 Γ.K) := hK ▸ op_repT1
  refine PE.weak (pe_op (OpR.or (OpR.or L2.op_mul L2.op_mulW) (OpR.or (OpR.or hc hc1) op_repL)) ha hb) fun σ H Q ⟨A, e0, env, g, d, o⟩ => ?_
  simp only [Dl.evE, Dl.op2] at o
  refine two d o fun A2 H2 x y v u s d2 r1 r2 o2 => ?_
  unfold Dl.mulD at o2
  split at o2
  · split at o2
    · rename_i i j h
      rw [r1.int, r2.int]
      rcases mulOk_ok h with h | h
      · exact .inl (.inl ⟨_, _, rfl, rfl, h, o2.here d2 _ (.inl ⟨.int _, fun _ z => nomatch z⟩)⟩)
      · exact .inl (.inr ⟨_, _, rfl, rfl, h, o2.here d2 _ (.inl ⟨.int _, fun _ z => nomatch z⟩)⟩)
    · exact o2.elim
  · split at o2
    · rename_i l n h0
      split at o2
      · rename_i h
        obtain ⟨a1, xs, rfl, h1, q1⟩ := r1.tup
        rw [r2.int]
        have e := q1.length
        refine .inr (.inl (.inr ⟨a1, n, xs, rfl, rfl, h1, ?_, by omega, by omega, o2.here d2 _ (.inl ⟨.tup h1 q1, fun _ z => nomatch z⟩)⟩))
        rcases h0 with z | z
        · subst z
          cases q1
          exact .inl rfl
        · exact .inr z
      · exact o2.elim
    · rename_i l n h0
      split at o2
      · rename_i h
        obtain ⟨a1, xs, rfl, h1, q1⟩ := r1.tup
        rw [r2.int]
        have e := q1.length
        refine .inr (.inl (.inl ⟨a1, n, xs, rfl, rfl, h1, ?_, h.1, h.2.1, by omega, fun p np => ?_⟩))
        · intro z
          subst z
          cases q1
          exact h0 (.inl rfl)
        · exact o2.end_.new d2 np _ (.inl ⟨rp_new_tup np (rps_rep q1 _), fun _ z => nomatch z⟩)
      · exact o2.elim
  · split at o2
    · rename_i l n h
      obtain ⟨a1, xs, rfl, h1, q1⟩ := r1.lst d2
      rw [r2.int]
      have e := q1.length
      refine .inr (.inr ⟨a1, n, xs, rfl, rfl, hK ▸ h1, by omega, by omega, ?_, fun p np => ?_⟩)
      · rw [e, ← SZ_eq]; exact h.2.2
      · exact o2.end_.new d2 np _ (.inr ⟨_, rfl, DI.frsh d2 np (rps_rep q1 _)⟩)
    · exact o2.elim
  · exact o2.elim

/-! ### data as the library has it -/
mutual
def py : D → PyData
  | .non => .none
  | .bl b => .bool b
  | .int i => .int i
  | .str s => .str (Str.ofString s)
  | .tup l => .tuple (pys l)
  | .lst l => .list (pys l)
  | .hnd => .none
  | .dct _ _ => .none
def pys : List D → List PyData
  | [] => []
  | a :: l => py a :: pys l
end
mutual
theorem Rp.dp {K : PySem.W.Frag} : ∀ {v : V} {d : D}, Rp K A H v d → d.dep < 1000 → Dp K H v (py d)
  | _, _, .non, _ => .non
  | _, _, .bl b, _ => .bl b
  | _, _, .int i, _ => .int i
  | _, _, .str s, _ => .str _
  | _, _, .tup h q, hd => .tup h (Rps.dp q (by simp only [D.dep] at hd; omega))
  | _, _, .lst h q, hd => .lst h.sq (Rps.dp q (by simp only [D.dep] at hd; omega))
  | _, _, .hnd h, hd => by simp only [D.dep] at hd; omega
  | _, _, .dct _ _ _, hd => by simp only [D.dep] at hd; omega
theorem Rps.dp {K : PySem.W.Frag} : ∀ {vs : List V} {ds : List D}, Rps K A H vs ds → D.deps ds < 1000 → DpAll K H vs (pys ds)
  | _, _, .nil, _ => .nil
  | _, _, .cons r q, hd => .cons (Rp.dp r (by simp only [D.deps] at hd; omega)) (Rps.dp q (by simp only [D.deps] at hd; omega))
end
theorem RB.dp {v : V} {d : D} (r : RB Γ A H env σ v d) (di : Γ.DI A e0 env g σ H) (hd : d.dep < 1000) : Dp Γ.K H v (py d) := by
  cases d with
  | lst l =>
    obtain ⟨a, xs, rfl, h, q⟩ := r.lst di
    exact .lst h.sq (Rps.dp q (by simp only [D.dep] at hd; omega))
  | _ => exact Rp.dp (r.rp (fun _ z => (nomatch z))) hd
theorem ofString_inj {a b : String} (h : Str.ofString a = Str.ofString b) : a = b := by
  have e : cpsOfBytes 0 0 a.toByteArray.data.toList = cpsOfBytes 0 0 b.toByteArray.data.toList := by
    have := congrArg (fun s => s.cps.toList) h
    simpa [Str.ofString] using this
  rw [cpsOfBytes_string, cpsOfBytes_string] at e
  have key : ∀ l r : List Char, l.map Char.toNat = r.map Char.toNat → l = r := by
    intro l
    induction l with
    | nil =>
      intro r q
      cases r with
      | nil => rfl
      | cons c r => simp at q
    | cons c l ih =>
      intro r q
      cases r with
      | nil => simp at q
      | cons d r =>
        simp only [List.map_cons, List.cons.injEq] at q
        have : c.val = d.val := UInt32.toNat_inj.mp q.1
        rw [Char.ext this, ih r q.2]
  have := key _ _ e
  exact String.toList_inj.mp this
theorem ofString_eq (a b : String) : decide (Str.ofString a = Str.ofString b) = (a == b) := by
  by_cases h : a = b
  · subst h; simp
  · rw [decide_eq_false fun q => h (ofString_inj q)]
    exact (beq_eq_false_iff_ne.mpr h).symm
theorem str_beq (a b : String) : (Str.ofString a == Str.ofString b) = (a == b) := by
  by_cases h : a = b
  · subst h; simp
  · rw [beq_eq_false_iff_ne.mpr h]
    exact beq_eq_false_iff_ne.mpr fun q => h (ofString_inj q)
mutual
theorem eqv_py : ∀ (a b : D), a.dep < 1000 → b.dep < 1000 → PyData.eqv (py a) (py b) = D.eqv a b
  | .non, b, _, hb => by cases b <;> simp_all [py, PyData.eqv, D.eqv, D.dep]
  | .bl x, b, _, hb => by cases b <;> simp_all [py, PyData.eqv, D.eqv, D.dep, Dl.b2i]
  | .int x, b, _, hb => by cases b <;> simp_all [py, PyData.eqv, D.eqv, D.dep, Dl.b2i]
  | .str x, b, _, hb => by cases b <;> simp_all [py, PyData.eqv, D.eqv, D.dep, str_beq]
  | .tup l, b, ha, hb => by
    cases b with
    | tup r => simp only [py, PyData.eqv, D.eqv]; simp only [D.dep] at ha hb; exact eqvs_py l r (by omega) (by omega)
    | _ => simp_all [py, PyData.eqv, D.eqv, D.dep]
  | .lst l, b, ha, hb => by
    cases b with
    | lst r => simp only [py, PyData.eqv, D.eqv]; simp only [D.dep] at ha hb; exact eqvs_py l r (by omega) (by omega)
    | _ => simp_all [py, PyData.eqv, D.eqv, D.dep]
  | .hnd, b, ha, hb => by simp [D.dep] at ha
  | .dct _ _, b, ha, hb => by simp [D.dep] at ha
theorem eqvs_py : ∀ (a b : List D), D.deps a < 1000 → D.deps b < 1000 → PyData.eqvAll (pys a) (pys b) = D.eqvs a b
  | [], [], _, _ => by simp [pys, PyData.eqvAll, D.eqvs]
  | [], _ :: _, _, _ => by simp [pys, PyData.eqvAll, D.eqvs]
  | _ :: _, [], _, _ => by simp [pys, PyData.eqvAll, D.eqvs]
  | a :: l, b :: r, ha, hb => by
    simp only [D.deps] at ha hb
    simp only [pys, PyData.eqvAll, D.eqvs]
    rw [eqv_py a b (by omega) (by omega), eqvs_py l r (by omega) (by omega)]
end
theorem strOk_of (s : String) : PySem.PyData.strOk (Str.ofString s) = true := by
  unfold PySem.PyData.strOk
  have e : (Str.ofString s).cps = (s.toList.map Char.toNat).toArray := by
    unfold Str.ofString
    simp only [cpsOfBytes_string]
  rw [e]
  rw [Array.all_eq_true']
  intro c hc
  simp only [List.mem_toArray, List.mem_map] at hc
  obtain ⟨x, _, rfl⟩ := hc
  have := x.valid
  simp only [UInt32.isValidChar, Nat.isValidChar] at this
  have e2 : x.toNat = x.val.toNat := rfl
  rw [e2]
  exact decide_eq_true (by omega)
mutual
theorem dep_py : ∀ (a : D), a.dep < 1000 → (py a).depth = a.dep ∧ (py a).canLay0 = true
  | .non, _ => by simp [py, PyData.depth, D.dep, PyData.canLay0]
  | .bl _, _ => by simp [py, PyData.depth, D.dep, PyData.canLay0]
  | .int _, _ => by simp [py, PyData.depth, D.dep, PyData.canLay0]
  | .str x, _ => by simp [py, PyData.depth, D.dep, PyData.canLay0, strOk_of]
  | .tup l, h => by
    simp only [D.dep] at h
    have q := deps_py l (by omega)
    simp [py, PyData.depth, D.dep, PyData.canLay0, q.1, q.2]
  | .lst l, h => by
    simp only [D.dep] at h
    have q := deps_py l (by omega)
    simp [py, PyData.depth, D.dep, PyData.canLay0, q.1, q.2]
  | .hnd, h => by simp [D.dep] at h
  | .dct _ _, h => by simp [D.dep] at h
theorem deps_py : ∀ (l : List D), D.deps l < 1000 → PyData.depthAll (pys l) = D.deps l ∧ PyData.canLayAll0 (pys l) = true
  | [], _ => by simp [pys, PyData.depthAll, D.deps, PyData.canLayAll0]
  | a :: l, h => by
    simp only [D.deps] at h
    have q := dep_py a (by omega)
    have r := deps_py l (by omega)
    simp [pys, PyData.depthAll, D.deps, PyData.canLayAll0, q.1, q.2, r.1, r.2]
end
theorem shp_ok {a : D} (h : a.shp = true) : a.dep < 1000 ∧ SeqAt.shaped (py a) = true := by
  unfold D.shp at h
  have h := of_decide_eq_true h
  have q := dep_py a (by omega)
  refine ⟨by omega, ?_⟩
  unfold SeqAt.shaped
  rw [q.1, q.2]
  simpa using h
end
end Ds
end
section
set_option Elab.async false
set_option Elab.async false
set_option linter.all false
set_option maxRecDepth 100000
set_option maxHeartbeats 4000000
set_option autoImplicit false
/-! Snd5: comparisons and tests. -/
namespace Ds
open PySem PySem.Spec PyProof.Rows
open L2 (V Hp HO upd upd_same upd_ne RelV SqL SqT TE TA TT TS TG TI VK XK WX Cx Inv PE PA PT PS PSs PW Rd EP OpR tOp pe_op R2 rI rI0 Dp DpAll Room)
open Dl (D DV GS S R RC Ex Le)
section
variable {Γ : Gam} {W : WX} {A A' : Option AS} {e0 : Ent} {H H' : Hp} {env : List (Option DV)} {g : Option GS} {σ : List (Option V)} {X : Cx}
/-- what a comparison's rule must serve -/
def Serves (Γ : Gam) (o : Dl.Cmp) (r : R2) : Prop := ∀ (A2 : Option AS) (e0 : Ent) (env : List (Option DV)) (g : Option GS) (σ : List (Option V)) (H2 : Hp) (x y : D) (v u : V) (c : Bool) (Q : VK),
  Γ.DI A2 e0 env g σ H2 → RB Γ A2 H2 env σ v x → RB Γ A2 H2 env σ u y → Dl.cmp2 o x y = some c → Q (.bl c) H2 → r v u H2 Q
theorem cmp_out {o : Dl.Cmp} {x y : Ex} {k : D → S → Option AS → Hp → Prop} {r : R2} {Q : VK} (hs : Serves Γ o r) (d : Γ.DI A e0 env g σ H) (ou : Out Γ W A e0 σ H (Dl.evE Γ.gl Γ.call (.cmp o x y) ⟨env, g⟩) k)
    (hq : ∀ b s A' H', Γ.DI A' e0 s.env s.g σ H' → k (.bl b) s A' H' → Q (.bl b) H') : tOp r (tB Γ W x) (tB Γ W y) σ H Q := by
  simp only [Dl.evE] at ou
  refine two d ou fun A2 H2 x y v u s d2 r1 r2 o2 => ?_
  cases e : Dl.cmp2 o x y with
  | none => rw [e] at o2; exact o2.elim
  | some c =>
    rw [e] at o2
    exact hs A2 e0 s.env s.g σ H2 x y v u c Q d2 r1 r2 e (hq c s A2 H2 d2 (Out.here (a := D.bl c) (s := s) o2 d2))
theorem k_cmp {op : CmpOp} {o : Dl.Cmp} {r : R2} {a b : Expr} {x y : Ex} {pos : Pos} (ho : OpR X (compareOp op) r) (hs : Serves Γ o r) (hm : behindInMarks op b = false) (ha : PE X a (tB Γ W x)) (hb : PE X b (tB Γ W y)) :
    PE X (.Compare a [op] [b] pos) (tI Γ W (.cmp o x y)) :=
  PE.weak (L2.pe_cmpR ho ha hb hm) fun σ H Q ⟨A, e0, env, g, d, ou⟩ => cmp_out hs d ou fun b s A' H' _ k => k _ (.bl b)
theorem q_cmp {op : CmpOp} {o : Dl.Cmp} {r : R2} {a b : Expr} {x y : Ex} {pos : Pos} (ho : OpR X (compareOp op) r) (hs : Serves Γ o r) (hm : behindInMarks op b = false) (ha : PE X a (tB Γ W x)) (hb : PE X b (tB Γ W y)) :
    PT X (.Compare a [op] [b] pos) (tT Γ W (.cmp o x y)) :=
  PT.weak (L2.pt_cmpR ho ha hb hm) fun σ H Q ⟨A, e0, env, g, d, ou⟩ => cmp_out (Q := fun x H' => ∃ k, x = .bl k ∧ Q k H') hs d ou fun b s A' H' _ ⟨c, e, q⟩ => by
    cases e
    exact ⟨b, rfl, q⟩
/-! the rules -/
theorem s_eq : Serves Γ .eq (L2.rEqD Γ.K) := fun A2 e0 env g σ H2 x y v u c Q d r1 r2 e q => by
  simp only [Dl.cmp2, Dl.eqD] at e
  split at e
  · rename_i h
    rw [Bool.and_eq_true] at h
    obtain ⟨l1, s1⟩ := shp_ok h.1
    obtain ⟨l2, s2⟩ := shp_ok h.2
    refine ⟨py x, py y, r1.dp d l1, r2.dp d l2, s1, s2, ?_⟩
    rw [eqv_py x y l1 l2]
    rw [Option.some.inj e]; exact q
  · cases e
theorem s_ne : Serves Γ .ne (L2.rNeD Γ.K) := fun A2 e0 env g σ H2 x y v u c Q d r1 r2 e q => by
  simp only [Dl.cmp2, Dl.eqD] at e
  split at e
  · rename_i h
    rw [Bool.and_eq_true] at h
    obtain ⟨l1, s1⟩ := shp_ok h.1
    obtain ⟨l2, s2⟩ := shp_ok h.2
    refine ⟨py x, py y, r1.dp d l1, r2.dp d l2, s1, s2, ?_⟩
    rw [eqv_py x y l1 l2]
    simp only [Option.map_some, Option.some.injEq] at e
    rw [e]; exact q
  · cases e
/-- tuples of intz in their order -/
theorem rps_ints {K : PySem.W.Frag} : ∀ {vs : List V} {l : List D} {ns : List Int}, Rps K A H vs l → Dl.intz l = some ns → vs = ns.map V.int
  | _, _, ns, .nil, h => by
    simp only [Dl.intz] at h
    cases h
    rfl
  | _, _, ns, .cons (d := d) (ds := ds) r q, h => by
    cases d with
    | int i =>
      simp only [Dl.intz] at h
      cases e : Dl.intz ds with
      | none => rw [e] at h; cases h
      | some ms =>
        rw [e] at h
        cases h
        cases r
        rw [rps_ints q e]
        rfl
    | _ => simp only [Dl.intz] at h; cases h
theorem lex_eq : ∀ a b : List Int, HT.lexLt a b = Dl.lexI a b
  | [], [] => rfl
  | [], _ :: _ => rfl
  | _ :: _, [] => rfl
  | a :: l, b :: r => by
    rw [HT.lexLt_cons, Dl.lexI, lex_eq l r]
/-- < of two tuples of intz -/
theorem s_lt : Serves Γ .lt (fun x y H Q => rI0 (fun i j => V.bl (decide (i < j))) x y H Q ∨ L2.rLtT Γ.K x y H Q) := fun A2 e0 env g σ H2 x y v u c Q d r1 r2 e q => by
  simp only [Dl.cmp2] at e
  unfold Dl.ltD at e
  split at e
  · cases e
    rw [r1.int, r2.int]
    exact .inl ⟨_, _, rfl, rfl, q⟩
  · rename_i l r
    split at e
    · rename_i ns ms e1 e2
      cases e
      obtain ⟨a1, xs, rfl, h1, q1⟩ := r1.tup
      obtain ⟨a2, ys, rfl, h2, q2⟩ := r2.tup
      have z1 := rps_ints q1 e1
      have z2 := rps_ints q2 e2
      subst z1 z2
      refine .inr ⟨a1, a2, ns, ms, rfl, rfl, h1, h2, ?_⟩
      rw [lex_eq]; exact q
    · cases e
  · cases e
theorem s_le : Serves Γ .le (rI0 fun i j => V.bl (decide (i ≤ j))) := fun A2 e0 env g σ H2 x y v u c Q d r1 r2 e q => by
  simp only [Dl.cmp2] at e
  unfold Dl.leD at e
  split at e
  · cases e
    rw [r1.int, r2.int]
    exact ⟨_, _, rfl, rfl, q⟩
  · cases e
theorem s_gt : Serves Γ .gt (rI0 fun i j => V.bl (decide (j < i))) := fun A2 e0 env g σ H2 x y v u c Q d r1 r2 e q => by
  simp only [Dl.cmp2] at e
  unfold Dl.gtD at e
  split at e
  · cases e
    rw [r1.int, r2.int]
    exact ⟨_, _, rfl, rfl, q⟩
  · cases e
theorem s_ge : Serves Γ .ge (rI0 fun i j => V.bl (decide (j ≤ i))) := fun A2 e0 env g σ H2 x y v u c Q d r1 r2 e q => by
  simp only [Dl.cmp2] at e
  unfold Dl.geD at e
  split at e
  · cases e
    rw [r1.int, r2.int]
    exact ⟨_, _, rfl, rfl, q⟩
  · cases e
theorem any_py (x : D) (hx : x.dep < 1000) : ∀ l : List D, D.deps l < 1000 → ((pys l).any fun z => PyData.eqv z (py x)) = Dl.anyEqv x l
  | [], _ => rfl
  | a :: l, h => by
    simp only [D.deps] at h
    simp only [pys, List.any_cons, Dl.anyEqv]
    rw [eqv_py a x (by omega) hx, any_py x hx l (by omega)]
/-- in a list or a tuple of data -/
def rInT (K : PySem.W.Frag) : R2 := fun x y H Q => ∃ d ds, Dp K H x d ∧ Dp K H y (.tuple ds) ∧ SeqAt.shaped d = true ∧ SeqAt.shaped (.list ds) = true ∧ Q (.bl (ds.any fun z => PyData.eqv z d)) H
def rNinT (K : PySem.W.Frag) : R2 := fun x y H Q => ∃ d ds, Dp K H x d ∧ Dp K H y (.tuple ds) ∧ SeqAt.shaped d = true ∧ SeqAt.shaped (.list ds) = true ∧ Q (.bl (!ds.any fun z => PyData.eqv z d)) H
theorem s_inn : Serves Γ .inn (fun x y H Q => L2.rInD Γ.K x y H Q ∨ rInT Γ.K x y H Q) := fun A2 e0 env g σ H2 x y v u c Q d r1 r2 e q => by
  simp only [Dl.cmp2] at e
  unfold Dl.inD at e
  split at e
  · split at e
    · rename_i l h
      rw [Bool.and_eq_true] at h
      obtain ⟨l1, s1⟩ := shp_ok h.1
      obtain ⟨l2, s2⟩ := shp_ok h.2
      have l3 : (D.tup l).dep < 1000 := by simpa only [D.dep] using l2
      refine .inr ⟨py x, pys l, r1.dp d l1, by simpa only [py] using r2.dp d l3, s1, by simpa only [py] using s2, ?_⟩
      simp only [D.dep] at l2
      rw [any_py x l1 l (by omega), Option.some.inj e]; exact q
    · cases e
  · split at e
    · rename_i l h
      rw [Bool.and_eq_true] at h
      obtain ⟨l1, s1⟩ := shp_ok h.1
      obtain ⟨l2, s2⟩ := shp_ok h.2
      refine .inl ⟨py x, pys l, r1.dp d l1, by simpa only [py] using r2.dp d l2, s1, by simpa only [py] using s2, ?_⟩
      simp only [D.dep] at l2
      rw [any_py x l1 l (by omega), Option.some.inj e]; exact q
    · cases e
  · cases e
theorem s_nin : Serves Γ .nin (fun x y H Q => L2.rNotInD Γ.K x y H Q ∨ rNinT Γ.K x y H Q) := fun A2 e0 env g σ H2 x y v u c Q d r1 r2 e q => by
  simp only [Dl.cmp2] at e
  unfold Dl.inD at e
  split at e
  · split at e
    · rename_i l h
      rw [Bool.and_eq_true] at h
      obtain ⟨l1, s1⟩ := shp_ok h.1
      obtain ⟨l2, s2⟩ := shp_ok h.2
      have l3 : (D.tup l).dep < 1000 := by simpa only [D.dep] using l2
      refine .inr ⟨py x, pys l, r1.dp d l1, by simpa only [py] using r2.dp d l3, s1, by simpa only [py] using s2, ?_⟩
      simp only [D.dep] at l2
      simp only [Option.map_some, Option.some.injEq] at e
      rw [any_py x l1 l (by omega), e]; exact q
    · cases e
  · split at e
    · rename_i l h
      rw [Bool.and_eq_true] at h
      obtain ⟨l1, s1⟩ := shp_ok h.1
      obtain ⟨l2, s2⟩ := shp_ok h.2
      refine .inl ⟨py x, pys l, r1.dp d l1, by simpa only [py] using r2.dp d l2, s1, by simpa only [py] using s2, ?_⟩
      simp only [D.dep] at l2
      simp only [Option.map_some, Option.some.injEq] at e
      rw [any_py x l1 l (by omega), e]; exact q
    · cases e
  · cases e
theorem op_inT (hu : X.A.units + 65 < cLine) : OpR X (compareOp .In) (rInT X.K) := by
  intro pins s σ H x y v u Q I rx ry ⟨d, ds, hd, he, sd, se, q⟩
  obtain ⟨as, r1⟩ := L2.Dp.reads I d x v hd rx
  obtain ⟨bs, r2⟩ := L2.Dp.reads I (.tuple ds) y u he ry
  exact SeqAt.in_tuple_reads r2 r1 (SeqAt.canLay_of_shaped se) (SeqAt.canLay_of_shaped sd) (room_in_shaped sd hu) ⟨.bl _, H, I, rfl, q⟩
theorem op_ninT (hu : X.A.units + 65 < cLine) : OpR X (compareOp .NotIn) (rNinT X.K) := by
  intro pins s σ H x y v u Q I rx ry ⟨d, ds, hd, he, sd, se, q⟩
  obtain ⟨as, r1⟩ := L2.Dp.reads I d x v hd rx
  obtain ⟨bs, r2⟩ := L2.Dp.reads I (.tuple ds) y u he ry
  exact SeqAt.notIn_tuple_reads r2 r1 (SeqAt.canLay_of_shaped se) (SeqAt.canLay_of_shaped sd) (room_in_shaped sd hu) ⟨.bl _, H, I, rfl, q⟩
theorem s_is : Serves Γ .is_ (fun x y H Q => ∃ a b, x = .bl a ∧ y = .bl b ∧ Q (.bl (decide (a = b))) H) := fun A2 e0 env g σ H2 x y v u c Q d r1 r2 e q => by
  simp only [Dl.cmp2] at e
  unfold Dl.isD at e
  split at e
  · cases e
    rw [r1.bl, r2.bl]
    exact ⟨_, _, rfl, rfl, q⟩
  · cases e
theorem s_isn : Serves Γ .isn (fun x y H Q => ∃ a b, x = .bl a ∧ y = .bl b ∧ Q (.bl (!decide (a = b))) H) := fun A2 e0 env g σ H2 x y v u c Q d r1 r2 e q => by
  simp only [Dl.cmp2] at e
  unfold Dl.isD at e
  split at e
  · cases e
    rw [r1.bl, r2.bl]
    exact ⟨_, _, rfl, rfl, q⟩
  · cases e
/-- every comparison, by its name -/
def cmpOf : CmpOp → Option Dl.Cmp
  | .Eq => some .eq
  | .NotEq => some .ne
  | .Lt => some .lt
  | .LtE => some .le
  | .Gt => some .gt
  | .GtE => some .ge
  | .In => some .inn
  | .NotIn => some .nin
  | .Is => some .is_
  | .IsNot => some .isn
theorem op_of (hK : X.K = Γ.K) (hu : X.A.units + 65 < cLine) {op : CmpOp} {o : Dl.Cmp} (h : cmpOf op = some o) : ∃ r, OpR X (compareOp op) r ∧ Serves Γ o r := by
  cases op <;> simp only [cmpOf] at h <;> cases h
  · exact ⟨_, hK ▸ L2.op_eqD (by omega), s_eq⟩
  · exact ⟨_, hK ▸ L2.op_neD (by omega), s_ne⟩
  · exact ⟨_, OpR.or L2.op_lt (hK ▸ L2.op_ltT (by omega)), s_lt⟩
  · exact ⟨_, L2.op_le, s_le⟩
  · exact ⟨_, L2.op_gt, s_gt⟩
  · exact ⟨_, L2.op_ge, s_ge⟩
  · exact ⟨_, L2.op_is_bl, s_is⟩
  · exact ⟨_, L2.op_isnot_bl, s_isn⟩
  · exact ⟨_, OpR.or (hK ▸ L2.op_inD hu) (hK ▸ op_inT hu), s_inn⟩
  · exact ⟨_, OpR.or (hK ▸ L2.op_notInD hu) (hK ▸ op_ninT hu), s_nin⟩
/-! ### a < b < c -/
theorem chain_out {o p : Dl.Cmp} {x y z : Ex} {k : D → S → Option AS → Hp → Prop} {r r' : R2} {Q : VK} (hs : Serves Γ o r) (hs' : Serves Γ p r') (d : Γ.DI A e0 env g σ H)
    (ou : Out Γ W A e0 σ H (Dl.evE Γ.gl Γ.call (.chain o p x y z) ⟨env, g⟩) k) (hq : ∀ b s A' H', Γ.DI A' e0 s.env s.g σ H' → k (.bl b) s A' H' → Q (.bl b) H') : L2.tChain r r' (tB Γ W x) (tB Γ W y) (tB Γ W z) σ H Q := by
  simp only [Dl.evE] at ou
  refine ⟨A, e0, env, g, d, ou.bind.imp fun x s A1 H1 _ e1 d1 p1 o1 v1 r1 => ?_⟩
  refine ⟨A1, e0, s.env, s.g, d1, o1.bind.imp fun y s2 A2 H2 q2 e2 d2 p2 o2 v2 r2 => ?_⟩
  have r1' := r1.step d2 p2 e2 (Dl.evE_le _ q2)
  cases e : Dl.cmp2 o x y with
  | none => simp only [e] at o2; exact o2.elim
  | some c =>
    simp only [e] at o2
    refine hs A2 e0 s2.env s2.g σ H2 x y v1 v2 c _ d2 r1' r2 e ⟨c, rfl, ?_⟩
    cases c with
    | false => exact hq false s2 A2 H2 d2 (Out.here (a := D.bl false) (s := s2) o2 d2)
    | true =>
      refine ⟨A2, e0, s2.env, s2.g, d2, o2.bind.imp fun z s3 A3 H3 q3 e3 d3 p3 o3 v3 r3 => ?_⟩
      have r2' := r2.step d3 p3 e3 (Dl.evE_le _ q3)
      cases f : Dl.cmp2 p y z with
      | none => rw [f] at o3; exact o3.elim
      | some c =>
        rw [f] at o3
        exact hs' A3 e0 s3.env s3.g σ H3 y z v2 v3 c Q d3 r2' r3 f (hq c s3 A3 H3 d3 (Out.here (a := D.bl c) (s := s3) o3 d3))
theorem k_chain {op op' : CmpOp} {o p : Dl.Cmp} {r r' : R2} {a b c : Expr} {x y z : Ex} {pos : Pos} (ho : OpR X (compareOp op) r) (ho' : OpR X (compareOp op') r') (hs : Serves Γ o r) (hs' : Serves Γ p r')
    (hm : lastMarks [op, op'] [b, c] = false) (ha : PE X a (tB Γ W x)) (hb : PE X b (tB Γ W y)) (hc : PE X c (tB Γ W z)) : PE X (.Compare a [op, op'] [b, c] pos) (tI Γ W (.chain o p x y z)) :=
  PE.weak (L2.pe_chain ho ho' ha hb hc hm) fun σ H Q ⟨A, e0, env, g, d, ou⟩ => chain_out hs hs' d ou fun b s A' H' _ k => k _ (.bl b)
theorem q_chain {op op' : CmpOp} {o p : Dl.Cmp} {r r' : R2} {a b c : Expr} {x y z : Ex} {pos : Pos} (ho : OpR X (compareOp op) r) (ho' : OpR X (compareOp op') r') (hs : Serves Γ o r) (hs' : Serves Γ p r')
    (hm : lastMarks [op, op'] [b, c] = false) (ha : PE X a (tB Γ W x)) (hb : PE X b (tB Γ W y)) (hc : PE X c (tB Γ W z)) : PT X (.Compare a [op, op'] [b, c] pos) (tT Γ W (.chain o p x y z)) :=
  PT.weak (L2.pt_chain ho ho' ha hb hc hm) fun σ H Q ⟨A, e0, env, g, d, ou⟩ => chain_out (Q := fun x H' => ∃ k, x = .bl k ∧ Q k H') hs hs' d ou fun b s A' H' _ ⟨c, e, q⟩ => by
    cases e
    exact ⟨b, rfl, q⟩
/-! ### and, or, not, if -/
theorem ite_t {c : Prop} [Decidable c] {p q : Prop} (hc : c) (h : p) : if c then p else q := by rw [if_pos hc]; exact h
theorem ite_f {c : Prop} [Decidable c] {p q : Prop} (hc : ¬ c) (h : q) : if c then p else q := by rw [if_neg hc]; exact h
theorem PW.weak {e : Expr} {te te' : TT} (h : PW X e te) (w : ∀ σ H Q, te' σ H Q → te σ H Q) : PW X e te' := ⟨fun wh pins s σ H Q I q => h.run wh pins s σ H Q I (w σ H Q q)⟩
/-- a value that is a test -/
theorem q_val {e : Expr} {x : Ex} (h : PE X e (tI Γ W x)) (he : ∀ whole, isTrue e X.env whole = (do let v ← whole; standAt e.pos; holding [v] (truthy v))) : PT X e (tT Γ W x) :=
  PT.weak (L2.pt_val h he) fun σ H Q ⟨A, e0, env, g, d, ou⟩ => ⟨A, e0, env, g, d, ou.imp fun x s A' H' _ _ _ _ ⟨b, e, q⟩ v r => by
    subst e
    cases r
    exact ⟨b, rfl, q⟩⟩
theorem q_and {a b : Expr} {rest : List Expr} {x y : Ex} {pos : Pos} (ha : PT X a (tT Γ W x)) (hb : PW X (.BoolOp .And (b :: rest) pos) (tT Γ W y)) : PW X (.BoolOp .And (a :: b :: rest) pos) (tT Γ W (.and x y)) := by
  refine PW.weak (L2.pw_and ha hb) fun σ H Q ⟨A, e0, env, g, d, ou⟩ => ?_
  simp only [Dl.evE] at ou
  refine ⟨A, e0, env, g, d, ou.bind.imp fun x s A1 H1 _ e1 d1 p1 o1 => ?_⟩
  split at o1
  · exact ⟨true, rfl, ite_t rfl (⟨A1, e0, s.env, s.g, d1, o1⟩)⟩
  · obtain ⟨c, e, q⟩ := Out.here (a := D.bl false) (s := s) o1 d1
    cases e
    exact ⟨false, rfl, ite_f (by decide) q⟩
  · exact o1.elim
theorem q_or {a b : Expr} {rest : List Expr} {x y : Ex} {pos : Pos} (ha : PT X a (tT Γ W x)) (hb : PW X (.BoolOp .Or (b :: rest) pos) (tT Γ W y)) : PW X (.BoolOp .Or (a :: b :: rest) pos) (tT Γ W (.or x y)) := by
  refine PW.weak (L2.pw_or ha hb) fun σ H Q ⟨A, e0, env, g, d, ou⟩ => ?_
  simp only [Dl.evE] at ou
  refine ⟨A, e0, env, g, d, ou.bind.imp fun x s A1 H1 _ e1 d1 p1 o1 => ?_⟩
  split at o1
  · obtain ⟨c, e, q⟩ := Out.here (a := D.bl true) (s := s) o1 d1
    cases e
    exact ⟨true, rfl, ite_t rfl q⟩
  · exact ⟨false, rfl, ite_f (by decide) (⟨A1, e0, s.env, s.g, d1, o1⟩)⟩
  · exact o1.elim
theorem q_not {a : Expr} {x : Ex} {pos : Pos} (ha : PT X a (tT Γ W x)) : PT X (.UnaryOp .Not a pos) (tT Γ W (.not x)) := by
  refine PT.weak (L2.pt_not ha) fun σ H Q ⟨A, e0, env, g, d, ou⟩ => ?_
  simp only [Dl.evE] at ou
  refine ⟨A, e0, env, g, d, ou.bind.imp fun x s A1 H1 _ e1 d1 p1 o1 => ?_⟩
  split at o1
  · rename_i b _
    obtain ⟨c, e, q⟩ := Out.here (a := D.bl (!b)) (s := s) o1 d1
    cases e
    exact ⟨b, rfl, q⟩
  · exact o1.elim
theorem k_and {a b : Expr} {rest : List Expr} {x y : Ex} {pos : Pos} (ha : PE X a (tI Γ W x)) (hb : PE X (.BoolOp .And (b :: rest) pos) (tI Γ W y)) : PE X (.BoolOp .And (a :: b :: rest) pos) (tI Γ W (.and x y)) := by
  refine PE.weak (L2.pe_and ha hb) fun σ H Q ⟨A, e0, env, g, d, ou⟩ => ?_
  simp only [Dl.evE] at ou
  refine ⟨A, e0, env, g, d, ou.bind.imp fun x s A1 H1 _ e1 d1 p1 o1 v r => ?_⟩
  split at o1
  · cases r
    exact ⟨true, rfl, ite_t rfl (⟨A1, e0, s.env, s.g, d1, o1⟩)⟩
  · cases r
    exact ⟨false, rfl, ite_f (by decide) (Out.here (a := D.bl false) (s := s) o1 d1 _ (.bl false))⟩
  · exact o1.elim
theorem k_or {a b : Expr} {rest : List Expr} {x y : Ex} {pos : Pos} (ha : PE X a (tI Γ W x)) (hb : PE X (.BoolOp .Or (b :: rest) pos) (tI Γ W y)) : PE X (.BoolOp .Or (a :: b :: rest) pos) (tI Γ W (.or x y)) := by
  refine PE.weak (L2.pe_or ha hb) fun σ H Q ⟨A, e0, env, g, d, ou⟩ => ?_
  simp only [Dl.evE] at ou
  refine ⟨A, e0, env, g, d, ou.bind.imp fun x s A1 H1 _ e1 d1 p1 o1 v r => ?_⟩
  split at o1
  · cases r
    exact ⟨true, rfl, ite_t rfl (Out.here (a := D.bl true) (s := s) o1 d1 _ (.bl true))⟩
  · cases r
    exact ⟨false, rfl, ite_f (by decide) (⟨A1, e0, s.env, s.g, d1, o1⟩)⟩
  · exact o1.elim
theorem k_not {a : Expr} {x : Ex} {pos : Pos} (ha : PE X a (tI Γ W x)) : PE X (.UnaryOp .Not a pos) (tI Γ W (.not x)) := by
  refine PE.weak (L2.pe_not ha) fun σ H Q ⟨A, e0, env, g, d, ou⟩ => ?_
  simp only [Dl.evE] at ou
  refine ⟨A, e0, env, g, d, ou.bind.imp fun x s A1 H1 _ e1 d1 p1 o1 v r => ?_⟩
  split at o1
  · rename_i b _
    cases r
    exact ⟨b, rfl, Out.here (a := D.bl (!b)) (s := s) o1 d1 _ (.bl _)⟩
  · exact o1.elim
theorem k_ifeF {c a b : Expr} {z x y : Ex} {pos : Pos} (hc : PT X c (tT Γ W z)) (ha : PE X a (tF Γ W x)) (hb : PE X b (tF Γ W y)) : PE X (.IfExp c a b pos) (tF Γ W (.ife z x y)) := by
  refine PE.weak (L2.pe_ifExp hc ha hb) fun σ H Q ⟨A, e0, env, g, d, ou⟩ => ?_
  simp only [Dl.evE] at ou
  refine ⟨A, e0, env, g, d, ou.bind.imp fun x s A1 H1 _ e1 d1 p1 o1 => ?_⟩
  split at o1
  · exact ⟨true, rfl, ite_t rfl (⟨A1, e0, s.env, s.g, d1, o1⟩)⟩
  · exact ⟨false, rfl, ite_f (by decide) (⟨A1, e0, s.env, s.g, d1, o1⟩)⟩
  · exact o1.elim
theorem k_ifeI {c a b : Expr} {z x y : Ex} {pos : Pos} (hc : PT X c (tT Γ W z)) (ha : PE X a (tI Γ W x)) (hb : PE X b (tI Γ W y)) : PE X (.IfExp c a b pos) (tI Γ W (.ife z x y)) := by
  refine PE.weak (L2.pe_ifExp hc ha hb) fun σ H Q ⟨A, e0, env, g, d, ou⟩ => ?_
  simp only [Dl.evE] at ou
  refine ⟨A, e0, env, g, d, ou.bind.imp fun x s A1 H1 _ e1 d1 p1 o1 => ?_⟩
  split at o1
  · exact ⟨true, rfl, ite_t rfl (⟨A1, e0, s.env, s.g, d1, o1⟩)⟩
  · exact ⟨false, rfl, ite_f (by decide) (⟨A1, e0, s.env, s.g, d1, o1⟩)⟩
  · exact o1.elim
theorem rb_non {v : V} {d : D} (r : RB Γ A H env σ v d) (di : Γ.DI A e0 env g σ H) : decide (v = .non) = Dl.isNonD d := by
  cases d with
  | lst l =>
    obtain ⟨a, xs, rfl, _⟩ := r.lst di
    rfl
  | _ =>
    have q := r.rp (fun _ h => (nomatch h))
    cases q <;> rfl
theorem isN_out {x : Ex} {k : D → S → Option AS → Hp → Prop} {Q : VK} (d : Γ.DI A e0 env g σ H) (ou : Out Γ W A e0 σ H (Dl.evE Γ.gl Γ.call (.isN x) ⟨env, g⟩) k)
    (hq : ∀ b s A' H', Γ.DI A' e0 s.env s.g σ H' → k (.bl b) s A' H' → Q (.bl b) H') : L2.tIsN (tB Γ W x) σ H Q := by
  simp only [Dl.evE] at ou
  refine ⟨A, e0, env, g, d, ou.bind.imp fun x s A1 H1 _ e1 d1 p1 o1 v r => ?_⟩
  show Q (V.bl (decide (v = V.non))) H1
  rw [rb_non r d1]
  exact hq _ s A1 H1 d1 (Out.here (s := s) o1 d1)
theorem notN_out {x : Ex} {k : D → S → Option AS → Hp → Prop} {Q : VK} (d : Γ.DI A e0 env g σ H) (ou : Out Γ W A e0 σ H (Dl.evE Γ.gl Γ.call (.notN x) ⟨env, g⟩) k)
    (hq : ∀ b s A' H', Γ.DI A' e0 s.env s.g σ H' → k (.bl b) s A' H' → Q (.bl b) H') : L2.tNotN (tB Γ W x) σ H Q := by
  simp only [Dl.evE] at ou
  refine ⟨A, e0, env, g, d, ou.bind.imp fun x s A1 H1 _ e1 d1 p1 o1 v r => ?_⟩
  show Q (V.bl (!decide (v = V.non))) H1
  rw [rb_non r d1]
  exact hq _ s A1 H1 d1 (Out.here (s := s) o1 d1)
theorem k_isN {a : Expr} {x : Ex} {j pos pos'} (ha : PE X a (tB Γ W x)) : PE X (.Compare a [.Is] [.Constant .none j pos'] pos) (tI Γ W (.isN x)) :=
  PE.weak (L2.pe_cmp (L2.pc_isN ha)) fun σ H Q ⟨A, e0, env, g, d, ou⟩ => isN_out d ou fun b s A' H' _ k => k _ (.bl b)
theorem q_isN {a : Expr} {x : Ex} {j pos pos'} (ha : PE X a (tB Γ W x)) : PT X (.Compare a [.Is] [.Constant .none j pos'] pos) (tT Γ W (.isN x)) :=
  PT.weak (L2.pt_cmp (L2.pc_isN ha)) fun σ H Q ⟨A, e0, env, g, d, ou⟩ => isN_out (Q := fun x H' => ∃ k, x = .bl k ∧ Q k H') d ou fun b s A' H' _ ⟨c, e, q⟩ => by
    cases e
    exact ⟨b, rfl, q⟩
theorem k_notN {a : Expr} {x : Ex} {j pos pos'} (ha : PE X a (tB Γ W x)) : PE X (.Compare a [.IsNot] [.Constant .none j pos'] pos) (tI Γ W (.notN x)) :=
  PE.weak (L2.pe_cmp (L2.pc_notN ha)) fun σ H Q ⟨A, e0, env, g, d, ou⟩ => notN_out d ou fun b s A' H' _ k => k _ (.bl b)
theorem q_notN {a : Expr} {x : Ex} {j pos pos'} (ha : PE X a (tB Γ W x)) : PT X (.Compare a [.IsNot] [.Constant .none j pos'] pos) (tT Γ W (.notN x)) :=
  PT.weak (L2.pt_cmp (L2.pc_notN ha)) fun σ H Q ⟨A, e0, env, g, d, ou⟩ => notN_out (Q := fun x H' => ∃ k, x = .bl k ∧ Q k H') d ou fun b s A' H' _ ⟨c, e, q⟩ => by
    cases e
    exact ⟨b, rfl, q⟩
theorem k_neg {a : Expr} {x : Ex} {pos : Pos} (ha : PE X a (tB Γ W x)) : PE X (.UnaryOp .USub a pos) (tI Γ W (.neg x)) := by
  refine PE.weak (L2.pe_un L2.un_neg ha) fun σ H Q ⟨A, e0, env, g, d, ou⟩ => ?_
  simp only [Dl.evE] at ou
  refine ⟨A, e0, env, g, d, ou.bind.imp fun x s A1 H1 _ e1 d1 p1 o1 v r => ?_⟩
  split at o1
  · rename_i i _
    rw [r.int]
    exact ⟨i, rfl, Out.here (a := D.int (-i)) (s := s) o1 d1 _ (.int _)⟩
  · exact o1.elim
end
end Ds
end
section
set_option Elab.async false
set_option Elab.async false
set_option linter.all false
set_option maxRecDepth 100000
set_option maxHeartbeats 4000000
set_option autoImplicit false
/-! Snd6: displays, items, slices, calls of built-ins. -/
namespace Ds
open PySem PySem.Spec PyProof.Rows
open L2 (V Hp HO upd upd_same upd_ne RelV SqL SqT TE TA TT TS TG TI VK XK WX Cx Inv PE PA PT PS PSs PW Rd EP OpR tOp pe_op R2 rI rI0 Dp DpAll Room CallR tCB tCons tNil tTup tLst)
open Dl (D DV GS S R RC Ex Le)
section
variable {Γ : Gam} {W : WX} {A A' : Option AS} {e0 : Ent} {H H' : Hp} {env : List (Option DV)} {g : Option GS} {σ : List (Option V)} {X : Cx}
/-! ### arguments, displays -/
theorem a_nil : PA X [] (tA Γ W []) := PA.weak L2.pa_nil fun σ H Q ⟨A, e0, env, g, d, ou⟩ => by
  simp only [Dl.evEs] at ou
  exact Out.here (s := ⟨env, g⟩) ou d [] .nil
theorem a_cons {e : Expr} {es : List Expr} {x : Ex} {l : List Ex} (ha : PE X e (tI Γ W x)) (hr : PA X es (tA Γ W l)) (hs : starEach (e :: es) X.env = (false, eval e X.env) :: starEach es X.env) : PA X (e :: es) (tA Γ W (x :: l)) :=
  PA.weak (L2.pa_cons ha hr hs) fun σ H Q ⟨A, e0, env, g, d, ou⟩ => by
    simp only [Dl.evEs] at ou
    refine ⟨A, e0, env, g, d, ou.bind.imp fun x s A1 H1 _ e1 d1 p1 o1 v1 r1 => ?_⟩
    refine ⟨A1, e0, s.env, s.g, d1, o1.bind.imp fun ds s2 A2 H2 _ e2 d2 p2 o2 vs r2 => ?_⟩
    exact Out.here (s := s2) o2 d2 (v1 :: vs) (.cons (r1.per p2 e2) r2)
theorem evEs_len {gl : String → Option D} {call : String → List D → Option GS → RC} : ∀ {l : List Ex} {s s' : S} {ds : List D}, Dl.evEs gl call l s = .ok ds s' → ds.length = l.length
  | [], s, s', ds, h => by simp only [Dl.evEs] at h; cases h; rfl
  | x :: l, s, s', ds, h => by
    simp only [Dl.evEs] at h
    obtain ⟨y, s1, h1, h2⟩ := Dl.R.bind_eq h
    obtain ⟨z, s2, h3, h4⟩ := Dl.R.bind_eq h2
    cases h4
    rw [List.length_cons, List.length_cons, evEs_len h3]
theorem k_tup {es : List Expr} {l : List Ex} {k : Nat} {pos : Pos} (h : PA X es (tA Γ W l)) (hl : l.length ≤ 100000) : PE X (.Tuple es k pos) (tI Γ W (.tup l)) :=
  PE.weak (L2.pe_tup h) fun σ H Q ⟨A, e0, env, g, d, ou⟩ => by
    simp only [Dl.evE] at ou
    refine ⟨A, e0, env, g, d, ou.bind.imp fun ds s A1 H1 q e1 d1 p1 o1 vs r1 => ?_⟩
    have hn : vs.length = l.length := r1.length.trans (evEs_len q)
    refine ⟨by rw [hn, sizeLine_eq]; omega, fun p np => ?_⟩
    exact Out.end_ (a := D.tup ds) (s := s) o1 |>.new d1 np _ (rp_new_tup np r1)
theorem k_lst {es : List Expr} {l : List Ex} {pos : Pos} (h : PA X es (tA Γ W l)) (hl : l.length ≤ 100000) : PE X (.List es pos) (tF Γ W (.lst l)) :=
  PE.weak (L2.pe_lst h) fun σ H Q ⟨A, e0, env, g, d, ou⟩ => by
    simp only [Dl.evE] at ou
    refine ⟨A, e0, env, g, d, ou.bind.imp fun ds s A1 H1 q e1 d1 p1 o1 vs r1 => ?_⟩
    have hn : vs.length = l.length := r1.length.trans (evEs_len q)
    refine ⟨by rw [hn, sizeLine_eq]; omega, fun p np => ?_⟩
    exact Out.end_ (a := D.lst ds) (s := s) o1 |>.new d1 np _ (.inr ⟨_, rfl, DI.frsh d1 np r1⟩)

/-! ### items -/
theorem at_eq {K : PySem.W.Frag} {xs : List V} {l : List D} (r : Rps K A H xs l) {i : Int} {z : D} (h : Dl.atD l i = some z) : ∃ v, L2.atI xs i = some v ∧ Rp K A H v z := by
  have e := r.length
  unfold Dl.atD at h
  unfold L2.atI L2.ixN
  split at h
  · rename_i h0
    obtain ⟨v, hv, rv⟩ := r.get h
    have lt := (List.getElem?_eq_some_iff.mp hv).1
    refine ⟨v, ?_, rv⟩
    rw [if_pos h0, if_pos (by omega)]
    exact hv
  · split at h
    · rename_i h0 h1
      obtain ⟨v, hv, rv⟩ := r.get h
      refine ⟨v, ?_, rv⟩
      rw [if_neg h0, if_pos (by rw [e]; exact h1), e]
      exact hv
    · cases h
theorem k_ix (hK : X.K = Γ.K) {a b : Expr} {x y : Ex} {pos : Pos} (ha : PE X a (tB Γ W x)) (hb : PE X b (tB Γ W y)) (hp : L2.PlainIx b) : PE X (.Subscript a b pos) (tI Γ W (.ix x y)) := by
  have hr : L2.IxR X (fun x y H Q => L2.rIxL Γ.K x y H Q ∨ L2.rIxT Γ.K x y H Q) := hK ▸ L2.IxR.or L2.ix_list L2.ix_tup
  refine PE.weak (L2.pe_ix hr ha hb hp) fun σ H Q ⟨A, e0, env, g, d, ou⟩ => ?_
  simp only [Dl.evE] at ou
  refine two d ou fun A2 H2 x y v u s d2 r1 r2 o2 => ?_
  unfold Dl.ixD at o2
  split at o2
  · rename_i l i
    obtain ⟨a1, xs, rfl, h1, q1⟩ := r1.tup
    rw [r2.int]
    cases e : Dl.atD l i with
    | none => rw [e] at o2; exact o2.elim
    | some z =>
      rw [e] at o2
      obtain ⟨w, e1, rw'⟩ := at_eq q1 e
      exact .inr ⟨a1, xs, i, w, rfl, rfl, h1, e1, Out.here (a := z) (s := s) o2 d2 w rw'⟩
  · rename_i l i
    obtain ⟨a1, xs, rfl, h1, q1⟩ := r1.lst d2
    rw [r2.int]
    cases e : Dl.atD l i with
    | none => rw [e] at o2; exact o2.elim
    | some z =>
      rw [e] at o2
      obtain ⟨w, e1, rw'⟩ := at_eq q1 e
      exact .inl ⟨a1, xs, i, w, rfl, rfl, h1.sq, e1, Out.here (a := z) (s := s) o2 d2 w rw'⟩
  · exact o2.elim
/-! ### slices -/
theorem bnd_eq (n dflt : Nat) (o : Option Int) : HT.sIx n dflt o = Dl.bnd n dflt o := by
  cases o <;> rfl
theorem cut_rps {K : PySem.W.Frag} {xs : List V} {l : List D} (r : Rps K A H xs l) (lo hi : Option Int) : Rps K A H (L2.cutV xs lo hi) (Dl.cut l lo hi) := by
  unfold L2.cutV Dl.cut
  rw [r.length, bnd_eq, bnd_eq]
  exact (r.drop _).take _
/-- a bound of a slice -/
def PartOk (X : Cx) (Γ : Gam) (W : WX) (e : Option Expr) (x : Ex) : Prop := (e = none ∧ x = .non) ∨ ∃ b, e = some b ∧ x ≠ .non ∧ PE X b (tI Γ W x)
def tP (Γ : Gam) (W : WX) (x : Ex) : L2.TO := fun σ H Q => ∃ A e0 env g, Γ.DI A e0 env g σ H ∧ Out Γ W A e0 σ H (Dl.evE Γ.gl Γ.call x ⟨env, g⟩) fun d s A' H' => ∃ i, Dl.partOf x d = some i ∧ Q i H'
theorem partOk_po {e : Option Expr} {x : Ex} (h : PartOk X Γ W e x) : L2.PO X e (tP Γ W x) := by
  rcases h with ⟨rfl, rfl⟩ | ⟨b, rfl, hx, h⟩
  · refine ⟨fun pins s σ H Q I q => ?_⟩
    obtain ⟨A, e0, env, g, d, ou⟩ := q
    simp only [Dl.evE] at ou
    obtain ⟨i, e, q⟩ := Out.here (a := D.non) (s := ⟨env, g⟩) ou d
    cases e
    exact L2.po_none.run pins s σ H Q I q
  · refine ⟨fun pins s σ H Q I q => ?_⟩
    refine (L2.po_some h).run pins s σ H Q I ?_
    obtain ⟨A, e0, env, g, d, ou⟩ := q
    refine ⟨A, e0, env, g, d, ou.imp fun z s A1 H1 _ _ _ _ ⟨i, e, q⟩ v r => ?_⟩
    unfold Dl.partOf at e
    split at e
    · exact absurd rfl hx
    · cases e
      cases r
      exact ⟨_, rfl, q⟩
    · cases e
/-- list slices, frozen ones too, and tuple slices -/
theorem k_sl (hK : X.K = Γ.K) {a : Expr} {lo hi : Option Expr} {x y z : Ex} {p2 pos : Pos} (ha : PE X a (tB Γ W x)) (hl : PartOk X Γ W lo y) (hh : PartOk X Γ W hi z) : PE X (.Subscript a (.Slice lo hi none p2) pos) (tF Γ W (.sl x y z)) := by
  have hr : L2.SlR X (fun x lo hi H Q => L2.rSlL Γ.K x lo hi H Q ∨ L2.rSlA Γ.K x lo hi H Q) := hK ▸ L2.SlR.or L2.sl_list L2.sl_tupA
  refine PE.weak (L2.pe_slice hr ha (partOk_po hl) (partOk_po hh)) fun σ H Q ⟨A, e0, env, g, d, ou⟩ => ?_
  simp only [Dl.evE] at ou
  refine ⟨A, e0, env, g, d, ou.bind.imp fun x s A1 H1 _ e1 d1 p1 o1 v1 r1 => ?_⟩
  refine ⟨A1, e0, s.env, s.g, d1, o1.bind.imp fun y s2 A2 H2 q2 e2 d2 p2 o2 => ?_⟩
  have r2 := r1.step d2 p2 e2 (Dl.evE_le _ q2)
  cases f1 : Dl.partOf _ y with
  | none => rw [f1] at o2; exact o2.elim
  | some i =>
    rw [f1] at o2
    refine ⟨i, rfl, A2, e0, s2.env, s2.g, d2, (show Out Γ W A2 e0 σ H2 ((Dl.evE Γ.gl Γ.call _ s2).bind _) _ from o2).bind.imp fun z s3 A3 H3 q3 e3 d3 p3 o3 => ?_⟩
    have r3 := r2.step d3 p3 e3 (Dl.evE_le _ q3)
    cases f2 : Dl.partOf _ z with
    | none => rw [f2] at o3; exact o3.elim
    | some j =>
      refine ⟨j, rfl, ?_⟩
      rw [f2] at o3
      replace o3 : Out Γ W A3 e0 σ H3 (Dl.ofO (Dl.slD x i j) s3) _ := o3
      unfold Dl.slD at o3
      split at o3
      · obtain ⟨a1, xs, rfl, h1, q1⟩ := r3.tup
        refine .inr ⟨a1, xs, rfl, h1, fun hw => ?_, fun hw p np => ?_⟩
        · have e : L2.cutV xs i j = xs := by
            unfold L2.cutV
            rw [hw.1, hw.2]
            simp
          have q2 := cut_rps q1 i j
          rw [e] at q2
          exact Out.here (s := s3) o3 d3 _ (.inl ⟨.tup h1 q2, fun _ z => nomatch z⟩)
        · exact Out.end_ (s := s3) o3 |>.new d3 np _ (.inl ⟨rp_new_tup np (cut_rps q1 i j), fun _ z => nomatch z⟩)
      · obtain ⟨a1, xs, rfl, h1, q1⟩ := r3.lst d3
        refine .inl ⟨a1, xs, rfl, h1.sq, fun p np => ?_⟩
        exact Out.end_ (s := s3) o3 |>.new d3 np _ (.inr ⟨_, rfl, DI.frsh d3 np (cut_rps q1 i j)⟩)
      · exact o3.elim
end
end Ds
end
section
set_option Elab.async false
set_option Elab.async false
set_option linter.all false
set_option maxRecDepth 100000
set_option maxHeartbeats 4000000
set_option autoImplicit false
/-! Snd7: built-ins, isinstance, repr, defs, constants of the module. -/
namespace Ds
open PySem PySem.Spec PyProof.Rows
open L2 (V Hp HO upd upd_same upd_ne RelV SqL SqT TE TA TT TS TG TI VK XK WX Cx Inv PE PA PT PS PSs PW Rd EP OpR tOp pe_op R2 rI rI0 Dp DpAll Room CallR tCB tCons tNil tTup tLst Gl)
open Dl (D DV GS S R RC Ex Le)
def noStar : Expr → Bool
  | .Starred .. => false
  | _ => true
theorem star_cons {e : Expr} (h : noStar e = true) (es : List Expr) (env : Env) : starEach (e :: es) env = (false, eval e env) :: starEach es env := by
  cases e <;> first | rfl | cases h
theorem star_all {env : Env} {pos : Pos} : ∀ {es : List Expr}, es.all noStar = true → (backTo pos (starEach es env)).any (·.1) = false
  | [], _ => rfl
  | e :: es, h => by
    rw [List.all_cons, Bool.and_eq_true] at h
    rw [star_cons h.1]
    have ih := star_all (env := env) (pos := pos) h.2
    unfold backTo at ih ⊢
    rw [List.map_cons, List.any_cons, ih]
    rfl
section
variable {Γ : Gam} {W : WX} {A A' : Option AS} {e0 : Ent} {H H' : Hp} {env : List (Option DV)} {g : Option GS} {σ : List (Option V)} {X : Cx}
/-- a built-in under its own name -/
structure Bn (X : Cx) (x : Str) : Prop where
  gl : Gl X x
  mg : X.mg x = none
/-- a built-in of one argument; hr: its rule serves data -/
theorem k_b1 {x : Str} {u : Value} {r : List V → Hp → VK → Prop} {a : Expr} {y : Ex} {f : Dl.Blt} {p pos : Pos} (hc : CallR X u r) (hu : (∃ i, u = .builtin i) ∨ ∃ T, u = .type T) (B : Bn X x) (hv : bootBuiltins x = some u) (hn : x ≠ "__name__") (hd : (x == ("__debug__" : Str)) = false)
    (hs : noStar a = true) (ha : PE X a (tB Γ W y))
    (serve : ∀ (A2 : Option AS) (e0 : Ent) (s : S) (σ : List (Option V)) (H2 : Hp) (d z : D) (v : V) (Q : VK), Γ.DI A2 e0 s.env s.g σ H2 → RB Γ A2 H2 s.env σ v d → Dl.blt1 f d = some z → End Γ A2 e0 σ H2 s (fun A' H' => KF Γ e0 σ Q z s A' H') → r [v] H2 Q) :
    PE X (.Call (.Name x p) [a] [] pos) (tF Γ W (.b1 f y)) := by
  have pa : PA X [a] (tCons (tB Γ W y) tNil) := L2.pa_cons ha L2.pa_nil (star_cons hs [] _)
  have pe : PE X (.Call (.Name x p) [a] [] pos) (tCB r (tCons (tB Γ W y) tNil)) := by
    rcases hu with ⟨i, rfl⟩ | ⟨T, rfl⟩
    · exact L2.pe_callB hc B.gl B.mg hv pa hn hd (star_cons hs [] _) rfl
    · exact L2.pe_callTy hc B.gl B.mg hv pa hn hd (star_cons hs [] _) rfl
  refine PE.weak pe fun σ H Q ⟨A, e0, env, g, d, ou⟩ => ?_
  simp only [Dl.evE] at ou
  refine ⟨A, e0, env, g, d, ou.bind.imp fun y s A1 H1 _ e1 d1 p1 o1 v1 r1 => ?_⟩
  cases e : Dl.blt1 f y with
  | none => rw [e] at o1; exact o1.elim
  | some z =>
    rw [e] at o1
    exact serve A1 e0 s σ H1 y z v1 Q d1 r1 e (Out.end_ (a := z) (s := s) o1)
theorem rb_seq {v : V} {d : D} {l : List D} (r : RB Γ A H env σ v d) (di : Γ.DI A e0 env g σ H) (h : Dl.seqD d = some l) : ∃ a xs, v = .ref a ∧ (SqL Γ.K H a xs ∧ d = .lst l ∨ SqT Γ.K H a xs ∧ d = .tup l) ∧ Rps Γ.K A H xs l := by
  unfold Dl.seqD at h
  split at h
  · cases h
    obtain ⟨a, xs, e, h1, q⟩ := r.tup
    exact ⟨a, xs, e, .inr ⟨h1, rfl⟩, q⟩
  · cases h
    obtain ⟨a, xs, e, h1, q⟩ := r.lst di
    exact ⟨a, xs, e, .inl ⟨h1.sq, rfl⟩, q⟩
  · cases h
/-! len -/
theorem k_len (hK : X.K = Γ.K) {a : Expr} {y : Ex} {p pos : Pos} (B : Bn X "len") (hs : noStar a = true) (ha : PE X a (tB Γ W y)) : PE X (.Call (.Name "len" p) [a] [] pos) (tF Γ W (.b1 .len y)) := by
  refine k_b1 (hK ▸ L2.call_len_seq) (.inl ⟨_, rfl⟩) B (by decide +kernel) (by decide) (by decide) hs ha fun A2 e0 s σ H2 d z v Q di r e en => ?_
  simp only [Dl.blt1] at e
  unfold Dl.lenD at e
  split at e
  · obtain ⟨a, xs, rfl, h1, q⟩ := r.tup
    cases e
    refine ⟨a, xs, rfl, .inr h1, ?_⟩
    rw [q.length]
    exact en.here di _ (.inl ⟨.int _, fun _ z => nomatch z⟩)
  · obtain ⟨a, xs, rfl, h1, q⟩ := r.lst di
    cases e
    refine ⟨a, xs, rfl, .inl h1.sq, ?_⟩
    rw [q.length]
    exact en.here di _ (.inl ⟨.int _, fun _ z => nomatch z⟩)
  · cases e
theorem k_abs {a : Expr} {y : Ex} {p pos : Pos} (B : Bn X "abs") (hs : noStar a = true) (ha : PE X a (tB Γ W y)) : PE X (.Call (.Name "abs" p) [a] [] pos) (tF Γ W (.b1 .abs y)) := by
  refine k_b1 L2.call_abs (.inl ⟨_, rfl⟩) B (by decide +kernel) (by decide) (by decide) hs ha fun A2 e0 s σ H2 d z v Q di r e en => ?_
  simp only [Dl.blt1] at e
  split at e
  · cases e
    rw [r.int]
    exact ⟨_, rfl, en.here di _ (.inl ⟨.int _, fun _ z => nomatch z⟩)⟩
  · cases e
theorem k_int1 {a : Expr} {y : Ex} {p pos : Pos} (B : Bn X "int") (hs : noStar a = true) (ha : PE X a (tB Γ W y)) : PE X (.Call (.Name "int" p) [a] [] pos) (tF Γ W (.b1 .int y)) := by
  refine k_b1 L2.call_int1 (.inr ⟨_, rfl⟩) B (by decide +kernel) (by decide) (by decide) hs ha fun A2 e0 s σ H2 d z v Q di r e en => ?_
  simp only [Dl.blt1] at e
  split at e
  · cases e
    rw [r.int]
    exact .inl ⟨_, rfl, en.here di _ (.inl ⟨.int _, fun _ z => nomatch z⟩)⟩
  · cases e
    rw [r.bl]
    exact .inr ⟨_, rfl, en.here di _ (.inl ⟨.int _, fun _ z => nomatch z⟩)⟩
  · cases e
theorem k_tuple (hK : X.K = Γ.K) {a : Expr} {y : Ex} {p pos : Pos} (B : Bn X "tuple") (hs : noStar a = true) (ha : PE X a (tB Γ W y)) : PE X (.Call (.Name "tuple" p) [a] [] pos) (tF Γ W (.b1 .tuple y)) := by
  refine k_b1 (hK ▸ L2.call_tuple_of) (.inr ⟨_, rfl⟩) B (by decide +kernel) (by decide) (by decide) hs ha fun A2 e0 s σ H2 d z v Q di r e en => ?_
  simp only [Dl.blt1] at e
  cases f : Dl.seqD d with
  | none => rw [f] at e; cases e
  | some l =>
    rw [f] at e
    cases e
    obtain ⟨a, xs, rfl, h1, q⟩ := rb_seq r di f
    rcases h1 with ⟨h1, _⟩ | ⟨h1, _⟩
    · exact ⟨a, xs, rfl, .inl ⟨h1, fun p np => en.new di np _ (.inl ⟨rp_new_tup np q, fun _ z => nomatch z⟩)⟩⟩
    · exact ⟨a, xs, rfl, .inr ⟨h1, en.here di _ (.inl ⟨.tup h1 q, fun _ z => nomatch z⟩)⟩⟩
theorem k_list (hK : X.K = Γ.K) {a : Expr} {y : Ex} {p pos : Pos} (B : Bn X "list") (hs : noStar a = true) (ha : PE X a (tB Γ W y)) : PE X (.Call (.Name "list" p) [a] [] pos) (tF Γ W (.b1 .list y)) := by
  refine k_b1 (hK ▸ L2.call_list_of) (.inr ⟨_, rfl⟩) B (by decide +kernel) (by decide) (by decide) hs ha fun A2 e0 s σ H2 d z v Q di r e en => ?_
  simp only [Dl.blt1] at e
  cases f : Dl.seqD d with
  | none => rw [f] at e; cases e
  | some l =>
    rw [f] at e
    cases e
    obtain ⟨a, xs, rfl, h1, q⟩ := rb_seq r di f
    refine ⟨a, xs, rfl, ?_, fun p np => en.new di np _ (.inr ⟨_, rfl, DI.frsh di np q⟩)⟩
    rcases h1 with ⟨h1, _⟩ | ⟨h1, _⟩
    · exact .inl h1
    · exact .inr h1
/-! max, min, sum -/
theorem maxI_mem : ∀ (l : List Int) (m : Int), Dl.maxI m l ∈ m :: l ∧ ∀ y, y ∈ m :: l → y ≤ Dl.maxI m l
  | [], m => by simp [Dl.maxI]
  | a :: l, m => by
    have ih := maxI_mem l (if a > m then a else m)
    simp only [Dl.maxI]
    refine ⟨?_, fun y hy => ?_⟩
    · have h1 := ih.1
      split at h1 <;> simp only [List.mem_cons] at h1 ⊢ <;> rename_i c
      · rw [if_pos c]; rcases h1 with h1 | h1 <;> simp [h1]
      · rw [if_neg c]; rcases h1 with h1 | h1 <;> simp [h1]
    · have h2 := ih.2
      have top := h2 (if a > m then a else m) (List.mem_cons_self ..)
      simp only [List.mem_cons] at hy
      rcases hy with rfl | rfl | hy
      · exact Int.le_trans (by split <;> omega) top
      · exact Int.le_trans (by split <;> omega) top
      · exact h2 y (List.mem_cons_of_mem _ hy)
theorem minI_mem : ∀ (l : List Int) (m : Int), Dl.minI m l ∈ m :: l ∧ ∀ y, y ∈ m :: l → Dl.minI m l ≤ y
  | [], m => by simp [Dl.minI]
  | a :: l, m => by
    have ih := minI_mem l (if a < m then a else m)
    simp only [Dl.minI]
    refine ⟨?_, fun y hy => ?_⟩
    · have h1 := ih.1
      split at h1 <;> simp only [List.mem_cons] at h1 ⊢ <;> rename_i c
      · rw [if_pos c]; rcases h1 with h1 | h1 <;> simp [h1]
      · rw [if_neg c]; rcases h1 with h1 | h1 <;> simp [h1]
    · have h2 := ih.2
      have top := h2 (if a < m then a else m) (List.mem_cons_self ..)
      simp only [List.mem_cons] at hy
      rcases hy with rfl | rfl | hy
      · exact Int.le_trans top (by split <;> omega)
      · exact Int.le_trans top (by split <;> omega)
      · exact h2 y (List.mem_cons_of_mem _ hy)
theorem sumI_eq : ∀ l : List Int, Dl.sumI l = l.sum
  | [] => rfl
  | a :: l => by rw [Dl.sumI, sumI_eq l, List.sum_cons]
theorem lstI {d : D} {ns : List Int} (h : (Dl.lstD d).bind Dl.intz = some ns) : ∃ l, d = .lst l ∧ Dl.intz l = some ns := by
  cases d with
  | lst l => exact ⟨l, rfl, h⟩
  | _ => cases h
/-- a list of intz -/
theorem rb_ints {v : V} {l : List D} {ns : List Int} (r : RB Γ A H env σ v (.lst l)) (di : Γ.DI A e0 env g σ H) (h : Dl.intz l = some ns) : ∃ a, v = .ref a ∧ SqL Γ.K H a (ns.map V.int) := by
  obtain ⟨a, xs, e, h1, q⟩ := r.lst di
  rw [rps_ints q h] at h1
  exact ⟨a, e, h1.sq⟩
theorem k_max (hK : X.K = Γ.K) (hc : X.calm = true) {a : Expr} {y : Ex} {p pos : Pos} (B : Bn X "max") (hs : noStar a = true) (ha : PE X a (tB Γ W y)) : PE X (.Call (.Name "max" p) [a] [] pos) (tF Γ W (.b1 .max y)) := by
  refine k_b1 (hK ▸ L2.cr_max hc) (.inl ⟨_, rfl⟩) B (by decide +kernel) (by decide) (by decide) hs ha fun A2 e0 s σ H2 d z v Q di r e en => ?_
  simp only [Dl.blt1] at e
  split at e
  · rename_i m l f
    cases e
    obtain ⟨l', rfl, f⟩ := lstI f
    obtain ⟨a, rfl, h⟩ := rb_ints r di f
    refine ⟨a, m :: l, rfl, h, by simp, fun m' h1 h2 => ?_⟩
    have w := maxI_mem l m
    have e : m' = Dl.maxI m l := Int.le_antisymm (w.2 m' h1) (h2 _ w.1)
    rw [e]
    exact en.here di _ (.inl ⟨.int _, fun _ z => nomatch z⟩)
  · cases e
theorem k_min (hK : X.K = Γ.K) (hc : X.calm = true) {a : Expr} {y : Ex} {p pos : Pos} (B : Bn X "min") (hs : noStar a = true) (ha : PE X a (tB Γ W y)) : PE X (.Call (.Name "min" p) [a] [] pos) (tF Γ W (.b1 .min y)) := by
  refine k_b1 (hK ▸ L2.cr_min hc) (.inl ⟨_, rfl⟩) B (by decide +kernel) (by decide) (by decide) hs ha fun A2 e0 s σ H2 d z v Q di r e en => ?_
  simp only [Dl.blt1] at e
  split at e
  · rename_i m l f
    cases e
    obtain ⟨l', rfl, f⟩ := lstI f
    obtain ⟨a, rfl, h⟩ := rb_ints r di f
    refine ⟨a, m :: l, rfl, h, by simp, fun m' h1 h2 => ?_⟩
    have w := minI_mem l m
    have e : m' = Dl.minI m l := Int.le_antisymm (h2 _ w.1) (w.2 m' h1)
    rw [e]
    exact en.here di _ (.inl ⟨.int _, fun _ z => nomatch z⟩)
  · cases e
theorem k_sum (hK : X.K = Γ.K) (hc : X.calm = true) {a : Expr} {y : Ex} {p pos : Pos} (B : Bn X "sum") (hs : noStar a = true) (ha : PE X a (tB Γ W y)) : PE X (.Call (.Name "sum" p) [a] [] pos) (tF Γ W (.b1 .sum y)) := by
  refine k_b1 (hK ▸ L2.cr_sum hc) (.inl ⟨_, rfl⟩) B (by decide +kernel) (by decide) (by decide) hs ha fun A2 e0 s σ H2 d z v Q di r e en => ?_
  simp only [Dl.blt1] at e
  cases f : (Dl.lstD d).bind Dl.intz with
  | none => rw [f] at e; cases e
  | some l =>
    rw [f] at e
    cases e
    obtain ⟨l', rfl, f⟩ := lstI f
    obtain ⟨a, rfl, h⟩ := rb_ints r di f
    refine ⟨a, l, rfl, h, ?_⟩
    rw [← sumI_eq]
    exact en.here di _ (.inl ⟨.int _, fun _ z => nomatch z⟩)
theorem ins_perm (a : Int) : ∀ l : List Int, (Dl.ins a l).Perm (a :: l)
  | [] => List.Perm.refl _
  | b :: l => by
    unfold Dl.ins
    split
    · exact List.Perm.refl _
    · exact ((ins_perm a l).cons b).trans (List.Perm.swap a b l)
theorem srt_perm : ∀ l : List Int, (Dl.srt l).Perm l
  | [] => List.Perm.refl _
  | a :: l => (ins_perm a (Dl.srt l)).trans ((srt_perm l).cons a)
theorem ins_sorted (a : Int) : ∀ l : List Int, l.Pairwise (· ≤ ·) → (Dl.ins a l).Pairwise (· ≤ ·)
  | [], _ => List.pairwise_singleton _ a
  | b :: l, h => by
    unfold Dl.ins
    rw [List.pairwise_cons] at h
    split
    · rename_i hab
      refine List.pairwise_cons.mpr ⟨fun y hy => ?_, List.pairwise_cons.mpr h⟩
      rcases List.mem_cons.mp hy with rfl | hy
      · exact hab
      · exact Int.le_trans hab (h.1 y hy)
    · rename_i hab
      refine List.pairwise_cons.mpr ⟨fun y hy => ?_, ins_sorted a l h.2⟩
      rcases List.mem_cons.mp ((ins_perm a l).mem_iff.mp hy) with rfl | hy
      · omega
      · exact h.1 y hy
theorem srt_sorted : ∀ l : List Int, (Dl.srt l).Pairwise (· ≤ ·)
  | [] => .nil
  | a :: l => ins_sorted a _ (srt_sorted l)
theorem sorted_one {l r : List Int} (p : l.Perm r) (a : l.Pairwise (· ≤ ·)) (b : r.Pairwise (· ≤ ·)) : l = r :=
  List.Perm.eq_of_pairwise (le := (· ≤ ·)) (fun x y _ _ h1 h2 => Int.le_antisymm h1 h2) a b p
theorem rps_of_ints {K : PySem.W.Frag} : ∀ ns : List Int, Rps K A H (ns.map V.int) (ns.map D.int)
  | [] => .nil
  | _ :: ns => .cons (.int _) (rps_of_ints ns)
theorem k_sorted (hK : X.K = Γ.K) {a : Expr} {y : Ex} {p pos : Pos} (B : Bn X "sorted") (hs : noStar a = true) (ha : PE X a (tB Γ W y)) : PE X (.Call (.Name "sorted" p) [a] [] pos) (tF Γ W (.b1 .sorted y)) := by
  refine k_b1 (hK ▸ L2.cr_sorted) (.inl ⟨_, rfl⟩) B (by decide +kernel) (by decide) (by decide) hs ha fun A2 e0 s σ H2 d z v Q di r e en => ?_
  simp only [Dl.blt1] at e
  split at e
  · rename_i l f
    split at e
    · rename_i lt
      cases e
      obtain ⟨l', rfl, f⟩ := lstI f
      obtain ⟨a, rfl, h⟩ := rb_ints r di f
      refine ⟨a, l, rfl, h, lt, fun ns' p hp hs np => ?_⟩
      have e : ns' = Dl.srt l := sorted_one (hp.trans (srt_perm l).symm) hs (srt_sorted l)
      rw [e]
      exact en.new di np _ (.inr ⟨_, rfl, DI.frsh di np (rps_of_ints _)⟩)
    · cases e
  · cases e
end
end Ds
end
section
set_option Elab.async false
set_option Elab.async false
set_option linter.all false
set_option maxRecDepth 100000
set_option maxHeartbeats 4000000
set_option autoImplicit false
/-! Snd8: two arguments, isinstance, repr. -/
namespace Ds
open PySem PySem.Spec PyProof.Rows
open L2 (V Hp HO upd upd_same upd_ne RelV SqL SqT TE TA TT TS TG TI VK XK WX Cx Inv PE PA PT PS PSs PW Rd EP OpR tOp pe_op R2 rI rI0 Dp DpAll Room CallR tCB tCons tNil tTup tLst Gl)
open Dl (D DV GS S R RC Ex Le)
section
variable {Γ : Gam} {W : WX} {A A' : Option AS} {e0 : Ent} {H H' : Hp} {env : List (Option DV)} {g : Option GS} {σ : List (Option V)} {X : Cx}
theorem star_two {a b : Expr} (ha : noStar a = true) (hb : noStar b = true) (env : Env) (pos : Pos) : (backTo pos (starEach [b] env)).any (·.1) = false := star_all (by simp [hb])
theorem k_b2 {x : Str} {i : String} {r : List V → Hp → VK → Prop} {a b : Expr} {y z : Ex} {f : Dl.Blt} {p pos : Pos} (hc : CallR X (.builtin i) r) (B : Bn X x) (hv : bootBuiltins x = some (.builtin i)) (hn : x ≠ "__name__") (hd : (x == ("__debug__" : Str)) = false)
    (hs : noStar a = true) (ht : noStar b = true) (ha : PE X a (tB Γ W y)) (hb : PE X b (tB Γ W z))
    (serve : ∀ (m n : Int) (H : Hp) (w : D) (Q : VK), Dl.blt2 f (.int m) (.int n) = some w → (∀ v, (∃ k, v = V.int k ∧ w = .int k) → Q v H) → r [.int m, .int n] H Q)
    (only : ∀ d e w, Dl.blt2 f d e = some w → ∃ m n k, d = .int m ∧ e = .int n ∧ w = .int k) :
    PE X (.Call (.Name x p) [a, b] [] pos) (tF Γ W (.b2 f y z)) := by
  have pa : PA X [a, b] (tCons (tB Γ W y) (tCons (tB Γ W z) tNil)) := L2.pa_cons ha (L2.pa_cons hb L2.pa_nil (star_cons ht [] _)) (star_cons hs [b] _)
  refine PE.weak (L2.pe_callB hc B.gl B.mg hv pa hn hd (star_cons hs [b] _) (star_two hs ht _ _)) fun σ H Q ⟨A, e0, env, g, d, ou⟩ => ?_
  simp only [Dl.evE] at ou
  refine ⟨A, e0, env, g, d, ou.bind.imp fun y s A1 H1 _ e1 d1 p1 o1 v1 r1 => ?_⟩
  refine ⟨A1, e0, s.env, s.g, d1, o1.bind.imp fun z s2 A2 H2 q2 e2 d2 p2 o2 v2 r2 => ?_⟩
  have r1' := r1.step d2 p2 e2 (Dl.evE_le _ q2)
  cases e : Dl.blt2 f y z with
  | none => rw [e] at o2; exact o2.elim
  | some w =>
    rw [e] at o2
    obtain ⟨m, n, k, rfl, rfl, rfl⟩ := only _ _ _ e
    rw [r1'.int, r2.int]
    refine serve m n H2 (.int k) Q e fun v ⟨k', e1, e2⟩ => ?_
    cases e2
    subst e1
    exact Out.here (a := D.int k) (s := s2) o2 d2 _ (.inl ⟨.int k, fun _ z => nomatch z⟩)
theorem blt2_only (f : Dl.Blt) : ∀ d e w, Dl.blt2 f d e = some w → ∃ m n k, d = .int m ∧ e = .int n ∧ w = .int k := fun d e w h => by
  unfold Dl.blt2 at h
  split at h
  · cases h; exact ⟨_, _, _, rfl, rfl, rfl⟩
  · cases h; exact ⟨_, _, _, rfl, rfl, rfl⟩
  · cases h
theorem k_max2 (hc : X.calm = true) {a b : Expr} {y z : Ex} {p pos : Pos} (B : Bn X "max") (hs : noStar a = true) (ht : noStar b = true) (ha : PE X a (tB Γ W y)) (hb : PE X b (tB Γ W z)) : PE X (.Call (.Name "max" p) [a, b] [] pos) (tF Γ W (.b2 .max y z)) := by
  refine k_b2 (L2.call_max2 hc) B (by decide +kernel) (by decide) (by decide) hs ht ha hb (fun m n H w Q e q => ?_) (blt2_only _)
  simp only [Dl.blt2] at e
  cases e
  exact ⟨m, n, rfl, q _ ⟨_, rfl, rfl⟩⟩
theorem k_min2 (hc : X.calm = true) {a b : Expr} {y z : Ex} {p pos : Pos} (B : Bn X "min") (hs : noStar a = true) (ht : noStar b = true) (ha : PE X a (tB Γ W y)) (hb : PE X b (tB Γ W z)) : PE X (.Call (.Name "min" p) [a, b] [] pos) (tF Γ W (.b2 .min y z)) := by
  refine k_b2 (L2.call_min2 hc) B (by decide +kernel) (by decide) (by decide) hs ht ha hb (fun m n H w Q e q => ?_) (blt2_only _)
  simp only [Dl.blt2] at e
  cases e
  exact ⟨m, n, rfl, q _ ⟨_, rfl, rfl⟩⟩

/-! ### isinstance with a built-in class -/
def tyN : Dl.Ty → String
  | .int => "int"
  | .bool => "bool"
  | .str => "str"
  | .tuple => "tuple"
  | .list => "list"
/-- the class of data -/
def clsN : D → String
  | .non => "NoneType"
  | .bl _ => "bool"
  | .int _ => "int"
  | .str _ => "str"
  | .tup _ => "tuple"
  | .lst _ => "list"
  | .hnd => "dict"
  | .dct _ _ => "dict"
def noD : D → Bool
  | .hnd => false
  | .dct _ _ => false
  | _ => true
theorem rp_ty {K : PySem.W.Frag} {v : V} {d : D} (r : Rp K A H v d) (h : noD d = true) : L2.TyX K H v (.type (clsN d)) := by
  cases r with
  | non => exact .base .non
  | bl b => exact .base (.bl b)
  | int i => exact .base (.int i)
  | str s => exact .base (.str _)
  | tup q _ =>
    rcases q with (q | ⟨o, q⟩) | q
    · exact .base (.tup q)
    · exact .fTuple q
    · obtain ⟨o, its, n, h1, h2, h3, h4⟩ := q
      exact .kTuple h1 h2
  | lst q _ =>
    rcases q with ⟨o, q⟩ | ⟨its, n, q, _⟩
    · exact .base (.frz q)
    · exact .kList q rfl
  | hnd _ => cases h
  | dct _ _ _ => cases h
theorem rb_ty {v : V} {d : D} (r : RB Γ A H env σ v d) (di : Γ.DI A e0 env g σ H) (h : noD d = true) : L2.TyX Γ.K H v (.type (clsN d)) := by
  cases d with
  | lst l =>
    obtain ⟨a, xs, rfl, q, _⟩ := r.lst di
    rcases q with (q | ⟨o, q⟩) | ⟨its, n, q, _⟩
    · exact .base (.lst q)
    · exact .base (.frz q)
    · exact .kList q rfl
  | _ => exact rp_ty (r.rp (fun _ z => (nomatch z))) h
theorem kit_isTy {K : PySem.W.Frag} {t : Dl.Ty} {d : D} {b : Bool} (h : Dl.isTy t d = some b) : noD d = true ∧ PySem.W.kitOne K (.type (clsN d)) (.type (tyN t)) = some b := by
  refine ⟨by cases d <;> first | rfl | (simp [Dl.isTy] at h), L2.kit_ty ?_⟩
  cases d <;> cases t <;> simp only [Dl.isTy] at h <;> cases h <;> simp only [clsN, tyN] <;> decide +kernel
theorem isi_out {x : Ex} {t : Dl.Ty} {k : D → S → Option AS → Hp → Prop} {Q : VK} (hK : X.K = Γ.K) (d : Γ.DI A e0 env g σ H) (ou : Out Γ W A e0 σ H (Dl.evE Γ.gl Γ.call (.isi x t) ⟨env, g⟩) k)
    (hq : ∀ b s A' H', Γ.DI A' e0 s.env s.g σ H' → k (.bl b) s A' H' → Q (.bl b) H') : tCB (L2.rIsi X.K) (tCons (tB Γ W x) (tCons (L2.tC (.ty (tyN t))) tNil)) σ H Q := by
  simp only [Dl.evE] at ou
  refine ⟨A, e0, env, g, d, ou.bind.imp fun y s A1 H1 _ e1 d1 p1 o1 v1 r1 => ?_⟩
  cases e : Dl.isTy t y with
  | none => rw [e] at o1; exact o1.elim
  | some b =>
    rw [e] at o1
    obtain ⟨nh, kt⟩ := kit_isTy (K := X.K) e
    exact ⟨v1, _, _, _, b, rfl, .ty _, hK ▸ rb_ty r1 d1 nh, kt, hq b s A1 H1 d1 (Out.here (a := D.bl b) (s := s) o1 d1)⟩
theorem isi_pe {a : Expr} {x : Ex} {t : Dl.Ty} {p p' pos : Pos} {T : Str} (B : Bn X "isinstance") (BT : Bn X T) (hT : T = Str.ofString (tyN t)) (hs : noStar a = true) (ha : PE X a (tB Γ W x)) :
    PE X (.Call (.Name "isinstance" p) [a, .Name T p'] [] pos) (tCB (L2.rIsi X.K) (tCons (tB Γ W x) (tCons (L2.tC (.ty (tyN t))) tNil))) := by
  have pt : PE X (.Name T p') (L2.tC (.ty (tyN t))) := by
    subst hT
    cases t
    · exact L2.pe_bltn (u := .type "int") BT.gl BT.mg (by decide +kernel) rfl (by decide) (by decide)
    · exact L2.pe_bltn (u := .type "bool") BT.gl BT.mg (by decide +kernel) rfl (by decide) (by decide)
    · exact L2.pe_bltn (u := .type "str") BT.gl BT.mg (by decide +kernel) rfl (by decide) (by decide)
    · exact L2.pe_bltn (u := .type "tuple") BT.gl BT.mg (by decide +kernel) rfl (by decide) (by decide)
    · exact L2.pe_bltn (u := .type "list") BT.gl BT.mg (by decide +kernel) rfl (by decide) (by decide)
  exact L2.pe_callB L2.call_isi B.gl B.mg (by decide +kernel) (L2.pa_cons ha (L2.pa_cons pt L2.pa_nil rfl) (star_cons hs _ _)) (by decide) (by decide) (star_cons hs _ _) (star_two hs rfl _ _)
theorem k_isi (hK : X.K = Γ.K) {a : Expr} {x : Ex} {t : Dl.Ty} {p p' pos : Pos} {T : Str} (B : Bn X "isinstance") (BT : Bn X T) (hT : T = Str.ofString (tyN t)) (hs : noStar a = true) (ha : PE X a (tB Γ W x)) :
    PE X (.Call (.Name "isinstance" p) [a, .Name T p'] [] pos) (tI Γ W (.isi x t)) :=
  PE.weak (isi_pe B BT hT hs ha) fun σ H Q ⟨A, e0, env, g, d, ou⟩ => isi_out hK d ou fun b s A' H' _ k => k _ (.bl b)

/-! ### repr -/
theorem len_ofString (s : String) : (Str.ofString s).length = s.length := by
  have e : (Str.ofString s).cps = (s.toList.map Char.toNat).toArray := by
    unfold Str.ofString
    simp only [cpsOfBytes_string]
  unfold Str.length
  rw [e]
  simp [String.length_toList]
theorem hex_len {c : Nat} (h : c < 2 ^ 32) : ((List.map Char.toNat (Nat.toDigits 16 c)).length ≤ 8) ∧ (c < 65536 → (List.map Char.toNat (Nat.toDigits 16 c)).length ≤ 4) ∧ (c < 256 → (List.map Char.toNat (Nat.toDigits 16 c)).length ≤ 2) := by
  rw [List.length_map]
  refine ⟨(Nat.length_toDigits_le_iff (by decide) (by decide)).mpr (by omega), fun h => (Nat.length_toDigits_le_iff (by decide) (by decide)).mpr (by omega), fun h => (Nat.length_toDigits_le_iff (by decide) (by decide)).mpr (by omega)⟩
theorem reprChar_len (q : Nat) {c : Nat} (h : c < 2 ^ 32) : (Builtin.Str.reprChar q c).length ≤ 10 := by
  obtain ⟨h8, h4, h2⟩ := hex_len h
  unfold Builtin.Str.reprChar
  simp only
  repeat' split
  all_goals simp only [List.length_append, List.length_replicate, List.length_cons, List.length_nil]
  all_goals first | omega | skip
theorem fold_len (q : Nat) : ∀ (l : List Nat) (acc : Array Nat), (∀ c ∈ l, c < 2 ^ 32) → (l.foldl (fun out c => out ++ (Builtin.Str.reprChar q c).toArray) acc).size ≤ acc.size + 10 * l.length
  | [], acc, _ => by simp
  | c :: l, acc, h => by
    have h1 := reprChar_len q (h c (List.mem_cons_self ..))
    have h2 := fold_len q l (acc ++ (Builtin.Str.reprChar q c).toArray) fun x hx => h x (List.mem_cons_of_mem _ hx)
    simp only [Array.size_append, List.size_toArray] at h2
    simp only [List.foldl_cons, List.length_cons]
    omega
theorem reprText_len (s : String) : (reprText (Str.ofString s)).length ≤ 10 * s.length + 2 := by
  have e : (Str.ofString s).cps = (s.toList.map Char.toNat).toArray := by
    unfold Str.ofString
    simp only [cpsOfBytes_string]
  unfold reprText Str.length
  simp only [Array.size_push]
  rw [e]
  have := fold_len (reprQuote (Str.ofString s)) (s.toList.map Char.toNat) #[reprQuote (Str.ofString s)] (fun c hc => by
    obtain ⟨x, _, rfl⟩ := List.mem_map.mp hc
    exact x.val.toNat_lt)
  simp only [List.length_map, String.length_toList] at this
  simp only [List.foldl_toArray', List.size_toArray, List.length_map] at *
  simp at this ⊢
  omega
theorem int_len (i : Int) : (toString i).length ≤ i.natAbs.log2 + 3 := by
  have key : ∀ n : Nat, n.repr.length ≤ n.log2 + 1 := fun n => PySem.nat_repr_length_le (by omega) (Nat.lt_log2_self)
  cases i with
  | ofNat n =>
    have := key n
    show n.repr.length ≤ _
    simp only [Int.ofNat_eq_natCast, Int.natAbs_natCast]
    omega
  | negSucc n =>
    have := key (n + 1)
    show ("-" ++ (n + 1).repr).length ≤ _
    rw [String.length_append]
    simp only [Int.natAbs_negSucc]
    show 1 + _ ≤ (n + 1).log2 + 3
    omega
theorem wid_le : ∀ (l : List D), 2 * l.length ≤ D.wids l
  | [] => by simp [D.wids]
  | a :: l => by have := wid_le l; simp only [D.wids, List.length_cons]; omega
theorem log_ok {i : Int} (h : i.natAbs < 2 ^ 1900) : i.natAbs.log2 < 1920 := by
  by_cases z : i.natAbs = 0
  · rw [z]; decide
  · have := (Nat.log2_lt z).mpr h
    omega
mutual
theorem shown_wid : ∀ (d : D), d.wid < 100000000 → (py d).shown.length ≤ d.wid ∧ (py d).showable = true ∧ (py d).hasDict = false
  | .non, _ => ⟨by simp only [py, PyData.shown, D.wid]; decide, by simp [py, PyData.showable], by simp [py, PyData.hasDict]⟩
  | .bl b, _ => ⟨by cases b <;> simp only [py, PyData.shown, D.wid] <;> decide, by simp [py, PyData.showable], by simp [py, PyData.hasDict]⟩
  | .int i, h => by
    simp only [D.wid] at h
    split at h
    · rename_i lt
      refine ⟨?_, ?_, by simp [py, PyData.hasDict]⟩
      · simp only [py, PyData.shown, D.wid, if_pos lt]
        rw [len_ofString]; exact int_len i
      · simp only [py, PyData.showable]
        exact decide_eq_true (log_ok lt)
    · omega
  | .str s, _ => ⟨by simp only [py, PyData.shown, D.wid]; exact reprText_len s, by simp [py, PyData.showable], by simp [py, PyData.hasDict]⟩
  | .tup l, h => by
    simp only [D.wid] at h
    obtain ⟨h1, h2, h3⟩ := shown_wids l (by omega)
    refine ⟨?_, by simpa only [py, PyData.showable] using h2, by simpa only [py, PyData.hasDict] using h3⟩
    simp only [py, PyData.shown_tuple, D.wid, Str.length_append, len_ofString]
    have e1 : ("(" : String).length = 1 := by decide
    have e2 : (if ((pys l).length == 1) = true then ",)" else ")" : String).length ≤ 2 := by split <;> decide
    omega
  | .lst l, h => by
    simp only [D.wid] at h
    obtain ⟨h1, h2, h3⟩ := shown_wids l (by omega)
    refine ⟨?_, by simpa only [py, PyData.showable] using h2, by simpa only [py, PyData.hasDict] using h3⟩
    simp only [py, PyData.shown_list, D.wid, Str.length_append, len_ofString]
    have e1 : ("[" : String).length = 1 := by decide
    have e2 : ("]" : String).length = 1 := by decide
    omega
  | .hnd, h => by simp [D.wid] at h
  | .dct _ _, h => by simp [D.wid] at h
theorem shown_wids : ∀ (l : List D), D.wids l < 100000000 → ((Str.ofString ", ").join (PyData.shownAll (pys l))).length ≤ D.wids l ∧ PyData.showableAll (pys l) = true ∧ PyData.hasDictAll (pys l) = false
  | [], _ => ⟨by simp only [pys, PyData.shownAll, D.wids]; decide, by simp [pys, PyData.showableAll], by simp [pys, PyData.hasDictAll]⟩
  | a :: l, h => by
    simp only [D.wids] at h
    obtain ⟨h1, h2, h3⟩ := shown_wid a (by omega)
    obtain ⟨g1, g2, g3⟩ := shown_wids l (by omega)
    refine ⟨?_, by simp [pys, PyData.showableAll, h2, g2], by simp [pys, PyData.hasDictAll, h3, g3]⟩
    cases l with
    | nil =>
      simp only [pys, PyData.shownAll, D.wids, Str.join]
      omega
    | cons b l =>
      simp only [pys, PyData.shownAll, Str.join, Str.length_append, len_ofString] at g1 ⊢
      have e1 : (", " : String).length = 2 := by decide
      simp only [D.wids] at g1 ⊢
      omega
end
mutual
theorem same_py : ∀ (a b : D), D.same a b = true → py a = py b
  | .non, b, h => by cases b <;> simp_all [D.same, py]
  | .bl x, b, h => by cases b <;> simp_all [D.same, py]
  | .int x, b, h => by cases b <;> simp_all [D.same, py]
  | .str x, b, h => by cases b <;> simp_all [D.same, py]
  | .tup l, b, h => by
    cases b with
    | tup r => simp only [D.same] at h; simp only [py]; rw [sames_pys l r h]
    | _ => simp_all [D.same]
  | .lst l, b, h => by
    cases b with
    | lst r => simp only [D.same] at h; simp only [py]; rw [sames_pys l r h]
    | _ => simp_all [D.same]
  | .hnd, b, h => by cases b <;> simp_all [D.same, py]
  | .dct _ _, b, h => by cases b <;> simp_all [D.same, py]
theorem sames_pys : ∀ (a b : List D), D.sames a b = true → pys a = pys b
  | [], b, h => by cases b <;> simp_all [D.sames, pys]
  | x :: l, b, h => by
    cases b with
    | nil => simp_all [D.sames]
    | cons y r =>
      simp only [D.sames, Bool.and_eq_true] at h
      simp only [pys]
      rw [same_py x y h.1, sames_pys l r h.2]
end
mutual
theorem same_dep : ∀ (a b : D), D.same a b = true → a.dep = b.dep
  | .non, b, h => by cases b <;> simp_all [D.same, D.dep]
  | .bl x, b, h => by cases b <;> simp_all [D.same, D.dep]
  | .int x, b, h => by cases b <;> simp_all [D.same, D.dep]
  | .str x, b, h => by cases b <;> simp_all [D.same, D.dep]
  | .tup l, b, h => by
    cases b with
    | tup r => simp only [D.same] at h; simp only [D.dep]; rw [sames_deps l r h]
    | _ => simp_all [D.same]
  | .lst l, b, h => by
    cases b with
    | lst r => simp only [D.same] at h; simp only [D.dep]; rw [sames_deps l r h]
    | _ => simp_all [D.same]
  | .hnd, b, h => by cases b <;> simp_all [D.same, D.dep]
  | .dct _ _, b, h => by cases b <;> simp_all [D.same, D.dep]
theorem sames_deps : ∀ (a b : List D), D.sames a b = true → D.deps a = D.deps b
  | [], b, h => by cases b <;> simp_all [D.sames, D.deps]
  | x :: l, b, h => by
    cases b with
    | nil => simp_all [D.sames]
    | cons y r =>
      simp only [D.sames, Bool.and_eq_true] at h
      simp only [D.deps]
      rw [same_dep x y h.1, sames_deps l r h.2]
end
/-- repr of data: its text -/
def rRep (K : PySem.W.Frag) (xs : List V) (H : Hp) (Q : VK) : Prop := ∃ v d, xs = [v] ∧ Dp K H v d ∧ d.showable = true ∧ d.hasDict = false ∧ d.depth ≤ 100 ∧ d.shown.length ≤ sizeLine ∧ Q (.str d.shown) H
theorem call_rep (hg : X.A.guards = some []) (hu : X.A.units + 102 < cLine) : CallR X (.builtin "repr") (rRep X.K) := by
  intro pins s σ H xs us Q I vs ⟨v, d, ex, hd, hs, hh, hl, hz, q⟩
  subst ex
  cases vs with
  | cons rv rest =>
    cases rest
    have grown : ∀ (h' : Heap) (tk : Nat), (∀ (b : Addr) (o : Obj), s.heap.get? b = some o → h'.get? b = some o) → Inv X pins σ H { heap := h', gens := s.gens, drawn := s.drawn, toks := tk, os := s.os } :=
      fun h' tk k => I.turnedL (ch := []) (fun b o _ e => k b o e) (fun b hb => (nomatch hb))
    cases hd with
    | non =>
      cases rv
      exact P.repr_of_none ⟨.str _, H, grown _ _ fun _ _ e => e, ⟨_, rfl⟩, q⟩
    | bl b =>
      cases rv
      exact P.repr_of_bool ⟨.str _, H, grown _ _ fun _ _ e => e, ⟨_, rfl⟩, q⟩
    | int i =>
      obtain ⟨t, rfl⟩ := rv
      refine P.repr_of_int ?_ ⟨.str _, H, grown _ _ fun _ _ e => e, ⟨_, rfl⟩, q⟩
      simpa only [PyData.showable, decide_eq_true_eq] using hs
    | str x =>
      obtain ⟨t, rfl⟩ := rv
      exact P.repr_of_str ⟨.str _, H, grown _ _ fun _ _ e => e, ⟨_, rfl⟩, q⟩ hz
    | _ =>
      cases rv
      obtain ⟨as, rd⟩ := L2.Dp.reads I _ (.ref _) (.ref _) (by first | exact .tup ‹_› ‹_› | exact .lst ‹_› ‹_›) rfl
      exact repr_of_reads' rd hs (fun z => by rw [hh] at z; cases z) hg (by omega) (fun b o e => e) (fun h' u tk k => ⟨.str _, H, grown h' tk k, ⟨_, rfl⟩, q⟩) hz
theorem rep_pe {a : Expr} {y : Ex} {p pos : Pos} (hg : X.A.guards = some []) (hu : X.A.units + 102 < cLine) (B : Bn X "repr") (hs : noStar a = true) (ha : PE X a (tB Γ W y)) : PE X (.Call (.Name "repr" p) [a] [] pos) (tCB (rRep X.K) (tCons (tB Γ W y) tNil)) :=
  L2.pe_callB (call_rep hg hu) B.gl B.mg (by decide +kernel) (L2.pa_cons ha L2.pa_nil (star_cons hs [] _)) (by decide) (by decide) (star_cons hs [] _) rfl
theorem shw_ok {d : D} (h : d.shw = true) : (py d).showable = true ∧ (py d).hasDict = false ∧ (py d).depth ≤ 100 ∧ (py d).shown.length ≤ sizeLine ∧ d.dep < 1000 := by
  unfold D.shw at h
  rw [Bool.and_eq_true, decide_eq_true_eq, decide_eq_true_eq] at h
  have w := shown_wid d (by omega)
  have q := dep_py d (by omega)
  exact ⟨w.2.1, w.2.2, by rw [q.1]; exact h.2, by rw [sizeLine_eq]; omega, by omega⟩
theorem like_out {x y : Ex} {k : D → S → Option AS → Hp → Prop} {Q : VK} (hK : X.K = Γ.K) (d : Γ.DI A e0 env g σ H) (ou : Out Γ W A e0 σ H (Dl.evE Γ.gl Γ.call (.like x y) ⟨env, g⟩) k)
    (hq : ∀ s A' H', Γ.DI A' e0 s.env s.g σ H' → k (.bl true) s A' H' → Q (.bl true) H') :
    tOp L2.rEq (tCB (rRep X.K) (tCons (tB Γ W x) tNil)) (tCB (rRep X.K) (tCons (tB Γ W y) tNil)) σ H Q := by
  simp only [Dl.evE] at ou
  refine ⟨A, e0, env, g, d, ou.bind.imp fun x s A1 H1 _ e1 d1 p1 o1 v1 r1 => ?_⟩
  split at o1
  · rename_i h
    obtain ⟨h1, h2, h3, h4, h5⟩ := shw_ok h
    refine ⟨v1, py x, rfl, hK ▸ r1.dp d1 h5, h1, h2, h3, h4, ?_⟩
    refine ⟨A1, e0, s.env, s.g, d1, o1.bind.imp fun y s2 A2 H2 q2 e2 d2 p2 o2 v2 r2 => ?_⟩
    split at o2
    · rename_i hs
      have ep := same_py _ _ hs
      have ed := same_dep _ _ hs
      refine ⟨v2, py y, rfl, hK ▸ r2.dp d2 (by omega), ep ▸ h1, ep ▸ h2, ep ▸ h3, ep ▸ h4, ?_⟩
      refine ⟨rfl, ?_⟩
      rw [ep]
      have e : decide (V.str (py y).shown = V.str (py y).shown) = true := decide_eq_true rfl
      rw [e]
      exact hq s2 A2 H2 d2 (Out.here (a := D.bl true) (s := s2) o2 d2)
    · exact o2.elim
  · exact o1.elim
section
variable (hK : X.K = Γ.K) (hg : X.A.guards = some []) (hu : X.A.units + 102 < cLine) (B : Bn X "repr")
include hK hg hu B
theorem k_like {a b : Expr} {x y : Ex} {p1 p2 p3 p4 pos : Pos} (hs : noStar a = true) (ht : noStar b = true) (ha : PE X a (tB Γ W x)) (hb : PE X b (tB Γ W y)) :
    PE X (.Compare (.Call (.Name "repr" p1) [a] [] p2) [.Eq] [.Call (.Name "repr" p3) [b] [] p4] pos) (tI Γ W (.like x y)) :=
  PE.weak (L2.pe_cmpR L2.op_eq (rep_pe hg hu B hs ha) (rep_pe hg hu B ht hb) rfl) fun σ H Q ⟨A, e0, env, g, d, ou⟩ => like_out hK d ou fun s A' H' _ k => k _ (.bl true)
theorem q_like {a b : Expr} {x y : Ex} {p1 p2 p3 p4 pos : Pos} (hs : noStar a = true) (ht : noStar b = true) (ha : PE X a (tB Γ W x)) (hb : PE X b (tB Γ W y)) :
    PT X (.Compare (.Call (.Name "repr" p1) [a] [] p2) [.Eq] [.Call (.Name "repr" p3) [b] [] p4] pos) (tT Γ W (.like x y)) :=
  PT.weak (L2.pt_cmpR L2.op_eq (rep_pe hg hu B hs ha) (rep_pe hg hu B ht hb) rfl) fun σ H Q ⟨A, e0, env, g, d, ou⟩ => like_out (Q := fun x H' => ∃ k, x = .bl k ∧ Q k H') hK d ou fun s A' H' _ ⟨c, e, q⟩ => by
    cases e
    exact ⟨true, rfl, q⟩
end
end
end Ds
end
section
set_option Elab.async false
set_option Elab.async false
set_option linter.all false
set_option maxRecDepth 100000
set_option maxHeartbeats 4000000
set_option autoImplicit false
/-! SndX: list comprehensions whose items may raise by a call. -/
namespace Dx
open PySem PySem.Spec PyProof.Rows PySem.Calls
open L2 (V Hp HO Inv Cx XE Zc WX VK St Un FpOk UB Takes frs)
section
variable {M : Model} {A : Around} {E : Value → Shared → Prop} {s : Shared} {env : Env}
/-- how the block ends: the frame is the one around it -/
def endX (M : Model) (A : Around) (E : Value → Shared → Prop) (Q : Value → Shared → Prop) (acc : Value) (C : Addr) (fr : Option Addr) (r : Result) (t : Shared) : Prop := match r with
  | .ok _ => ∃ m, t.heap.Ns C m ∧ ∀ g, Heap.SameBut C t.heap g → Q acc { t with heap := g }
  | .error x => ∃ m, t.heap.Ns C m ∧ ∀ g, Heap.SameBut C t.heap g → ∀ ce : Env, ce.locals = C → ce.frame = fr → wpAny M A (passOn "comprehension.variables-let-go" x ce : Sem Value) (fun _ _ => False) E { t with heap := g }
theorem compX {e : Expr} {scope : Scope} {pos : Pos} {mk fst : Sem Value} {c : Comprehension} {cs : List Comprehension} {cl : List (Str × Addr)} {Q : Value → Shared → Prop}
    (h1 : clausesOf e = c :: cs) (h2 : ∀ x, foldedSetIterable c.iter env x = pure x) (h3 : closureFor scope env = pure cl) (h4 : scope.kind = .function) (h5 : ∀ x ∈ scope.names, x.2 = .local → scope.names.lookup x.1 = some .local)
    (go : wpAny M A fst (fun x s₁ => wpAny M A (pyIter x) (fun it s₂ => wpAny M A mk (fun acc s₃ => wpAny M A (newFunctionEnv scope env.globals cl [] env.qual none .none (some env)) (fun ce s₄ =>
        codeAny M A (.compStart e 0 it acc { ce with scope := relabel scope env }) (endX M A E Q acc ce.locals ce.frame) s₄) E s₃) E s₂) E s₁) E s) :
    wpAny M A (comprehension e scope env pos mk false fst none) Q E s := by
  unfold comprehension
  rw [h3, h1]
  refine wpAny_bind (wpAny_mono go (fun x s₁ k₁ => wpAny_bind (wpAny_standAt (wpAny_bind (wpAny_of_eq (h2 x) (wpAny_bind (wpAny_holding (wpAny_mono k₁ (fun it s₂ k₂ =>
    wpAny_standIf (wpAny_bind (wpAny_mono k₂ (fun acc s₃ k₃ => wpAny_bind (wpAny_pure (wpAny_bind (wpAny_mono k₃ (fun ce s₄ k₄ => ?_) fun _ _ z => z)))) fun _ _ z => z))) fun _ _ z => z))))))) fun _ _ z => z)
  dsimp only
  have loc : ∀ x ∈ (scope.names.filter fun x => (x.2 == .local || x.2 == .cell) && x.1 != (".0" : Str)).reverse, x.2 = .local → Env.kindOf { ce with scope := relabel scope env } x.1 = some .local :=
    fun x hx hl => lookup_relabel_local (h5 x (List.mem_filter.mp (List.mem_reverse.mp hx)).1 hl)
  refine wpAny_holding (wpAny_bind (wpAny_attempt (wpAny_holding (wpAny_run (codeAny_mono k₄ fun r t hr => ?_)))))
  cases r with
  | ok f =>
    obtain ⟨m, hn, k⟩ := hr
    exact wpAny_bind (wpAny_holding (wpAny_comp_letGo (cenv := { ce with scope := relabel scope env }) h4 _ t m loc hn fun g m' _ sb => wpAny_pure (k g sb)))
  | error x =>
    obtain ⟨m, hn, k⟩ := hr
    exact wpAny_bind (wpAny_holding (wpAny_comp_letGo (cenv := { ce with scope := relabel scope env }) h4 _ t m loc hn fun g m' _ sb => wpAny_mono (k g sb _ rfl rfl) (fun _ _ f => f.elim) fun _ _ y => y))
end
section
variable {X : Cx} {W : WX}
/-- an exception in flight, let out by a call -/
def FE (X : Cx) (W : WX) (u : Value) (t : Shared) : Prop :=
  ∃ (a : Addr) (B : Heap) (q : Shared) (pins : List (Addr × Obj)) (σ : L2.St) (H : Hp) (cls : Value) (d : Option Addr), u = .ref a ∧ Inv X pins σ H q ∧
    (∀ b o, q.heap.get? b = some o → b ∉ frs X.stack → B.get? b = some o) ∧ q.heap.UpToSlots t.heap ∧ HandSPX.FlyingZ B X.stack a (Zc cls d) t.heap ∧ H a = none ∧ t.os = q.os ∧ AllBare t.gens ∧ W cls d σ H
def TakesF (X : Cx) (W : WX) : Prop := ∀ u t, FE X W u t → X.xe u t
theorem TakesF.of (h : Takes X W) : TakesF X W := fun u t ⟨a, B, q, pins, σ, H, cls, d, e, I, nb, up, fl, na, os, ag, w⟩ => h u t ⟨a, B, q, pins, σ, H, cls, d, e, I, nb, up, .inr (.inl fl), na, os, ag, w⟩
theorem fe_call {pins : List (Addr × Obj)} {σ : L2.St} {H : Hp} {s t : Shared} {E : L2.XK} {u : Value} (I : Inv X pins σ H s) (hW : ∀ cls d H', E cls d H' → W cls d σ H') (c : L2.CX X.prog X.w X.stack H s E u t) : FE X W u t := by
  have x := L2.XE.of_call (W := W) I hW c
  obtain ⟨a, B, _, _, _, rfl, fl, _, _, _, _, _, _⟩ := c
  obtain ⟨_, _, _, oe, vs, T, oT, ts, he, _, hd, h1, _, _, hT, hdT, h3⟩ := fl
  obtain ⟨a', B', q, pins', σ', H', cls, d, e, J, nb, up, sky, na, os, ag, w⟩ := x
  cases e
  refine ⟨a, B', q, pins', σ', H', cls, d, rfl, J, nb, up, ?_, na, os, ag, w⟩
  rcases sky with ⟨_, _, _, oe', vs', he', _, hd', h1'⟩ | fl | ⟨_, _, _, oe', vs', T', oT', ts', he', _, hd', h1', _, _, hT', hdT', h3'⟩
  · rw [he] at he'
    cases he'
    rw [hd] at hd'
    cases hd'
    rw [h1] at h1'
    cases h1'
  · exact fl
  · rw [he] at he'
    cases he'
    rw [hd] at hd'
    cases hd'
    rw [h1] at h1'
    cases h1'
    rw [hT] at hT'
    cases hT'
    rw [hdT] at hdT'
    cases hdT'
    rw [h3] at h3'
    cases h3'
/-- it leaves the block -/
theorem fe_out (tk : Takes X W) (hs : X.stack = X.env :: X.outer) (hf : X.env.frame = some X.env.locals) {pins : List (Addr × Obj)} {σ : L2.St} {H3 : Hp} {s3 t : Shared} (I3 : Inv X pins σ H3 s3) {fp : List Addr} (f3 : ∀ b ∈ fp, FpOk X pins H3 b)
    {ce : Env} {scope : Scope} {ξ : Value → Shared → Prop} (cL : ce.locals = s3.heap.objs.size) (cf : ce.frame = X.env.frame) {Q : Value → Shared → Prop} {acc u : Value}
    (fe : FE { X.blk s3 H3 scope ce fp with xe := ξ } (fun cls d _ H => W cls d σ H) u t) :
    notedBy (model X.prog X.w) X.A ce (fun e z => endX (model X.prog X.w) X.A X.xe Q acc s3.heap.objs.size X.env.frame (.error e) z) u t := by
  obtain ⟨a, B, q, pins', σ', H', cls, d, rfl, I6, nb, up, fl, na, os, ag, w⟩ := fe
  have hfr : X.A.frames = some (X.env :: X.outer) := by rw [I3.ok.frames, hs]
  have en : noteFrame (.ref a) ce = noteFrame (.ref a) X.env := by unfold noteFrame PySem.frameOf; rw [cf]
  show wpAny _ _ (noteFrame (.ref a) ce) _ _ t
  rw [en]
  have nb : ∀ b o, q.heap.get? b = some o → b ∉ frs X.stack → B.get? b = some o := nb
  have fl : HandSPX.FlyingZ B X.stack a (Zc cls d) t.heap := fl
  rw [hs] at fl
  refine HandSPX.looks_onZ Zc.steady hfr hf fl fun h1 held up1 => ?_
  rw [← hs] at held
  have noC : ∀ b ∈ frs X.stack, b ≠ s3.heap.objs.size := fun b hb z => by
    obtain ⟨_, o, e, _⟩ := I3.stack.mem hb
    exact absurd (Heap.lt_size e) (by rw [z]; exact Nat.lt_irrefl _)
  obtain ⟨m, ⟨oC, es, ep, hoC, rC⟩, _⟩ := I6.loc
  have hoC : q.heap.get? ce.locals = some oC := hoC
  rw [cL] at hoC
  have bC := nb _ _ hoC fun z => noC _ z rfl
  obtain ⟨k1, k2, k3, oe, vs, T, oT, ts, he, hz, hd, hv, hnT, hTe, hT, hdT, h3⟩ := held
  refine ⟨m, ⟨oC, es, ep, k1 _ _ bC, rC⟩, fun g sb cenv cl cf2 => ?_⟩
  have aC : a ≠ s3.heap.objs.size := fun z => by rw [z, bC] at k2; cases k2
  have TC : T ≠ s3.heap.objs.size := fun z => by rw [z, bC] at hnT; cases hnT
  have he' : g.get? a = some oe := (sb.2 a aC).trans he
  have hT' : g.get? T = some oT := (sb.2 T TC).trans hT
  obtain ⟨B2, b1, b2⟩ := L2.restrict B fun b => decide (b ≠ s3.heap.objs.size)
  have bb : ∀ b o, B2.get? b = some o → B.get? b = some o ∧ b ≠ s3.heap.objs.size := fun b o e => by
    by_cases z : b = s3.heap.objs.size
    · rw [b2 b (by simp [z])] at e; cases e
    · rw [b1 b (by simp [z])] at e; exact ⟨e, z⟩
  have bi : ∀ b o, B.get? b = some o → b ≠ s3.heap.objs.size → B2.get? b = some o := fun b o e z => by rw [b1 b (by simp [z])]; exact e
  have nn : ∀ b, B.get? b = none → B2.get? b = none := fun b e => by
    cases z : B2.get? b with
    | none => rfl
    | some o => rw [(bb b o z).1] at e; cases e
  have st2 : B2.StaysIn g := fun b o e => by
    obtain ⟨e1, z⟩ := bb b o e
    rw [sb.2 b z]
    exact k1 b o e1
  have ff : ∀ l : List Env, (∀ b ∈ frs l, b ≠ s3.heap.objs.size) → h1.FunFrames B l → g.FunFrames B2 l := fun l => by
    induction l with
    | nil => exact fun _ _ => trivial
    | cons e r ih =>
      rintro hn ⟨w1, ⟨L, o, w2, w3, w4, w5⟩, w6⟩
      have ne : L ≠ s3.heap.objs.size := hn L (List.mem_filterMap.mpr ⟨e, List.mem_cons_self, w2⟩)
      exact ⟨w1, ⟨L, o, w2, nn L w3, (sb.2 L ne).trans w4, w5⟩, ih (fun b hb => hn b (by
        obtain ⟨e', he', q'⟩ := List.mem_filterMap.mp hb
        exact List.mem_filterMap.mpr ⟨e', List.mem_cons_of_mem _ he', q'⟩)) w6⟩
  have tr2 : HandSPX.TracedZ g B2 a (Zc cls d) (rawInt X.env.locals) := ⟨oe, vs, T, oT, ts, he', hz, hd, hv, nn T hnT, hTe, hT', hdT, h3⟩
  unfold PySem.passOn
  refine wpAny_bind (wpAny_field he' hd hv ?_)
  rw [if_neg (show ¬ ((Value.ref T == Value.none) = true) from by simp)]
  have fin : wpAny (model X.prog X.w) X.A (setFlight (.ref a) cenv.frame) (fun _ s4 => wpAny (model X.prog X.w) X.A (throw (.ref a) : Sem Value) (fun _ _ => False) X.xe s4) X.xe { t with heap := g } := by
    rw [cf2, hf]
    refine HandSPX.setFlight_anyZ (base := B2) (l := X.stack) st2 (ff _ noC k3) tr2 fun h' j1 j2 j3 j4 => wpAny_throw (tk _ _ ?_)
    obtain ⟨G, g1, g2⟩ := L2.restrict h' fun b => (B2.get? b).isSome || decide (b ∈ frs X.stack)
    have gB : ∀ b o, B2.get? b = some o → G.get? b = some o := fun b o e => by
      rw [g1 b (by simp [e])]
      exact j1 b o e
    have gF : ∀ b, b ∈ frs X.stack → G.get? b = h'.get? b := fun b hb => g1 b (by simp [hb])
    have og : ∀ b o, G.get? b = some o → h'.get? b = some o ∧ ((B2.get? b).isSome = true ∨ b ∈ frs X.stack) := fun b o e => by
      cases z : ((B2.get? b).isSome || decide (b ∈ frs X.stack)) with
      | false => rw [g2 b z] at e; cases e
      | true =>
        rw [g1 b z] at e
        exact ⟨e, by simpa [Bool.or_eq_true] using z⟩
    have far : ∀ b o, q.heap.get? b = some o → (∀ vs, o.data ≠ .fields vs) → b ≠ s3.heap.objs.size → ∃ sl, h'.get? b = some { o with slots := sl } := fun b o e nf z => by
      obtain ⟨sl1, e1⟩ := up b o e nf
      obtain ⟨sl2, e2⟩ := up1 b _ e1 nf
      have e3 : g.get? b = some { o with slots := sl2 } := (sb.2 b z).trans e2
      obtain ⟨sl3, e4⟩ := j4 b { o with slots := sl2 } e3 nf
      exact ⟨sl3, e4⟩
    have nfr : ∀ b o, b ∈ frs X.stack → s3.heap.get? b = some o → ∀ vs, o.data ≠ .fields vs := fun b o hb e => by
      obtain ⟨_, o', e', hd'⟩ := I3.stack.mem hb
      rw [e] at e'
      cases e'
      exact hd'
    have base : Un (frs X.stack) fp H3 H' s3.heap q.heap := I6.base
    have lt : ∀ b o, s3.heap.get? b = some o → b ≠ s3.heap.objs.size := fun b o e => Nat.ne_of_lt (Heap.lt_size e)
    have slot : ∀ b o, s3.heap.get? b = some o → H3 b = none → b ∈ frs X.stack → b ∉ fp → ∃ sl, G.get? b = some { o with slots := sl } := fun b o e n hb hc => by
      obtain ⟨sl, e1⟩ := base.slot b o e n hb hc
      obtain ⟨sl2, e2⟩ := far b _ e1 (nfr b o hb e) (lt b o e)
      exact ⟨sl2, (gF b hb).trans e2⟩
    have un : Un (frs X.stack) fp H3 H' s3.heap G := by
      refine ⟨fun b o e n hb hc => gB b o (bi b o (nb b o (base.keep b o e n hb hc) hb) (lt b o e)), slot, base.free, fun b o e hc => ?_, base.tups, base.frzs, base.tbls⟩
      by_cases hb : b ∈ frs X.stack
      · obtain ⟨sl, z⟩ := slot b o e (I3.stkFree b hb) hb hc
        exact ⟨_, z⟩
      · obtain ⟨o', z⟩ := base.there b o e hc
        exact ⟨o', gB b o' (bi b o' (nb b o' z hb) (lt b o e))⟩
    have tracked : ∀ c, H' c ≠ none → c ∉ frs X.stack ∧ c ≠ s3.heap.objs.size := fun c hc => ⟨fun z => hc (I6.stkFree c z), fun z => hc (by
      have f : H' ce.locals = none := I6.free
      rw [cL] at f
      rw [z]; exact f)⟩
    have hok : L2.HOk X.prog X.w H' G := fun b u e => (I6.hok b u e).stay (fun c v hc z => by
      have hn : H' c ≠ none := by
        rcases hc with rfl | hc
        · rw [e]; simp
        · rw [hc]; simp
      obtain ⟨z1, z2⟩ := tracked c hn
      exact gB c v (bi c v (nb c v z z1) z2)) (fun _ z => z) fun _ _ z => z
    refine ⟨a, B2, { s3 with heap := G, gens := t.gens, drawn := t.drawn, toks := t.toks }, pins, σ, H', cls, d, rfl, I3.call (ch := fp) un hok ag fun b hb => ⟨(f3 b hb).2.2.2.1, (f3 b hb).2.1, (f3 b hb).2.2.2.2.1, (f3 b hb).2.2.2.2.2⟩, fun b o e hb => ?_, Heap.UpToSlots.of_keeps fun b o e => (og b o e).1, .inr (.inr ⟨j1, nn a k2, j2, j3⟩), na, os.trans I6.os, ag, w⟩
    obtain ⟨e', h⟩ := og b o e
    rcases h with h | h
    · obtain ⟨o', z⟩ := Option.isSome_iff_exists.mp h
      have y := j1 b o' z
      rw [e'] at y
      cases y
      exact z
    · exact absurd h hb
  first
    | exact wpAny_bind (wpAny_pure (wpAny_bind fin))
    | exact wpAny_bind fin
end
section
open L2
variable {X : Cx}
theorem inv_xe {pins : List (Addr × Obj)} {σ : L2.St} {H : Hp} {s : Shared} (I : Inv X pins σ H s) (ξ : Value → Shared → Prop) : Inv { X with xe := ξ } pins σ H s :=
  ⟨⟨I.ok.mod, I.ok.kind, I.ok.glob, I.ok.blt, I.ok.above, I.ok.inj, I.ok.has, I.ok.cab, I.ok.hd, I.ok.frames, I.ok.stk, I.ok.exf, I.ok.bs, I.ok.bsz, I.ok.noex, I.ok.exfs, I.ok.funs, I.ok.frf⟩, I.os, I.bare, I.base, I.loc, I.cell, I.free, I.freeC, I.pin, I.hok, I.len⟩
/-- what is let out of a block: W's outer slots -/
abbrev Wo (W : WX) (σ : L2.St) : WX := fun cls d _ H => W cls d σ H
/-- a block's context that lets exceptions of calls out -/
abbrev bX (X : Cx) (W : WX) (σ : L2.St) (s : Shared) (H : Hp) (scope : Scope) (ce : Env) (fp : List Addr) : Cx := { X.blk s H scope ce fp with xe := FE (X.blk s H scope ce fp) (Wo W σ) }
theorem bX_takes {W : WX} {σ : L2.St} {s : Shared} {H : Hp} {scope : Scope} {ce : Env} {fp : List Addr} : TakesF (bX X W σ s H scope ce fp) (Wo W σ) := fun u t ⟨a, B, q, pins, σ', H', cls, d, e, I, nb, up, fl, na, os, ag, w⟩ =>
  ⟨a, B, q, pins, σ', H', cls, d, e, inv_xe (X := bX X W σ s H scope ce fp) I fun _ _ => False, nb, up, fl, na, os, ag, w⟩
theorem pe_lcX {W : WX} {elt tg iter : Expr} {ifs : List Expr} {scope : Scope} {own : List (Str × Nat)} {pos : Pos} {wi : TI} {g : TG} {tt : L2.St → TT} {te : L2.St → TE} (tk : Takes X W) (hst : X.stack = X.env :: X.outer) (hfr : X.env.frame = some X.env.locals) (hc : X.calm = true) (hN : X.N.Nodup) (hi : PI X tg iter wi) (ok : BlkOk X.N X.env.scope scope own)
    (hg : ∀ (σ : L2.St) (s : Shared) (H : Hp) (C : Addr) (cl : List (Str × Addr)) (fp : List Addr), PG (bX X W σ s H scope (compEnvC scope cl C X.env) fp) tg g) (ht : ∀ (σ : L2.St) (s : Shared) (H : Hp) (C : Addr) (cl : List (Str × Addr)) (fp : List Addr), PTs (bX X W σ s H scope (compEnvC scope cl C X.env) fp) ifs (tt σ))
    (he : ∀ (σ : L2.St) (s : Shared) (H : Hp) (C : Addr) (cl : List (Str × Addr)) (fp : List Addr), PE (bX X W σ s H scope (compEnvC scope cl C X.env) fp) elt (te σ)) (fold : ∀ x, foldedSetIterable iter X.env x = pure x) :
    PE X (.ListComp elt [⟨tg, iter, ifs, 0⟩] scope pos) (fun σ H Q => L2.tLc wi g (tt σ) (te σ) (own.map fun p => p.2) σ H Q) := by
  refine ⟨fun pins z σ H Q I h => ?_⟩
  rw [eval_ListComp]
  have cap : ∀ y ∈ scope.names, y.2 = .free → ∃ c, X.env.cells.lookup y.1 = some c := fun y hy e => by
    rcases ok.free y hy e with k | k
    · exact I.ok.has _ (.inl k)
    · exact I.ok.has _ (.inr k)
  refine compX rfl fold (closure_ok cap) ok.kind (fun y hy e => by rw [ok.uniq y hy, e]) (thn (hi.run pins z σ H _ I h) fun xv t1 k1 => thn k1 fun iv t2 k2 => ?_)
  obtain ⟨it, fp, tn, J, K2, e, J2, Tw, ts2, fo, rest⟩ := k2
  subst e
  refine wpAny_newObj_type (newEnv_comp ?_) (by show 0 ≤ sizeLine; decide)
  generalize hL : t2.heap.objs.size = L
  have nL : K2 L = none := J2.hok.fresh (Nat.le_of_eq hL)
  obtain ⟨Wf, ⟨n0, wz⟩, turn⟩ := rest L nL
  generalize e3 : ({ t2 with heap := t2.heap.push { cls := .type "list", data := .seq ([] : List Value).toArray } } : Shared) = t3
  have J3 : Inv X pins σ (upd K2 L (.lst [])) t3 := by
    rw [← e3]
    refine J2.laid (t' := t2.toks) (fun b o e => Heap.get?_push_of_some _ e) (Nat.le_of_eq hL) ⟨Nat.zero_le _, [], 0, .nil, ?_⟩
    rw [← hL]
    exact Heap.get?_push_size _ rfl
  have q3 : t3.heap = t2.heap.push { cls := .type "list", data := .seq ([] : List Value).toArray } := by rw [← e3]
  have below : ∀ b ∈ fp, b < t2.heap.objs.size := fun b hb => by
    obtain ⟨o, e, _⟩ := Tw.obj _ _ ts2 b hb
    exact Heap.lt_size e
  have fo3 : ∀ b ∈ fp, FpOk X pins (upd K2 L (.lst [])) b ∧ b < t3.heap.objs.size := fun b hb => by
    have lt := below b hb
    refine ⟨⟨?_, (fo b hb).2⟩, by rw [q3, Heap.size_push]; exact Nat.lt_succ_of_lt lt⟩
    rw [upd_ne (by rw [← hL]; exact Nat.ne_of_lt lt)]
    exact (fo b hb).1
  have ts3 : tn 0 t3.heap := Tw.keep _ _ _ ts2 fun b _ o e => by rw [q3]; exact Heap.get?_push_of_some _ e
  have J4 := block_start J3 ok hN fo3
  have pg := hg σ t3 (upd K2 L (.lst [])) t3.heap.objs.size (cellsFrom (t3.heap.objs.size + 1) scope.names (cloFrom X.env.cells scope.names [])) fp
  have pt := ht σ t3 (upd K2 L (.lst [])) t3.heap.objs.size (cellsFrom (t3.heap.objs.size + 1) scope.names (cloFrom X.env.cells scope.names [])) fp
  have pe := he σ t3 (upd K2 L (.lst [])) t3.heap.objs.size (cellsFrom (t3.heap.objs.size + 1) scope.names (cloFrom X.env.cells scope.names [])) fp
  show codeAny _ _ (.compStart (.ListComp elt [⟨tg, iter, ifs, 0⟩] scope pos) 0 (.ref it) (.ref L) (compEnvC scope (cellsFrom (t3.heap.objs.size + 1) scope.names (cloFrom X.env.cells scope.names [])) t3.heap.objs.size X.env))
    (endX (model X.prog X.w) X.A X.xe (EP X pins σ Q) (.ref L) t3.heap.objs.size X.env.frame) { t3 with heap := pushCells (t3.heap.push { cls := .type "dict", data := .dict #[] }) scope.names }
  have nfp : ∀ b ∈ fp, (upd K2 L (.lst [])) b = none := fun b hb => (fo3 b hb).1.1
  generalize hce : compEnvC scope (cellsFrom (t3.heap.objs.size + 1) scope.names (cloFrom X.env.cells scope.names [])) t3.heap.objs.size X.env = ce at J4 pg pt pe ⊢
  have cL : ce.locals = t3.heap.objs.size := by subst hce; rfl
  have cf : ce.frame = X.env.frame := by subst hce; rfl
  generalize hK : upd K2 L (.lst []) = K3 at J3 J4 pg pt pe wz nfp fo3
  generalize e4 : ({ t3 with heap := pushCells (t3.heap.push { cls := .type "dict", data := .dict #[] }) scope.names } : Shared) = t4 at J4 ⊢
  have ts4 : tn 0 t4.heap := Tw.keep _ _ _ ts3 fun b _ o e => by rw [← e4]; exact pushCells_keeps _ _ _ _ (Heap.get?_push_of_some _ e)
  have out : ∀ u t, (bX X W σ t3 K3 scope ce fp).xe u t → notedBy (model X.prog X.w) X.A ce (fun e z => endX (model X.prog X.w) X.A X.xe (EP X pins σ Q) (.ref L) t3.heap.objs.size X.env.frame (.error e) z) u t := fun u t fe =>
    fe_out tk hst hfr J3 (fun b hb => (fo3 b hb).1) cL cf (ξ := fun _ _ => False) fe
  have stat : ∀ {τ : L2.St} {H' : Hp} {t : Shared}, Inv (bX X W σ t3 K3 scope ce fp) [] τ H' t → (∀ b ∈ fp, H' b = none) → ∀ b ∈ fp, FpOk (bX X W σ t3 K3 scope ce fp) [] H' b := fun {τ H' t} I' hn b hb =>
    ⟨hn b hb, (I'.ok.exf b hb).1, I'.ok.exfs b hb, .inl hb, fun x c e => (I'.ok.exf b hb).2 x c e, fun p hp => absurd (show p ∈ ([] : List (Addr × Obj)) ++ [] from hp) (by simp)⟩
  have loop : codeAny (model X.prog X.w) X.A (.compLoop (.ListComp elt [⟨tg, iter, ifs, 0⟩] scope pos) 0 (.ref it) (.ref L) ce) (endX (model X.prog X.w) X.A X.xe (EP X pins σ Q) (.ref L) t3.heap.objs.size X.env.frame) t4 := by
    refine compLoop_any (fun n t => ∃ i H', Inv (bX X W σ t3 K3 scope ce fp) [] (wipe σ (own.map fun p => p.2)) H' t ∧ tn i t.heap ∧ (∀ b ∈ fp, H' b = none) ∧ Wf i n H') ?_ n0 ⟨0, K3, inv_xe J4 _, ts4, nfp, wz⟩
    rintro n t5 ⟨i, H5, I5, ts5, n5, w5⟩
    rcases turn i n H5 w5 with ⟨stop, qq⟩ | ⟨go, Nx, nxt, step⟩
    · refine thnF (Tw.done (bX X W σ t3 K3 scope ce fp) rfl rfl rfl hc i [] t5 _ H5 (fun _ _ => False) I5 (stat I5 n5) ts5 stop) fun r t6 ⟨hr, I6⟩ => ?_
      subst hr
      have I7 : Inv X pins σ H5 t6 := J3.call' (ch := fp) I6.os I6.base I6.hok I6.bare fun b hb => ⟨(fo3 b hb).1.2.2.2.1, (fo3 b hb).1.2.1, (fo3 b hb).1.2.2.2.2.1, (fo3 b hb).1.2.2.2.2.2⟩
      have nC : H5 ce.locals = none := I6.free
      obtain ⟨m, hn, _⟩ := I6.loc
      have hn : t6.heap.Ns ce.locals m := hn
      rw [cL] at hn nC
      obtain ⟨f0, f1, f2, f3, f4, f5⟩ := J3.fpOk (Nat.le_refl _) nC
      exact ⟨m, hn, fun v sb => ⟨.ref L, H5, I7.turned (t' := t6.toks) (fun b o hb e => (sb.2 b hb).trans e) f0 f1 f3 f4 f5, rfl, qq⟩⟩
    · refine thnF (Tw.item (bX X W σ t3 K3 scope ce fp) rfl rfl rfl hc i [] t5 _ H5 (fun _ _ => False) I5 (stat I5 n5) ts5 go) fun r t6 ⟨u, hr, h6⟩ => ?_
      subst hr
      refine thnF h6 fun _ t7 ⟨x, H7, I7, r7, y7, ts7, n7⟩ => ?_
      have I7p := I7.pinned (stat I7 n7) (Tw.obj _ _ ts7)
      refine wpAny_mono (pg.run _ t7 _ H7 x u _ I7p r7 (step x H7 y7)) (fun _ t8 ⟨τ, H8, I8, hw8, q8⟩ => ?_) out
      refine wpAny_mono (pt.run _ t8 τ H8 _ I8 q8) (fun b t9 ⟨H9, I9, q9⟩ => ?_) out
      have fin : ∀ {t : Shared} {H' : Hp}, Inv (bX X W σ t3 K3 scope ce fp) ([] ++ pinsAt fp t7.heap) τ H' t → Nx H' → ∃ m, m < n ∧ ∃ i H', Inv (bX X W σ t3 K3 scope ce fp) [] (wipe σ (own.map fun p => p.2)) H' t ∧ tn i t.heap ∧ (∀ b ∈ fp, H' b = none) ∧ Wf i m H' := fun {t H'} I' nx => by
        obtain ⟨m', lt, w'⟩ := nxt H' nx
        have kept : ∀ b ∈ fp, ∀ o, t7.heap.get? b = some o → t.heap.get? b = some o ∧ H' b = none := fun b hb o e =>
          let z := I'.pin (b, o) (List.mem_append_right _ (List.mem_append_right _ (mem_pinsAt hb e)))
          ⟨z.1, z.2.1⟩
        have len : (wipe σ (own.map fun p => p.2)).length = τ.length := by rw [← hw8, wipe_length]
        refine ⟨m', lt, i + 1, H', (I'.unpinned (pins := [])).weak len (fun j v e => ?_), Tw.keep _ _ _ ts7 fun b hb o e => (kept b hb o e).1, fun b hb => ?_, w'⟩
        · rw [← hw8] at e
          exact (wipe_some e).1
        · obtain ⟨o, e, _⟩ := Tw.obj _ _ ts7 b hb
          exact (kept b hb o e).2
      cases b with
      | false =>
        simp only [Bool.false_eq_true, if_false] at q9 ⊢
        exact fin I9 q9
      | true =>
        simp only [if_true] at q9 ⊢
        refine wpAny_mono (pe.run _ t9 τ H9 _ I9 q9) (fun v t10 ⟨y, H10, I10, r10, acc, h10, z10, nx⟩ => ?_) out
        exact app_ok (X := bX X W σ t3 K3 scope ce fp) I10 h10 z10 r10 fun t11 I11 => fin I11 nx
  exact codeAny_compStart_list loop (Tw.self X.A 0 _ _ _ ts4 loop)
end
end Dx
end
section
set_option Elab.async false
set_option Elab.async false
set_option linter.all false
set_option maxRecDepth 100000
set_option maxHeartbeats 4000000
set_option autoImplicit false
/-! Snd9: constants of the module; calls of defs. -/
namespace Ds
open PySem PySem.Spec PyProof.Rows
open L2 (V Hp HO upd upd_same upd_ne RelV SqL SqT TE TA TT TS TG TI VK XK WX Cx Inv PE PA PT PS PSs PW Rd EP OpR tOp pe_op R2 rI rI0 Dp DpAll Room CallR tCB tCons tNil tTup tLst Gl Sp)
open Dl (D DV GS S R RC Ex Le)

/-- what stands, but for the source's own -/
def Kept (K : PySem.W.Frag) (A : Option AS) (H : Hp) (A' : Option AS) (H' : Hp) : Prop := ∀ a o, H a = some o → ¬ isM K A a → H' a = some o ∧ ¬ isM K A' a
/-- what a def promises, by what the interpreter answers -/
def SpOf (K : PySem.W.Frag) (cad : String → Option Addr) (rc : List D → Option GS → RC) (n : Nat) : Sp := fun vs H Q E => vs.length = n ∧ ∃ A ds g, Rps K A H vs ds ∧ GOk K A g H ∧ match rc ds g with
  | .ok d g' => ∀ A' H' v, Ext A A' → Kept K A H A' H' → Per H H' → GOk K A' g' H' → Rp K A' H' v d → Q v H'
  | .ex e g' => ∀ A' H' cls dd, Ext A A' → Kept K A H A' H' → Per H H' → GOk K A' g' H' → ExR K cad A' H' cls dd e → E cls dd H'
  | .stuck => False
/-- a def keeps its promise wherever no repr is under way -/
structure FnG (P : Program) (w : World) (K : PySem.W.Frag) (mg : Str → Option Value) (base : Heap) (k : Nat) (f : Addr) (fd : FuncData) (ps : List Str) (sp : Sp) : Prop where
  go : ∀ (A : Around) (outer : List Env) (s : Shared) (H : Hp) (args : Args) (us : List Value) (vs : List V) (Q : VK) (E : XK),
    Room k A → A.guards = some [] → L2.Env0 P w K mg base A outer s H → BindsTo s fd args (ps.zip us) → L2.Vals vs us → sp vs H Q E →
    codeAny (model P w) A (.call (.ref f) args) (L2.CR (L2.CX P w) outer P w H s Q E) s
theorem Room.down {k j : Nat} {A : Around} (h : Room k A) (l : j ≤ k) : Room j A := ⟨h.hd, by have := h.dp; omega, by have := h.un; omega⟩
theorem FnG.up {P : Program} {w : World} {K : PySem.W.Frag} {mg : Str → Option Value} {base : Heap} {k j : Nat} {f : Addr} {fd : FuncData} {ps : List Str} {sp : Sp} (h : FnG P w K mg base k f fd ps sp) (l : k ≤ j) : FnG P w K mg base j f fd ps sp :=
  ⟨fun A outer s H args us vs Q E hr => h.go A outer s H args us vs Q E (Room.down hr l)⟩
/-- by its body -/
theorem fnG_of {P : Program} {w : World} {K : PySem.W.Frag} {mg : Str → Option Value} {base : Heap} {k : Nat} {f : Addr} {name qual : Str} {params : Arguments} {body : List Stmt} {scope : Scope} {dV kV doc pm cdv ct oc : Value} {an od : Option Addr}
    {osl : Array (Option Value)} {N ps : List Str} {sp : Sp}
    (lk : List.lookup f K = some { cls := oc, dict := od, data := .func (PySem.W.fnOf name qual params body scope dV kV doc pm an cdv ct), slots := osl }) (hcd : PySem.W.codeIn K cdv qual = true) (S : L2.FnScope N ps scope)
    (len : ∀ vs H Q E, sp vs H Q E → vs.length = ps.length)
    (bd : ∀ (A : Around) (outer : List Env) (s : Shared) (H : Hp) (vs : List V) (Q : VK) (E : XK), Room k (A.deeper (envOfC qual scope s.heap.objs.size f cdv)) → A.guards = some [] → sp vs H Q E →
      ∃ t, PSs (L2.cxOf (L2.CX P w) P w K mg base N qual scope f cdv A outer s H E) body t ∧ t { nx := fun _ H' => Q .non H', rt := Q } (L2.start N vs) H) :
    FnG P w K mg base (k + 1) f (PySem.W.fnOf name qual params body scope dV kV doc pm an cdv ct) ps sp := by
  refine ⟨fun A outer s H args us vs Q E hr hg e0 hb r hsp => ?_⟩
  have there : ∀ (b : Addr) (o : Obj), base.get? b = some o → s.heap.get? b = some o := fun b o e => (e0.bs b o e).1
  have inK := PySem.W.Frag.In.keeps e0.mod.kin there
  refine codeAny_call_function hr.depth (inK _ _ lk) rfl S.co S.gen rfl (PySem.W.codeRec_of inK hcd) (hb _ _ _ _ ?_)
  refine wpAny_newFunctionEnv_cells S.kind ?_ ?_
  · intro ⟨n, v⟩ hy
    rcases S.par n (List.of_mem_zip hy).1 with q | q
    · exact .inl q
    · exact .inr ⟨q, PySem.W.cellsFrom_some scope.names _ [] (.inl q)⟩
  · intro env he s1 x
    subst he
    refine ⟨PySem.Heap.NoLimit.keeps (PySem.Heap.NoLimit.keeps e0.mod.nolimit there) x.toInCall.keep, codeAny_func ?_⟩
    obtain ⟨t, ht, hq⟩ := bd A outer s H vs Q E (hr.deeper _) hg hsp
    have I := L2.inv_start (CX := L2.CX P w) (E := E) S hr.hd e0 (len _ _ _ _ hsp) r x
    refine wpAny_mono (ht.run [] s1 (L2.start N vs) H _ I hq) ?_ (fun e s' z => z)
    intro fl s' z
    cases fl with
    | next =>
      obtain ⟨σ', H', J, q⟩ := z
      exact ⟨.non, H', J.os, J.bare, J.base, J.hok, rfl, q⟩
    | brk => obtain ⟨_, _, _, q⟩ := z; exact q.elim
    | cont => obtain ⟨_, _, _, q⟩ := z; exact q.elim
    | ret u =>
      obtain ⟨v, σ', H', J, rv, q⟩ := z
      exact ⟨v, H', J.os, J.bare, J.base, J.hok, rv, q⟩
/-- a def under its name, for calls -/
structure CallOk (Γ : Gam) (X : Cx) (f : String) (n : Nat) : Prop where
  ok : ∃ k a fd ps, FnG X.prog X.w X.K X.mg X.base k a fd ps (SpOf Γ.K Γ.cad (Γ.call f) n) ∧ Room k X.A ∧ ps.length = n ∧ X.mg (Str.ofString f) = some (.ref a) ∧ PySem.W.keepIn X.K (.ref a) = true ∧ L2.Binds X.K fd ps []
  gd : X.A.guards = some []
section
variable {Γ : Gam} {W : WX} {A A' : Option AS} {e0 : Ent} {H H' : Hp} {env : List (Option DV)} {g g' : Option GS} {σ : List (Option V)} {X : Cx}
/-- the slots behind a call -/
theorem DI.after (d : Γ.DI A e0 env g σ H) (e : Ext A A') (k : Kept Γ.K A H A' H') (p : Per H H') (q : GOk Γ.K A' g' H') : Γ.DI A' e0 env g' σ H' := by
  refine ⟨fun a o e1 m => ?_, d.src.trans e, q, d.len, fun i dv ei => ?_, d.inj⟩
  · obtain ⟨q1, q2⟩ := d.keep a o e1 m
    exact k a o q1 q2
  · obtain ⟨v, h1, h2⟩ := d.slot i dv ei
    refine ⟨v, h1, ?_⟩
    cases dv with
    | im x => exact Rp.per p e h2
    | ml l =>
      obtain ⟨a, xs, e2, ha, r, h0, m⟩ := h2
      obtain ⟨q1, q2⟩ := k a _ ha m
      exact ⟨a, xs, e2, q1, Rps.per p e r, h0, q2⟩
    | rd l =>
      obtain ⟨a, xs, e2, ha, r, h0, m⟩ := h2
      exact ⟨a, xs, e2, (k a _ ha (d.keep _ _ h0 m.1).2).1, Rps.per p e r, h0, m⟩
    | md ks vs =>
      obtain ⟨a, xs, e2, ha, kk, r, h0, m⟩ := h2
      obtain ⟨q1, q2⟩ := k a _ ha m
      exact ⟨a, xs, e2, q1, kk, Rps.per p e r, h0, q2⟩
    | exc c fs =>
      obtain ⟨a, C, dd, vfs, e1, e2, e3, e4, e5⟩ := h2
      exact ⟨a, C, dd, vfs, e1, e2, e3, p.xd _ _ e4, fun f d q => let ⟨x, q1, q2⟩ := e5 f d q; ⟨x, q1, Rp.per p e q2⟩⟩
theorem k_call {f : String} {e : Expr} {es : List Expr} {l : List Ex} {p pos : Pos} (C : CallOk Γ X f l.length) (tk : Dx.TakesF X W) (hg : Gl X (Str.ofString f)) (hd : (Str.ofString f == ("__debug__" : Str)) = false)
    (hs : (e :: es).all noStar = true) (ha : PA X (e :: es) (tA Γ W l)) : PE X (.Call (.Name (Str.ofString f) p) (e :: es) [] pos) (tI Γ W (.call f l)) := by
  obtain ⟨⟨k, a, fd, ps, F, hr, hl, hm, hk, hb⟩, gd⟩ := C
  have hs1 := hs
  rw [List.all_cons, Bool.and_eq_true] at hs1
  refine ⟨fun pins s σ H Q I h => wpAny_Call_Name_kw (L2.ld_glob I hg hm (PySem.W.callWith_K I.ok.mod.kin hk ?_ (star_cons hs1.1 es _) (star_all hs1.2)) hd)⟩
  obtain ⟨A, e0, env, g, d, ou⟩ := h
  simp only [Dl.evE] at ou
  refine L2.thn (ha.run pos pins s σ H (fun vs H1 => SpOf Γ.K Γ.cad (Γ.call f) l.length vs H1 Q fun cls dd H' => W cls dd σ H') I ⟨A, e0, env, g, d, ou.bind.imp fun ds s1 A1 H1 q1 e1 d1 p1 o1 vs r1 => ?_⟩) ?_
  · refine ⟨r1.length.trans (evEs_len q1), A1, ds, s1.g, r1, d1.gok, ?_⟩
    cases e : Γ.call f ds s1.g with
    | ok x g' =>
      simp only [e] at o1
      exact fun A' H' v ex kp pr go rp => o1 A' H' ex (d1.after ex kp pr go) pr v rp
    | ex x g' =>
      simp only [e] at o1
      exact fun A' H' cls dd ex kp pr go er => o1 A' cls dd H' ex (d1.after ex kp pr go) pr er
    | stuck => simp only [e] at o1; exact o1.elim
  · intro us s1 ⟨vs, H1, I1, r, q⟩
    refine ⟨I1.kIn, ?_⟩
    show wpAny _ _ (call (.ref a) us) _ _ s1
    have hul : us.length = ps.length := by rw [← r.length, q.1, hl]
    have b := hb s1 us I1.kIn (by rw [List.append_nil]; exact hul)
    rw [List.append_nil] at b
    refine wpAny_call (codeAny_mono (F.go X.A X.stack s1 H1 { pos := us } us vs Q _ hr gd I1.env0 b r q) ?_)
    intro rs s2 z
    cases rs with
    | error e => exact tk e s2 (Dx.fe_call I1 (fun cls d H' h => h) z)
    | ok fl => cases fl with
      | ret u => exact I1.after z
      | _ => exact z.elim
/-- a constant of the module -/
def GlOk (Γ : Gam) (X : Cx) (x : String) : Prop := ∀ d, Γ.gl x = some d → ∃ u v, X.mg (Str.ofString x) = some u ∧ RelV v u ∧ ∀ A H, Rp Γ.K A H v d
theorem k_gl {x : String} {p : Pos} (G : GlOk Γ X x) (hg : Gl X (Str.ofString x)) (hd : (Str.ofString x == ("__debug__" : Str)) = false) : PE X (.Name (Str.ofString x) p) (tI Γ W (.gl x)) := by
  cases e : Γ.gl x with
  | none =>
    refine ⟨fun pins s σ H Q I ⟨A, e0, env, g, d, ou⟩ => ?_⟩
    simp only [Dl.evE, e] at ou
    exact ou.elim
  | some z =>
    obtain ⟨u, v, h1, h2, h3⟩ := G z e
    refine PE.weak (L2.pe_glob hg h1 h2 hd) fun σ H Q ⟨A, e0, env, g, d, ou⟩ => ?_
    simp only [Dl.evE, e] at ou
    exact Out.here (a := z) (s := ⟨env, g⟩) ou d v (h3 _ _)
end
end Ds
end
section
set_option Elab.async false
set_option Elab.async false
set_option linter.all false
set_option maxRecDepth 100000
set_option maxHeartbeats 4000000
set_option autoImplicit false
/-! Snd10: statements. -/
namespace Ds
open PySem PySem.Spec PyProof.Rows
open L2 (V Hp HO upd upd_same upd_ne RelV SqL SqT TE TA TT TS TG TI VK XK WX Cx Inv PE PA PT PS PSs PG PGs PW Rd EP OpR tOp pe_op R2 rI rI0 Dp DpAll Room CallR tCB tCons tNil tTup tLst Gl Sp Ends)
open Dl (D DV GS S R RC Ex Fl Le)
/-- the end of a statement -/
def EndS (Γ : Gam) (E : Ends) (fl : Fl) (A' : Option AS) (σ' : List (Option V)) (H' : Hp) : Prop := match fl with
  | .nx => E.nx σ' H'
  | .brk => E.bk σ' H'
  | .cont => E.ct σ' H'
  | .ret d => ∀ v, Rp Γ.K A' H' v d → E.rt v H'
def OutS (Γ : Gam) (W : WX) (A : Option AS) (e0 : Ent) (H : Hp) (r : R Fl) (E : Ends) : Prop := match r with
  | .ok fl s => ∀ A' σ' H', Ext A A' → Γ.DI A' e0 s.env s.g σ' H' → Per H H' → EndS Γ E fl A' σ' H'
  | .ex e s => ∀ A' σ' cls dd H', Ext A A' → Γ.DI A' e0 s.env s.g σ' H' → Per H H' → ExR Γ.K Γ.cad A' H' cls dd e → W cls dd σ' H'
  | .stuck => False
/-- readings of statements -/
def tS (Γ : Gam) (W : WX) (x : Dl.St) : TS := fun E σ H => ∃ A e0 env g, Γ.DI A e0 env g σ H ∧ OutS Γ W A e0 H (Dl.evS Γ.fl Γ.gl Γ.call x ⟨env, g⟩) E
def tSs (Γ : Gam) (W : WX) (l : List Dl.St) : TS := fun E σ H => ∃ A e0 env g, Γ.DI A e0 env g σ H ∧ OutS Γ W A e0 H (Dl.evB Γ.fl Γ.gl Γ.call l ⟨env, g⟩) E
section
variable {Γ : Gam} {W : WX} {A A' : Option AS} {e0 : Ent} {H H' : Hp} {env : List (Option DV)} {g g' : Option GS} {σ : List (Option V)} {X : Cx} {E : Ends} {α : Type}
theorem OutS.later {r : R Fl} (h : OutS Γ W A e0 H r E) (e : Ext A A') (p : Per H H') : OutS Γ W A' e0 H' r E := by
  cases r with
  | ok a s => exact fun A2 σ' H2 e2 d2 p2 => h A2 σ' H2 (e.trans e2) d2 (p.trans p2)
  | ex x s => exact fun A2 σ' c dd H2 e2 d2 p2 => h A2 σ' c dd H2 (e.trans e2) d2 (p.trans p2)
  | stuck => exact h
/-- a statement that evaluates first -/
theorem OutS.eval {r : R α} {f : α → S → R Fl} (h : OutS Γ W A e0 H (r.bind f) E) : Out Γ W A e0 σ H r fun a s A' H' => OutS Γ W A' e0 H' (f a s) E := by
  cases r with
  | ok a s => exact fun A' H' e d p => OutS.later h e p
  | ex x s => exact fun A' c dd H' e d p x => h A' σ c dd H' e d p x
  | stuck => exact h
/-- a statement behind another -/
theorem OutS.seq {r : R Fl} {f : Fl → S → R Fl} (h : OutS Γ W A e0 H (r.bind f) E) {E' : Ends} (i : ∀ fl s A' σ' H', r = .ok fl s → Ext A A' → Γ.DI A' e0 s.env s.g σ' H' → Per H H' → OutS Γ W A' e0 H' (f fl s) E → EndS Γ E' fl A' σ' H') : OutS Γ W A e0 H r E' := by
  cases r with
  | ok a s => exact fun A' σ' H' e d p => i a s A' σ' H' rfl e d p (OutS.later h e p)
  | ex x s => exact h
  | stuck => exact h
theorem OutS.here {fl : Fl} {s : S} (h : OutS Γ W A e0 H (.ok fl s) E) (d : Γ.DI A e0 s.env s.g σ H) : EndS Γ E fl A σ H := h A σ H (Ext.refl A) d (Per.refl H)
theorem OutS.imp {r : R Fl} {E' : Ends} (h : OutS Γ W A e0 H r E) (i : ∀ fl s A' σ' H', r = .ok fl s → Ext A A' → Γ.DI A' e0 s.env s.g σ' H' → Per H H' → EndS Γ E fl A' σ' H' → EndS Γ E' fl A' σ' H') : OutS Γ W A e0 H r E' := by
  cases r with
  | ok a s => exact fun A' σ' H' e d p => i a s A' σ' H' rfl e d p (h A' σ' H' e d p)
  | ex x s => exact h
  | stuck => exact h
theorem b_nil : PSs X [] (tSs Γ W []) := PSs.weak L2.pss_nil fun E σ H ⟨A, e0, env, g, d, o⟩ => by
  simp only [Dl.evB] at o
  exact OutS.here (s := ⟨env, g⟩) o d
theorem b_cons {st : Stmt} {sts : List Stmt} {x : Dl.St} {l : List Dl.St} (h : PS X st (tS Γ W x)) (hs : PSs X sts (tSs Γ W l)) : PSs X (st :: sts) (tSs Γ W (x :: l)) :=
  PSs.weak (L2.pss_cons h hs) fun E σ H ⟨A, e0, env, g, d, o⟩ => by
    simp only [Dl.evB] at o
    refine ⟨A, e0, env, g, d, o.seq fun fl s A' σ' H' _ e1 d1 p1 o1 => ?_⟩
    cases fl with
    | nx => exact ⟨A', e0, s.env, s.g, d1, o1⟩
    | brk => exact OutS.here (Γ := Γ) (W := W) (E := E) (fl := .brk) (s := s) o1 d1
    | cont => exact OutS.here (Γ := Γ) (W := W) (E := E) (fl := .cont) (s := s) o1 d1
    | ret v => exact OutS.here (Γ := Γ) (W := W) (E := E) (fl := .ret v) (s := s) o1 d1
theorem s_pass {pos : Pos} : PS X (.Pass pos) (tS Γ W .pass) := PS.weak L2.ps_pass fun E σ H ⟨A, e0, env, g, d, o⟩ => by
  simp only [Dl.evS] at o
  exact OutS.here (s := ⟨env, g⟩) o d
theorem s_brk {pos : Pos} : PS X (.Break pos) (tS Γ W .brk) := PS.weak L2.ps_break fun E σ H ⟨A, e0, env, g, d, o⟩ => by
  simp only [Dl.evS] at o
  exact OutS.here (s := ⟨env, g⟩) o d
theorem s_cont {pos : Pos} : PS X (.Continue pos) (tS Γ W .cont) := PS.weak L2.ps_continue fun E σ H ⟨A, e0, env, g, d, o⟩ => by
  simp only [Dl.evS] at o
  exact OutS.here (s := ⟨env, g⟩) o d
theorem s_ret {e : Expr} {x : Ex} {pos : Pos} (h : PE X e (tI Γ W x)) : PS X (.Return (some e) pos) (tS Γ W (.ret x)) := PS.weak (L2.ps_ret h) fun E σ H ⟨A, e0, env, g, d, o⟩ => by
  simp only [Dl.evS] at o
  exact ⟨A, e0, env, g, d, o.eval.imp fun z s A1 H1 _ e1 d1 p1 o1 v r => OutS.here (s := s) o1 d1 v r⟩
theorem s_retN {pos : Pos} : PS X (.Return none pos) (tS Γ W (.ret .non)) := PS.weak L2.ps_retN fun E σ H ⟨A, e0, env, g, d, o⟩ => by
  simp only [Dl.evS, Dl.evE, Dl.R.bind_ok] at o
  exact OutS.here (s := ⟨env, g⟩) o d _ .non
theorem s_expr {e : Expr} {x : Ex} {pos : Pos} (h : PE X e (tI Γ W x)) (hw : swapsWith e none pos.line X.env = pure false) : PS X (.Expr e pos) (tS Γ W (.expr x)) := PS.weak (L2.ps_expr h hw) fun E σ H ⟨A, e0, env, g, d, o⟩ => by
  simp only [Dl.evS] at o
  exact ⟨A, e0, env, g, d, o.eval.imp fun z s A1 H1 _ e1 d1 p1 o1 v r => OutS.here (s := s) o1 d1⟩
theorem s_doc {x : Str} {j : Nat} {pos pos' : Pos} : PS X (.Expr (.Constant (.str x) j pos') pos) (tS Γ W .pass) := PS.weak L2.ps_doc fun E σ H ⟨A, e0, env, g, d, o⟩ => by
  simp only [Dl.evS] at o
  exact OutS.here (s := ⟨env, g⟩) o d
theorem s_ifs {c : Expr} {a b : List Stmt} {x : Ex} {l r : List Dl.St} {pos : Pos} (hc : PT X c (tT Γ W x)) (ha : PSs X a (tSs Γ W l)) (hb : PSs X b (tSs Γ W r)) : PS X (.If c a b pos) (tS Γ W (.ifs x l r)) :=
  PS.weak (L2.ps_if hc ha hb) fun E σ H ⟨A, e0, env, g, d, o⟩ => by
    simp only [Dl.evS] at o
    refine ⟨A, e0, env, g, d, o.eval.imp fun z s A1 H1 _ e1 d1 p1 o1 => ?_⟩
    split at o1
    · exact ⟨true, rfl, ite_t rfl ⟨A1, e0, s.env, s.g, d1, o1⟩⟩
    · exact ⟨false, rfl, ite_f (by decide) ⟨A1, e0, s.env, s.g, d1, o1⟩⟩
    · exact o1.elim
/-- a name of this def, as a target -/
structure Slot1 (X : Cx) (i : Nat) (x : Str) : Prop where
  nd : X.N.Nodup
  at_ : X.N[i]? = some x
  loc : L2.Loc X.env.scope x
  fn : X.fn x = true ∨ List.lookup x X.env.scope.names = some .local
theorem Slot1.vis {X : Cx} {i : Nat} {x : Str} (L : Slot1 X i x) : L2.Vis X.env.scope x := by
  rcases L.loc with h | h
  · exact .inl h
  · exact .inr (.inl h)
/-- .. that no def within takes -/
structure SlotL (X : Cx) (i : Nat) (x : Str) : Prop where
  nd : X.N.Nodup
  at_ : X.N[i]? = some x
  lo : List.lookup x X.env.scope.names = some .local
theorem SlotL.s1 {X : Cx} {i : Nat} {x : Str} (L : SlotL X i x) : Slot1 X i x := ⟨L.nd, L.at_, .inl L.lo, .inr L.lo⟩
theorem s_set {i : Nat} {x : Str} {e : Expr} {y : Ex} {pos pos' : Pos} (L : Slot1 X i x) (h : PE X e (tI Γ W y)) (hw : swapsWith e (some (.Name x pos')) pos.line X.env = pure false) : PS X (.Assign [.Name x pos'] e pos) (tS Γ W (.set i y)) :=
  PS.weak (L2.ps_set L.nd L.at_ L.loc h hw L.fn) fun E σ H ⟨A, e0, env, g, d, o⟩ => by
    simp only [Dl.evS] at o
    exact ⟨A, e0, env, g, d, o.eval.imp fun z s A1 H1 _ e1 d1 p1 o1 v r => OutS.here (s := s.put i (.im z)) o1 (d1.put r)⟩
theorem s_setL {i : Nat} {x : Str} {e : Expr} {y : Ex} {pos pos' : Pos} (L : Slot1 X i x) (h : PE X e (tF Γ W y)) (hw : swapsWith e (some (.Name x pos')) pos.line X.env = pure false) : PS X (.Assign [.Name x pos'] e pos) (tS Γ W (.setL i y)) :=
  PS.weak (L2.ps_set L.nd L.at_ L.loc h hw L.fn) fun E σ H ⟨A, e0, env, g, d, o⟩ => by
    simp only [Dl.evS] at o
    refine ⟨A, e0, env, g, d, o.eval.imp fun z s A1 H1 _ e1 d1 p1 o1 v r => ?_⟩
    rcases r with r | ⟨l, rfl, r⟩
    · cases z with
      | lst l => exact absurd rfl (r.nl l)
      | _ => exact OutS.here (s := s.put i (.im _)) o1 (d1.put r.rp)
    · exact OutS.here (s := s.put i (.ml l)) o1 (d1.putL r)
end
end Ds
namespace Ds
open PySem PySem.Spec PyProof.Rows
open L2 (V Hp HO upd upd_same upd_ne RelV SqL SqT TE TA TT TS TG TI VK XK WX Cx Inv PE PA PT PS PSs PG PGs PW Rd EP OpR tOp pe_op R2 rI rI0 Dp DpAll Room CallR tCB tCons tNil tTup tLst Gl Sp Ends)
open Dl (D DV GS S R RC Ex Fl Le)
section
variable {Γ : Gam} {W : WX} {A A' : Option AS} {e0 : Ent} {H H' : Hp} {env : List (Option DV)} {g g' : Option GS} {σ : List (Option V)} {X : Cx} {E : Ends} {α : Type}
/-- names of this def, as targets -/
inductive Slots (X : Cx) : List Nat → List Expr → Prop
  | nil : Slots X [] []
  | cons {i : Nat} {x : Str} {p : Pos} {l : List Nat} {es : List Expr} : Slot1 X i x → Slots X l es → Slots X (i :: l) (.Name x p :: es)
/-- the slots of a target -/
def tgtL : Dl.Tgt → List Nat
  | .one i => [i]
  | .many l => l
/-- what a target does -/
def GOf (Γ : Gam) (t : Dl.Tgt) (g : TG) : Prop := ∀ (A : Option AS) (e0 : Ent) (s s' : S) (σ : List (Option V)) (H : Hp) (v : V) (d : D) (Q : List (Option V) → Hp → Prop),
  Γ.DI A e0 s.env s.g σ H → Rp Γ.K A H v d → Dl.bindT t d s = some s' → (∀ σ', Γ.DI A e0 s'.env s'.g σ' H → σ'.length = σ.length → (∀ j, j ∉ tgtL t → σ'[j]? = σ[j]?) → Q σ' H) → g v σ H Q
/-- the reading of names as targets -/
def gSl : List Nat → L2.TGs
  | [] => L2.gNil
  | i :: l => L2.gCons (L2.gName i) (gSl l)
theorem slots_ok (hK : X.K = Γ.K) : ∀ {l : List Nat} {es : List Expr}, Slots X l es → PGs X es (gSl l) ∧ (assignEach es X.env).length = l.length ∧ List.findIdx? (fun x => x.1) (assignEach es X.env) = none ∧
    ∀ (A : Option AS) (e0 : Ent) (env env' : List (Option DV)) (g : Option GS) (σ : List (Option V)) (H : Hp) (vs : List V) (ds : List D) (Q : List (Option V) → Hp → Prop),
      Γ.DI A e0 env g σ H → Rps Γ.K A H vs ds → Dl.puts l ds env = some env' → (∀ σ', Γ.DI A e0 env' g σ' H → σ'.length = σ.length → (∀ j, j ∉ l → σ'[j]? = σ[j]?) → Q σ' H) → gSl l vs σ H Q
  | _, _, .nil => ⟨L2.pgs_nil, rfl, rfl, fun A e0 env env' g σ H vs ds Q d r e q => by
      cases r with
      | nil => cases e; exact ⟨rfl, q σ d rfl fun _ _ => rfl⟩
      | cons _ _ => cases e⟩
  | _, _, .cons (x := x) (p := p) (es := es) (i := i) L h => by
      obtain ⟨h1, h2, h3, h4⟩ := slots_ok hK h
      refine ⟨L2.pgs_cons (L2.pg_name L.nd L.at_ L.loc L.fn) h1 rfl, ?_, ?_, fun A e0 env env' g σ H vs ds Q d r e q => ?_⟩
      · show ((false, _) :: assignEach es X.env).length = _
        rw [List.length_cons, List.length_cons, h2]
      · show List.findIdx? (fun x => x.1) ((false, _) :: assignEach es X.env) = none
        rw [List.findIdx?_cons, h3]
        rfl
      · cases r with
        | nil => cases e
        | cons r1 r2 =>
          simp only [Dl.puts] at e
          refine ⟨_, _, rfl, h4 A e0 _ env' g _ H _ _ Q (d.put r1) r2 e fun σ' d' hl hj => q σ' d' (by rw [hl]; simp) fun j nj => ?_⟩
          rw [List.mem_cons, not_or] at nj
          rw [hj j nj.2, List.getElem?_set_ne (Ne.symm nj.1)]
theorem g_one {i : Nat} {x : Str} : GOf Γ (.one i) (L2.gName i) := fun A e0 s s' σ H v d Q di r e q => by
  simp only [Dl.bindT] at e
  cases e
  refine q _ (di.put r) (by simp) fun j nj => ?_
  simp only [tgtL, List.mem_singleton] at nj
  rw [List.getElem?_set_ne (Ne.symm nj)]
theorem g_many (hK : X.K = Γ.K) (hc : X.calm = true) {l : List Nat} {es : List Expr} {k : Nat} {pos : Pos} (h : Slots X l es) : PG X (.Tuple es k pos) (L2.gTup Γ.K l.length (gSl l)) ∧ GOf Γ (.many l) (L2.gTup Γ.K l.length (gSl l)) := by
  obtain ⟨h1, h2, h3, h4⟩ := slots_ok hK h
  refine ⟨hK ▸ L2.pg_tup hc h1 h2 h3, fun A e0 s s' σ H v d Q di r e q => ?_⟩
  simp only [Dl.bindT] at e
  split at e
  · rename_i ds
    obtain ⟨a, xs, rfl, h5, r1⟩ := r.tup'
    cases f : Dl.puts l ds s.env with
    | none => rw [f] at e; cases e
    | some env' =>
      rw [f] at e
      cases e
      have hl : ds.length = l.length := by
        have key : ∀ (l : List Nat) (ds : List D) (e e' : List (Option DV)), Dl.puts l ds e = some e' → ds.length = l.length := by
          intro l
          induction l with
          | nil => intro ds e e' q; cases ds <;> simp_all [Dl.puts]
          | cons i l ih =>
            intro ds e e' q
            cases ds with
            | nil => simp [Dl.puts] at q
            | cons d ds => simp only [Dl.puts] at q; simp [ih _ _ _ q]
        exact key _ _ _ _ f
      exact ⟨a, xs, rfl, h5, r1.length.trans hl, h4 A e0 s.env env' s.g σ H xs ds Q di r1 f q⟩
  · cases e
/-- a, b = ... -/
theorem s_unp (hK : X.K = Γ.K) (hc : X.calm = true) {l : List Nat} {es : List Expr} {k : Nat} {e : Expr} {y : Ex} {pos pos' : Pos} (L : Slots X l es) (h : PE X e (tI Γ W y)) (hw : swapsWithSole [.Tuple es k pos'] e pos.line X.env = pure false)
    (hs : swappedStores [.Tuple es k pos'] e X.env = pure none) : PS X (.Assign [.Tuple es k pos'] e pos) (tS Γ W (.unp l y)) := by
  obtain ⟨h1, h2⟩ := g_many (k := k) (pos := pos') hK hc L
  refine PS.weak (L2.ps_asg h h1 hw hs rfl) fun E σ H ⟨A, e0, env, g, d, o⟩ => ?_
  simp only [Dl.evS] at o
  refine ⟨A, e0, env, g, d, o.eval.imp fun z s A1 H1 _ e1 d1 p1 o1 v r => ?_⟩
  cases f : Dl.bindT (.many l) z s with
  | none => rw [f] at o1; exact o1.elim
  | some s' =>
    rw [f] at o1
    exact h2 A1 e0 s s' σ H1 v z _ d1 r f fun σ' d2 _ _ => OutS.here (Γ := Γ) (W := W) (E := E) (fl := .nx) (s := s') o1 d2
/-- xs.append(e) -/
theorem own_at {i : Nat} {l : List D} (d : Γ.DI A e0 env g σ H) (h : env[i]? = some (some (.ml l))) : ∃ a xs, σ[i]? = some (some (.ref a)) ∧ H a = some (.lst xs) ∧ Rps Γ.K A H xs l ∧ e0.H a = none ∧ ¬ isM Γ.K A a := by
  obtain ⟨v, h1, a, xs, rfl, h2, h3, h4, h5⟩ := d.slot i _ h
  exact ⟨a, xs, h1, h2, h3, h4, h5⟩
theorem s_app (hK : X.K = Γ.K) {i : Nat} {x : Str} {e : Expr} {y : Ex} {p p1 p2 pos : Pos} (L : Slot1 X i x) (h : PE X e (tI Γ W y)) (hs : noStar e = true) (hl : (p1.endLine == p2.line) = true) (hd : (x == ("__debug__" : Str)) = false) (hcd : (x == ("__classdict__" : Str)) = false)
    (ht : ((((backTo p2 (starEach [e] X.env)).all fun x => !x.1) && (backToKw p2 (keywordEach [] X.env)).all fun x => x.1.isSome) && decide (([e] : List Expr).length + ([] : List Keyword).length + (if ([] : List Keyword).isEmpty = true then 0 else 1) < 30)) = true)
    (hab : attributeBase (.Name x p) "append" X.env (eval (.Name x p) X.env) = eval (.Name x p) X.env) :
    PS X (.Expr (.Call (.Attribute (.Name x p) "append" p1) [e] [] p2) pos) (tS Γ W (.app i y)) := by
  have pe := L2.pe_bm (T := "list") (name := "append") (id := "list.append") (apos := p1) (cpos := p2) F.plainAttrs_list F.slot_list_append rfl L2.mt_append (L2.pe_var L.at_ L.vis hd hcd) (L2.pa_cons h L2.pa_nil (star_cons hs [] _)) hab ht hl (star_cons hs [] _) rfl
  refine PS.weak (L2.ps_expr pe rfl) fun E σ H ⟨A, e0, env, g, d, o⟩ => ?_
  simp only [Dl.evS] at o
  split at o
  · rename_i l e
    obtain ⟨a, xs, h1, h2, h3, h4, h5⟩ := own_at d (get_eq e)
    refine ⟨_, h1, .inl ⟨rfl, xs, .inl (Rd.of h2)⟩, ?_⟩
    refine ⟨A, e0, env, g, d, o.eval.imp fun z s A1 H1 q1 e1 d1 p1 o1 v r => ?_⟩
    split at o1
    · rename_i l' e'
      obtain ⟨a', xs', g1, g2, g3, g4, g5⟩ := own_at d1 (get_eq e')
      rw [h1] at g1
      cases g1
      split at o1
      · rename_i lt
        refine ⟨a, xs', v, rfl, rfl, g2, by rw [g3.length, ← SZ_eq]; exact lt, ?_⟩
        have pr : Per H1 (upd H1 a (.lst (xs' ++ [v]))) := per_lst g2
        have ok : SlotOk Γ.K Γ.Z Γ.cad A1 e0 (upd H1 a (.lst (xs' ++ [v]))) (.ref a) (.ml (l' ++ [z])) := ⟨a, _, rfl, upd_same, (Rps.per pr (Ext.refl A1) g3).append (.cons (Rp.per pr (Ext.refl A1) r) .nil), g4, g5⟩
        exact o1 A1 σ _ (Ext.refl A1) (d1.chg (get_eq e') h1 g2 ok) pr
      · exact o1.elim
    · exact o1.elim
  · exact o.elim
def noSlice : Expr → Bool
  | .Slice .. => false
  | _ => true
theorem plainIx_of {k : Expr} (h : noSlice k = true) : L2.PlainIx k := by
  intro o i
  cases k <;> first | rfl | cases h
/-- xs[k] = e -/
theorem s_setIx {i : Nat} {x : Str} {e k : Expr} {y z : Ex} {p p1 pos : Pos} (L : Slot1 X i x) (h : PE X e (tI Γ W y)) (hk : PE X k (tI Γ W z)) (hd : (x == ("__debug__" : Str)) = false) (hcd : (x == ("__classdict__" : Str)) = false) (hp : noSlice k = true)
    (hw : swapsWithSole [.Subscript (.Name x p) k p1] e pos.line X.env = pure false) (hs : swappedStores [.Subscript (.Name x p) k p1] e X.env = pure none) : PS X (.Assign [.Subscript (.Name x p) k p1] e pos) (tS Γ W (.setIx i z y)) := by
  refine PS.weak (L2.ps_asg h (L2.pg_sub (L2.pe_var L.at_ L.vis hd hcd) hk L2.set_list (fun v => by cases k <;> first | rfl | cases hp)) hw hs rfl) fun E σ H ⟨A, e0, env, g, d, o⟩ => ?_
  simp only [Dl.evS] at o
  refine ⟨A, e0, env, g, d, o.eval.imp fun z s A1 H1 _ e1 d1 p1 o1 v r => ?_⟩
  split at o1
  · rename_i l0 f0
    obtain ⟨a, xs, h1, h2, h3, h4, h5⟩ := own_at d1 (get_eq f0)
    refine ⟨_, h1, A1, e0, s.env, s.g, d1, OutS.eval (σ := σ) o1 |>.imp fun j s2 A2 H2 q2 e2 d2 p2 o2 w rw' => ?_⟩
    split at o2
    · rename_i l j f
      cases rw'
      obtain ⟨a', xs', g1, g2, g3, g4, g5⟩ := own_at d2 (get_eq f)
      rw [h1] at g1
      cases g1
      have hl := g3.length
      cases t : Dl.setAt l j z with
      | none => rw [t] at o2; exact o2.elim
      | some l' =>
        rw [t] at o2
        have key : ∃ m, L2.ixN xs'.length j = some m ∧ l' = l.set m z := by
          unfold Dl.setAt at t
          unfold L2.ixN
          split at t
          · rename_i c
            split at t
            · rename_i c2
              cases t
              exact ⟨j.toNat, by rw [if_pos c, if_pos (by omega)], rfl⟩
            · cases t
          · rename_i c
            split at t
            · rename_i c2
              cases t
              exact ⟨(j + l.length).toNat, by rw [if_neg c, if_pos (by omega), hl], rfl⟩
            · cases t
        obtain ⟨m, m1, rfl⟩ := key
        refine ⟨a, xs', j, m, rfl, rfl, g2, m1, ?_⟩
        have pr : Per H2 (upd H2 a (.lst (xs'.set m v))) := per_lst g2
        have ok : SlotOk Γ.K Γ.Z Γ.cad A2 e0 (upd H2 a (.lst (xs'.set m v))) (.ref a) (.ml (l.set m z)) := ⟨a, _, rfl, upd_same, (Rps.per pr (Ext.refl A2) g3).set m (Rp.per (p2.trans pr) e2 r), g4, g5⟩
        exact o2 A2 σ _ (Ext.refl A2) (d2.chg (get_eq f) h1 g2 ok) pr
    · exact o2.elim
  · exact o1.elim
end
end Ds
end
section
set_option Elab.async false
set_option Elab.async false
set_option linter.all false
set_option maxRecDepth 100000
set_option maxHeartbeats 4000000
set_option autoImplicit false
/-! Snd11: what is walked; for, while. -/
namespace Ds
open PySem PySem.Spec PyProof.Rows
open L2 (V Hp HO upd upd_same upd_ne RelV SqL SqT TE TA TT TS TG TI VK XK WX Cx Inv PE PA PT PS PSs PG PGs PI It Walk PW Rd EP OpR tOp pe_op R2 rI rI0 Dp DpAll Room CallR tCB tCons tNil tTup tLst Gl Sp Ends)
open Dl (D DV GS S R RC Ex Fl Le)
/-- a walk over data; st: while this holds, the walk goes on as it began -/
structure ItOk (K : PySem.W.Frag) (l : List D) (st : Option AS → Hp → Prop) (J : It) (G : Hp → Prop) (Y : Nat → Hp → V → Hp → Prop) : Prop where
  w : Walk J l.length G Y
  g : ∀ A H, st A H → G H
  y : ∀ (i : Nat) (A : Option AS) (H : Hp) (x : V) (H' : Hp) (d : D), l[i]? = some d → st A H → Y i H x H' → (H' = H ∨ ∃ T o, H T = none ∧ H' = upd H T o) ∧ Rp K A H' x d
/-- what stands through a statement's turns -/
def stK (A1 : Option AS) (H1 : Hp) (A : Option AS) (H : Hp) : Prop := Ext A1 A ∧ Per H1 H
/-- .. through a comprehension's turns -/
def stB (K : PySem.W.Frag) (A1 : Option AS) (H1 : Hp) (A : Option AS) (H : Hp) : Prop := Ext A1 A ∧ Per H1 H ∧ ∀ a xs, H1 a = some (.lst xs) → ¬ isM K A1 a → H a = some (.lst xs) ∧ ¬ isM K A a
/-- the readings of what is walked: in a statement, in a comprehension -/
def tItK (Γ : Gam) (W : WX) (x : Ex) : TI := fun σ H Q => ∃ A e0 env g, Γ.DI A e0 env g σ H ∧ Out Γ W A e0 σ H (Dl.evI Γ.gl Γ.call x ⟨env, g⟩) fun l _ A1 H1 => ∀ J G Y, ItOk Γ.K l (stK A1 H1) J G Y → Q J H1
def tItB (Γ : Gam) (W : WX) (x : Ex) : TI := fun σ H Q => ∃ A e0 env g, Γ.DI A e0 env g σ H ∧ Out Γ W A e0 σ H (Dl.evI Γ.gl Γ.call x ⟨env, g⟩) fun l _ A1 H1 => ∀ J G Y, ItOk Γ.K l (stB Γ.K A1 H1) J G Y → Q J H1
section
variable {Γ : Gam} {W : WX} {A A' : Option AS} {e0 : Ent} {H H' : Hp} {env : List (Option DV)} {g g' : Option GS} {σ : List (Option V)} {X : Cx} {E : Ends} {α : Type}
theorem PI.weak {tg e : Expr} {t t' : TI} (h : PI X tg e t) (w : ∀ σ H Q, t' σ H Q → t σ H Q) : PI X tg e t' := ⟨fun pins s σ H R I q => h.run pins s σ H R I (w σ H R q)⟩
/-- a list or a tuple, by its value -/
def iSq (K : PySem.W.Frag) (te : TE) : TI := fun σ H R => te σ H fun x H1 => ∃ a, x = .ref a ∧ (((∃ xs, SqL K H1 a xs) ∧ R (L2.Itl K a) H1) ∨ ((∃ xs, SqT K H1 a xs) ∧ R (L2.Itt K a) H1))
theorem pi_sq {tg e : Expr} {te : TE} (h : PE X e te) : PI X tg e (iSq X.K te) := by
  refine ⟨fun pins s σ H R I q => L2.thn (h.run pins s σ H _ I q) fun v s1 ⟨x, H1, I1, r1, a, ex, q1⟩ => ?_⟩
  subst ex
  cases r1
  have fp : ∀ b, b ∈ [s1.heap.objs.size] → L2.FpOk X pins H1 b := fun b hb => by
    rw [List.mem_singleton] at hb
    subst hb
    exact I1.fpOk (Nat.le_refl _) (I1.hok.fresh (Nat.le_refl _))
  rcases q1 with ⟨⟨xs, hq⟩, q⟩ | ⟨⟨xs, hq⟩, q⟩
  · obtain ⟨its, rv, p, hz⟩ := I1.list hq
    refine wpAny_pyIter_list p.isList ?_
    exact ⟨_, [s1.heap.objs.size], _, _, H1, rfl, I1.kept fun b o e => Heap.get?_push_of_some _ e, L2.turn_list a s1.heap.objs.size, ⟨_, Heap.get?_push_size s1.heap rfl, rfl, rfl⟩, fp, q⟩
  · obtain ⟨its, rv, p, hz⟩ := I1.tuple hq
    refine wpAny_pyIter_tuple p ?_
    exact ⟨_, [s1.heap.objs.size], _, _, H1, rfl, I1.kept fun b o e => Heap.get?_push_of_some _ e, L2.turn_tuple a s1.heap.objs.size, ⟨_, Heap.get?_push_size s1.heap rfl, rfl, rfl⟩, fp, q⟩
theorem stK.per {A1 : Option AS} {H1 : Hp} (h : stK A1 H1 A H) : Per H1 H := h.2
/-- items of a walk -/
theorem ok_at {K : PySem.W.Frag} {l : List D} {st : Option AS → Hp → Prop} {xs : List V} {A1 : Option AS} {H1 : Hp} {J : It} {G : Hp → Prop} (w : Walk J xs.length G (L2.YAt xs)) (r : Rps K A1 H1 xs l) (hg : ∀ A H, st A H → G H) (hst : ∀ A H, st A H → Ext A1 A ∧ Per H1 H) :
    ItOk K l st J G (L2.YAt xs) := by
  refine ⟨r.length ▸ w, hg, fun i A H x H' d e s ⟨e1, e2⟩ => ?_⟩
  subst e1
  obtain ⟨v, h1, h2⟩ := r.get e
  rw [h1] at e2
  cases e2
  obtain ⟨s1, s2⟩ := hst _ _ s
  exact ⟨.inl rfl, Rp.per s2 s1 h2⟩
theorem i_seqK (hK : X.K = Γ.K) {tg e : Expr} {x : Ex} (h : PE X e (tI Γ W x)) : PI X tg e (tItK Γ W (.iSeq x)) := by
  refine PI.weak (pi_sq h) fun σ H Q ⟨A, e0, env, g, d, o⟩ => ?_
  simp only [Dl.evI] at o
  refine ⟨A, e0, env, g, d, o.bind.imp fun z s A1 H1 _ e1 d1 p1 o1 v r => ?_⟩
  unfold Dl.seqD at o1
  split at o1
  · obtain ⟨a, xs, rfl, h1, r1⟩ := r.tup'
    refine ⟨a, rfl, .inr ⟨⟨xs, hK ▸ h1⟩, Out.here (s := s) o1 d1 _ _ _ (ok_at L2.walk_tup r1 (fun A H s => hK ▸ sqT_per s.2 h1) fun A H s => s)⟩⟩
  · cases r with
    | lst h1 r1 =>
      refine ⟨_, rfl, .inl ⟨⟨_, hK ▸ h1.sq⟩, Out.here (s := s) o1 d1 _ _ _ (ok_at L2.walk_list r1 (fun A H s => hK ▸ (h1.per s.2).sq) fun A H s => s)⟩⟩
  · exact o1.elim
theorem range_get : ∀ (n : Nat) (lo : Int) (i : Nat) (d : D), (Dl.rangeD lo n)[i]? = some d → d = .int (lo + i)
  | 0, lo, i, d, h => by simp [Dl.rangeD] at h
  | n + 1, lo, 0, d, h => by simp [Dl.rangeD] at h; simp [← h]
  | n + 1, lo, i + 1, d, h => by
    simp only [Dl.rangeD, List.getElem?_cons_succ] at h
    rw [range_get n (lo + 1) i d h]
    congr 1
    omega
theorem range_len : ∀ (n : Nat) (lo : Int), (Dl.rangeD lo n).length = n
  | 0, lo => rfl
  | n + 1, lo => by simp [Dl.rangeD, range_len n]
theorem ok_range {K : PySem.W.Frag} {st : Option AS → Hp → Prop} (lo : Int) (n : Nat) : ItOk K (Dl.rangeD lo n) st (L2.Itr lo n) (fun _ => True) (L2.YFn fun i => V.int (lo + i)) := by
  refine ⟨by rw [range_len]; exact L2.walk_range, fun _ _ _ => trivial, fun i A H x H' d e s ⟨e1, e2⟩ => ?_⟩
  subst e1 e2
  rw [range_get n lo i d e]
  exact ⟨.inl rfl, .int _⟩
theorem small_ok {i : Int} (h : Dl.small i = true) : -2 ^ 62 ≤ i ∧ i < 2 ^ 62 := by
  unfold Dl.small at h
  rw [Bool.and_eq_true, decide_eq_true_eq, decide_eq_true_eq] at h
  omega
section
variable (B : Bn X "range")
include B
theorem i_rngK {tg a : Expr} {x : Ex} {p pos : Pos} (hs : noStar a = true) (h : PE X a (tI Γ W x)) : PI X tg (.Call (.Name "range" p) [a] [] pos) (tItK Γ W (.iRng x)) := by
  have pa : PA X [a] (tCons (tI Γ W x) tNil) := L2.pa_cons h L2.pa_nil (star_cons hs [] _)
  refine PI.weak (L2.pi_range1 B.gl B.mg pa (star_cons hs [] _)) fun σ H Q ⟨A, e0, env, g, d, o⟩ => ?_
  simp only [Dl.evI] at o
  refine ⟨A, e0, env, g, d, o.bind.imp fun z s A1 H1 _ e1 d1 p1 o1 v r => ?_⟩
  split at o1
  · rename_i i _
    split at o1
    · rename_i hi
      cases r
      exact ⟨i, rfl, (small_ok hi).1, (small_ok hi).2, Out.here (s := s) o1 d1 _ _ _ (ok_range 0 i.toNat)⟩
    · exact o1.elim
  · exact o1.elim
theorem i_rng2K {tg a b : Expr} {x y : Ex} {p pos : Pos} (hs : noStar a = true) (ht : noStar b = true) (h : PE X a (tI Γ W x)) (h2 : PE X b (tI Γ W y)) : PI X tg (.Call (.Name "range" p) [a, b] [] pos) (tItK Γ W (.iRng2 x y)) := by
  have pa : PA X [a, b] (tCons (tI Γ W x) (tCons (tI Γ W y) tNil)) := L2.pa_cons h (L2.pa_cons h2 L2.pa_nil (star_cons ht [] _)) (star_cons hs [b] _)
  refine PI.weak (L2.pi_range2 B.gl B.mg pa ((star_cons hs [b] _).trans (congrArg _ (star_cons ht [] _))) (star_cons ht [] _)) fun σ H Q ⟨A, e0, env, g, d, o⟩ => ?_
  simp only [Dl.evI] at o
  refine ⟨A, e0, env, g, d, o.bind.imp fun z s A1 H1 _ e1 d1 p1 o1 v r => ?_⟩
  refine ⟨A1, e0, s.env, s.g, d1, o1.bind.imp fun z2 s2 A2 H2 _ e2 d2 p2 o2 v2 r2 => ?_⟩
  have r' := Rp.per p2 e2 r
  split at o2
  · rename_i x0 y0 i j _ _
    split at o2
    · rename_i hi
      rw [Bool.and_eq_true] at hi
      cases r'
      cases r2
      exact ⟨i, j, rfl, ⟨(small_ok hi.1).1, (small_ok hi.1).2, (small_ok hi.2).1, (small_ok hi.2).2⟩, Out.here (s := s2) o2 d2 _ _ _ (ok_range i (j - i).toNat)⟩
    · exact o2.elim
  · exact o2.elim
end
/-! ### for -/
theorem walk_out {f : D → S → R Fl} (d : D) (l : List D) (s : S) : Dl.walk f (d :: l) s = (f d s).bind fun r s => match r with
    | .nx => Dl.walk f l s
    | .cont => Dl.walk f l s
    | .brk => .ok .nx s
    | .ret v => .ok (.ret v) s := rfl
theorem s_for (hp : PassesOwn (model X.prog X.w) X.A X.env X.xe) (hc : X.calm = true) {tg it : Expr} {bd : List Stmt} {t : Dl.Tgt} {ix : Ex} {b : List Dl.St} {gg : TG} {pos : Pos} (hi : PI X tg it (tItK Γ W ix)) (hg : PG X tg gg) (gf : GOf Γ t gg) (hb : PSs X bd (tSs Γ W b))
    (hf : ∀ x, foldedSetIterable it X.env x = pure x) : PS X (.For tg it bd [] pos) (tS Γ W (.fors t ix b)) := by
  refine PS.weak (L2.ps_for hp hc hi hg hb hf) fun E σ H ⟨A, e0, env, g, d, o⟩ => ?_
  simp only [Dl.evS] at o
  refine ⟨A, e0, env, g, d, o.eval.imp fun l s A1 H1 _ e1 d1 p1 o1 J G Y ok => ?_⟩
  refine L2.for_it ok.w (fun i σ H => ∃ A s, stK A1 H1 A H ∧ Γ.DI A e0 s.env s.g σ H ∧ OutS Γ W A e0 H (Dl.walk (fun d s => match Dl.bindT t d s with
    | some s => Dl.evB Γ.fl Γ.gl Γ.call b s
    | none => .stuck) (l.drop i) s) E) ?_ ?_ ?_ ?_
  · exact ⟨A1, s, ⟨Ext.refl _, Per.refl _⟩, d1, o1⟩
  · exact fun i σ H _ ⟨A, s, h, _⟩ => ok.g A H h
  · intro i x σ H H' lt ⟨A, s, st, d2, o2⟩ hy
    have ei : l[i]? = some l[i] := List.getElem?_eq_getElem lt
    obtain ⟨hh, rx⟩ := ok.y i A H x H' l[i] ei st hy
    have pr : Per H H' := by
      rcases hh with rfl | ⟨T, ob, n, rfl⟩
      · exact Per.refl _
      · exact per_new n
    have d3 : Γ.DI A e0 s.env s.g σ H' := by
      rcases hh with rfl | ⟨T, ob, n, rfl⟩
      · exact d2
      · exact d2.new n
    rw [List.drop_eq_getElem_cons lt, walk_out] at o2
    cases f : Dl.bindT t l[i] s with
    | none => rw [f] at o2; exact o2.elim
    | some s1 =>
      rw [f] at o2
      refine gf A e0 s s1 σ H' x l[i] _ d3 rx f fun σ' d4 _ _ => ?_
      refine ⟨A, e0, s1.env, s1.g, d4, (OutS.seq (OutS.later o2 (Ext.refl _) pr) fun fl s2 A2 σ2 H2 _ e2 d5 p5 o3 => ?_)⟩
      have st2 : stK A1 H1 A2 H2 := ⟨st.1.trans e2, (st.2.trans pr).trans p5⟩
      cases fl with
      | nx => exact ⟨A2, s2, st2, d5, o3⟩
      | cont => exact ⟨A2, s2, st2, d5, o3⟩
      | brk => exact OutS.here (Γ := Γ) (W := W) (E := E) (fl := .nx) (s := s2) o3 d5
      | ret v => exact OutS.here (Γ := Γ) (W := W) (E := E) (fl := .ret v) (s := s2) o3 d5
  · intro σ H ⟨A, s, st, d2, o2⟩
    rw [List.drop_length, Dl.walk] at o2
    exact OutS.here (Γ := Γ) (W := W) (E := E) (fl := .nx) (s := s) o2 d2
/-! ### while -/
theorem s_while (hp : PassesOwn (model X.prog X.w) X.A X.env X.xe) {c : Expr} {bd : List Stmt} {x : Ex} {b : List Dl.St} {pos : Pos} (hc : PT X c (tT Γ W x)) (hb : PSs X bd (tSs Γ W b)) : PS X (.While c bd [] pos) (tS Γ W (.whil x b)) := by
  refine PS.weak (L2.ps_while hp hc hb) fun E σ H ⟨A, e0, env, g, d, o⟩ => ?_
  simp only [Dl.evS] at o
  refine ⟨fun m σ H => ∃ A s, Γ.DI A e0 s.env s.g σ H ∧ OutS Γ W A e0 H (Dl.whileN (Dl.evE Γ.gl Γ.call x) (Dl.evB Γ.fl Γ.gl Γ.call b) m s) E, ⟨Dl.MOST, A, ⟨env, g⟩, d, o⟩, ?_⟩
  intro m σ H ⟨A, s, d, o⟩
  cases m with
  | zero => rw [Dl.whileN] at o; exact o.elim
  | succ m =>
    rw [Dl.whileN] at o
    refine ⟨A, e0, s.env, s.g, d, (OutS.eval (σ := σ) o).imp fun z s1 A1 H1 _ e1 d1 p1 o1 => ?_⟩
    split at o1
    · exact ⟨false, rfl, ite_f (by decide) (OutS.here (Γ := Γ) (W := W) (E := E) (fl := .nx) (s := s1) o1 d1)⟩
    · refine ⟨true, rfl, ite_t rfl ⟨fun σ H => ∃ A s, Γ.DI A e0 s.env s.g σ H ∧ OutS Γ W A e0 H (Dl.whileN (Dl.evE Γ.gl Γ.call x) (Dl.evB Γ.fl Γ.gl Γ.call b) m s) E, fun σ' H' h => ⟨m, Nat.lt_succ_self m, h⟩, ?_⟩⟩
      refine ⟨A1, e0, s1.env, s1.g, d1, OutS.seq o1 fun fl s2 A2 σ2 H2 _ e2 d5 p5 o3 => ?_⟩
      cases fl with
      | nx => exact ⟨A2, s2, d5, o3⟩
      | cont => exact ⟨A2, s2, d5, o3⟩
      | brk => exact OutS.here (Γ := Γ) (W := W) (E := E) (fl := .nx) (s := s2) o3 d5
      | ret v => exact OutS.here (Γ := Γ) (W := W) (E := E) (fl := .ret v) (s := s2) o3 d5
    · exact o1.elim
end
end Ds
end
section
set_option Elab.async false
set_option Elab.async false
set_option linter.all false
set_option maxRecDepth 100000
set_option maxHeartbeats 4000000
set_option autoImplicit false
/-! Snd12: comprehensions. -/
namespace Ds
open PySem PySem.Spec PyProof.Rows
open L2 (V Hp HO upd upd_same upd_ne RelV SqL SqT TE TA TT TS TG TI VK XK WX Cx Inv PE PA PT PTs PS PSs PG PGs PI It Walk PW Rd EP OpR tOp pe_op R2 rI rI0 Dp DpAll Room CallR tCB tCons tNil tTup tLst Gl Sp Ends)
open Dl (D DV GS S R RC Ex Fl Le)
section
variable {Γ : Gam} {W : WX} {A A' : Option AS} {e0 : Ent} {H H' : Hp} {env : List (Option DV)} {g g' : Option GS} {σ : List (Option V)} {X : Cx} {E : Ends} {α : Type}
/-- a list that is looked at, as it stands -/
theorem RB.lst' {v : V} {l : List D} (r : RB Γ A H env σ v (.lst l)) (di : Γ.DI A e0 env g σ H) : ∃ a xs, v = .ref a ∧ (FzL Γ.K H a xs ∨ (H a = some (.lst xs) ∧ ¬ isM Γ.K A a)) ∧ Rps Γ.K A H xs l := by
  rcases r with r | ⟨i, l', h1, h2, h3⟩
  · cases r with
    | lst h q => exact ⟨_, _, rfl, .inl h, q⟩
  · cases h2
    rcases h1 with h1 | h1
    · obtain ⟨w, q1, a, xs, q2, q3, q4, q5, q6⟩ := di.slot i _ h1
      rw [h3] at q1
      cases q1
      exact ⟨a, xs, q2, .inr ⟨q3, q6⟩, q4⟩
    · obtain ⟨w, q1, a, xs, q2, q3, q4, q5, q6, _⟩ := di.slot i _ h1
      rw [h3] at q1
      cases q1
      exact ⟨a, xs, q2, .inr ⟨q3, (di.keep _ _ q5 q6).2⟩, q4⟩
theorem stB_sq {K : PySem.W.Frag} {A1 : Option AS} {H1 : Hp} {a : Addr} {xs : List V} (h : FzL K H1 a xs ∨ (H1 a = some (.lst xs) ∧ ¬ isM K A1 a)) (st : stB K A1 H1 A H) : SqL K H a xs := by
  rcases h with h | ⟨h, m⟩
  · exact (h.per st.2.1).sq
  · exact .inl (Rd.of (st.2.2 a xs h m).1)
theorem i_seqB (hK : X.K = Γ.K) {tg e : Expr} {x : Ex} (h : PE X e (tB Γ W x)) : PI X tg e (tItB Γ W (.iSeq x)) := by
  refine PI.weak (pi_sq h) fun σ H Q ⟨A, e0, env, g, d, o⟩ => ?_
  simp only [Dl.evI] at o
  refine ⟨A, e0, env, g, d, o.bind.imp fun z s A1 H1 _ e1 d1 p1 o1 v r => ?_⟩
  unfold Dl.seqD at o1
  split at o1
  · obtain ⟨a, xs, rfl, h1, r1⟩ := r.tup
    refine ⟨a, rfl, .inr ⟨⟨xs, hK ▸ h1⟩, Out.here (s := s) o1 d1 _ _ _ (ok_at L2.walk_tup r1 (fun A H s => hK ▸ sqT_per s.2.1 h1) fun A H s => ⟨s.1, s.2.1⟩)⟩⟩
  · obtain ⟨a, xs, rfl, h1, r1⟩ := r.lst' d1
    refine ⟨_, rfl, .inl ⟨⟨xs, hK ▸ stB_sq h1 ⟨Ext.refl _, Per.refl _, fun a xs h m => ⟨h, m⟩⟩⟩, Out.here (s := s) o1 d1 _ _ _ (ok_at L2.walk_list r1 (fun A H s => hK ▸ stB_sq h1 s) fun A H s => ⟨s.1, s.2.1⟩)⟩⟩
  · exact o1.elim
section
variable (B : Bn X "range")
include B
theorem i_rngB {tg a : Expr} {x : Ex} {p pos : Pos} (hs : noStar a = true) (h : PE X a (tB Γ W x)) : PI X tg (.Call (.Name "range" p) [a] [] pos) (tItB Γ W (.iRng x)) := by
  have pa : PA X [a] (tCons (tB Γ W x) tNil) := L2.pa_cons h L2.pa_nil (star_cons hs [] _)
  refine PI.weak (L2.pi_range1 B.gl B.mg pa (star_cons hs [] _)) fun σ H Q ⟨A, e0, env, g, d, o⟩ => ?_
  simp only [Dl.evI] at o
  refine ⟨A, e0, env, g, d, o.bind.imp fun z s A1 H1 _ e1 d1 p1 o1 v r => ?_⟩
  split at o1
  · rename_i i _
    split at o1
    · rename_i hi
      rw [r.int]
      exact ⟨i, rfl, (small_ok hi).1, (small_ok hi).2, Out.here (s := s) o1 d1 _ _ _ (ok_range 0 i.toNat)⟩
    · exact o1.elim
  · exact o1.elim
theorem i_rng2B {tg a b : Expr} {x y : Ex} {p pos : Pos} (hs : noStar a = true) (ht : noStar b = true) (h : PE X a (tB Γ W x)) (h2 : PE X b (tB Γ W y)) : PI X tg (.Call (.Name "range" p) [a, b] [] pos) (tItB Γ W (.iRng2 x y)) := by
  have pa : PA X [a, b] (tCons (tB Γ W x) (tCons (tB Γ W y) tNil)) := L2.pa_cons h (L2.pa_cons h2 L2.pa_nil (star_cons ht [] _)) (star_cons hs [b] _)
  refine PI.weak (L2.pi_range2 B.gl B.mg pa ((star_cons hs [b] _).trans (congrArg _ (star_cons ht [] _))) (star_cons ht [] _)) fun σ H Q ⟨A, e0, env, g, d, o⟩ => ?_
  simp only [Dl.evI] at o
  refine ⟨A, e0, env, g, d, o.bind.imp fun z s A1 H1 _ e1 d1 p1 o1 v r => ?_⟩
  refine ⟨A1, e0, s.env, s.g, d1, o1.bind.imp fun z2 s2 A2 H2 q2 e2 d2 p2 o2 v2 r2 => ?_⟩
  have r' := r.step d2 p2 e2 (Dl.evE_le _ q2)
  split at o2
  · rename_i x0 y0 i j _
    split at o2
    · rename_i hi
      rw [Bool.and_eq_true] at hi
      rw [r'.int, r2.int]
      exact ⟨i, j, rfl, ⟨(small_ok hi.1).1, (small_ok hi.1).2, (small_ok hi.2).1, (small_ok hi.2).2⟩, Out.here (s := s2) o2 d2 _ _ _ (ok_range i (j - i).toNat)⟩
    · exact o2.elim
  · exact o2.elim
end
/-! ### the slots, seen from within -/
theorem wipe_len : ∀ (vs : List Nat) (σ : List (Option V)), (L2.wipe σ vs).length = σ.length
  | [], σ => rfl
  | i :: vs, σ => by simp only [L2.wipe, List.length_set]; exact wipe_len vs σ
theorem wipe_get : ∀ (vs : List Nat) (σ : List (Option V)) (j : Nat), (L2.wipe σ vs)[j]? = if j ∈ vs then (σ[j]?).map (fun _ => none) else σ[j]?
  | [], σ, j => by simp [L2.wipe]
  | i :: vs, σ, j => by
    simp only [L2.wipe]
    by_cases h1 : j = i
    · subst h1
      rw [if_pos (List.mem_cons_self ..)]
      by_cases lt : j < σ.length
      · rw [List.getElem?_set_self (by rw [wipe_len]; exact lt), List.getElem?_eq_getElem lt]; rfl
      · rw [List.getElem?_eq_none (by rw [List.length_set, wipe_len]; omega), List.getElem?_eq_none (by omega)]; rfl
    · rw [List.getElem?_set_ne (Ne.symm h1), wipe_get vs]
      simp [h1]
theorem inner_get : ∀ (own : List Nat) (e : List (Option DV)) (j : Nat) (dv : DV), (own.foldl (fun e i => e.set i none) e)[j]? = some (some dv) → j ∉ own ∧ e[j]? = some (some dv)
  | [], e, j, dv, h => ⟨by simp, h⟩
  | i :: own, e, j, dv, h => by
    obtain ⟨h1, h2⟩ := inner_get own (e.set i none) j dv h
    have nj : j ≠ i := fun z => by
      subst z
      have hlt : j < e.length := by
        have := (List.getElem?_eq_some_iff.mp h2).1
        simpa using this
      rw [List.getElem?_set_self hlt] at h2
      cases h2
    rw [List.getElem?_set_ne (Ne.symm nj)] at h2
    exact ⟨by simp [nj, h1], h2⟩
theorem inner_len : ∀ (own : List Nat) (e : List (Option DV)), (own.foldl (fun e i => e.set i none) e).length = e.length
  | [], e => rfl
  | i :: own, e => by rw [List.foldl_cons, inner_len own]; simp
theorem wipe_eq {vs : List Nat} {σ σ2 : List (Option V)} (hl : σ2.length = (L2.wipe σ vs).length) (h : ∀ j, j ∉ vs → σ2[j]? = (L2.wipe σ vs)[j]?) : L2.wipe σ2 vs = L2.wipe σ vs := by
  apply List.ext_getElem?
  intro j
  rw [wipe_get vs σ2]
  by_cases m : j ∈ vs
  · rw [if_pos m, wipe_get vs σ, if_pos m]
    rw [wipe_len] at hl
    by_cases lt : j < σ.length
    · rw [List.getElem?_eq_getElem lt, List.getElem?_eq_getElem (by omega)]; rfl
    · rw [List.getElem?_eq_none (by omega), List.getElem?_eq_none (by omega)]
  · rw [if_neg m, h j m]
theorem DI.blk (d : Γ.DI A e0 env g σ H) (own : List Nat) : Γ.DI A ⟨A, H, []⟩ (Dl.inner own env) g (L2.wipe σ own) H := by
  have key : ∀ (j : Nat) (dv : DV), (Dl.inner own env)[j]? = some (some dv) → ∃ dv0, env[j]? = some (some dv0) ∧ Dl.veil (some dv0) = some dv ∧ (L2.wipe σ own)[j]? = σ[j]? := fun j dv h => by
    obtain ⟨h1, h2⟩ := inner_get own _ j dv h
    rw [List.getElem?_map] at h2
    cases e : env[j]? with
    | none => rw [e] at h2; cases h2
    | some o =>
      rw [e] at h2
      cases o with
      | none => cases h2
      | some dv0 =>
        refine ⟨dv0, rfl, by simpa using h2, ?_⟩
        rw [wipe_get, if_neg h1]
  refine ⟨fun a o h m => ⟨h, m⟩, Ext.refl A, d.gok, ?_, fun j dv h => ?_, fun j k l l' a h1 _ _ _ => ?_⟩
  · unfold Dl.inner
    rw [inner_len, List.length_map, wipe_len]
    exact d.len
  · obtain ⟨dv0, h1, h2, h3⟩ := key j dv h
    obtain ⟨v, h4, h5⟩ := d.slot j dv0 h1
    refine ⟨v, h3.trans h4, ?_⟩
    cases dv0 with
    | im x => cases h2; exact h5
    | ml l =>
      cases h2
      obtain ⟨a, xs, e, ha, r, h0, m⟩ := h5
      exact ⟨a, xs, e, ha, r, ha, m, by simp⟩
    | rd l =>
      cases h2
      obtain ⟨a, xs, e, ha, r, h0, m, _⟩ := h5
      exact ⟨a, xs, e, ha, r, ha, (d.keep _ _ h0 m).2, by simp⟩
    | md ks vs => cases h2
    | exc c fs => cases h2; exact h5
  · obtain ⟨dv0, _, h2, _⟩ := key j _ h1
    cases dv0 <;> cases h2
/-- nothing is raised -/
def W0 : WX := fun _ _ _ _ => False
/-- a comprehension's test -/
def TTOf (Γ : Gam) (c : Ex) (tt : TT) : Prop := ∀ (A : Option AS) (e0 : Ent) (s : S) (σ : List (Option V)) (H : Hp) (Q : Bool → Hp → Prop), Γ.DI A e0 s.env s.g σ H →
  Out Γ W0 A e0 σ H (Dl.evE Γ.gl Γ.call c s) (fun d _ _ H' => ∃ b, d = .bl b ∧ Q b H') → tt σ H Q
theorem tt_yes : TTOf Γ (.bl true) L2.tYes := fun A e0 s σ H Q d o => by
  simp only [Dl.evE] at o
  obtain ⟨b, e, q⟩ := Out.here (a := D.bl true) (s := s) o d
  cases e
  exact q
theorem tt_one {c : Ex} : TTOf Γ c (tT Γ W0 c) := fun A e0 s σ H Q d o => ⟨A, e0, s.env, s.g, d, o⟩
theorem turns_cons {f c : S → R D} {t : Dl.Tgt} {ein : List (Option DV)} {d : D} {l ds : List D} {s sf : S} (h : Dl.turns f c t ein (d :: l) s = .ok ds sf) : ∃ s1 b s2, Dl.bindT t d { s with env := ein } = some s1 ∧ c s1 = .ok (.bl b) s2 ∧
    ((b = true ∧ ∃ x s3 xs, f s2 = .ok x s3 ∧ Dl.turns f c t ein l s3 = .ok xs sf ∧ ds = x :: xs) ∨ (b = false ∧ Dl.turns f c t ein l s2 = .ok ds sf)) := by
  rw [Dl.turns] at h
  obtain ⟨s0, s0', h1, h2⟩ := Dl.R.bind_eq h
  obtain ⟨_, rfl⟩ := Dl.ofO_eq h1
  split at h2
  · cases h2
  · rename_i s1 e1
    obtain ⟨b, s2, h3, h4⟩ := Dl.R.bind_eq h2
    split at h4
    · obtain ⟨x, s3, h5, h6⟩ := Dl.R.bind_eq h4
      obtain ⟨xs, s4, h7, h8⟩ := Dl.R.bind_eq h6
      cases h8
      exact ⟨s1, true, s2, e1, h3, .inl ⟨rfl, x, s3, xs, h5, h7, rfl⟩⟩
    · exact ⟨s1, false, s2, e1, h3, .inr ⟨rfl, h4⟩⟩
    · cases h4
theorem lc_out {wi : TI} {gg : TG} {tt : TT} {x i c : Ex} {t : Dl.Tgt} {own : List Nat} {Q : VK} {k : D → S → Option AS → Hp → Prop} (hw : wi = tItB Γ W i) (gf : GOf Γ t gg) (ht : TTOf Γ c tt) (sub : ∀ j, j ∈ tgtL t → j ∈ own)
    (d : Γ.DI A e0 env g σ H) (ou : Out Γ W A e0 σ H (Dl.evE Γ.gl Γ.call (.lc x t own i c) ⟨env, g⟩) k)
    (hq : ∀ l s A' H' v, Γ.DI A' e0 s.env s.g σ H' → Frsh Γ.K A' e0 H' s.env σ v l → k (.lst l) s A' H' → Q v H') : L2.tLc wi gg tt (tI Γ W0 x) own σ H Q := by
  subst hw
  simp only [Dl.evE] at ou
  refine ⟨A, e0, env, g, d, ou.bind.imp fun l s A1 H1 _ e1 d1 p1 o1 J G Y ok P nP => ?_⟩
  have full : ∃ dsf sf, Dl.turns (Dl.evE Γ.gl Γ.call x) (Dl.evE Γ.gl Γ.call c) t (Dl.inner own s.env) l s = .ok dsf sf ∧ dsf.length < Dl.SZ ∧ Out Γ W A1 e0 σ H1 (.ok (D.lst dsf) { sf with env := s.env }) k := by
    cases e : Dl.turns (Dl.evE Γ.gl Γ.call x) (Dl.evE Γ.gl Γ.call c) t (Dl.inner own s.env) l s with
    | ok dsf sf =>
      rw [e] at o1
      simp only [Dl.quiet, Dl.R.bind_ok] at o1
      split at o1
      · rename_i lt
        exact ⟨dsf, sf, rfl, lt, o1⟩
      · exact o1.elim
    | ex a b => rw [e] at o1; exact o1.elim
    | stuck => rw [e] at o1; exact o1.elim
  obtain ⟨dsf, sf, hturn, hlen, hk⟩ := full
  obtain ⟨f0, fm⟩ := d1.fresh nP
  have dj0 : ∀ (i : Nat) (l' : List D), s.env[i]? = some (some (.ml l')) → σ[i]? ≠ some (some (.ref P)) := by
    obtain ⟨a, xs, ea, _, _, _, _, dj⟩ := d1.frsh nP (K := Γ.K) (xs := []) (l := []) .nil
    cases ea
    exact dj
  refine L2.lc_it ok.w (fun i H => ∃ A s' acc dacc ds sf', stB Γ.K A1 H1 A H ∧ Γ.DI A e0 s.env s'.g σ H ∧ H P = some (.lst acc) ∧ Rps Γ.K A H acc dacc ∧ ¬ isM Γ.K A P ∧
      Dl.turns (Dl.evE Γ.gl Γ.call x) (Dl.evE Γ.gl Γ.call c) t (Dl.inner own s.env) (l.drop i) s' = .ok ds sf' ∧ dacc ++ ds = dsf ∧ sf'.g = sf.g) ?_ ?_ ?_ ?_
  · refine ⟨A1, s, [], [], dsf, sf, ⟨Ext.refl _, per_new nP, fun a xs h m => ⟨by rw [upd_ne (L2.ne_of_none h nP)]; exact h, m⟩⟩, d1.new nP, upd_same, .nil, fm, hturn, rfl, rfl⟩
  · exact fun i H _ ⟨A, s', acc, dacc, ds, sf', h, _⟩ => ok.g A H h
  · intro i y H H' lt ⟨A, s', acc, dacc, ds, sf', st, di, hP, ra, nm, tu, ap, eg⟩ hy
    have ei : l[i]? = some l[i] := List.getElem?_eq_getElem lt
    obtain ⟨hh, rx⟩ := ok.y i A H y H' l[i] ei st hy
    have pr : Per H H' := by
      rcases hh with rfl | ⟨T, ob, n, rfl⟩
      · exact Per.refl _
      · exact per_new n
    have di' : Γ.DI A e0 s.env s'.g σ H' := by
      rcases hh with rfl | ⟨T, ob, n, rfl⟩
      · exact di
      · exact di.new n
    have kp : ∀ a xs, H a = some (.lst xs) → H' a = some (.lst xs) := fun a xs h => by
      rcases hh with rfl | ⟨T, ob, n, rfl⟩
      · exact h
      · rw [upd_ne (L2.ne_of_none h n)]; exact h
    rw [List.drop_eq_getElem_cons lt] at tu
    obtain ⟨s1, b, s2, t1, t2, t3⟩ := turns_cons tu
    have db := di'.blk own
    refine gf A ⟨A, H', []⟩ { s' with env := Dl.inner own s.env } s1 (L2.wipe σ own) H' y l[i] _ db rx t1 fun σ2 d2 hl2 hj2 => ⟨wipe_eq hl2 fun j nj => hj2 j fun m => nj (sub j m), ?_⟩
    refine ht A ⟨A, H', []⟩ s1 σ2 H' _ d2 ?_
    rw [t2]
    intro A3 H3 e3 d3 p3
    refine ⟨b, rfl, ?_⟩
    -- what a turn leaves
    have leave : ∀ {A4 : Option AS} {H4 : Hp} {env4 : List (Option DV)} {g4 : Option GS} {σ4 : List (Option V)}, Ext A A4 → Γ.DI A4 ⟨A, H', []⟩ env4 g4 σ4 H4 → Per H' H4 → stB Γ.K A1 H1 A4 H4 ∧ Γ.DI A4 e0 s.env g4 σ H4 ∧ H4 P = some (.lst acc) ∧ Rps Γ.K A4 H4 acc dacc ∧ ¬ isM Γ.K A4 P := fun {A4 H4 env4 g4 σ4} e4 d4 p4 => by
      have kk : Kept Γ.K A H' A4 H4 := fun a o h m => d4.keep a o h m
      obtain ⟨q1, q2⟩ := kk P _ (kp P acc hP) nm
      refine ⟨⟨st.1.trans e4, (st.2.1.trans pr).trans p4, fun a xs h m => ?_⟩, di'.after e4 kk p4 d4.gok, q1, Rps.per (pr.trans p4) e4 ra, q2⟩
      obtain ⟨w1, w2⟩ := st.2.2 a xs h m
      exact kk a _ (kp a xs w1) w2
    rcases t3 with ⟨hb, z, s3, xs, t4, t5, t6⟩ | ⟨hb, t4⟩
    · subst hb
      refine ite_t rfl ⟨A3, ⟨A, H', []⟩, s2.env, s2.g, d3, ?_⟩
      have e : (⟨s2.env, s2.g⟩ : S) = s2 := rfl
      rw [e, t4]
      intro A4 H4 e4 d4 p4 v rv
      obtain ⟨w1, w2, w3, w4, w5⟩ := leave (e3.trans e4) d4 (p3.trans p4)
      have la : acc.length < sizeLine := by
        have h1 := congrArg List.length ap
        rw [List.length_append, t6, List.length_cons] at h1
        rw [ra.length, ← SZ_eq]
        omega
      have pu : Per H4 (upd H4 P (.lst (acc ++ [v]))) := per_lst w3
      refine ⟨acc, w3, la, A4, s3, acc ++ [v], dacc ++ [z], xs, sf', ⟨w1.1, w1.2.1.trans pu, fun a ys h m => ?_⟩, w2.out w3 f0 w5 dj0, upd_same, (Rps.per pu (Ext.refl _) w4).append (.cons (Rp.per pu (Ext.refl _) rv) .nil), w5, t5, ?_, eg⟩
      · obtain ⟨u1, u2⟩ := w1.2.2 a ys h m
        exact ⟨by rw [upd_ne (L2.ne_of_none h nP)]; exact u1, u2⟩
      · rw [List.append_assoc, ← ap, t6]; rfl
    · subst hb
      refine ite_f (by decide) ?_
      obtain ⟨w1, w2, w3, w4, w5⟩ := leave e3 d3 p3
      exact ⟨A3, s2, acc, dacc, ds, sf', w1, w2, w3, w4, w5, t4, ap, eg⟩
  · intro H ⟨A, s', acc, dacc, ds, sf', st, di, hP, ra, nm, tu, ap, eg⟩
    rw [List.drop_length, Dl.turns] at tu
    cases tu
    rw [List.append_nil] at ap
    subst ap
    have di2 : Γ.DI A e0 s.env sf.g σ H := eg ▸ di
    exact hq dacc { sf with env := s.env } A H (.ref P) di2 ⟨P, acc, rfl, hP, ra, f0, nm, dj0⟩ (hk A H st.1 di2 st.2.1)
/-- the parts of a comprehension -/
structure LcOk (Γ : Gam) (W : WX) (X : Cx) (elt tg iter : Expr) (ifs : List Expr) (scope : Scope) (own : List (Str × Nat)) (x : Ex) (t : Dl.Tgt) (i c : Ex) (gg : TG) (tt : TT) : Prop where
  calm : X.calm = true
  nd : X.N.Nodup
  it : PI X tg iter (tItB Γ W i)
  bk : L2.BlkOk X.N X.env.scope scope own
  pg : ∀ s H C cl fp, PG (X.blk s H scope (compEnvC scope cl C X.env) fp) tg gg
  pt : ∀ s H C cl fp, PTs (X.blk s H scope (compEnvC scope cl C X.env) fp) ifs tt
  pe : ∀ s H C cl fp, PE (X.blk s H scope (compEnvC scope cl C X.env) fp) elt (tI Γ W0 x)
  gf : GOf Γ t gg
  tf : TTOf Γ c tt
  fold : ∀ x, foldedSetIterable iter X.env x = pure x
  sub : ∀ j, j ∈ tgtL t → j ∈ own.map fun x => x.2
theorem k_lc {elt tg iter : Expr} {ifs : List Expr} {scope : Scope} {own : List (Str × Nat)} {x i c : Ex} {t : Dl.Tgt} {gg : TG} {tt : TT} {pos : Pos} (L : LcOk Γ W X elt tg iter ifs scope own x t i c gg tt) :
    PE X (.ListComp elt [{ target := tg, iter := iter, ifs := ifs, is_async := 0 }] scope pos) (tF Γ W (.lc x t (own.map fun x => x.2) i c)) :=
  PE.weak (L2.pe_lc L.calm L.nd L.it L.bk L.pg L.pt L.pe L.fold) fun σ H Q ⟨A, e0, env, g, d, ou⟩ => lc_out rfl L.gf L.tf L.sub d ou fun l s A' H' v di fr k => k v (.inr ⟨l, rfl, fr⟩)
theorem s_setLc {elt tg iter : Expr} {ifs : List Expr} {scope : Scope} {own : List (Str × Nat)} {x i c : Ex} {t : Dl.Tgt} {gg : TG} {tt : TT} {pos spos py : Pos} {n : Nat} {y : Str} (L : LcOk Γ W X elt tg iter ifs scope own x t i c gg tt) (N : SlotL X n y)
    (hw : swapsWith (.ListComp elt [{ target := tg, iter := iter, ifs := ifs, is_async := 0 }] scope pos) (some (.Name y py)) spos.line X.env = pure true) :
    PS X (.Assign [.Name y py] (.ListComp elt [{ target := tg, iter := iter, ifs := ifs, is_async := 0 }] scope pos) spos) (tS Γ W (.setL n (.lc x t (own.map fun x => x.2) i c))) :=
  PS.weak (L2.ps_setLc L.calm L.nd N.at_ N.lo hw L.it L.bk L.pg L.pt L.pe L.fold) fun E σ H ⟨A, e0, env, g, d, o⟩ => by
    simp only [Dl.evS] at o
    refine lc_out (k := fun z s A' H' => OutS Γ W A' e0 H' (match z with
      | .lst l => .ok .nx (s.put n (.ml l))
      | z => .ok .nx (s.put n (.im z))) E) rfl L.gf L.tf L.sub d o.eval fun l s A' H' v di fr k => ?_
    exact OutS.here (Γ := Γ) (W := W) (E := E) (fl := .nx) (s := s.put n (.ml l)) k (di.putL fr)
end
end Ds
end
section
set_option Elab.async false
set_option Elab.async false
set_option linter.all false
set_option maxRecDepth 100000
set_option maxHeartbeats 4000000
set_option autoImplicit false
/-! Snd13: enumerate, reversed, zip. -/
namespace Ds
open PySem PySem.Spec PyProof.Rows
open L2 (V Hp HO upd upd_same upd_ne RelV SqL SqT TE TA TT TS TG TI VK XK WX Cx Inv PE PA PT PTs PS PSs PG PGs PI It Walk PW Rd EP OpR tOp pe_op R2 rI rI0 Dp DpAll Room CallR tCB tCons tNil tTup tLst Gl Sp Ends Turn ObjOk)
open Dl (D DV GS S R RC Ex Fl Le)
section
open Sem (wp)
/-- enumerate(v), v a list or a tuple: its two cells -/
theorem meets_en {v : Value} {o : Obj} {Hy : Heap → Prop} (B : Begins v o Hy) :
    Meets (Builtin.«enumerate.__new__» ⟨[.type "enumerate", v], []⟩) (fun _ R s => Hy s.heap ∧
      R (.ok (.ret (.ref (s.heap.push o).objs.size))) { s with heap := (s.heap.push o).push { cls := .type "enumerate", data := .fields #[.none, .bool false, .ref s.heap.objs.size, rawInt 0, .none, .none] } }) :=
  .of_wp fun prog w A R s h => by
    obtain ⟨hp, g, d, tk, os⟩ := s
    obtain ⟨h1, h⟩ := h
    have hsub := sub_enumerate
    have start : ∀ {A' : Around} {E : Value → Shared → Prop} {Q : Value → Shared → Prop}, Q (.ref hp.objs.size) ⟨hp.push o, g, d, tk, os⟩ → wpAny (model prog w) A' (pyIter v) Q E ⟨hp, g, d, tk, os⟩ :=
      fun q => B.iter prog w _ _ ⟨hp, g, d, tk, os⟩ _ h1 q
    wp_walk using start
    refine wpAny_stack_any fun st => wpAny_pure ?_
    split
    · rename_i c _ _ _ _ _
      cases (c == Value.type "enumerate") <;> (wp_walk using start; exact ⟨_, rfl, h⟩)
    · wp_walk using start
      exact ⟨_, rfl, h⟩
theorem call_en {prog : Program} {w : World} {A : Around} {E : Value → Shared → Prop} {s : Shared} {v : Value} {o : Obj} {Hy : Heap → Prop} {Q : Value → Shared → Prop} (B : Begins v o Hy) (h1 : Hy s.heap)
    (h : ∀ h', IsEnum h' (s.heap.objs.size + 1) s.heap.objs.size 0 .none → h'.get? s.heap.objs.size = some o → (∀ b o, s.heap.get? b = some o → h'.get? b = some o) → Q (.ref (s.heap.objs.size + 1)) { s with heap := h' }) :
    wpAny (model prog w) A (call (.type "enumerate") [v]) Q E s := by
  refine callType_new F.called_enumerate (by decide) (F.typeCall_enumerate_1 _) (F.newCall_enumerate_1 _) (fun obj => F.args_object_init_2 obj _) F.entry_enumerate_new (meets_en B) ⟨h1, ?_⟩
  have hz : (s.heap.push o).objs.size = s.heap.objs.size + 1 := Heap.size_push ..
  show _ ∧ _
  rw [hz]
  have he := Heap.get?_push_size (s.heap.push o) (o := { cls := .type "enumerate", data := .fields #[.none, .bool false, .ref s.heap.objs.size, rawInt 0, .none, .none] }) rfl
  rw [hz] at he
  exact ⟨⟨_, he, rfl⟩, h _ he (Heap.get?_push_of_some _ (Heap.get?_push_size _ B.free)) fun b o x => Heap.get?_push_of_some _ (Heap.get?_push_of_some _ x)⟩
end
/-- a tuple's items with their places -/
def IteT (K : PySem.W.Frag) (a : Addr) : It :=
  ⟨fun i H => ∃ xs x, SqT K H a xs ∧ xs[i]? = some x, fun i H v H' => ∃ T x, v = .ref T ∧ H T = none ∧ H' = upd H T (.tup [.int (i : Nat), x]) ∧ ∀ xs, SqT K H a xs → xs[i]? = some x, fun i H => ∃ xs, SqT K H a xs ∧ xs.length = i⟩
theorem apart_of {h : Heap} {a b : Addr} {o o' : Obj} (e : h.get? a = some o) (e' : h.get? b = some o') (n : o.cls ≠ o'.cls) : a ≠ b := fun z => by
  subst z
  rw [e] at e'
  cases e'
  exact n rfl
theorem turn_en {P : Program} {w : World} {K : PySem.W.Frag} {elts : List Expr} {kk : Nat} {tpos : Pos} (a e it : Addr) :
    Turn P w K (.Tuple elts kk tpos) (IteT K a) [e, it] e (fun i h => (∃ old, IsEnum h e it ((i : Nat) : Int) old) ∧ h.IsTupleIter it a i ∧ e ≠ it) where
  mem := by simp
  obj := fun i h ⟨⟨old, he⟩, ⟨o, ho, hc, hd⟩, _⟩ b hb => by
    rcases List.mem_cons.mp hb with rfl | hb
    · exact ⟨_, he, fun v q => nomatch q⟩
    · rw [List.mem_singleton.mp hb]
      exact ⟨o, ho, fun v q => by rw [hd] at q; cases q⟩
  keep := fun i h h' ⟨⟨old, he⟩, hi, hne⟩ k => ⟨⟨old, k e (by simp) _ he⟩, hi.at fun o q => k it (by simp) o q, hne⟩
  item := by
    intro X hP hw hK hc i pins s σ H E I hf ⟨⟨old, he⟩, hit, hne⟩ ⟨xs, x, hq, hx⟩
    subst hP hw hK
    obtain ⟨its, rv, p, hz⟩ := I.tuple hq
    obtain ⟨u, hu, ru⟩ := rv.get hx
    have pt : s.heap.IsTuple a its.toArray := p
    have hel : e < s.heap.objs.size := Heap.lt_size he
    have hil : it < s.heap.objs.size := by obtain ⟨_, q, _⟩ := hit; exact Heap.lt_size q
    have ait : a ≠ it := by
      obtain ⟨o1, q1, c1, _⟩ := id pt
      obtain ⟨o2, q2, c2, _⟩ := id hit
      exact apart_of q1 q2 (by rw [c1, c2]; decide)
    have ae : e ≠ a := by
      obtain ⟨o1, q1, c1, _⟩ := id pt
      exact apart_of he q1 (by rw [c1]; show Value.type "enumerate" ≠ Value.type "tuple"; decide)
    have hlt : i < its.toArray.size := by
      have := (List.getElem?_eq_some_iff.mp hu).1
      simpa using this
    have Dr := Draws.tuple (prog := X.prog) (w := X.w) (A := X.A.in1) (I.ok.hd hc) it a ait its.toArray
    refine wpAny_pyNext_enum_itemD Dr he ⟨hit, pt⟩ hlt hne (by simp [hne, ae]) fun x' h' tk hP ho hst hT hsz hk => ?_
    have eu : x' = u := by
      have h1 : its.toArray[i]? = some u := by simpa using hu
      rw [h1] at hP
      exact (Option.some.inj hP).symm
    subst eu
    refine ⟨_, rfl, wpAny_letOwnedTupleGo_enum (s := { s with heap := h', toks := tk + 1 }) ho fun h'' he' sb => ?_⟩
    have hT2 := (sb.2 _ (Nat.ne_of_gt hel)).trans hT
    have new : ObjOk X.prog X.w (upd H s.heap.objs.size (.tup [.int (i : Nat), x])) h'' s.heap.objs.size (.tup [.int (i : Nat), x]) :=
      ⟨by show 2 ≤ sizeLine; decide, [.int i tk, x'], .cons ⟨_, rfl⟩ (.cons ru .nil), ⟨_, hT2, rfl, _, rfl⟩⟩
    have I1 := I.turnedNew (t' := tk + 1) (ch := [e, it]) (fun b ob hb q => (sb.2 b (fun z => hb (by simp [z]))).trans (hk b ob (fun z => hb (by simp [z])) (fun z => hb (by simp [z])) q)) hf (Nat.le_refl _) new
    refine ⟨.ref s.heap.objs.size, _, I1, rfl, ⟨_, x, rfl, I.hok.fresh (Nat.le_refl _), rfl, fun ys hy => by rw [I.tuple_inj hy hq]; exact hx⟩, ⟨⟨x', ?_⟩, hst.1.at fun o q => (sb.2 it (Ne.symm hne)).trans q, hne⟩, fun b hb => ?_⟩
    · have e1 : ((i + 1 : Nat) : Int) = (i : Int) + 1 := by omega
      rw [e1]; exact he'
    · have hb' : b < s.heap.objs.size := by
        rcases List.mem_cons.mp hb with rfl | hb
        · exact hel
        · rw [List.mem_singleton.mp hb]; exact hil
      rw [upd_ne (Nat.ne_of_lt hb')]
      exact (hf b hb).1
  done := by
    intro X hP hw hK hc i pins s σ H E I hf ⟨⟨old, he⟩, hit, hne⟩ ⟨xs, hq, hx⟩
    subst hP hw hK
    obtain ⟨its, rv, p, hz⟩ := I.tuple hq
    have pt : s.heap.IsTuple a its.toArray := p
    have ait : a ≠ it := by
      obtain ⟨o1, q1, c1, _⟩ := id pt
      obtain ⟨o2, q2, c2, _⟩ := id hit
      exact apart_of q1 q2 (by rw [c1, c2]; decide)
    obtain ⟨f0, f1, f2, f3, f4, f5⟩ := hf it (by simp)
    have Dr := Draws.tuple (prog := X.prog) (w := X.w) (A := X.A.in1) (I.ok.hd hc) it a ait its.toArray
    have ei : its.toArray.size = i := by rw [List.size_toArray, ← rv.length]; exact hx
    exact wpAny_pyNext_enum_endD Dr he (by rw [ei]; exact ⟨hit, pt⟩) fun h' eb => ⟨rfl, I.turned (t' := s.toks) (fun b o hb q => eb b o hb q) f0 f1 f3 f4 f5⟩
  self := fun A i s Q E ⟨⟨_, he⟩, _⟩ h => wpAny_pyIter_enum he h
theorem walk_iteT {K : PySem.W.Frag} {a : Addr} {xs : List V} : Walk (IteT K a) xs.length (fun H => SqT K H a xs) (L2.YPair (fun i => some (V.int i)) fun i => xs[i]?) :=
  ⟨fun i H lt h => ⟨xs, xs[i], h, List.getElem?_eq_getElem lt⟩, fun H h => ⟨xs, h, rfl⟩, fun i H x H' lt h ⟨T, y, e1, e2, e3, e4⟩ => ⟨T, _, y, e1, e2, e3, rfl, e4 xs h⟩⟩
/-- enumerate(e), a list or a tuple by its value -/
def iEn (K : PySem.W.Frag) (te : TE) : TI := fun σ H R => te σ H fun x H1 => ∃ a, x = .ref a ∧ (((∃ xs, SqL K H1 a xs) ∧ R (L2.Ite K a) H1) ∨ ((∃ xs, SqT K H1 a xs) ∧ R (IteT K a) H1))
theorem pi_en {X : Cx} {e : Expr} {te : TE} {p pos tpos : Pos} {elts : List Expr} {kk : Nat} (B : Bn X "enumerate") (hs : noStar e = true) (h : PE X e te) : PI X (.Tuple elts kk tpos) (.Call (.Name "enumerate" p) [e] [] pos) (iEn X.K te) := by
  have hs := star_cons hs [] X.env
  refine ⟨fun pins s σ H R I q => ?_⟩
  refine Call_ (L2.ld_blt I B.gl B.mg boot_enumerate (callWith_type1 (args_cons (L2.thn (h.run pins s σ H _ I q) fun u s1 ⟨v, H1, I1, r1, q1⟩ => args_nil ?_) hs) hs rfl))
  obtain ⟨a, ex, q1⟩ := q1
  subst ex
  cases r1
  have fp : ∀ b, b ∈ [s1.heap.objs.size + 1, s1.heap.objs.size] → L2.FpOk X pins H1 b := fun b hb => by
    have hle : s1.heap.objs.size ≤ b := by
      rcases List.mem_cons.mp hb with rfl | hb
      · exact Nat.le_add_right _ _
      · rw [List.mem_singleton.mp hb]; exact Nat.le_refl _
    exact I1.fpOk hle (I1.hok.fresh hle)
  rcases q1 with ⟨⟨xs, hq⟩, q⟩ | ⟨⟨xs, hq⟩, q⟩
  · obtain ⟨its, rv, p', hz⟩ := I1.list hq
    exact call_en (begins_list a its.toArray) p'.isList fun h' he hit hk => wpAny_pyIter_enum he
      ⟨s1.heap.objs.size + 1, [s1.heap.objs.size + 1, s1.heap.objs.size], _, _, H1, rfl, I1.kept (t' := s1.toks) hk, L2.turn_enum a (s1.heap.objs.size + 1) s1.heap.objs.size, ⟨⟨.none, he⟩, ⟨_, hit, rfl, rfl⟩, Nat.succ_ne_self _⟩, fp, q⟩
  · obtain ⟨its, rv, p', hz⟩ := I1.tuple hq
    exact call_en (begins_tuple a its.toArray) p' fun h' he hit hk => wpAny_pyIter_enum he
      ⟨s1.heap.objs.size + 1, [s1.heap.objs.size + 1, s1.heap.objs.size], _, _, H1, rfl, I1.kept (t' := s1.toks) hk, turn_en a (s1.heap.objs.size + 1) s1.heap.objs.size, ⟨⟨.none, he⟩, ⟨_, hit, rfl, rfl⟩, Nat.succ_ne_self _⟩, fp, q⟩
section
variable {Γ : Gam} {W : WX} {A A' : Option AS} {e0 : Ent} {H H' : Hp} {env : List (Option DV)} {g g' : Option GS} {σ : List (Option V)} {X : Cx} {E : Ends} {α : Type}
theorem enum_get : ∀ (l : List D) (n i : Nat), (Dl.enumD n l)[i]? = (l[i]?).map fun d => D.tup [.int ((n + i : Nat) : Int), d]
  | [], n, i => by simp [Dl.enumD]
  | a :: l, n, 0 => by simp [Dl.enumD]
  | a :: l, n, i + 1 => by
    simp only [Dl.enumD, List.getElem?_cons_succ]
    rw [enum_get l (n + 1) i]
    have e : n + 1 + i = n + (i + 1) := by omega
    rw [e]
theorem enum_len : ∀ (l : List D) (n : Nat), (Dl.enumD n l).length = l.length
  | [], n => rfl
  | a :: l, n => by simp [Dl.enumD, enum_len l]
theorem zip_get : ∀ (l r : List D) (i : Nat) (d : D), (Dl.zipD l r)[i]? = some d → ∃ a b, l[i]? = some a ∧ r[i]? = some b ∧ d = .tup [a, b]
  | [], r, i, d, h => by simp [Dl.zipD] at h
  | a :: l, [], i, d, h => by simp [Dl.zipD] at h
  | a :: l, b :: r, 0, d, h => by simp [Dl.zipD] at h; exact ⟨a, b, rfl, rfl, h.symm⟩
  | a :: l, b :: r, i + 1, d, h => by
    simp only [Dl.zipD, List.getElem?_cons_succ] at h ⊢
    exact zip_get l r i d h
theorem zip_len : ∀ (l r : List D), (Dl.zipD l r).length = min l.length r.length
  | [], r => by simp [Dl.zipD]
  | a :: l, [] => by simp [Dl.zipD]
  | a :: l, b :: r => by simp only [Dl.zipD, List.length_cons, zip_len l r]; omega
/-- a new pair is told -/
theorem rp_pair {K : PySem.W.Frag} {x y : V} {d e : D} {T : Addr} (n : H T = none) (r1 : Rp K A H x d) (r2 : Rp K A H y e) : Rp K A (upd H T (.tup [x, y])) (.ref T) (.tup [d, e]) :=
  .tup (SqT.of upd_same) (Rps.per (per_new n) (Ext.refl A) (.cons r1 (.cons r2 .nil)))
theorem ok_enum {K : PySem.W.Frag} {l : List D} {st : Option AS → Hp → Prop} {xs : List V} {A1 : Option AS} {H1 : Hp} {J : It} {G : Hp → Prop} (w : Walk J xs.length G (L2.YPair (fun i => some (V.int i)) fun i => xs[i]?)) (r : Rps K A1 H1 xs l) (hg : ∀ A H, st A H → G H) (hst : ∀ A H, st A H → Ext A1 A ∧ Per H1 H) :
    ItOk K (Dl.enumD 0 l) st J G (L2.YPair (fun i => some (V.int i)) fun i => xs[i]?) := by
  refine ⟨by rw [enum_len, ← r.length]; exact w, hg, fun i A H x H' d e s ⟨T, y, z, e1, e2, e3, e4, e5⟩ => ?_⟩
  subst e1 e3
  cases e4
  rw [enum_get] at e
  cases f : l[i]? with
  | none => rw [f] at e; cases e
  | some b =>
    rw [f] at e
    cases e
    obtain ⟨v, h1, h2⟩ := r.get f
    replace e5 : xs[i]? = some z := e5
    rw [h1] at e5
    cases e5
    obtain ⟨s1, s2⟩ := hst _ _ s
    refine ⟨.inr ⟨T, _, e2, rfl⟩, ?_⟩
    have e6 : ((0 + i : Nat) : Int) = ((i : Nat) : Int) := by rw [Nat.zero_add]
    show Rp K A _ _ (.tup [.int ((0 + i : Nat) : Int), b])
    rw [e6]
    exact rp_pair e2 (.int _) (Rp.per s2 s1 h2)
theorem i_enumK (hK : X.K = Γ.K) {e : Expr} {x : Ex} {p pos tpos : Pos} {elts : List Expr} {kk : Nat} (B : Bn X "enumerate") (hs : noStar e = true) (h : PE X e (tI Γ W x)) : PI X (.Tuple elts kk tpos) (.Call (.Name "enumerate" p) [e] [] pos) (tItK Γ W (.iEnum x)) := by
  refine PI.weak (pi_en B hs h) fun σ H Q ⟨A, e0, env, g, d, o⟩ => ?_
  simp only [Dl.evI] at o
  refine ⟨A, e0, env, g, d, o.bind.imp fun z s A1 H1 _ e1 d1 p1 o1 v r => ?_⟩
  unfold Dl.seqD at o1
  split at o1
  · obtain ⟨a, xs, rfl, h1, r1⟩ := r.tup'
    exact ⟨a, rfl, .inr ⟨⟨xs, hK ▸ h1⟩, Out.here (s := s) o1 d1 _ _ _ (ok_enum walk_iteT r1 (fun A H s => hK ▸ sqT_per s.2 h1) fun A H s => s)⟩⟩
  · cases r with
    | lst h1 r1 => exact ⟨_, rfl, .inl ⟨⟨_, hK ▸ h1.sq⟩, Out.here (s := s) o1 d1 _ _ _ (ok_enum L2.walk_enum r1 (fun A H s => hK ▸ (h1.per s.2).sq) fun A H s => s)⟩⟩
  · exact o1.elim
theorem i_enumB (hK : X.K = Γ.K) {e : Expr} {x : Ex} {p pos tpos : Pos} {elts : List Expr} {kk : Nat} (B : Bn X "enumerate") (hs : noStar e = true) (h : PE X e (tB Γ W x)) : PI X (.Tuple elts kk tpos) (.Call (.Name "enumerate" p) [e] [] pos) (tItB Γ W (.iEnum x)) := by
  refine PI.weak (pi_en B hs h) fun σ H Q ⟨A, e0, env, g, d, o⟩ => ?_
  simp only [Dl.evI] at o
  refine ⟨A, e0, env, g, d, o.bind.imp fun z s A1 H1 _ e1 d1 p1 o1 v r => ?_⟩
  unfold Dl.seqD at o1
  split at o1
  · obtain ⟨a, xs, rfl, h1, r1⟩ := r.tup
    exact ⟨a, rfl, .inr ⟨⟨xs, hK ▸ h1⟩, Out.here (s := s) o1 d1 _ _ _ (ok_enum walk_iteT r1 (fun A H s => hK ▸ sqT_per s.2.1 h1) fun A H s => ⟨s.1, s.2.1⟩)⟩⟩
  · obtain ⟨a, xs, rfl, h1, r1⟩ := r.lst' d1
    exact ⟨_, rfl, .inl ⟨⟨xs, hK ▸ stB_sq h1 ⟨Ext.refl _, Per.refl _, fun a xs h m => ⟨h, m⟩⟩⟩, Out.here (s := s) o1 d1 _ _ _ (ok_enum L2.walk_enum r1 (fun A H s => hK ▸ stB_sq h1 s) fun A H s => ⟨s.1, s.2.1⟩)⟩⟩
  · exact o1.elim
/-! ### zip -/
theorem walk_zipT {K : PySem.W.Frag} {a b : Addr} {xs ys : List V} : Walk (RZ.ItzT K a b) (min xs.length ys.length) (fun H => SqT K H a xs ∧ SqT K H b ys) (L2.YPair (fun i => xs[i]?) fun i => ys[i]?) := by
  refine ⟨fun i _ hi q => ?_, fun _ q => ⟨xs, ys, q.1, q.2, by omega⟩, fun i H v H' _ q y => ?_⟩
  · have h1 : i < xs.length := by omega
    have h2 : i < ys.length := by omega
    exact ⟨xs, ys, xs[i], ys[i], q.1, q.2, by simp [h1], by simp [h2]⟩
  · obtain ⟨T, x, z, h1, h2, h3, h4, h5⟩ := y
    exact ⟨T, x, z, h1, h2, h3, h4 xs q.1, h5 ys q.2⟩
theorem ok_zip {K : PySem.W.Frag} {l r : List D} {st : Option AS → Hp → Prop} {xs ys : List V} {A1 : Option AS} {H1 : Hp} {J : It} {G : Hp → Prop} (w : Walk J (min xs.length ys.length) G (L2.YPair (fun i => xs[i]?) fun i => ys[i]?)) (rx : Rps K A1 H1 xs l) (ry : Rps K A1 H1 ys r)
    (hg : ∀ A H, st A H → G H) (hst : ∀ A H, st A H → Ext A1 A ∧ Per H1 H) : ItOk K (Dl.zipD l r) st J G (L2.YPair (fun i => xs[i]?) fun i => ys[i]?) := by
  refine ⟨by rw [zip_len, ← rx.length, ← ry.length]; exact w, hg, fun i A H x H' d e s ⟨T, y, z, e1, e2, e3, e4, e5⟩ => ?_⟩
  subst e1 e3
  obtain ⟨a, b, ea, eb, rfl⟩ := zip_get _ _ _ _ e
  obtain ⟨va, h1, h2⟩ := rx.get ea
  obtain ⟨vb, h3, h4⟩ := ry.get eb
  replace e4 : xs[i]? = some y := e4
  replace e5 : ys[i]? = some z := e5
  rw [h1] at e4
  rw [h3] at e5
  cases e4
  cases e5
  obtain ⟨s1, s2⟩ := hst _ _ s
  exact ⟨.inr ⟨T, _, e2, rfl⟩, rp_pair e2 (Rp.per s2 s1 h2) (Rp.per s2 s1 h4)⟩
theorem i_zipW (hK : X.K = Γ.K) {a b : Expr} {x y : Ex} {p pos tpos : Pos} {elts : List Expr} {kk : Nat} (B : Bn X "zip") (hs : noStar a = true) (ht : noStar b = true) (h : PE X a (tI Γ W x)) (h2 : PE X b (tI Γ W y))
    {st : Option AS → Hp → Option AS → Hp → Prop} (hst : ∀ A1 H1 A H, st A1 H1 A H → Ext A1 A ∧ Per H1 H) :
    PI X (.Tuple elts kk tpos) (.Call (.Name "zip" p) [a, b] [] pos) (fun σ H Q => ∃ A e0 env g, Γ.DI A e0 env g σ H ∧ Out Γ W A e0 σ H (Dl.evI Γ.gl Γ.call (.iZip x y) ⟨env, g⟩) fun l _ A1 H1 => ∀ J G Y, ItOk Γ.K l (st A1 H1) J G Y → Q J H1) := by
  have pa : PA X [a, b] (tCons (tI Γ W x) (tCons (tI Γ W y) tNil)) := L2.pa_cons h (L2.pa_cons h2 L2.pa_nil (star_cons ht [] _)) (star_cons hs [b] _)
  refine PI.weak (RZ.pi_zipA B.gl B.mg pa (star_cons hs [b] _) (star_all (es := [b]) (by simp [ht]))) fun σ H Q ⟨A, e0, env, g, d, o⟩ => ?_
  simp only [Dl.evI] at o
  refine ⟨A, e0, env, g, d, o.bind.imp fun z s A1 H1 _ e1 d1 p1 o1 v r => ?_⟩
  refine ⟨A1, e0, s.env, s.g, d1, o1.bind.imp fun z2 s2 A2 H2 _ e2 d2 p2 o2 v2 r2 => ?_⟩
  have r' := Rp.per p2 e2 r
  unfold Dl.zip2 at o2
  split at o2
  · obtain ⟨a1, xs, rfl, h1, q1⟩ := r'.tup'
    obtain ⟨b1, ys, rfl, h3, q3⟩ := r2.tup'
    exact ⟨a1, b1, xs, ys, rfl, .inr ⟨hK ▸ h1, hK ▸ h3, Out.here (s := s2) o2 d2 _ _ _ (ok_zip walk_zipT q1 q3 (fun A H s => hK ▸ ⟨sqT_per (hst _ _ _ _ s).2 h1, sqT_per (hst _ _ _ _ s).2 h3⟩) (hst A2 H2))⟩⟩
  · cases r' with
    | lst h1 q1 =>
      cases r2 with
      | lst h3 q3 => exact ⟨_, _, _, _, rfl, .inl ⟨hK ▸ h1.sq, hK ▸ h3.sq, Out.here (s := s2) o2 d2 _ _ _ (ok_zip (L2.walk_zip rfl) q1 q3 (fun A H s => hK ▸ ⟨(h1.per (hst _ _ _ _ s).2).sq, (h3.per (hst _ _ _ _ s).2).sq⟩) (hst A2 H2))⟩⟩
  · exact o2.elim
theorem i_zipK (hK : X.K = Γ.K) {a b : Expr} {x y : Ex} {p pos tpos : Pos} {elts : List Expr} {kk : Nat} (B : Bn X "zip") (hs : noStar a = true) (ht : noStar b = true) (h : PE X a (tI Γ W x)) (h2 : PE X b (tI Γ W y)) : PI X (.Tuple elts kk tpos) (.Call (.Name "zip" p) [a, b] [] pos) (tItK Γ W (.iZip x y)) :=
  i_zipW hK B hs ht h h2 (st := stK) fun _ _ _ _ s => s
theorem i_zipB (hK : X.K = Γ.K) {a b : Expr} {x y : Ex} {p pos tpos : Pos} {elts : List Expr} {kk : Nat} (B : Bn X "zip") (hs : noStar a = true) (ht : noStar b = true) (h : PE X a (tI Γ W x)) (h2 : PE X b (tI Γ W y)) : PI X (.Tuple elts kk tpos) (.Call (.Name "zip" p) [a, b] [] pos) (tItB Γ W (.iZip x y)) :=
  i_zipW hK B hs ht h h2 (st := stB Γ.K) fun _ _ _ _ s => ⟨s.1, s.2.1⟩
/-! ### reversed -/
theorem walk_revT {K : PySem.W.Frag} {a : Addr} {xs : List V} : Walk (RT.ItvT K a xs.length) xs.length (fun H => SqT K H a xs) fun i H x H' => H' = H ∧ xs[xs.length - 1 - i]? = some x :=
  ⟨fun i H lt h => ⟨lt, xs, xs[xs.length - 1 - i], h, List.getElem?_eq_getElem (by omega)⟩, fun H h => Nat.le_refl _, fun i H x H' lt h ⟨e1, e2⟩ => ⟨e1, e2 xs h⟩⟩
theorem ok_rev {K : PySem.W.Frag} {l : List D} {st : Option AS → Hp → Prop} {xs : List V} {A1 : Option AS} {H1 : Hp} {J : It} {G : Hp → Prop} (w : Walk J xs.length G fun i H x H' => H' = H ∧ xs[xs.length - 1 - i]? = some x) (r : Rps K A1 H1 xs l) (hg : ∀ A H, st A H → G H) (hst : ∀ A H, st A H → Ext A1 A ∧ Per H1 H) :
    ItOk K l.reverse st J G (fun i H x H' => H' = H ∧ xs[xs.length - 1 - i]? = some x) := by
  refine ⟨by rw [List.length_reverse, ← r.length]; exact w, hg, fun i A H x H' d e s ⟨e1, e2⟩ => ?_⟩
  subst e1
  have lt : i < l.length := by
    have := (List.getElem?_eq_some_iff.mp e).1
    simpa using this
  rw [List.getElem?_reverse lt] at e
  obtain ⟨v, h1, h2⟩ := r.get e
  rw [r.length] at e2
  rw [h1] at e2
  cases e2
  obtain ⟨s1, s2⟩ := hst _ _ s
  exact ⟨.inl rfl, Rp.per s2 s1 h2⟩
theorem i_revK (hK : X.K = Γ.K) {tg e : Expr} {x : Ex} {p pos : Pos} (B : Bn X "reversed") (hs : noStar e = true) (h : PE X e (tI Γ W x)) : PI X tg (.Call (.Name "reversed" p) [e] [] pos) (tItK Γ W (.iRev x)) := by
  refine PI.weak (RT.pi_revA B.gl B.mg h (star_cons hs [] _)) fun σ H Q ⟨A, e0, env, g, d, o⟩ => ?_
  simp only [Dl.evI] at o
  refine ⟨A, e0, env, g, d, o.bind.imp fun z s A1 H1 _ e1 d1 p1 o1 v r => ?_⟩
  unfold Dl.seqD at o1
  split at o1
  · obtain ⟨a, xs, rfl, h1, r1⟩ := r.tup'
    exact ⟨a, xs, rfl, .inr ⟨hK ▸ h1, Out.here (s := s) o1 d1 _ _ _ (ok_rev walk_revT r1 (fun A H s => hK ▸ sqT_per s.2 h1) fun A H s => s)⟩⟩
  · cases r with
    | lst h1 r1 => exact ⟨_, _, rfl, .inl ⟨hK ▸ h1.sq, Out.here (s := s) o1 d1 _ _ _ (ok_rev L2.walk_rev r1 (fun A H s => hK ▸ (h1.per s.2).sq) fun A H s => s)⟩⟩
  · exact o1.elim
theorem i_revB (hK : X.K = Γ.K) {tg e : Expr} {x : Ex} {p pos : Pos} (B : Bn X "reversed") (hs : noStar e = true) (h : PE X e (tB Γ W x)) : PI X tg (.Call (.Name "reversed" p) [e] [] pos) (tItB Γ W (.iRev x)) := by
  refine PI.weak (RT.pi_revA B.gl B.mg h (star_cons hs [] _)) fun σ H Q ⟨A, e0, env, g, d, o⟩ => ?_
  simp only [Dl.evI] at o
  refine ⟨A, e0, env, g, d, o.bind.imp fun z s A1 H1 _ e1 d1 p1 o1 v r => ?_⟩
  unfold Dl.seqD at o1
  split at o1
  · obtain ⟨a, xs, rfl, h1, r1⟩ := r.tup
    exact ⟨a, xs, rfl, .inr ⟨hK ▸ h1, Out.here (s := s) o1 d1 _ _ _ (ok_rev walk_revT r1 (fun A H s => hK ▸ sqT_per s.2.1 h1) fun A H s => ⟨s.1, s.2.1⟩)⟩⟩
  · obtain ⟨a, xs, rfl, h1, r1⟩ := r.lst' d1
    exact ⟨_, xs, rfl, .inl ⟨hK ▸ stB_sq h1 ⟨Ext.refl _, Per.refl _, fun a xs h m => ⟨h, m⟩⟩, Out.here (s := s) o1 d1 _ _ _ (ok_rev L2.walk_rev r1 (fun A H s => hK ▸ stB_sq h1 s) fun A H s => ⟨s.1, s.2.1⟩)⟩⟩
  · exact o1.elim
end
end Ds
end
section
set_option Elab.async false
set_option Elab.async false
set_option linter.all false
set_option maxRecDepth 100000
set_option maxHeartbeats 4000000
set_option autoImplicit false
/-! Snd14: errors that are raised. -/
namespace Ds
open PySem PySem.Spec PyProof.Rows
open L2 (V Hp HO upd upd_same upd_ne RelV SqL SqT TE TA TT TS TG TI VK XK WX Cx Inv PE PA PT PTs PS PSs PG PGs PI It Walk PW Rd EP OpR tOp pe_op R2 rI rI0 Dp DpAll Room CallR tCB tCons tNil tTup tLst Gl Sp Ends exo exd OexC)
open Dl (D DV GS S R RC Ex Fl Le)
/-- an own class whose __init__ is ValueError's -/
structure Sup (K : PySem.W.Frag) (CS : Addr) : Prop where
  ga : PySem.W.specialIn K (.ref CS) "__getattribute__" = some (some (.builtin "type.__getattribute__"))
  rd : PySem.W.readsIn K CS (.type "type") = true
  at_ : PySem.W.findCls K (.ref CS) (.type "type") "__init__" = some (.val (.builtin "ValueError.__init__"))
section
variable {X : Cx}
/-- Base.__init__(self, ..), the base an own class -/
theorem pe_scinit {CS : Addr} {x : Str} {e : Expr} {es : List Expr} {ta : TA} {p1 p2 pos : Pos} {pl : Sem Bool} (hg : Gl X x) (hm : X.mg x = some (.ref CS)) (hd : (x == ("__debug__" : Str)) = false) (T : Sup X.K CS) (ha : PA X (e :: es) ta)
    (hc : eval (.Call (.Attribute (.Name x p1) "__init__" p2) (e :: es) [] pos) X.env = (do
      let ov ← eval (.Name x p1) X.env
      standAt p2.atName
      let (f, first) ← holding [ov] (getMethod ov "__init__" pl)
      callWith pos f first (backTo pos (starEach (e :: es) X.env)) (backToKw pos (keywordEach [] X.env))))
    (he : starEach (e :: es) X.env = (false, eval e X.env) :: starEach es X.env) (hpl : (backTo pos (starEach es X.env)).any (·.1) = false) :
    PE X (.Call (.Attribute (.Name x p1) "__init__" p2) (e :: es) [] pos) (L2.tVeI X.K ta) := by
  refine ⟨fun pins s σ H Q I h => PySem.W.methodCall_KW (L2.ld_glob I hg hm ?_ hd) hc⟩
  refine PySem.W.method_cls I.kIn T.ga (PySem.W.cls_value I.kIn T.rd T.at_ (by decide +kernel) ?_)
  show wpAny _ _ (callWith pos (Value.builtin "ValueError.__init__") [] (backTo pos (starEach (e :: es) X.env)) []) _ _ _
  refine callWith_method1 (L2.thn (ha.run pos pins _ σ H _ (I.tok _) h) fun us s1 ⟨vs, H1, I1, r1, a, C, ws, ev, hl, T, ea, q⟩ => ?_) he hpl
  subst ev
  cases r1 with
  | @cons _ u0 _ ur ra rw' =>
    cases ra
    exact L2.oinit_ok T I1 ea (by rw [← Paired.length rw', sizeLine_eq]; omega) fun s' J => ⟨.non, H1, J, rfl, q⟩
end
/-- a method call that is written on one line, its object a name -/
theorem call_line {o : Str} {m : Str} {p1 p2 pos : Pos} {es : List Expr} {env : Env} (hl : (p2.endLine == pos.line) = true) (hf : methodCallForm es.length (backTo pos (starEach es env)) [] = true) :
    eval (.Call (.Attribute (.Name o p1) m p2) es [] pos) env = (do
      let ov ← eval (.Name o p1) env
      standAt p2.atName
      let (f, first) ← holding [ov] (getMethod ov m (L2.plainOf (.Name o p1) env))
      callWith pos f first (backTo pos (starEach es env)) (backToKw pos (keywordEach [] env))) := by
  show (do
      let ov ← eval (.Name o p1) env
      standAt p2.atName
      methodCall (.Name o p1) m p2 pos env ov (es.length + 0) (backTo pos (starEach es env)) (backToKw pos (keywordEach [] env))) = _
  refine congrArg _ (funext fun ov => congrArg _ (funext fun _ => ?_))
  exact L2.mcall_line hf hl
/-- what an own class's __init__ does: it keeps one field -/
def spIni (K : PySem.W.Frag) (C : Addr) (f : Str) : Sp := fun vs H Q _ => ∃ a x, vs = [V.ref a, x] ∧ OexC K C ∧ PySem.W.findIn K (.ref C) f = some none ∧ H a = some (exo a C none) ∧
  ∀ dx, H dx = none → dx ≠ a → Q .non (upd (upd H dx (exd dx [(f, x)])) a (exo a C (some dx)))
/-- such a body: Base.__init__(self, text); self.f = x -/
theorem ini_ok {X : Cx} {CS C : Addr} {b : Str} {m : String} {j : Nat} {f : Str} {self x : Str} {p1 p2 p3 p4 p5 p6 p7 p8 p9 p10 : Pos} (hN : X.N = [self, x]) (h0 : List.lookup self X.env.scope.names = some .local) (h1 : List.lookup x X.env.scope.names = some .local) (hd0 : (self == ("__debug__" : Str)) = false)
    (hd1 : (x == ("__debug__" : Str)) = false) (hc0 : (self == ("__classdict__" : Str)) = false) (hc1 : (x == ("__classdict__" : Str)) = false) (hg : Gl X b) (hm : X.mg b = some (.ref CS)) (hd : (b == ("__debug__" : Str)) = false) (T : Sup X.K CS) (hl : (p2.endLine == p5.line) = true)
    {vs : List V} {H : Hp} {Q : VK} {E : XK} (h : spIni X.K C f vs H Q E) :
    ∃ t, PSs X [.Expr (.Call (.Attribute (.Name b p1) "__init__" p2) [.Name self p3, .Constant (.str m) j p4] [] p5) p6, .Assign [.Attribute (.Name self p7) f p8] (.Name x p9) p10] t ∧ t { nx := fun _ H' => Q .non H', rt := Q } (L2.start X.N vs) H := by
  have e0 : PE X (.Name self p3) (L2.tVar 0) := L2.pe_var (by rw [hN]; rfl) (.inl h0) hd0 hc0
  have e0' : PE X (.Name self p7) (L2.tVar 0) := L2.pe_var (by rw [hN]; rfl) (.inl h0) hd0 hc0
  have e1 : PE X (.Name x p9) (L2.tVar 1) := L2.pe_var (by rw [hN]; rfl) (.inl h1) hd1 hc1
  refine ⟨_, L2.pss_cons (L2.ps_expr (pe_scinit hg hm hd T (L2.pa_cons e0 (L2.pa_cons L2.pe_str L2.pa_nil rfl) rfl) (call_line hl rfl) rfl rfl) rfl) (L2.pss_one (L2.ps_ost e0' e1 rfl)), ?_⟩
  obtain ⟨a, y, rfl, oc, fn, ha, q⟩ := h
  have hs : L2.start X.N [V.ref a, y] = [some (V.ref a), some y] := by rw [hN]; rfl
  rw [hs]
  refine ⟨_, rfl, a, C, _, rfl, by simp, oc, ha, ?_⟩
  refine ⟨y, rfl, _, rfl, a, C, rfl, oc, fn, .inl ⟨ha, fun dx n ne => q dx n ne⟩⟩
/-- an own class that is raised with one value, kept under the name f -/
structure ClsOk (Γ : Gam) (X : Cx) (c f : String) : Prop where
  ok : ∃ C fI k fd ps, OexC X.K C ∧ PySem.W.findIn X.K (.ref C) "__init__" = some (some (.ref fI)) ∧ PySem.W.typeIn X.K (.ref fI) = some (.type "function") ∧ L2.FnOk X.prog X.w X.K X.mg X.base (L2.CX X.prog X.w) k fI fd ps (spIni X.K C (Str.ofString f)) ∧
    Room (k + 1) X.A ∧ L2.Binds X.K fd ps [] ∧ X.mg (Str.ofString c) = some (.ref C) ∧ Γ.cad c = some C ∧ PySem.W.findIn X.K (.ref C) (Str.ofString f) = some none
  fl : Γ.fl c = some [f]
section
variable {Γ : Gam} {W : WX} {A A' : Option AS} {e0 : Ent} {H H' : Hp} {env : List (Option DV)} {g g' : Option GS} {σ : List (Option V)} {X : Cx} {E : Ends} {α : Type}
theorem s_raise (hK : X.K = Γ.K) (hc : X.calm = true) (tk : L2.Takes X W) {c f : String} (C : ClsOk Γ X c f) {e : Expr} {es : List Expr} {l : List Ex} {p p1 pos : Pos} (hg : Gl X (Str.ofString c)) (hd : (Str.ofString c == ("__debug__" : Str)) = false) (hs : (e :: es).all noStar = true)
    (ha : PA X (e :: es) (tA Γ W l)) : PS X (.Raise (some (.Call (.Name (Str.ofString c) p) (e :: es) [] p1)) none pos) (tS Γ W (.raise c l)) := by
  obtain ⟨⟨C, fI, k, fd, ps, T, iC, tI, F, hr, hb, hm, hcad, hno⟩, hfl⟩ := C
  have hs1 := hs
  rw [List.all_cons, Bool.and_eq_true] at hs1
  refine PS.weak (L2.ps_raise hc tk (L2.pmk_oex (ds := []) (dvs := []) T iC tI F hr hb .nil (fun pins σ H s e s' I ⟨_, _, _, _, _, _, _, _, _, _, _, _, z⟩ => z.elim) hg hm ha hd (star_cons hs1.1 es _) (star_all hs1.2))) fun E σ H ⟨A, e0, env, g, d, o⟩ => ?_
  simp only [Dl.evS] at o
  refine ⟨A, e0, env, g, d, o.eval.imp fun ds s A1 H1 q1 e1 d1 p1 o1 vs r => ?_⟩
  rw [hfl] at o1
  have one : ds.length = 1 := by
    by_cases h : ([f] : List String).length = ds.length
    · exact h.symm
    · simp only [if_neg h] at o1
      exact o1.elim
  match ds, vs, r, one with
  | [x], _, .cons (v := v) rx .nil, _ =>
    simp only [List.length_cons, List.length_nil, if_true] at o1
    replace o1 : OutS Γ W A1 e0 H1 (.ex ⟨c, [f].zip [x]⟩ s) E := o1
    refine ⟨by show (1 : Nat) ≤ 1000; decide, fun a na => ⟨a, v, rfl, T, hno, upd_same, fun dx ndx ne => ⟨rfl, dx, [(Str.ofString f, v)], upd_same, ?_, ?_, ?_⟩⟩⟩
    · rw [upd_ne ne, upd_same]
    · rw [upd_ne ne] at ndx
      exact ndx
    · rw [upd_ne ne] at ndx
      have eH : upd (L2.del (upd (upd (upd H1 a (exo a C none)) dx (exd dx [(Str.ofString f, v)])) a (exo a C (some dx))) a) dx (.xd [(Str.ofString f, v)]) = upd H1 dx (.xd [(Str.ofString f, v)]) := by
        funext b
        by_cases hb : b = dx
        · rw [hb, upd_same, upd_same]
        · rw [upd_ne hb, upd_ne hb]
          by_cases ha : b = a
          · rw [ha, L2.del_same, na]
          · rw [L2.del_ne ha, upd_ne ha, upd_ne hb, upd_ne ha]
      rw [eH]
      have pr : Per H1 (upd H1 dx (.xd [(Str.ofString f, v)])) := per_new ndx
      refine o1 A1 σ (.ref C) (some dx) _ (Ext.refl _) (d1.new ndx) pr ⟨C, dx, _, rfl, hcad, rfl, upd_same, fun g y hl => ?_⟩
      simp only [List.zip_cons_cons, List.zip_nil_right, List.lookup_cons, List.lookup_nil] at hl
      split at hl
      · rename_i e
        cases hl
        have e : g = f := by simpa using e
        subst e
        exact ⟨v, by simp, Rp.per pr (Ext.refl _) rx⟩
      · cases hl
end
end Ds
end
section
set_option Elab.async false
set_option Elab.async false
set_option linter.all false
set_option maxRecDepth 100000
set_option maxHeartbeats 4000000
set_option autoImplicit false
/-! Snd15: try. -/
namespace Ds
open PySem PySem.Spec PyProof.Rows
open L2 (V Hp HO upd upd_same upd_ne RelV SqL SqT TE TA TT TS TG TI VK XK WX Cx Inv PE PA PT PTs PS PSs PG PGs PI It Walk PW Rd EP OpR tOp pe_op R2 rI rI0 Dp DpAll Room CallR tCB tCons tNil tTup tLst Gl Sp Ends exo exd OexC Zc Names Takes SP)
open Dl (D DV GS S R RC Ex Fl Le)
open HandSPX (FlyingZ)
theorem fly_keep {B h h' : Heap} {l : List Env} {a : Addr} {Z : Obj → Prop} (x : FlyingZ B l a Z h) (k : ∀ b o, h.get? b = some o → h'.get? b = some o) : FlyingZ B l a Z h' := by
  obtain ⟨f1, f2, f3, oe, vs, T, oT, ts, he, hz, hd, h1, hn, hne, hT, hdT, h3⟩ := x
  exact ⟨fun b o q => k b o (f1 b o q), f2, f3.of_keeps fun b o q _ => ⟨o, k b o q, rfl⟩, oe, vs, T, oT, ts, k _ _ he, hz, hd, h1, hn, hne, k _ _ hT, hdT, h3⟩
/-- a class's name in an except clause -/
def NameC (Γ : Gam) (X : Cx) (c : String) : Prop := ∃ v, Names X (Str.ofString c) v ∧ ∀ k C, Γ.cad k = some C → PySem.W.exmOne X.K (.ref C) v = some (k == c || c == "SayError" || c == "ValueError")
/-- what a clause asks for -/
inductive ClOk (Γ : Gam) (X : Cx) : Expr → List String → Prop
  | one {c : String} {p : Pos} : NameC Γ X c → ClOk Γ X (.Name (Str.ofString c) p) [c]
  | two {c d : String} {p p' q : Pos} {k : Nat} : NameC Γ X c → NameC Γ X d → ClOk Γ X (.Tuple [.Name (Str.ofString c) p, .Name (Str.ofString d) p'] k q) [c, d]
/-- the clauses -/
inductive HdsR (Γ : Gam) (X : Cx) : List ExceptHandler → List (List String × Option Nat × List Dl.St) → Prop
  | nil : HdsR Γ X [] []
  | cons {t : Expr} {cs : List String} {n : Option Nat} {nm : Option Str} {b₀ : Stmt} {suite : List Stmt} {b : List Dl.St} {pos' : Pos} {hds : List ExceptHandler} {hs : List (List String × Option Nat × List Dl.St)}
      (ct : ClOk Γ X t cs) (nn : match n, nm with
        | none, none => True
        | some i, some y => SlotL X i y
        | _, _ => False)
      (hsu : ∀ (a : Addr) (oe : Obj) (cls : Value) (d : Option Addr) (pn : List (Addr × Obj)), Zc cls d oe → (∃ vs, oe.data = .fields vs) → PSs (X.suite a ((a, oe) :: pn)) (b₀ :: suite) (tSs { Γ with Z := some (a, cls, d) } W0 b))
      (r : HdsR Γ X hds hs) : HdsR Γ X (.ExceptHandler (some t) nm (b₀ :: suite) pos' :: hds) ((cs, n, b) :: hs)
section
variable {Γ : Gam} {W : WX} {A A' : Option AS} {e0 : Ent} {H H' : Hp} {env : List (Option DV)} {g g' : Option GS} {σ : List (Option V)} {X : Cx} {E : Ends} {α : Type}
/-- without errors in the slots it does not matter which one is at hand -/
theorem DI.reZ {Z : Option (Addr × Value × Option Addr)} (d : Γ.DI A e0 env g σ H) (h : ∀ (i : Nat) (c : String) (fs : List (String × D)), env[i]? ≠ some (some (.exc c fs))) : ({ Γ with Z := Z } : Gam).DI A e0 env g σ H :=
  ⟨d.keep, d.src, d.gok, d.len, fun i dv e => by
    obtain ⟨v, h1, h2⟩ := d.slot i dv e
    refine ⟨v, h1, ?_⟩
    cases dv with
    | exc c fs => exact absurd e (h i c fs)
    | _ => exact h2, d.inj⟩
theorem DI.noX (hz : Γ.Z = none) (d : Γ.DI A e0 env g σ H) (i : Nat) (c : String) (fs : List (String × D)) : env[i]? ≠ some (some (.exc c fs)) := fun e => by
  obtain ⟨v, h1, a, C, dd, vfs, q, _⟩ := d.slot i _ e
  rw [hz] at q
  cases q
theorem noExc_ok (h : Dl.noExc env = true) (i : Nat) (c : String) (fs : List (String × D)) : env[i]? ≠ some (some (.exc c fs)) := fun e => by
  have := List.all_eq_true.mp h _ (List.mem_of_getElem? e)
  cases this
/-- the error is named -/
theorem DI.putX {a C dd : Addr} {vfs : List (Str × V)} {c : String} {fs : List (String × D)} (d : Γ.DI A e0 env g σ H) (hz : Γ.Z = some (a, .ref C, some dd)) (hc : Γ.cad c = some C) (hd : H dd = some (.xd vfs))
    (hf : ∀ f x, fs.lookup f = some x → ∃ v, vfs.lookup (Str.ofString f) = some v ∧ Rp Γ.K A H v x) (i : Nat) : Γ.DI A e0 (env.set i (some (.exc c fs))) g (σ.set i (some (.ref a))) H := by
  have d1 := d.wipe1 i (some (.ref a))
  refine ⟨d.keep, d.src, d.gok, by simpa using d.len, fun j dv e => ?_, fun j k l l' b e1 e2 e3 e4 => ?_⟩
  · by_cases hj : j = i
    · subst hj
      have hlt : j < env.length := by
        have := (List.getElem?_eq_some_iff.mp e).1
        simpa using this
      rw [List.getElem?_set_self hlt] at e
      cases e
      exact ⟨.ref a, by rw [List.getElem?_set_self (by rw [← d.len]; exact hlt)], a, C, dd, vfs, hz, rfl, hc, hd, hf⟩
    · rw [List.getElem?_set_ne (Ne.symm hj)] at e
      obtain ⟨w, h1, h2⟩ := d.slot j dv e
      exact ⟨w, by rw [List.getElem?_set_ne (Ne.symm hj)]; exact h1, h2⟩
  · have nj : ∀ {j : Nat} {l : List D}, (env.set i (some (.exc c fs)))[j]? = some (some (.ml l)) → j ≠ i := fun {j l} e z => by
      subst z
      have hlt : j < env.length := by
        have := (List.getElem?_eq_some_iff.mp e).1
        simpa using this
      rw [List.getElem?_set_self hlt] at e
      cases e
    have n1 := nj e1
    have n2 := nj e2
    rw [List.getElem?_set_ne (Ne.symm n1)] at e1 e3
    rw [List.getElem?_set_ne (Ne.symm n2)] at e2 e4
    exact d.inj j k l l' b e1 e2 e3 e4
/-- a clause's test -/
theorem cl_run {t : Expr} {cs : List String} (ct : ClOk Γ X t cs) {k : String} {C : Addr} (hc : Γ.cad k = some C) {a : Addr} {oe : Obj} {pn pins : List (Addr × Obj)} {s : Shared} {Q : Bool → Shared → Prop} {F E : Value → Shared → Prop}
    (S : Inv (X.suite a ((a, oe) :: pn)) pins σ H s) (KI : X.K.In s.heap) (LT : PySem.W.Looks (model X.prog X.w) s.heap (typeOf (.ref a)) (.ref C)) (q : ∀ h', (∀ b o, s.heap.get? b = some o → h'.get? b = some o) → Q (Dl.takes k cs) { s with heap := h' }) :
    wpAny (model X.prog X.w) (X.A.mark (some (.ref a))) (eval t X.env) (fun c s₁ => wpAny (model X.prog X.w) (X.A.mark (some (.ref a))) (excMatches (.ref a) c) Q F s₁) E s := by
  have name : ∀ {c : String} {v : Value} {p : Pos} {Q' : Value → Shared → Prop}, Names X (Str.ofString c) v → Q' v s → wpAny (model X.prog X.w) (X.A.mark (some (.ref a))) (eval (.Name (Str.ofString c) p) X.env) Q' E s := fun {c v p Q'} hn q => by
    obtain ⟨hg, hdbg, hm | ⟨hm, hv, hnn⟩⟩ := hn
    · exact L2.ld_glob (X := X.suite a ((a, oe) :: pn)) S hg hm q hdbg
    · exact L2.ld_blt (X := X.suite a ((a, oe) :: pn)) S hg hm hv q hnn hdbg
  cases ct with
  | one n =>
    obtain ⟨v, hn, hx⟩ := n
    refine name hn ((PySem.W.exm_one KI LT (hx k C hc)).here ?_)
    have := q s.heap fun _ _ z => z
    simpa [Dl.takes] using this
  | @two c1 c2 p p' tq tk n1 n2 =>
    obtain ⟨v1, hn1, hx1⟩ := n1
    obtain ⟨v2, hn2, hx2⟩ := n2
    refine wpAny_Tuple (wpAny_items_cons (name hn1 (wpAny_items_cons (name hn2 (wpAny_items_nil ⟨by size_fits, ?_⟩)))))
    have kp : ∀ b o, s.heap.get? b = some o → (s.heap.push { cls := .type "tuple", data := .seq [v1, v2].toArray }).get? b = some o := fun _ _ z => Heap.get?_push_of_some _ z
    have he : PySem.W.exmAny X.K (.ref C) [v1, v2] = some (Dl.takes k [c1, c2]) := by
      simp only [PySem.W.exmAny, hx1 k C hc, hx2 k C hc]
      simp [Dl.takes]
    exact (PySem.W.exm_tup2 (KI.keeps kp) (LT.keeps kp) (Heap.get?_push_size s.heap rfl) he).here (q _ kp)
/-- what the clauses wish of an error of the body -/
def wTry (Γ : Gam) (W : WX) (hs : List (List String × Option Nat × List Dl.St)) (E : Ends) : WX := fun cls dd σ H => ∃ A e0 s e, Γ.DI A e0 s.env s.g σ H ∧ ExR Γ.K Γ.cad A H cls dd e ∧ OutS Γ W A e0 H (Dl.evH Γ.fl Γ.gl Γ.call hs e s) E
/-- over any reading of the body -/
theorem s_tryR (hz : Γ.Z = none) (hs : X.stack = X.env :: X.outer) (hf : X.env.frame = some X.env.locals) (tk : Takes X W) {body : List Stmt} {h₀ : ExceptHandler} {hds : List ExceptHandler} {tb : WX → TS} {hl : List (List String × Option Nat × List Dl.St)} {pos : Pos}
    (hb : ∀ (W : WX) (pn : List (Addr × Obj)) (xe : Value → Shared → Prop), Takes (X.tr pn xe) W → PassesOwn (model X.prog X.w) X.A X.env xe → PSs (X.tr pn xe) body (tb W)) (hh : HdsR Γ X (h₀ :: hds) hl) :
    PS X (.Try body (h₀ :: hds) [] [] pos) (fun E σ H => tb (wTry Γ W hl E) E σ H) := by
  refine ⟨fun pins s σ H E I start => ?_⟩
  have ok := I.ok
  have frames : X.A.frames = some (X.env :: X.outer) := by rw [ok.frames, hs]
  refine wpAny_Try_except (wpAny_mono ((hb (wTry Γ W hl E) (X.pn ++ pins) (fun e s₁ => wpAny (model X.prog X.w) X.A (noteFrame e X.env) (fun _ s₂ => wpAny (model X.prog X.w) X.A (setFlight e none) (fun _ s₃ =>
    wpAny (model X.prog X.w) X.A (handleBy e X.env (h₀ :: hds)) (SP X pins E) X.xe s₃) X.xe s₂) X.xe s₁) ?_ PassesOwn.looking).run [] s σ H E (I.toTry _) start) ?_ (fun e s1 he => he))
  · intro u s' ⟨a, B, sI, pins', σ', H', cls, dd, eu, J', nb, up, sky, na, os, ag, A1, e1, s1, x1, d1, r1, o1⟩
    subst eu
    obtain ⟨C, cd, vfs, rfl, hcad, rfl, hxd, hflds⟩ := r1
    have J : Inv X pins σ' H' sI := J'.ofTry ok
    rw [hs] at sky
    show wpAny (model X.prog X.w) X.A (noteFrame (.ref a) X.env) _ _ _
    refine L2.Sky.land L2.Zc.steady frames hf sky fun h3 fl3 up3 => ?_
    -- the clauses, wherever the heap has grown to
    have apart : ∀ {h : Heap} {o : Obj} {vs : Array Value}, h.FunFrames B (X.env :: X.outer) → h.get? a = some o → o.data = .fields vs → a ≠ X.env.locals ∧ a ∉ X.fs := fun {h o vs} ff q dq => by
      have no : a ∉ L2.frs (X.env :: X.outer) := fun hm => by
        obtain ⟨_, o', q', hnf⟩ := ff.mem hm
        rw [q] at q'
        cases q'
        exact hnf _ dq
      refine ⟨fun z => no (List.mem_filterMap.mpr ⟨X.env, List.mem_cons_self, by rw [hf, z]⟩), fun hm => ?_⟩
      obtain ⟨v, hv, q⟩ := List.mem_filterMap.mp hm
      exact no (List.mem_filterMap.mpr ⟨v, List.mem_cons_of_mem _ hv, q⟩)
    have go : ∀ {hds' : List ExceptHandler} {hl' : List (List String × Option Nat × List Dl.St)}, HdsR Γ X hds' hl' → OutS Γ W A1 e1 H' (Dl.evH Γ.fl Γ.gl Γ.call hl' x1 s1) E →
        ∀ h3, FlyingZ B (X.env :: X.outer) a (Zc (.ref C) (some cd)) h3 → sI.heap.UpToSlots h3 → wpAny (model X.prog X.w) X.A (handleBy (.ref a) X.env hds') (SP X pins E) X.xe { s' with heap := h3 } := by
      intro hds' hl' hk
      induction hk with
      | nil =>
        intro o1 h3 fl3 up3
        simp only [Dl.evH] at o1
        refine wpAny_handleBy_nil ?_
        obtain ⟨k1, k2, k3, oe, vs, T, oT, ts', he, hz', hd, h1, hr⟩ := id fl3
        unfold PySem.passOn
        refine wpAny_bind (wpAny_field he hd h1 ?_)
        rw [if_neg (show ¬ ((Value.ref T == Value.none) = true) from by simp)]
        have out : wpAny (model X.prog X.w) X.A (setFlight (.ref a) X.env.frame) (fun _ s4 => wpAny (model X.prog X.w) X.A (throw (.ref a) : Sem Flow) (SP X pins E) X.xe s4) X.xe { s' with heap := h3 } := by
          rw [hf]
          refine HandSPX.setFlight_upZ fl3 fun h4 hh4 up4 => wpAny_throw (tk _ _ ?_)
          exact ⟨a, B, sI, pins, σ', H', _, _, rfl, J, nb, up3.trans up4, .inr (.inr (by rw [hs]; exact hh4)), na, os, ag, o1 A1 σ' _ _ H' (Ext.refl _) d1 (Per.refl _) ⟨C, cd, vfs, rfl, hcad, rfl, hxd, hflds⟩⟩
        first
          | exact wpAny_bind (wpAny_pure (wpAny_bind out))
          | exact wpAny_bind out
      | @cons t cs n nm b₀ suite bb pos' hds2 hl2 ct nn hsu r ih =>
        intro o1 h3 fl3 up3
        simp only [Dl.evH] at o1
        obtain ⟨oe3, vs3, he3, hz3, hd3⟩ := fl3.there
        obtain ⟨nL, nF⟩ := apart fl3.2.2.1 he3 hd3
        have J3 : Inv X pins σ' H' { s' with heap := h3 } := J.landed nb fl3.1 up3 os ag
        have S3 := J3.suite he3 hd3 na nL nF
        have LT : PySem.W.Looks (model X.prog X.w) h3 (typeOf (.ref a)) (.ref C) := fun A Q E s k q => wpAny_typeOf_ref (k _ _ he3) (by rw [hz3.1]; exact q)
        refine wpAny_handleBy_cons (codeAny_handlers_test (cl_run ct hcad S3 J3.kIn LT fun h' kk => ?_)) (by intro q; cases q)
        have fl4 := fly_keep fl3 kk
        have up4 := up3.trans (Heap.UpToSlots.of_keeps kk)
        have clean : ∀ (j : Nat) (c : String) (fs : List (String × D)), s1.env[j]? ≠ some (some (.exc c fs)) := DI.noX hz d1
        by_cases ht : Dl.takes x1.cls cs = true
        · rw [if_pos ht] at o1
          rw [ht]
          cases n with
          | none =>
            cases nm with
            | some y => exact nn.elim
            | none =>
              refine codeAny_handlers_suite (HandSPX.lands_againZ fl4 fun h5 fl5 up5 => ?_)
              obtain ⟨oe5, vs5, he5, hz5, hd5⟩ := fl5.there
              have J5 : Inv X pins σ' H' { s' with heap := h5 } := J.landed nb fl5.1 (up4.trans up5) os ag
              have S5 := J5.suite he5 hd5 na nL nF
              have inner : tSs { Γ with Z := some (a, .ref C, some cd) } W0 bb E σ' H' := by
                refine ⟨A1, e1, s1.env, s1.g, d1.reZ clean, ?_⟩
                show OutS _ W0 A1 e1 H' (Dl.evB Γ.fl Γ.gl Γ.call bb s1) E
                cases q : Dl.evB Γ.fl Γ.gl Γ.call bb s1 with
                | ok r s2 =>
                  simp only [q] at o1
                  split at o1
                  · rename_i hn
                    exact fun A2 σ2 H2 e2 d2 p2 => o1 A2 σ2 H2 e2 (DI.reZ (Γ := { Γ with Z := some (a, .ref C, some cd) }) d2 (noExc_ok hn)) p2
                  · exact o1.elim
                | ex _ _ => simp only [q] at o1; exact o1.elim
                | stuck => simp only [q] at o1; exact o1.elim
              refine wpAny_mono ((hsu a oe5 (.ref C) (some cd) (X.pn ++ pins) hz5 ⟨_, hd5⟩).run [] _ _ H' E S5 inner) (fun f s6 z => ?_) (fun _ _ z => z.elim)
              cases f with
              | next => obtain ⟨σ6, H6, S6, q6⟩ := z; exact ⟨_, _, S6.unsuite ok, q6⟩
              | brk => obtain ⟨σ6, H6, S6, q6⟩ := z; exact ⟨_, _, S6.unsuite ok, q6⟩
              | cont => obtain ⟨σ6, H6, S6, q6⟩ := z; exact ⟨_, _, S6.unsuite ok, q6⟩
              | ret u => obtain ⟨v6, σ6, H6, S6, r6, q6⟩ := z; exact ⟨_, _, _, S6.unsuite ok, r6, q6⟩
          | some i =>
            cases nm with
            | none => exact nn.elim
            | some y =>
              have L : SlotL X i y := nn
              have lk : X.env.kindOf y = some .local := L.lo
              refine codeAny_handlers_suite_as (HandSPX.lands_againZ fl4 fun h5 fl5 up5 => ?_)
              obtain ⟨oe5, vs5, he5, hz5, hd5⟩ := fl5.there
              have J5 : Inv X pins σ' H' { s' with heap := h5 } := J.landed nb fl5.1 (up4.trans up5) os ag
              have S5 := J5.suite he5 hd5 na nL nF
              refine L2.store_ok (X := X.suite a ((a, oe5) :: (X.pn ++ pins))) (v := .ref a) S5 L.nd L.at_ (.inl L.lo) rfl (fun s6 S6 => ?_) (.inr L.lo)
              let E' : Ends := { nx := fun σ2 H2 => E.nx (σ2.set i none) H2, rt := E.rt, bk := fun σ2 H2 => E.bk (σ2.set i none) H2, ct := fun σ2 H2 => E.ct (σ2.set i none) H2 }
              have inner : tSs { Γ with Z := some (a, .ref C, some cd) } W0 bb E' (σ'.set i (some (.ref a))) H' := by
                refine ⟨A1, e1, s1.env.set i (some (.exc x1.cls x1.fs)), s1.g, DI.putX (Γ := { Γ with Z := some (a, .ref C, some cd) }) (d1.reZ clean) rfl hcad hxd hflds i, ?_⟩
                show OutS _ W0 A1 e1 H' (Dl.evB Γ.fl Γ.gl Γ.call bb (s1.put i (.exc x1.cls x1.fs))) E'
                cases q : Dl.evB Γ.fl Γ.gl Γ.call bb (s1.put i (.exc x1.cls x1.fs)) with
                | ok r s2 =>
                  simp only [q] at o1
                  split at o1
                  · rename_i hn
                    intro A2 σ2 H2 e2 d2 p2
                    have fin := o1 A2 (σ2.set i none) H2 e2 (DI.reZ (Γ := { Γ with Z := some (a, .ref C, some cd) }) (DI.wipe1 d2 i none) (noExc_ok hn)) p2
                    cases r <;> exact fin
                  · exact o1.elim
                | ex _ _ => simp only [q] at o1; exact o1.elim
                | stuck => simp only [q] at o1; exact o1.elim
              refine wpAny_mono ((hsu a oe5 (.ref C) (some cd) (X.pn ++ pins) hz5 ⟨_, hd5⟩).run [] s6 _ H' E' S6 inner) (fun f s7 z => ?_) (fun _ _ z => z.elim)
              have leave : ∀ {σ6 : L2.St} {H6 : Hp} {Q : Shared → Prop}, Inv (X.suite a ((a, oe5) :: (X.pn ++ pins))) [] σ6 H6 s7 → (∀ s8, Inv X pins (σ6.set i none) H6 s8 → Q s8) →
                  wpAny (model X.prog X.w) X.A (do bindName X.env y .none; unbindBehindTheSuite X.env y pos') (fun _ s8 => Q s8) X.xe s7 := fun {σ6 H6 Q} S6 hq => L2.gone_ok (S6.unsuite ok) L.nd L.at_ lk hq
              cases f with
              | next => obtain ⟨σ6, H6, S7, q6⟩ := z; exact leave S7 fun s8 J8 => ⟨_, _, J8, q6⟩
              | brk => obtain ⟨σ6, H6, S7, q6⟩ := z; exact leave S7 fun s8 J8 => ⟨_, _, J8, q6⟩
              | cont => obtain ⟨σ6, H6, S7, q6⟩ := z; exact leave S7 fun s8 J8 => ⟨_, _, J8, q6⟩
              | ret u => obtain ⟨v6, σ6, H6, S7, r6, q6⟩ := z; exact leave S7 fun s8 J8 => ⟨_, _, _, J8, r6, q6⟩
        · rw [if_neg ht] at o1
          rw [Bool.not_eq_true] at ht
          rw [ht]
          show wpAny _ X.A (handleBy (.ref a) X.env hds2) _ _ _
          exact ih o1 h' fl4 up4
    exact go hh o1 h3 fl3 (up.trans up3)
  · intro f s1 z
    cases f with
    | next =>
      obtain ⟨σ', H', J', q⟩ := z
      exact wpAny_execs_nil ⟨σ', H', J'.ofTry ok, q⟩
    | brk =>
      obtain ⟨σ', H', J', q⟩ := z
      exact ⟨σ', H', J'.ofTry ok, q⟩
    | cont =>
      obtain ⟨σ', H', J', q⟩ := z
      exact ⟨σ', H', J'.ofTry ok, q⟩
    | ret u =>
      obtain ⟨v, σ', H', J', r, q⟩ := z
      exact ⟨v, σ', H', J'.ofTry ok, r, q⟩
/-- what the body gets -/
theorem try_start {b : List Dl.St} {hl : List (List String × Option Nat × List Dl.St)} {s : S} (o : OutS Γ W A e0 H (Dl.evS Γ.fl Γ.gl Γ.call (.tryS b hl) s) E) : OutS Γ (wTry Γ W hl E) A e0 H (Dl.evB Γ.fl Γ.gl Γ.call b s) E := by
  simp only [Dl.evS] at o
  cases e : Dl.evB Γ.fl Γ.gl Γ.call b s with
  | ok r s1 => rw [e] at o; exact o
  | ex x s1 =>
    rw [e] at o
    exact fun A' σ' cls dd H' e1 d1 p1 x1 => ⟨A', e0, s1, x, d1, x1, OutS.later o e1 p1⟩
  | stuck => rw [e] at o; exact o
theorem s_try (hz : Γ.Z = none) (hs : X.stack = X.env :: X.outer) (hf : X.env.frame = some X.env.locals) (tk : Takes X W) {body : List Stmt} {h₀ : ExceptHandler} {hds : List ExceptHandler} {b : List Dl.St} {hl : List (List String × Option Nat × List Dl.St)} {pos : Pos}
    (hb : ∀ (W : WX) (pn : List (Addr × Obj)) (xe : Value → Shared → Prop), Takes (X.tr pn xe) W → PassesOwn (model X.prog X.w) X.A X.env xe → PSs (X.tr pn xe) body (tSs Γ W b)) (hh : HdsR Γ X (h₀ :: hds) hl) :
    PS X (.Try body (h₀ :: hds) [] [] pos) (tS Γ W (.tryS b hl)) :=
  PS.weak (s_tryR hz hs hf tk (tb := fun W => tSs Γ W b) hb hh) fun E σ H ⟨A, e0, env, g, d, o⟩ => ⟨A, e0, env, g, d, try_start o⟩
end
end Ds
end
section
set_option Elab.async false
set_option Elab.async false
set_option linter.all false
set_option maxRecDepth 100000
set_option maxHeartbeats 4000000
set_option autoImplicit false
/-! Snd16: several targets at once; an error's fields. -/
namespace Ds
open PySem PySem.Spec PyProof.Rows
open L2 (V Hp HO upd upd_same upd_ne RelV SqL SqT TE TA TT TS TG TI VK XK WX Cx Inv PE PA PT PTs PS PSs PG PGs PI It Walk PW Rd EP OpR tOp pe_op R2 rI rI0 Dp DpAll Room CallR tCB tCons tNil tTup tLst Gl Sp Ends exo exd OexC Zc Names Takes SP)
open Dl (D DV GS S R RC Ex Fl Le)
/-- values for several slots: kept, or new lists (at fr) -/
inductive PrOk (K : PySem.W.Frag) (A : Option AS) (e0 : Ent) (H : Hp) (env : List (Option DV)) (σ : List (Option V)) : List V → List (Nat × Bool × D) → List Addr → Prop
  | nil : PrOk K A e0 H env σ [] [] []
  | keep {v : V} {i : Nat} {o : Bool} {d : D} {vs : List V} {ds : List (Nat × Bool × D)} {fr : List Addr} : Rp K A H v d → (o = true → ∀ l, d ≠ .lst l) → PrOk K A e0 H env σ vs ds fr → PrOk K A e0 H env σ (v :: vs) ((i, o, d) :: ds) fr
  | new {a : Addr} {i : Nat} {l : List D} {vs : List V} {ds : List (Nat × Bool × D)} {fr : List Addr} : Frsh K A e0 H env σ (.ref a) l → a ∉ fr → PrOk K A e0 H env σ vs ds fr → PrOk K A e0 H env σ (.ref a :: vs) ((i, true, .lst l) :: ds) (a :: fr)
/-- values, one behind the other, for several slots -/
def tPr (Γ : Gam) (W : WX) (l : List (Nat × Bool × Ex)) : TA := fun σ H Q => ∃ A e0 env g, Γ.DI A e0 env g σ H ∧ Out Γ W A e0 σ H (Dl.evP Γ.gl Γ.call l ⟨env, g⟩) fun ds s A' H' => ∀ vs fr, PrOk Γ.K A' e0 H' s.env σ vs ds fr → Q vs H'
section
variable {Γ : Gam} {W : WX} {A A' : Option AS} {e0 : Ent} {H H' : Hp} {env env' : List (Option DV)} {g g' : Option GS} {σ : List (Option V)} {X : Cx} {E : Ends} {α : Type}
theorem noMd_at {env : List (Option DV)} (h : Dl.noMd env = true) {i : Nat} {ks : List Int} {vs : List D} (e : env[i]? = some (some (.md ks vs))) : False := by
  have m := List.mem_of_getElem? e
  have := List.all_eq_true.mp h _ m
  cases this
/-- a new list waits: it is counted among what stood at the entry -/
def Ent.wait (e0 : Ent) (a : Addr) (o : HO) : Ent := ⟨e0.A, upd e0.H a o, a :: e0.P⟩
theorem DI.wait (d : Γ.DI A e0 env g σ H) {a : Addr} {w : HO} (ha : H a = some w) (h0 : e0.H a = none) (nm : ¬ isM Γ.K A a) (dj : ∀ (i : Nat) (l' : List D), env[i]? = some (some (.ml l')) → σ[i]? ≠ some (some (.ref a))) (hm : ∀ kvs, w = .dK kvs → Dl.noMd env = true := by intro _ z; cases z) :
    Γ.DI A (e0.wait a w) env g σ H := by
  refine ⟨fun b o e m => ?_, d.src, d.gok, d.len, fun i dv e => ?_, d.inj⟩
  · by_cases hb : b = a
    · subst hb
      have e' : some w = some o := by
        have := e
        unfold Ent.wait at this
        simpa only [upd_same] using this
      cases e'
      exact ⟨ha, nm⟩
    · have e' : e0.H b = some o := by
        have := e
        unfold Ent.wait at this
        simpa only [upd_ne hb] using this
      exact d.keep b o e' m
  · obtain ⟨v, h1, h2⟩ := d.slot i dv e
    refine ⟨v, h1, ?_⟩
    cases dv with
    | im x => exact h2
    | md ks vs =>
      obtain ⟨b, ys, rfl, hb, kk, r, hn, m⟩ := h2
      have ne : b ≠ a := fun z => by
        subst z
        rw [ha] at hb
        cases hb
        have := noMd_at (hm _ rfl) e
        exact this
      exact ⟨b, ys, rfl, hb, kk, r, by show upd e0.H a _ b = none; rw [upd_ne ne]; exact hn, m⟩
    | exc c fs => exact h2
    | ml l =>
      obtain ⟨b, ys, rfl, hb, r, hn, m⟩ := h2
      have ne : b ≠ a := fun z => by subst z; exact dj i l e h1
      exact ⟨b, ys, rfl, hb, r, by show upd e0.H a _ b = none; rw [upd_ne ne]; exact hn, m⟩
    | rd l =>
      obtain ⟨b, ys, rfl, hb, r, hn, m, p⟩ := h2
      have ne : b ≠ a := fun z => by subst z; rw [h0] at hn; cases hn
      exact ⟨b, ys, rfl, hb, r, by show upd e0.H a _ b = _; rw [upd_ne ne]; exact hn, m, by show b ∉ a :: e0.P; rw [List.mem_cons, not_or]; exact ⟨ne, p⟩⟩
theorem DI.unwait {a : Addr} {w : HO} (d : Γ.DI A (e0.wait a w) env g σ H) (h0 : e0.H a = none) (nm : ¬ isM Γ.K e0.A a) : Γ.DI A e0 env g σ H ∧ H a = some w ∧ ¬ isM Γ.K A a ∧ (∀ (i : Nat) (l' : List D), env[i]? = some (some (.ml l')) → σ[i]? ≠ some (some (.ref a))) := by
  obtain ⟨k1, k2⟩ := d.keep a w upd_same nm
  have up : ∀ {b : Addr} {o : HO}, b ≠ a → e0.H b = some o → (e0.wait a w).H b = some o := fun {b o} ne e => by
    show upd e0.H a _ b = _
    rw [upd_ne ne]; exact e
  have dn : ∀ {b : Addr} {o : Option HO}, b ≠ a → (e0.wait a w).H b = o → e0.H b = o := fun {b o} ne e => by
    have e : upd e0.H a _ b = o := e
    rw [upd_ne ne] at e; exact e
  refine ⟨⟨fun b o e m => ?_, d.src, d.gok, d.len, fun i dv e => ?_, d.inj⟩, k1, k2, fun i l' e q => ?_⟩
  · have ne : b ≠ a := fun z => by subst z; rw [h0] at e; cases e
    exact d.keep b o (up ne e) m
  · obtain ⟨v, h1, h2⟩ := d.slot i dv e
    refine ⟨v, h1, ?_⟩
    cases dv with
    | im x => exact h2
    | md ks vs =>
      obtain ⟨b, ys, rfl, hb, kk, r, hn, m⟩ := h2
      have ne : b ≠ a := fun z => by
        subst z
        have : upd e0.H b w b = none := hn
        rw [upd_same] at this
        cases this
      exact ⟨b, ys, rfl, hb, kk, r, dn ne hn, m⟩
    | exc c fs => exact h2
    | ml l =>
      obtain ⟨b, ys, rfl, hb, r, hn, m⟩ := h2
      have ne : b ≠ a := fun z => by
        subst z
        have : upd e0.H b w b = none := hn
        rw [upd_same] at this
        cases this
      exact ⟨b, ys, rfl, hb, r, dn ne hn, m⟩
    | rd l =>
      obtain ⟨b, ys, rfl, hb, r, hn, m, p⟩ := h2
      have p : b ∉ a :: e0.P := p
      rw [List.mem_cons, not_or] at p
      exact ⟨b, ys, rfl, hb, r, dn p.1 hn, m, p.2⟩
  · obtain ⟨v, h1, b, ys, e1, hb, r, hn, m⟩ := d.slot i _ e
    rw [q] at h1
    cases h1
    cases e1
    have : upd e0.H a w a = none := hn
    rw [upd_same] at this
    cases this
theorem Out.wait {r : R α} {k k' : α → S → Option AS → Hp → Prop} {a : Addr} {w : HO} (h : Out Γ W A e0 σ H r k) (h0 : e0.H a = none) (nm : ¬ isM Γ.K e0.A a)
    (i : ∀ x s A' H', r = .ok x s → Ext A A' → Γ.DI A' (e0.wait a w) s.env s.g σ H' → Γ.DI A' e0 s.env s.g σ H' → Per H H' → k x s A' H' → k' x s A' H') : Out Γ W A (e0.wait a w) σ H r k' := by
  cases r with
  | ok x s => exact fun A' H' e d p => i x s A' H' rfl e d (d.unwait h0 nm).1 p (h A' H' e (d.unwait h0 nm).1 p)
  | ex x s => exact fun A' c dd H' e d p => h A' c dd H' e (d.unwait h0 nm).1 p
  | stuck => exact h
theorem p_nil : PA X [] (tPr Γ W []) := PA.weak L2.pa_nil fun σ H Q ⟨A, e0, env, g, d, ou⟩ => by
  simp only [Dl.evP] at ou
  exact Out.here (s := ⟨env, g⟩) ou d [] [] .nil
theorem PrOk.back {a : Addr} {w : HO} {vs : List V} {ds : List (Nat × Bool × D)} {fr : List Addr} (h : PrOk Γ.K A (e0.wait a w) H env σ vs ds fr) : PrOk Γ.K A e0 H env σ vs ds fr ∧ a ∉ fr := by
  induction h with
  | nil => exact ⟨.nil, by simp⟩
  | keep r o _ ih => exact ⟨.keep r o ih.1, ih.2⟩
  | @new b i l vs ds fr f n _ ih =>
    obtain ⟨b', ys, e, hb, r, hn, m, dj⟩ := f
    cases e
    have ne : b ≠ a := fun z => by
      subst z
      have : upd e0.H b w b = none := hn
      rw [upd_same] at this
      cases this
    have hn' : e0.H b = none := by
      have e : upd e0.H a w b = none := hn
      rw [upd_ne ne] at e; exact e
    exact ⟨.new ⟨b, ys, rfl, hb, r, hn', m, dj⟩ n ih.1, by rw [List.mem_cons, not_or]; exact ⟨Ne.symm ne, ih.2⟩⟩
theorem p_keep {e : Expr} {es : List Expr} {x : Ex} {i : Nat} {l : List (Nat × Bool × Ex)} (ha : PE X e (tI Γ W x)) (hr : PA X es (tPr Γ W l)) (hs : noStar e = true) : PA X (e :: es) (tPr Γ W ((i, false, x) :: l)) :=
  PA.weak (L2.pa_cons ha hr (star_cons hs es _)) fun σ H Q ⟨A, e0, env, g, d, ou⟩ => by
    simp only [Dl.evP] at ou
    refine ⟨A, e0, env, g, d, ou.bind.imp fun x s A1 H1 _ e1 d1 p1 o1 v1 r1 => ?_⟩
    refine ⟨A1, e0, s.env, s.g, d1, o1.bind.imp fun ds s2 A2 H2 _ e2 d2 p2 o2 vs fr r2 => ?_⟩
    exact Out.here (s := s2) o2 d2 (v1 :: vs) fr (.keep (Rp.per p2 e2 r1) (fun z => nomatch z) r2)
theorem p_new {e : Expr} {es : List Expr} {x : Ex} {i : Nat} {l : List (Nat × Bool × Ex)} (ha : PE X e (tF Γ W x)) (hr : PA X es (tPr Γ W l)) (hs : noStar e = true) : PA X (e :: es) (tPr Γ W ((i, true, x) :: l)) :=
  PA.weak (L2.pa_cons ha hr (star_cons hs es _)) fun σ H Q ⟨A, e0, env, g, d, ou⟩ => by
    simp only [Dl.evP] at ou
    refine ⟨A, e0, env, g, d, ou.bind.imp fun x s A1 H1 _ e1 d1 p1 o1 v1 r1 => ?_⟩
    rcases r1 with r1 | ⟨ls, rfl, a, xs, rfl, ha, ra, h0, nm, dj⟩
    · refine ⟨A1, e0, s.env, s.g, d1, o1.bind.imp fun ds s2 A2 H2 _ e2 d2 p2 o2 vs fr r2 => ?_⟩
      exact Out.here (s := s2) o2 d2 (v1 :: vs) fr (.keep (Rp.per p2 e2 r1.rp) (fun _ => r1.nl) r2)
    · have nm0 : ¬ isM Γ.K e0.A a := fun m => nm (d1.src.m m)
      refine ⟨A1, e0.wait a (.lst xs), s.env, s.g, d1.wait ha h0 nm dj, Out.wait o1.bind h0 nm0 fun ds s2 A2 H2 _ e2 dw d2 p2 o2 vs fr r2 => ?_⟩
      obtain ⟨_, k1, k2, k3⟩ := dw.unwait h0 nm0
      obtain ⟨r3, n3⟩ := r2.back
      exact Out.here (s := s2) o2 d2 (.ref a :: vs) (a :: fr) (.new ⟨a, xs, rfl, k1, Rps.per p2 e2 ra, h0, k2, k3⟩ n3 r3)
/-- the slots get their values -/
inductive Sets : List Nat → List V → List (Option V) → List (Option V) → Prop
  | nil {σ : List (Option V)} : Sets [] [] σ σ
  | cons {i : Nat} {v : V} {l : List Nat} {vs : List V} {σ σ' : List (Option V)} : Sets l vs (σ.set i (some v)) σ' → Sets (i :: l) (v :: vs) σ σ'
theorem PrOk.len {vs : List V} {ds : List (Nat × Bool × D)} {fr : List Addr} (h : PrOk Γ.K A e0 H env σ vs ds fr) : vs.length = ds.length := by
  induction h with
  | nil => rfl
  | keep _ _ _ ih => simp [ih]
  | new _ _ _ ih => simp [ih]
/-- a slot that is set keeps new lists new -/
theorem frsh_set {v : V} {i : Nat} {dv : DV} {a : Addr} {l : List D} (h : Frsh Γ.K A e0 H env σ (.ref a) l) (n : (∃ l', dv = .ml l') → v ≠ .ref a) : Frsh Γ.K A e0 H (env.set i (some dv)) (σ.set i (some v)) (.ref a) l := by
  obtain ⟨b, xs, e, ha, r, h0, nm, dj⟩ := h
  cases e
  refine ⟨a, xs, rfl, ha, r, h0, nm, fun j l' e q => ?_⟩
  by_cases hj : j = i
  · subst hj
    have hlt : j < env.length := by
      have := (List.getElem?_eq_some_iff.mp e).1
      simpa using this
    rw [List.getElem?_set_self hlt] at e
    cases e
    have hlt2 : j < σ.length := by
      have := (List.getElem?_eq_some_iff.mp q).1
      simpa using this
    rw [List.getElem?_set_self hlt2] at q
    exact n ⟨l', rfl⟩ (Option.some.inj (Option.some.inj q))
  · rw [List.getElem?_set_ne (Ne.symm hj)] at e q
    exact dj j l' e q
theorem prOk_set {v : V} {i : Nat} {dv : DV} {vs : List V} {ds : List (Nat × Bool × D)} {fr : List Addr} (h : PrOk Γ.K A e0 H env σ vs ds fr) (n : ∀ a, (∃ l', dv = .ml l') → v = .ref a → a ∉ fr) : PrOk Γ.K A e0 H (env.set i (some dv)) (σ.set i (some v)) vs ds fr := by
  induction h with
  | nil => exact .nil
  | keep r o _ ih => exact .keep r o (ih n)
  | @new b j l vs ds fr f m _ ih =>
    refine .new (frsh_set f fun hl e => n b hl e (List.mem_cons_self ..)) m (ih fun a hl e q => n a hl e (List.mem_cons_of_mem _ q))
theorem putsV_di : ∀ {ds : List (Nat × Bool × D)} {vs : List V} {fr : List Addr} {s : S} {σ σ' : List (Option V)}, Γ.DI A e0 s.env s.g σ H → PrOk Γ.K A e0 H s.env σ vs ds fr → Sets (ds.map (·.1)) vs σ σ' →
    Γ.DI A e0 (Dl.putsV ds s).env (Dl.putsV ds s).g σ' H
  | [], _, _, s, σ, σ', d, h, hs => by
    cases h
    cases hs
    exact d
  | (i, o, x) :: ds, _, _, s, σ, σ', d, .keep (v := v) r no h, .cons hs => by
    have e : Dl.putsV ((i, o, x) :: ds) s = Dl.putsV ds (s.put i (.im x)) := by
      cases o with
      | false => cases x <;> rfl
      | true => cases x with
        | lst l => exact absurd rfl (no rfl l)
        | _ => rfl
    rw [e]
    exact putsV_di (s := s.put i (.im x)) (d.put r) (prOk_set h fun a ⟨l', z⟩ => nomatch z) hs
  | (i, _, _) :: ds, _, _, s, σ, σ', d, .new (a := a) (l := l) f m h, .cons hs => by
    have e : Dl.putsV ((i, true, D.lst l) :: ds) s = Dl.putsV ds (s.put i (.ml l)) := rfl
    rw [e]
    exact putsV_di (s := s.put i (.ml l)) (d.putL f) (prOk_set h fun b _ z q => by cases z; exact m q) hs
theorem evP_ix {gl : String → Option D} {call : String → List D → Option GS → RC} : ∀ {l : List (Nat × Bool × Ex)} {s s' : S} {ds : List (Nat × Bool × D)}, Dl.evP gl call l s = .ok ds s' → ds.map (·.1) = l.map (·.1)
  | [], s, s', ds, h => by simp only [Dl.evP] at h; cases h; rfl
  | (i, o, x) :: l, s, s', ds, h => by
    simp only [Dl.evP] at h
    obtain ⟨y, s1, h1, h2⟩ := Dl.R.bind_eq h
    obtain ⟨z, s2, h3, h4⟩ := Dl.R.bind_eq h2
    cases h4
    simp [evP_ix h3]
/-- a, b = x, y -/
theorem s_par2 (hc : X.calm = true) {i j : Nat} {x y : Str} {a b : Expr} {p q : Bool × Ex} {px py pt pt2 pos : Pos} {kt k2 : Nat} (L1 : SlotL X i x) (L2' : SlotL X j y) (hij : i ≠ j) (ha : PA X [a, b] (tPr Γ W [(i, p.1, p.2), (j, q.1, q.2)]))
    (hw : swappedStores [.Tuple [.Name x px, .Name y py] kt pt] (.Tuple [a, b] k2 pt2) X.env = pure (some [x, y])) :
    PS X (.Assign [.Tuple [.Name x px, .Name y py] kt pt] (.Tuple [a, b] k2 pt2) pos) (tS Γ W (.par [(i, p.1, p.2), (j, q.1, q.2)])) :=
  PS.weak (L2.ps_par hc L1.nd L1.at_ L2'.at_ hij L1.lo L2'.lo ha hw rfl) fun E σ H ⟨A, e0, env, g, d, o⟩ => by
    simp only [Dl.evS] at o
    refine ⟨A, e0, env, g, d, o.eval.imp fun ds s A1 H1 q1 e1 d1 p1 o1 vs fr r => ?_⟩
    have ix := evP_ix q1
    have hl := r.len
    match ds, ix with
    | [(i', o1', d1'), (j', o2', d2')], ix =>
      simp only [List.map_cons, List.map_nil, List.cons.injEq, and_true] at ix
      obtain ⟨rfl, rfl⟩ := ix
      match vs, hl with
      | [v, w], _ => exact ⟨v, w, rfl, OutS.here (Γ := Γ) (W := W) (E := E) (fl := .nx) o1 (putsV_di d1 r (.cons (.cons .nil)))⟩
/-- a, b, c = x, y, z -/
theorem s_par3 (hc : X.calm = true) {i j n : Nat} {x y z : Str} {a b c : Expr} {p q t : Bool × Ex} {px py pz pt pt2 pos : Pos} {kt k2 : Nat} (L1 : SlotL X i x) (L2' : SlotL X j y) (L3 : SlotL X n z) (hij : i ≠ j) (hin : i ≠ n) (hjn : j ≠ n)
    (ha : PA X [a, b, c] (tPr Γ W [(i, p.1, p.2), (j, q.1, q.2), (n, t.1, t.2)]))
    (hw : swappedStores [.Tuple [.Name x px, .Name y py, .Name z pz] kt pt] (.Tuple [a, b, c] k2 pt2) X.env = pure (some [x, y, z])) :
    PS X (.Assign [.Tuple [.Name x px, .Name y py, .Name z pz] kt pt] (.Tuple [a, b, c] k2 pt2) pos) (tS Γ W (.par [(i, p.1, p.2), (j, q.1, q.2), (n, t.1, t.2)])) :=
  PS.weak (L2.ps_par3 hc L1.nd L1.at_ L2'.at_ L3.at_ hij hin hjn L1.lo L2'.lo L3.lo ha hw rfl) fun E σ H ⟨A, e0, env, g, d, o⟩ => by
    simp only [Dl.evS] at o
    refine ⟨A, e0, env, g, d, o.eval.imp fun ds s A1 H1 q1 e1 d1 p1 o1 vs fr r => ?_⟩
    have ix := evP_ix q1
    have hl := r.len
    match ds, ix with
    | [(i', o1', d1'), (j', o2', d2'), (n', o3', d3')], ix =>
      simp only [List.map_cons, List.map_nil, List.cons.injEq, and_true] at ix
      obtain ⟨rfl, rfl, rfl⟩ := ix
      match vs, hl with
      | [v, w, u], _ => exact ⟨v, w, u, rfl, OutS.here (Γ := Γ) (W := W) (E := E) (fl := .nx) o1 (putsV_di d1 r (.cons (.cons (.cons .nil))))⟩
/-! ### an error's fields -/
/-- a field of the error at hand may be read here -/
def FldOk (Γ : Gam) (X : Cx) (f : String) : Prop := ∀ (W : WX) (i : Nat) (x : Str) (p pos : Pos), X.N[i]? = some x → L2.Vis X.env.scope x → (x == ("__debug__" : Str)) = false → (x == ("__classdict__" : Str)) = false → PE X (.Attribute (.Name x p) (Str.ofString f) pos) (tI Γ W (.fld i f))
theorem fld_none {f : String} (hz : Γ.Z = none) : FldOk Γ X f := fun W i x p pos _ _ _ _ => ⟨fun pins s σ H Q I ⟨A, e0, env, g, d, ou⟩ => by
  simp only [Dl.evE] at ou
  split at ou
  · rename_i c fs e
    exact absurd (get_eq e) (DI.noX hz d i _ _)
  · exact ou.elim⟩
theorem fld_suite {a : Addr} {oe : Obj} {cls : Value} {dd : Option Addr} {pn : List (Addr × Obj)} {f : String} (hc : ∀ c C, Γ.cad c = some C → L2.XfC X.K C ∧ PySem.W.findIn X.K (.ref C) (Str.ofString f) = some none) (hZ : Zc cls dd oe) (hf : ∃ vs, oe.data = .fields vs) (hz : Γ.Z = some (a, cls, dd)) :
    FldOk Γ (X.suite a ((a, oe) :: pn)) f := fun W i x p pos hN hv hd hcd => ⟨fun pins s σ H Q I ⟨A, e0, env, g, d, ou⟩ => by
  simp only [Dl.evE] at ou
  split at ou
  · rename_i c fs e
    obtain ⟨v, h1, a', C, d', vfs, q, rfl, hcad, hxd, hfl⟩ := d.slot i _ (get_eq e)
    rw [hz] at q
    cases q
    cases l : fs.lookup f with
    | none => rw [l] at ou; exact ou.elim
    | some y =>
      rw [l] at ou
      obtain ⟨w, l2, rw'⟩ := hfl f y l
      exact (L2.pe_xf (hc c C hcad).1 (hc c C hcad).2 hZ hf (L2.pe_var (X := X.suite a ((a, oe) :: pn)) hN hv hd hcd)).run pins s σ H Q I ⟨_, h1, rfl, rfl, _, vfs, w, rfl, hxd, l2, Out.here (a := y) (s := ⟨env, g⟩) ou d w rw'⟩
  · exact ou.elim⟩
end
end Ds
end
section
set_option Elab.async false
set_option Elab.async false
set_option linter.all false
set_option maxRecDepth 100000
set_option maxHeartbeats 4000000
set_option autoImplicit false
/-! SndD: dicts with ints as keys. -/
namespace Ds
open PySem PySem.Spec PyProof.Rows
open L2 (V Hp HO upd upd_same upd_ne RelV SqL SqT TE TA TT TS TG TI VK XK WX Cx Inv PE PA PT PTs PS PSs PG PGs PI It Walk PW Rd EP OpR tOp pe_op R2 rI rI0 Dp DpAll Room CallR tCB tCons tNil tTup tLst Gl Sp Ends valV putK kV)
open Dl (D DV GS S R RC Ex Fl Le)
section
variable {K : PySem.W.Frag} {A : Option AS} {H : Hp}
theorem dget_eq {k : Int} : ∀ {kvs : List (L2.Key × V)} {ks : List Int} {vs : List D}, kvs.map (fun p => p.1) = ks.map Sum.inl → Rps K A H (kvs.map fun p => p.2) vs →
    match Dl.dGet ks vs k with
    | some d => ∃ v, valV kvs (.inl k) = some v ∧ Rp K A H v d
    | none => valV kvs (.inl k) = none
  | [], [], [], _, _ => rfl
  | [], _ :: _, _, h, _ => by cases h
  | [], [], _ :: _, _, r => by cases r
  | p :: kvs, [], _, h, _ => by cases h
  | p :: kvs, a :: ks, [], _, r => by cases r
  | (q, w) :: kvs, a :: ks, d :: vs, h, r => by
    rw [List.map_cons, List.map_cons, List.cons.injEq] at h
    rw [List.map_cons] at r
    cases r with
    | cons r1 r2 =>
      have hq : q = Sum.inl a := h.1
      rw [Dl.dGet]
      by_cases e : a = k
      · rw [if_pos e]
        exact ⟨w, L2.valV_pos (by rw [hq, e]), r1⟩
      · rw [if_neg e]
        have ih := dget_eq (k := k) h.2 r2
        have z : valV ((q, w) :: kvs) (.inl k) = valV kvs (.inl k) := L2.valV_neg (by rw [hq]; intro z; cases z; exact e rfl)
        rw [z]
        exact ih
theorem drpl_eq {k : Int} {v : V} {d : D} (rv : Rp K A H v d) : ∀ {kvs : List (L2.Key × V)} {ks : List Int} {vs : List D}, kvs.map (fun p => p.1) = ks.map Sum.inl → Rps K A H (kvs.map fun p => p.2) vs →
    (kvs.map fun kv => if kv.1 = Sum.inl k then (kv.1, v) else kv).map (fun p => p.1) = ks.map Sum.inl ∧ Rps K A H ((kvs.map fun kv => if kv.1 = Sum.inl k then (kv.1, v) else kv).map fun p => p.2) (Dl.rpl ks vs k d)
  | [], [], [], _, _ => ⟨rfl, .nil⟩
  | [], _ :: _, _, h, _ => by cases h
  | [], [], _ :: _, _, r => by cases r
  | p :: kvs, [], _, h, _ => by cases h
  | p :: kvs, a :: ks, [], _, r => by cases r
  | (q, w) :: kvs, a :: ks, d' :: vs, h, r => by
    rw [List.map_cons, List.map_cons, List.cons.injEq] at h
    rw [List.map_cons] at r
    cases r with
    | cons r1 r2 =>
      have hq : q = Sum.inl a := h.1
      obtain ⟨i1, i2⟩ := drpl_eq (k := k) rv h.2 r2
      subst hq
      by_cases e : a = k
      · subst e
        simp only [List.map_cons, if_true, Dl.rpl]
        exact ⟨by rw [i1], .cons rv i2⟩
      · have e' : ¬ ((Sum.inl a : L2.Key) = Sum.inl k) := fun z => by cases z; exact e rfl
        simp only [List.map_cons, if_neg e', if_neg e, Dl.rpl]
        exact ⟨by rw [i1], .cons r1 i2⟩
theorem dput_eq {k : Int} {v : V} {d : D} (rv : Rp K A H v d) {kvs : List (L2.Key × V)} {ks : List Int} {vs : List D} (h : kvs.map (fun p => p.1) = ks.map Sum.inl) (r : Rps K A H (kvs.map fun p => p.2) vs) :
    (putK kvs (Sum.inl k) v).map (fun p => p.1) = (Dl.dPut ks vs k d).1.map Sum.inl ∧ Rps K A H ((putK kvs (Sum.inl k) v).map fun p => p.2) (Dl.dPut ks vs k d).2 := by
  have g := dget_eq (k := k) h r
  have an := L2.valV_any (Sum.inl k : L2.Key) kvs
  unfold putK Dl.dPut
  cases e : Dl.dGet ks vs k with
  | some z =>
    rw [e] at g
    obtain ⟨u, g1, g2⟩ := g
    rw [g1] at an
    simp only [Option.isSome_some] at an
    rw [if_pos an]
    exact drpl_eq rv h r
  | none =>
    rw [e] at g
    have g : valV kvs (Sum.inl k) = none := g
    rw [g] at an
    rw [if_neg (by rw [an]; simp)]
    refine ⟨?_, ?_⟩
    · simp [h]
    · simp only [List.map_append, List.map_cons, List.map_nil]
      exact r.append (.cons rv .nil)
theorem put_len {kvs : List (L2.Key × V)} {ks : List Int} (h : kvs.map (fun p => p.1) = ks.map Sum.inl) : kvs.length = ks.length := by
  have := congrArg List.length h
  simpa using this
end
section
variable {Γ : Gam} {W : WX} {A A' : Option AS} {e0 : Ent} {H H' : Hp} {env env' : List (Option DV)} {g g' : Option GS} {σ : List (Option V)} {X : Cx} {E : Ends} {α : Type}
theorem RB.dct {v : V} {ks : List Int} {vs : List D} (r : RB Γ A H env σ v (.dct ks vs)) : ∃ (a : Addr) (o : Obj) (kvs : List (L2.Key × V)), v = .ref a ∧ H a = some (.frz o (.dK kvs)) ∧ kvs.map (fun p => p.1) = ks.map Sum.inl ∧ Rps Γ.K A H (kvs.map fun p => p.2) vs := by
  have q := r.rp (fun _ h => (nomatch h))
  cases q with
  | dct h k r => exact ⟨_, _, _, rfl, h, k, r⟩
/-- sorted(d) -/
theorem k_keys (hc : X.calm = true) {a : Expr} {y : Ex} {p pos : Pos} (B : Bn X "sorted") (hs : noStar a = true) (ha : PE X a (tB Γ W y)) : PE X (.Call (.Name "sorted" p) [a] [] pos) (tF Γ W (.keys y)) := by
  have pa : PA X [a] (tCons (tB Γ W y) tNil) := L2.pa_cons ha L2.pa_nil (star_cons hs [] _)
  have pe := L2.pe_callB (p := p) (pos := pos) (L2.call_sortedDI hc) B.gl B.mg (by decide +kernel) pa (by decide) (by decide) (star_cons hs [] _) rfl
  refine PE.weak pe fun σ H Q ⟨A, e0, env, g, d, ou⟩ => ?_
  simp only [Dl.evE] at ou
  refine ⟨A, e0, env, g, d, ou.bind.imp fun y s A1 H1 _ e1 d1 p1 o1 v1 r1 => ?_⟩
  split at o1
  · rename_i ks vs _
    split at o1
    · rename_i lt
      obtain ⟨a, o, kvs, rfl, h, hk, hr⟩ := r1.dct
      refine ⟨a, kvs, ks, rfl, .inr ⟨o, h⟩, hk, lt, fun ys p hp hs np => ?_⟩
      have e : ys = Dl.srt ks := sorted_one (hp.trans (srt_perm ks).symm) hs (srt_sorted ks)
      rw [e]
      exact (Out.end_ o1).new d1 np _ (.inr ⟨_, rfl, DI.frsh d1 np (rps_of_ints _)⟩)
    · exact o1.elim
  · exact o1.elim
/-- d[k] -/
theorem k_dix (hu : X.A.units + 102 < cLine) {a b : Expr} {x y : Ex} {pos : Pos} (ha : PE X a (tB Γ W x)) (hb : PE X b (tB Γ W y)) (hp : noSlice b = true) : PE X (.Subscript a b pos) (tI Γ W (.dix x y)) := by
  have ns : L2.NoSl b := by
    intro o i
    cases b <;> first | rfl | cases hp
  refine PE.weak (L2.pe_dget (by omega) ha hb ns) fun σ H Q ⟨A, e0, env, g, d, ou⟩ => ?_
  simp only [Dl.evE] at ou
  refine two (rd := fun x y H Q => ∃ a v, x = .ref a ∧ L2.DGet H a y (some v) ∧ Q v H) d ou fun A2 H2 x y v u s d2 r1 r2 o2 => ?_
  split at o2
  · rename_i ks vs k
    obtain ⟨a, o, kvs, rfl, h, hk, hr⟩ := r1.dct
    rw [r2.int]
    have gq := dget_eq (k := k) hk hr
    cases e : Dl.dGet ks vs k with
    | none => rw [e] at o2; exact o2.elim
    | some z =>
      rw [e] at o2 gq
      obtain ⟨w, g1, g2⟩ := gq
      exact ⟨a, w, rfl, .inl ⟨kvs, .inl k, .inr ⟨o, h⟩, rfl, g1.symm⟩, Out.here (a := z) (s := s) o2 d2 w g2⟩
  · exact o2.elim
/-- a slot gets what is no list of its own -/
theorem DI.putS (d : Γ.DI A e0 env g σ H) {i : Nat} {v : V} {dv : DV} (ok : SlotOk Γ.K Γ.Z Γ.cad A e0 H v dv) (nl : ∀ l, dv ≠ .ml l) : Γ.DI A e0 (env.set i (some dv)) g (σ.set i (some v)) H := by
  have self : ∀ {j : Nat} {dw : DV}, j = i → (env.set i (some dv))[j]? = some (some dw) → dw = dv ∧ j < env.length := fun {j dw} hj e => by
    subst hj
    have hlt : j < env.length := by
      have := (List.getElem?_eq_some_iff.mp e).1
      simpa using this
    rw [List.getElem?_set_self hlt] at e
    cases e
    exact ⟨rfl, hlt⟩
  refine ⟨d.keep, d.src, d.gok, by simpa using d.len, fun j dw e => ?_, fun j k l l' a e1 e2 e3 e4 => ?_⟩
  · by_cases hj : j = i
    · obtain ⟨rfl, hlt⟩ := self hj e
      subst hj
      exact ⟨v, by rw [List.getElem?_set_self (by rw [← d.len]; exact hlt)], ok⟩
    · rw [List.getElem?_set_ne (Ne.symm hj)] at e
      obtain ⟨w, h1, h2⟩ := d.slot j dw e
      exact ⟨w, by rw [List.getElem?_set_ne (Ne.symm hj)]; exact h1, h2⟩
  · have nj : ∀ {j : Nat} {l : List D}, (env.set i (some dv))[j]? = some (some (.ml l)) → j ≠ i := fun {j l} e z => nl l (self z e).1.symm
    have n1 := nj e1
    have n2 := nj e2
    rw [List.getElem?_set_ne (Ne.symm n1)] at e1 e3
    rw [List.getElem?_set_ne (Ne.symm n2)] at e2 e4
    exact d.inj j k l l' a e1 e2 e3 e4
/-- one's own dict is changed; o: what stands there then -/
theorem DI.chgD (d : Γ.DI A e0 env g σ H) {i : Nat} {a : Addr} {dv : DV} {o : HO} {ks : List Int} {vs : List D} {kvs : List (L2.Key × V)} (ei : env[i]? = some (some (.md ks vs))) (es : σ[i]? = some (some (.ref a))) (ha : H a = some (.dK kvs)) (only : Dl.noMd (env.set i none) = true)
    (ok : SlotOk Γ.K Γ.Z Γ.cad A e0 (upd H a o) (.ref a) dv) (nl : ∀ l, dv ≠ .ml l) : Γ.DI A e0 (env.set i (some dv)) g σ (upd H a o) := by
  obtain ⟨v, h1, b, zs, e2, hb, kk, rs, h0, nm⟩ := d.slot i _ ei
  rw [es] at h1
  cases h1
  cases e2
  have pr : Per H (upd H a o) := per_dK ha
  have hlt : i < env.length := (List.getElem?_eq_some_iff.mp ei).1
  refine ⟨fun c u e m => ?_, d.src, d.gok.mono (fun c m => upd_ne fun z => by subst z; exact nm m) pr.ext, by simpa using d.len, fun j dw e => ?_, fun j k l1 l2 b e1 e2 e3 e4 => ?_⟩
  · rw [upd_ne (fun z => by subst z; rw [h0] at e; cases e)]; exact d.keep c u e m
  · by_cases hj : j = i
    · subst hj
      rw [List.getElem?_set_self hlt] at e
      cases e
      exact ⟨_, es, ok⟩
    · have e' := e
      rw [List.getElem?_set_ne (Ne.symm hj)] at e
      obtain ⟨w, q1, q2⟩ := d.slot j dw e
      refine ⟨w, q1, ?_⟩
      cases dw with
      | im x => exact Rp.per pr (Ext.refl A) q2
      | ml l2 =>
        obtain ⟨c, zs, rfl, hc, r2, g0, gm⟩ := q2
        refine ⟨c, zs, rfl, ?_, Rps.per pr (Ext.refl A) r2, g0, gm⟩
        rw [upd_ne (L2.ne_of hc ha (by intro z; cases z))]
        exact hc
      | rd l2 =>
        obtain ⟨c, zs, rfl, hc, r2, g0, gm⟩ := q2
        refine ⟨c, zs, rfl, ?_, Rps.per pr (Ext.refl A) r2, g0, gm⟩
        rw [upd_ne (L2.ne_of hc ha (by intro z; cases z))]
        exact hc
      | md ks vs => exact (noMd_at only (i := j) (by rw [List.getElem?_set_ne (Ne.symm hj)]; exact e)).elim
      | exc c fs =>
        obtain ⟨b, C, dd, vfs, e1, e2, e3, e4, e5⟩ := q2
        exact ⟨b, C, dd, vfs, e1, e2, e3, pr.xd _ _ e4, fun f d q => let ⟨x, w1, w2⟩ := e5 f d q; ⟨x, w1, Rp.per pr (Ext.refl A) w2⟩⟩
  · have key : ∀ {j : Nat} {l1 : List D}, (env.set i (some dv))[j]? = some (some (.ml l1)) → env[j]? = some (some (.ml l1)) := fun {j l1} e => by
      by_cases hj : j = i
      · subst hj
        rw [List.getElem?_set_self hlt] at e
        cases e
        exact absurd rfl (nl l1)
      · rw [List.getElem?_set_ne (Ne.symm hj)] at e; exact e
    exact d.inj j k l1 l2 b (key e1) (key e2) e3 e4
/-- x = {} -/
theorem s_newD {i : Nat} {x : Str} {dp pos pos' : Pos} (L : Slot1 X i x) : PS X (.Assign [.Name x pos'] (.Dict [] [] dp) pos) (tS Γ W (.newD i)) :=
  PS.weak (L2.ps_set L.nd L.at_ L.loc L2.pe_dnewK rfl L.fn) fun E σ H ⟨A, e0, env, g, d, o⟩ => by
    simp only [Dl.evS] at o
    split at o
    · intro p hp
      have pr : Per H (upd H p (.dK [])) := per_new hp
      obtain ⟨f0, fm⟩ := d.fresh hp
      have ok : SlotOk Γ.K Γ.Z Γ.cad A e0 (upd H p (.dK [])) (.ref p) (.md [] []) := ⟨p, [], rfl, upd_same, rfl, .nil, f0, fm⟩
      exact OutS.here (s := Dl.S.put ⟨env, g⟩ i (.md [] [])) (OutS.later o (Ext.refl A) pr) (DI.putS (d.new hp) ok fun l z => nomatch z)
    · exact o.elim
theorem md_at {i : Nat} {ks : List Int} {vs : List D} (d : Γ.DI A e0 env g σ H) (h : env[i]? = some (some (.md ks vs))) : ∃ (a : Addr) (kvs : List (L2.Key × V)), σ[i]? = some (some (.ref a)) ∧ H a = some (.dK kvs) ∧ kvs.map (fun p => p.1) = ks.map Sum.inl ∧ Rps Γ.K A H (kvs.map fun p => p.2) vs ∧ e0.H a = none ∧ ¬ isM Γ.K A a := by
  obtain ⟨v, h1, a, kvs, rfl, h2, h3, h4, h5, h6⟩ := d.slot i _ h
  exact ⟨a, kvs, h1, h2, h3, h4, h5, h6⟩
theorem im_int {i : Nat} {k : Int} (d : Γ.DI A e0 env g σ H) (h : env[i]? = some (some (.im (.int k)))) : σ[i]? = some (some (.int k)) := by
  obtain ⟨v, h1, h2⟩ := d.slot i _ h
  have h2 : Rp Γ.K A H v (.int k) := h2
  cases h2
  exact h1
/-- d[k] = d.get(k, 0) + v -/
theorem s_bump (hu : X.A.units + 102 < cLine) {i j m n0 : Nat} {x y z : Str} {p q p1 p2 ap q2 cp0 cp q3 bp pos : Pos} (Lx : Slot1 X i x) (Ly : Slot1 X j y) (Lz : Slot1 X m z)
    (ox : (x == ("__debug__" : Str)) = false ∧ (x == ("__classdict__" : Str)) = false) (oy : (y == ("__debug__" : Str)) = false ∧ (y == ("__classdict__" : Str)) = false) (oz : (z == ("__debug__" : Str)) = false ∧ (z == ("__classdict__" : Str)) = false)
    (hl : (ap.endLine == cp.line) = true) (hM : L2.M2 X (.Name x p2) "get" ap (.Name y q2) (.Constant (.int 0) n0 cp0) cp) :
    PS X (.Assign [.Subscript (.Name x p) (.Name y q) p1] (.BinOp (.Call (.Attribute (.Name x p2) "get" ap) [.Name y q2, .Constant (.int 0) n0 cp0] [] cp) .Add (.Name z q3) bp) pos) (tS Γ W (.bump i j m)) := by
  have pv := pe_op (pos := bp) L2.op_add (L2.pe_dget2 (by omega) (L2.pe_var (pos := p2) Lx.at_ Lx.vis ox.1 ox.2) (L2.pe_var (pos := q2) Ly.at_ Ly.vis oy.1 oy.2) (L2.pe_int (i := 0) (j := n0) (pos := cp0)) hM) (L2.pe_var (pos := q3) Lz.at_ Lz.vis oz.1 oz.2)
  refine PS.weak (L2.ps_dput (pos' := p1) (pos := pos) (by omega) (L2.pe_var (pos := p) Lx.at_ Lx.vis ox.1 ox.2) (L2.pe_var (pos := q) Ly.at_ Ly.vis oy.1 oy.2) pv rfl) fun E σ H ⟨A, e0, env, g, d, o⟩ => ?_
  simp only [Dl.evS] at o
  split at o
  · rename_i ks vs k v e1 e2 e3
    split at o
    · rename_i hh
      obtain ⟨a, kvs, s1, ha, hk, hr, h0, nm⟩ := md_at d (get_eq e1)
      have s2 := im_int d (get_eq e2)
      have s3 := im_int d (get_eq e3)
      have gq := dget_eq (k := k) hk hr
      have fin : ∀ (u : Int), Dl.bumpD ks vs k v = some (Dl.dPut ks vs k (.int (u + v))) → ∃ a_1 H4, V.ref a = .ref a_1 ∧ L2.DPut H a_1 (.int k) (.int (u + v)) H4 ∧ E.nx σ H4 := fun u hu => by
        rw [hu] at o
        obtain ⟨p1, p2⟩ := dput_eq (K := Γ.K) (A := A) (H := H) (k := k) (.int (u + v)) hk hr
        have pr : Per H (upd H a (.dK (putK kvs (Sum.inl k) (.int (u + v))))) := per_dK ha
        refine ⟨a, _, rfl, L2.DPut.k (k := Sum.inl k) ha (by rw [put_len hk, ← SZ_eq]; exact hh.2), ?_⟩
        have ok : SlotOk Γ.K Γ.Z Γ.cad A e0 (upd H a (.dK (putK kvs (Sum.inl k) (.int (u + v))))) (.ref a) (.md (Dl.dPut ks vs k (.int (u + v))).1 (Dl.dPut ks vs k (.int (u + v))).2) :=
          ⟨a, _, rfl, upd_same, p1, Rps.per pr (Ext.refl A) p2, h0, nm⟩
        exact OutS.here (s := Dl.S.put ⟨env, g⟩ i (.md (Dl.dPut ks vs k (.int (u + v))).1 (Dl.dPut ks vs k (.int (u + v))).2)) (OutS.later o (Ext.refl A) pr) (DI.chgD d (get_eq e1) s1 ha hh.1 ok fun l z => nomatch z)
      cases e : Dl.dGet ks vs k with
      | none =>
        rw [e] at gq
        have hb : Dl.bumpD ks vs k v = some (Dl.dPut ks vs k (.int (0 + v))) := by unfold Dl.bumpD; rw [e]
        refine ⟨_, s1, a, rfl, .inl ⟨kvs, .inl ha⟩, _, s2, none, .inl ⟨kvs, Sum.inl k, .inl ha, rfl, gq.symm⟩, _, s3, 0, v, rfl, rfl, _, s1, _, s2, fin 0 hb⟩
      | some w =>
        rw [e] at gq
        obtain ⟨u, g1, g2⟩ := gq
        cases w with
        | int u' =>
          cases g2
          have hb : Dl.bumpD ks vs k v = some (Dl.dPut ks vs k (.int (u' + v))) := by unfold Dl.bumpD; rw [e]
          exact ⟨_, s1, a, rfl, .inl ⟨kvs, .inl ha⟩, _, s2, some (.int u'), .inl ⟨kvs, Sum.inl k, .inl ha, rfl, g1.symm⟩, _, s3, u', v, rfl, rfl, _, s1, _, s2, fin u' hb⟩
        | _ =>
          have hb : Dl.bumpD ks vs k v = none := by unfold Dl.bumpD; rw [e]
          rw [hb] at o
          exact o.elim
    · exact o.elim
  · exact o.elim
/-- a dict that is made is not changed any more -/
def tFrzD (te : TE) : TE := fun σ H Q => te σ H fun v H1 => ∃ a kvs, v = .ref a ∧ H1 a = some (.dK kvs) ∧ ∀ od, Q v (upd H1 a (.frz od (.dK kvs)))
theorem pe_frzD {X : Cx} {e : Expr} {te : TE} (h : PE X e te) : PE X e (tFrzD te) := by
  refine ⟨fun pins s σ H Q I q => ?_⟩
  refine L2.thn (h.run pins s σ H _ I q) fun u s1 hq => ?_
  obtain ⟨v, H1, I1, r1, a, kvs, rfl, ha, q1⟩ := hq
  obtain ⟨od, I2⟩ := I1.lock ha True.intro
  exact ⟨_, _, I2, r1, q1 od⟩
/-- return d -/
theorem s_retD {i : Nat} {x : Str} {p pos : Pos} (L : Slot1 X i x) (ox : (x == ("__debug__" : Str)) = false ∧ (x == ("__classdict__" : Str)) = false) : PS X (.Return (some (.Name x p)) pos) (tS Γ W (.retD i)) :=
  PS.weak (L2.ps_ret (pe_frzD (L2.pe_var (pos := p) L.at_ L.vis ox.1 ox.2))) fun E σ H ⟨A, e0, env, g, d, o⟩ => by
    simp only [Dl.evS] at o
    split at o
    · rename_i ks vs e1
      split at o
      · rename_i only
        obtain ⟨a, kvs, s1, ha, hk, hr, h0, nm⟩ := md_at d (get_eq e1)
        refine ⟨_, s1, a, kvs, rfl, ha, fun od => ?_⟩
        have pr : Per H (upd H a (.frz od (.dK kvs))) := per_dK ha
        have rp : Rp Γ.K A (upd H a (.frz od (.dK kvs))) (.ref a) (.dct ks vs) := .dct upd_same hk (Rps.per pr (Ext.refl A) hr)
        have d2 := DI.chgD d (dv := .im (.dct ks vs)) (get_eq e1) s1 ha only rp fun l z => nomatch z
        exact OutS.here (s := Dl.S.put ⟨env, g⟩ i (.im (.dct ks vs))) (OutS.later o (Ext.refl A) pr) d2 _ rp
      · exact o.elim
    · exact o.elim
/-- a dict that is in no slot changes -/
theorem DI.outD (d : Γ.DI A e0 env g σ H) {a : Addr} {kvs : List (L2.Key × V)} {o : HO} (ha : H a = some (.dK kvs)) (h0 : e0.H a = none) (nm : ¬ isM Γ.K A a) (nmd : Dl.noMd env = true) : Γ.DI A e0 env g σ (upd H a o) := by
  have pr : Per H (upd H a o) := per_dK ha
  refine ⟨fun c u e m => ?_, d.src, d.gok.mono (fun c m => upd_ne fun z => by subst z; exact nm m) pr.ext, d.len, fun j dw e => ?_, d.inj⟩
  · rw [upd_ne (fun z => by subst z; rw [h0] at e; cases e)]; exact d.keep c u e m
  · obtain ⟨w, q1, q2⟩ := d.slot j dw e
    refine ⟨w, q1, ?_⟩
    cases dw with
    | im x => exact Rp.per pr (Ext.refl A) q2
    | ml l2 =>
      obtain ⟨c, zs, rfl, hc, r2, g0, gm⟩ := q2
      refine ⟨c, zs, rfl, ?_, Rps.per pr (Ext.refl A) r2, g0, gm⟩
      rw [upd_ne (L2.ne_of hc ha (by intro z; cases z))]
      exact hc
    | rd l2 =>
      obtain ⟨c, zs, rfl, hc, r2, g0, gm⟩ := q2
      refine ⟨c, zs, rfl, ?_, Rps.per pr (Ext.refl A) r2, g0, gm⟩
      rw [upd_ne (L2.ne_of hc ha (by intro z; cases z))]
      exact hc
    | md ks vs => exact (noMd_at nmd e).elim
    | exc c fs =>
      obtain ⟨b, C, dd, vfs, e1, e2, e3, e4, e5⟩ := q2
      exact ⟨b, C, dd, vfs, e1, e2, e3, pr.xd _ _ e4, fun f d q => let ⟨x, w1, w2⟩ := e5 f d q; ⟨x, w1, Rp.per pr (Ext.refl A) w2⟩⟩
theorem dc_it {J : It} {n : Nat} {G : Hp → Prop} {Y : Nat → Hp → V → Hp → Prop} (w : Walk J n G Y) {gg : TG} {tt : TT} {tk tv : TE} {vs : List Nat} {σ : L2.St} {H1 : Hp} {D : Addr} {Qd : Hp → Prop} (Pv : Nat → Hp → Prop) (h0 : Pv 0 (upd H1 D (.dK []))) (hG : ∀ i H, i ≤ n → Pv i H → G H)
    (hs : ∀ i x H H', i < n → Pv i H → Y i H x H' → gg x (L2.wipe σ vs) H' fun σ2 H2 => L2.wipe σ2 vs = L2.wipe σ vs ∧ tt σ2 H2 fun b H3 =>
      if b = true then tk σ2 H3 fun y H4 => tv σ2 H4 fun z H5 => ∃ kvs k, y = kV k ∧ H5 D = some (.dK kvs) ∧ kvs.length < sizeLine ∧ Pv (i + 1) (upd H5 D (.dK (putK kvs k z))) else Pv (i + 1) H3) (hd : ∀ H, Pv n H → Qd H) :
    ∃ W : Nat → Nat → Hp → Prop, (∃ m, W 0 m (upd H1 D (.dK []))) ∧ ∀ i m H, W i m H →
      (J.stop i H ∧ Qd H) ∨ (J.go i H ∧ ∃ Nx : Hp → Prop, (∀ H', Nx H' → ∃ m', m' < m ∧ W (i + 1) m' H') ∧ ∀ x H', J.yld i H x H' → gg x (L2.wipe σ vs) H' fun σ2 H2 => L2.wipe σ2 vs = L2.wipe σ vs ∧ tt σ2 H2 fun b H3 =>
        if b = true then tk σ2 H3 fun y H4 => tv σ2 H4 fun z H5 => ∃ kvs k, y = kV k ∧ H5 D = some (.dK kvs) ∧ kvs.length < sizeLine ∧ Nx (upd H5 D (.dK (putK kvs k z))) else Nx H3) := by
  refine ⟨fun i m H => m = n - i ∧ i ≤ n ∧ Pv i H, ⟨n, by simp, Nat.zero_le _, h0⟩, ?_⟩
  rintro i m H ⟨rfl, hi, p⟩
  have q := hG i H hi p
  by_cases hlt : i < n
  · refine .inr ⟨w.goes i H hlt q, Pv (i + 1), fun H' p' => ⟨n - (i + 1), by omega, rfl, hlt, p'⟩, fun x H' y => hs i x H H' hlt p (w.yields i H x H' hlt q y)⟩
  · have e : i = n := by omega
    subst e
    exact .inl ⟨w.stops H q, hd H p⟩
theorem dOf_snoc {k : Int} {v : D} : ∀ {l : List D} {ks as : List Int} {vs bs : List D}, Dl.dOf l ks vs = some (as, bs) → Dl.dOf (l ++ [.tup [.int k, v]]) ks vs = some (Dl.dPut as bs k v)
  | [], ks, as, vs, bs, h => by
    rw [Dl.dOf] at h
    cases h
    rfl
  | x :: l, ks, as, vs, bs, h => by
    unfold Dl.dOf at h
    split at h
    · rename_i e; cases e
    · rename_i k' v' l' e
      cases e
      rw [List.cons_append, Dl.dOf]
      exact dOf_snoc h
    · cases h
/-- a turn's pair -/
def pairF (Γ : Gam) (kx vx : Ex) (s : S) : R D := (Dl.evE Γ.gl Γ.call kx s).bind fun y s => (Dl.evE Γ.gl Γ.call vx s).bind fun z s => Dl.pairR y z s
theorem pairF_eq {kx vx : Ex} {s s3 : S} {x : D} (h : pairF Γ kx vx s = .ok x s3) : ∃ k s1 z, Dl.evE Γ.gl Γ.call kx s = .ok (.int k) s1 ∧ Dl.evE Γ.gl Γ.call vx s1 = .ok z s3 ∧ x = .tup [.int k, z] := by
  unfold pairF at h
  obtain ⟨y, s1, h1, h2⟩ := Dl.R.bind_eq h
  obtain ⟨z, s2, h3, h4⟩ := Dl.R.bind_eq h2
  unfold Dl.pairR at h4
  split at h4
  · cases h4
    exact ⟨_, s1, z, h1, h3, rfl⟩
  · cases h4
theorem dc_out {wi : TI} {gg : TG} {tt : TT} {kx vx i c : Ex} {t : Dl.Tgt} {own : List Nat} {Q : VK} (hw : wi = tItB Γ W i) (gf : GOf Γ t gg) (ht : TTOf Γ c tt) (sub : ∀ j, j ∈ tgtL t → j ∈ own)
    (d : Γ.DI A e0 env g σ H) (ou : Out Γ W A e0 σ H (Dl.evE Γ.gl Γ.call (.dc kx vx t own i c) ⟨env, g⟩) (KI Γ Q)) : tFrzD (L2.tDc wi gg tt (tI Γ W0 kx) (tI Γ W0 vx) own) σ H Q := by
  subst hw
  simp only [Dl.evE] at ou
  refine ⟨A, e0, env, g, d, ou.bind.imp fun l s A1 H1 _ e1 d1 p1 o1 J G Y ok P nP => ?_⟩
  have full : ∃ dsf sf ks vs, Dl.noMd s.env = true ∧ Dl.turns (pairF Γ kx vx) (Dl.evE Γ.gl Γ.call c) t (Dl.inner own s.env) l s = .ok dsf sf ∧ dsf.length < Dl.SZ ∧ Dl.dOf dsf [] [] = some (ks, vs) ∧ Out Γ W A1 e0 σ H1 (.ok (D.dct ks vs) { sf with env := s.env }) (KI Γ Q) := by
    split at o1
    · rename_i nmd
      cases e : Dl.turns (pairF Γ kx vx) (Dl.evE Γ.gl Γ.call c) t (Dl.inner own s.env) l s with
      | ok dsf sf =>
        unfold pairF at e
        rw [e] at o1
        simp only [Dl.quiet, Dl.R.bind_ok] at o1
        split at o1
        · rename_i lt
          cases f : Dl.dOf dsf [] [] with
          | none => rw [f] at o1; exact o1.elim
          | some p =>
            rw [f] at o1
            exact ⟨dsf, sf, p.1, p.2, nmd, rfl, lt, f, o1⟩
        · exact o1.elim
      | ex a b => unfold pairF at e; rw [e] at o1; exact o1.elim
      | stuck => unfold pairF at e; rw [e] at o1; exact o1.elim
    · exact o1.elim
  obtain ⟨dsf, sf, ksf, vsf, nmd, hturn, hlen, hdof, hk⟩ := full
  obtain ⟨f0, fm⟩ := d1.fresh nP
  refine dc_it ok.w (fun i H => ∃ A s' kvs ks vs dacc ds sf', stB Γ.K A1 H1 A H ∧ Γ.DI A e0 s.env s'.g σ H ∧ H P = some (.dK kvs) ∧ kvs.map (fun p => p.1) = ks.map Sum.inl ∧ Rps Γ.K A H (kvs.map fun p => p.2) vs ∧ ¬ isM Γ.K A P ∧ ks.length ≤ dacc.length ∧ Dl.dOf dacc [] [] = some (ks, vs) ∧
      Dl.turns (pairF Γ kx vx) (Dl.evE Γ.gl Γ.call c) t (Dl.inner own s.env) (l.drop i) s' = .ok ds sf' ∧ dacc ++ ds = dsf ∧ sf'.g = sf.g) ?_ ?_ ?_ ?_
  · refine ⟨A1, s, [], [], [], [], dsf, sf, ⟨Ext.refl _, per_new nP, fun a xs h m => ⟨by rw [upd_ne (L2.ne_of_none h nP)]; exact h, m⟩⟩, d1.new nP, upd_same, rfl, .nil, fm, Nat.le_refl _, rfl, hturn, rfl, rfl⟩
  · exact fun i H _ ⟨A, s', kvs, ks, vs, dacc, ds, sf', h, _⟩ => ok.g A H h
  · intro i y H H' lt ⟨A, s', kvs, ks, vs, dacc, ds, sf', st, di, hP, hk0, ra, nm, hl0, hd0, tu, ap, eg⟩ hy
    have ei : l[i]? = some l[i] := List.getElem?_eq_getElem lt
    obtain ⟨hh, rx⟩ := ok.y i A H y H' l[i] ei st hy
    have pr : Per H H' := by
      rcases hh with rfl | ⟨T, ob, n, rfl⟩
      · exact Per.refl _
      · exact per_new n
    have di' : Γ.DI A e0 s.env s'.g σ H' := by
      rcases hh with rfl | ⟨T, ob, n, rfl⟩
      · exact di
      · exact di.new n
    have kp : ∀ a o, H a = some o → H' a = some o := fun a o h => by
      rcases hh with rfl | ⟨T, ob, n, rfl⟩
      · exact h
      · rw [upd_ne (L2.ne_of_none h n)]; exact h
    rw [List.drop_eq_getElem_cons lt] at tu
    obtain ⟨s1, b, s2, t1, t2, t3⟩ := turns_cons tu
    have db := di'.blk own
    refine gf A ⟨A, H', []⟩ { s' with env := Dl.inner own s.env } s1 (L2.wipe σ own) H' y l[i] _ db rx t1 fun σ2 d2 hl2 hj2 => ⟨wipe_eq hl2 fun j nj => hj2 j fun m => nj (sub j m), ?_⟩
    refine ht A ⟨A, H', []⟩ s1 σ2 H' _ d2 ?_
    rw [t2]
    intro A3 H3 e3 d3 p3
    refine ⟨b, rfl, ?_⟩
    -- what a turn leaves
    have leave : ∀ {A4 : Option AS} {H4 : Hp} {env4 : List (Option DV)} {g4 : Option GS} {σ4 : List (Option V)}, Ext A A4 → Γ.DI A4 ⟨A, H', []⟩ env4 g4 σ4 H4 → Per H' H4 → stB Γ.K A1 H1 A4 H4 ∧ Γ.DI A4 e0 s.env g4 σ H4 ∧ H4 P = some (.dK kvs) ∧ Rps Γ.K A4 H4 (kvs.map fun p => p.2) vs ∧ ¬ isM Γ.K A4 P := fun {A4 H4 env4 g4 σ4} e4 d4 p4 => by
      have kk : Kept Γ.K A H' A4 H4 := fun a o h m => d4.keep a o h m
      obtain ⟨q1, q2⟩ := kk P _ (kp P _ hP) nm
      refine ⟨⟨st.1.trans e4, (st.2.1.trans pr).trans p4, fun a xs h m => ?_⟩, di'.after e4 kk p4 d4.gok, q1, Rps.per (pr.trans p4) e4 ra, q2⟩
      obtain ⟨w1, w2⟩ := st.2.2 a xs h m
      exact kk a _ (kp a _ w1) w2
    rcases t3 with ⟨hb, z, s3, xs, t4, t5, t6⟩ | ⟨hb, t4⟩
    · subst hb
      obtain ⟨k, s4, w, u1, u2, rfl⟩ := pairF_eq t4
      refine ite_t rfl ⟨A3, ⟨A, H', []⟩, s2.env, s2.g, d3, ?_⟩
      have e : (⟨s2.env, s2.g⟩ : S) = s2 := rfl
      rw [e, u1]
      intro A4 H4 e4 d4 p4 v rv
      cases rv
      refine ⟨A4, ⟨A, H', []⟩, s4.env, s4.g, d4, ?_⟩
      have e : (⟨s4.env, s4.g⟩ : S) = s4 := rfl
      rw [e, u2]
      intro A5 H5 e5 d5 p5 v rv
      obtain ⟨w1, w2, w3, w4, w5⟩ := leave ((e3.trans e4).trans e5) d5 ((p3.trans p4).trans p5)
      have la : kvs.length < sizeLine := by
        have h1 := congrArg List.length ap
        rw [List.length_append, t6, List.length_cons] at h1
        rw [put_len hk0, ← SZ_eq]
        omega
      have pu : Per H5 (upd H5 P (.dK (putK kvs (Sum.inl k) v))) := per_dK w3
      obtain ⟨g1, g2⟩ := dput_eq rv hk0 w4
      have gl : (Dl.dPut ks vs k w).1.length ≤ ks.length + 1 := by
        unfold Dl.dPut
        split <;> simp
      refine ⟨kvs, Sum.inl k, rfl, w3, la, A5, s3, putK kvs (Sum.inl k) v, (Dl.dPut ks vs k w).1, (Dl.dPut ks vs k w).2, dacc ++ [.tup [.int k, w]], xs, sf', ⟨w1.1, w1.2.1.trans pu, fun a ys h m => ?_⟩, w2.outD w3 f0 w5 nmd, upd_same, g1, Rps.per pu (Ext.refl _) g2, w5, ?_, dOf_snoc hd0, t5, ?_, eg⟩
      · obtain ⟨u1, u2⟩ := w1.2.2 a ys h m
        exact ⟨by rw [upd_ne (L2.ne_of_none h nP)]; exact u1, u2⟩
      · rw [List.length_append]
        simp
        omega
      · rw [List.append_assoc, ← ap, t6]; rfl
    · subst hb
      refine ite_f (by decide) ?_
      obtain ⟨w1, w2, w3, w4, w5⟩ := leave e3 d3 p3
      exact ⟨A3, s2, kvs, ks, vs, dacc, ds, sf', w1, w2, w3, hk0, w4, w5, hl0, hd0, t4, ap, eg⟩
  · intro H ⟨A, s', kvs, ks, vs, dacc, ds, sf', st, di, hP, hk0, ra, nm, hl0, hd0, tu, ap, eg⟩
    rw [List.drop_length, Dl.turns] at tu
    cases tu
    rw [List.append_nil] at ap
    subst ap
    rw [hd0] at hdof
    cases hdof
    have di2 : Γ.DI A e0 s.env sf.g σ H := eg ▸ di
    refine ⟨P, kvs, rfl, hP, fun od => ?_⟩
    have pr : Per H (upd H P (.frz od (.dK kvs))) := per_dK hP
    exact hk A _ st.1 (di2.outD hP f0 nm nmd) (st.2.1.trans pr) _ (.dct upd_same hk0 (Rps.per pr (Ext.refl _) ra))
/-- the parts of a dict comprehension -/
structure DcOk (Γ : Gam) (W : WX) (X : Cx) (ek ev tg iter : Expr) (ifs : List Expr) (scope : Scope) (own : List (Str × Nat)) (kx vx : Ex) (t : Dl.Tgt) (i c : Ex) (gg : TG) (tt : TT) : Prop where
  calm : X.calm = true
  nd : X.N.Nodup
  it : PI X tg iter (tItB Γ W i)
  bk : L2.BlkOk X.N X.env.scope scope own
  pg : ∀ s H C cl fp, PG (X.blk s H scope (compEnvC scope cl C X.env) fp) tg gg
  pt : ∀ s H C cl fp, PTs (X.blk s H scope (compEnvC scope cl C X.env) fp) ifs tt
  pk : ∀ s H C cl fp, PE (X.blk s H scope (compEnvC scope cl C X.env) fp) ek (tI Γ W0 kx)
  pe : ∀ s H C cl fp, PE (X.blk s H scope (compEnvC scope cl C X.env) fp) ev (tI Γ W0 vx)
  gf : GOf Γ t gg
  tf : TTOf Γ c tt
  fold : ∀ x, foldedSetIterable iter X.env x = pure x
  sub : ∀ j, j ∈ tgtL t → j ∈ own.map fun x => x.2
theorem k_dc {ek ev tg iter : Expr} {ifs : List Expr} {scope : Scope} {own : List (Str × Nat)} {kx vx i c : Ex} {t : Dl.Tgt} {gg : TG} {tt : TT} {pos : Pos} (L : DcOk Γ W X ek ev tg iter ifs scope own kx vx t i c gg tt) :
    PE X (.DictComp ek ev [{ target := tg, iter := iter, ifs := ifs, is_async := 0 }] scope pos) (tI Γ W (.dc kx vx t (own.map fun x => x.2) i c)) :=
  PE.weak (pe_frzD (L2.pe_dc L.calm L.nd L.it L.bk L.pg L.pt L.pk L.pe L.fold)) fun σ H Q ⟨A, e0, env, g, d, ou⟩ => dc_out rfl L.gf L.tf L.sub d ou
/-! ### list comprehensions whose items may raise -/
/-- a comprehension's test, W what is let out -/
def TTX (Γ : Gam) (W : WX) (c : Ex) (tt : TT) : Prop := ∀ (A : Option AS) (e0 : Ent) (s : S) (σ : List (Option V)) (H : Hp) (Q : Bool → Hp → Prop), Γ.DI A e0 s.env s.g σ H →
  Out Γ W A e0 σ H (Dl.evE Γ.gl Γ.call c s) (fun d _ _ H' => ∃ b, d = .bl b ∧ Q b H') → tt σ H Q
theorem ttx_yes {W : WX} : TTX Γ W (.bl true) L2.tYes := fun A e0 s σ H Q d o => by
  simp only [Dl.evE] at o
  obtain ⟨b, e, q⟩ := Out.here (a := D.bl true) (s := s) o d
  cases e
  exact q
theorem ttx_one {W : WX} {c : Ex} : TTX Γ W c (tT Γ W c) := fun A e0 s σ H Q d o => ⟨A, e0, s.env, s.g, d, o⟩
theorem turns_consX {f c : S → R D} {t : Dl.Tgt} {ein : List (Option DV)} {d : D} {l : List D} {s : S} {r : R (List D)} (h : Dl.turns f c t ein (d :: l) s = r) (ns : r ≠ .stuck) : ∃ s1, Dl.bindT t d { s with env := ein } = some s1 ∧
    ((∃ e s2, c s1 = .ex e s2 ∧ r = .ex e s2) ∨ ∃ b s2, c s1 = .ok (.bl b) s2 ∧ ((b = false ∧ Dl.turns f c t ein l s2 = r) ∨ (b = true ∧ ((∃ e s3, f s2 = .ex e s3 ∧ r = .ex e s3) ∨
      ∃ x s3, f s2 = .ok x s3 ∧ ((∃ xs s4, Dl.turns f c t ein l s3 = .ok xs s4 ∧ r = .ok (x :: xs) s4) ∨ ∃ e s4, Dl.turns f c t ein l s3 = .ex e s4 ∧ r = .ex e s4))))) := by
  rw [Dl.turns] at h
  cases e1 : Dl.bindT t d { s with env := ein } with
  | none => rw [e1] at h; exact absurd h.symm ns
  | some s1 =>
    rw [e1] at h
    simp only [Dl.ofO_some, Dl.R.bind_ok] at h
    rw [e1] at h
    refine ⟨s1, rfl, ?_⟩
    cases e2 : c s1 with
    | stuck => simp only [e2] at h; exact absurd h.symm ns
    | ex e s2 => simp only [e2] at h; exact .inl ⟨e, s2, rfl, h.symm⟩
    | ok b s2 =>
      simp only [e2, Dl.R.bind_ok] at h
      split at h
      · refine .inr ⟨true, s2, rfl, .inr ⟨rfl, ?_⟩⟩
        cases e3 : f s2 with
        | stuck => rw [e3] at h; exact absurd h.symm ns
        | ex e s3 => rw [e3] at h; exact .inl ⟨e, s3, rfl, h.symm⟩
        | ok x s3 =>
          rw [e3] at h
          simp only [Dl.R.bind_ok] at h
          refine .inr ⟨x, s3, rfl, ?_⟩
          cases e4 : Dl.turns f c t ein l s3 with
          | stuck => rw [e4] at h; exact absurd h.symm ns
          | ex e s4 => rw [e4] at h; exact .inr ⟨e, s4, rfl, h.symm⟩
          | ok xs s4 => rw [e4] at h; exact .inl ⟨xs, s4, rfl, h.symm⟩
      · exact .inr ⟨false, s2, rfl, .inl ⟨rfl, h⟩⟩
      · exact absurd h.symm ns
/-- how what is left of the turns stands to the whole -/
def RelR (dacc : List D) (r rf : R (List D)) : Prop := (∃ ds s sf, r = .ok ds s ∧ rf = .ok (dacc ++ ds) sf ∧ s.g = sf.g) ∨ ∃ e s sf, r = .ex e s ∧ rf = .ex e sf ∧ s.g = sf.g
theorem RelR.ns {dacc : List D} {r rf : R (List D)} (h : RelR dacc r rf) : r ≠ .stuck := by
  rcases h with ⟨_, _, _, rfl, _⟩ | ⟨_, _, _, rfl, _⟩ <;> exact fun z => nomatch z
theorem lcx_out {wi : TI} {gg : TG} {tt : L2.St → TT} {x i c : Ex} {t : Dl.Tgt} {own : List Nat} {Q : VK} {k : D → S → Option AS → Hp → Prop} (hw : wi = tItB Γ W i) (gf : GOf Γ t gg) (ht : TTX Γ (Dx.Wo W σ) c (tt σ)) (sub : ∀ j, j ∈ tgtL t → j ∈ own)
    (d : Γ.DI A e0 env g σ H) (ou : Out Γ W A e0 σ H (Dl.evE Γ.gl Γ.call (.lcX x t own i c) ⟨env, g⟩) k)
    (hq : ∀ l s A' H' v, Γ.DI A' e0 s.env s.g σ H' → Frsh Γ.K A' e0 H' s.env σ v l → k (.lst l) s A' H' → Q v H') : L2.tLc wi gg (tt σ) (tI Γ (Dx.Wo W σ) x) own σ H Q := by
  subst hw
  simp only [Dl.evE] at ou
  refine ⟨A, e0, env, g, d, ou.bind.imp fun l s A1 H1 _ e1 d1 p1 o1 J G Y ok P nP => ?_⟩
  obtain ⟨rf, hrf⟩ : ∃ rf, Dl.turns (Dl.evE Γ.gl Γ.call x) (Dl.evE Γ.gl Γ.call c) t (Dl.inner own s.env) l s = rf := ⟨_, rfl⟩
  rw [hrf] at o1
  split at o1
  case isFalse => exact o1.elim
  rename_i big
  obtain ⟨f0, fm⟩ := d1.fresh nP
  have dj0 : ∀ (i : Nat) (l' : List D), s.env[i]? = some (some (.ml l')) → σ[i]? ≠ some (some (.ref P)) := by
    obtain ⟨a, xs, ea, _, _, _, _, dj⟩ := d1.frsh nP (K := Γ.K) (xs := []) (l := []) .nil
    cases ea
    exact dj
  have rel0 : RelR [] rf rf := by
    cases rf with
    | ok ds sf => exact .inl ⟨ds, sf, sf, rfl, rfl, rfl⟩
    | ex e sf => exact .inr ⟨e, sf, sf, rfl, rfl, rfl⟩
    | stuck => exact o1.elim
  -- an error goes out
  have exO : ∀ {dacc : List D} {e : Dl.Exn} {s4 : S} {r : R (List D)} {A4 : Option AS} {H4 : Hp} {cls : Value} {dd : Option Addr}, RelR dacc r rf → r = .ex e s4 → Ext A1 A4 → Γ.DI A4 e0 s.env s4.g σ H4 → Per H1 H4 → ExR Γ.K Γ.cad A4 H4 cls dd e → W cls dd σ H4 := fun {dacc e s4 r A4 H4 cls dd} rr er e4 d4 p4 x4 => by
    subst er
    rcases rr with ⟨_, _, _, z, _⟩ | ⟨e', s', sf, z1, z2, z3⟩
    · cases z
    · cases z1
      subst z2
      exact o1 A4 cls dd H4 e4 (by show Γ.DI A4 e0 s.env sf.g σ H4; rw [← z3]; exact d4) p4 x4
  refine L2.lc_it ok.w (fun i H => ∃ A s' acc dacc r, stB Γ.K A1 H1 A H ∧ Γ.DI A e0 s.env s'.g σ H ∧ H P = some (.lst acc) ∧ Rps Γ.K A H acc dacc ∧ ¬ isM Γ.K A P ∧
      Dl.turns (Dl.evE Γ.gl Γ.call x) (Dl.evE Γ.gl Γ.call c) t (Dl.inner own s.env) (l.drop i) s' = r ∧ RelR dacc r rf ∧ dacc.length ≤ i) ?_ ?_ ?_ ?_
  · refine ⟨A1, s, [], [], rf, ⟨Ext.refl _, per_new nP, fun a xs h m => ⟨by rw [upd_ne (L2.ne_of_none h nP)]; exact h, m⟩⟩, d1.new nP, upd_same, .nil, fm, hrf, rel0, Nat.le_refl _⟩
  · exact fun i H _ ⟨A, s', acc, dacc, r, h, _⟩ => ok.g A H h
  · intro i y H H' lt ⟨A, s', acc, dacc, r, st, di, hP, ra, nm, tu, rr, hl⟩ hy
    have ei : l[i]? = some l[i] := List.getElem?_eq_getElem lt
    obtain ⟨hh, rx⟩ := ok.y i A H y H' l[i] ei st hy
    have pr : Per H H' := by
      rcases hh with rfl | ⟨T, ob, n, rfl⟩
      · exact Per.refl _
      · exact per_new n
    have di' : Γ.DI A e0 s.env s'.g σ H' := by
      rcases hh with rfl | ⟨T, ob, n, rfl⟩
      · exact di
      · exact di.new n
    have kp : ∀ a o, H a = some o → H' a = some o := fun a o h => by
      rcases hh with rfl | ⟨T, ob, n, rfl⟩
      · exact h
      · rw [upd_ne (L2.ne_of_none h n)]; exact h
    rw [List.drop_eq_getElem_cons lt] at tu
    obtain ⟨s1, t1, tcs⟩ := turns_consX tu rr.ns
    have db := di'.blk own
    -- what a turn leaves
    have leave : ∀ {A4 : Option AS} {H4 : Hp} {env4 : List (Option DV)} {g4 : Option GS} {σ4 : List (Option V)}, Ext A A4 → Γ.DI A4 ⟨A, H', []⟩ env4 g4 σ4 H4 → Per H' H4 → stB Γ.K A1 H1 A4 H4 ∧ Γ.DI A4 e0 s.env g4 σ H4 ∧ H4 P = some (.lst acc) ∧ Rps Γ.K A4 H4 acc dacc ∧ ¬ isM Γ.K A4 P := fun {A4 H4 env4 g4 σ4} e4 d4 p4 => by
      have kk : Kept Γ.K A H' A4 H4 := fun a o h m => d4.keep a o h m
      obtain ⟨q1, q2⟩ := kk P _ (kp P _ hP) nm
      refine ⟨⟨st.1.trans e4, (st.2.1.trans pr).trans p4, fun a xs h m => ?_⟩, di'.after e4 kk p4 d4.gok, q1, Rps.per (pr.trans p4) e4 ra, q2⟩
      obtain ⟨w1, w2⟩ := st.2.2 a xs h m
      exact kk a _ (kp a _ w1) w2
    refine gf A ⟨A, H', []⟩ { s' with env := Dl.inner own s.env } s1 (L2.wipe σ own) H' y l[i] _ db rx t1 fun σ2 d2 hl2 hj2 => ⟨wipe_eq hl2 fun j nj => hj2 j fun m => nj (sub j m), ?_⟩
    refine ht A ⟨A, H', []⟩ s1 σ2 H' _ d2 ?_
    rcases tcs with ⟨e, s2, c2, er⟩ | ⟨b, s2, c2, t3⟩
    · rw [c2]
      intro A3 cls dd H3 e3 d3 p3 x3
      obtain ⟨w1, w2, _, _, _⟩ := leave e3 d3 p3
      exact exO rr er w1.1 w2 w1.2.1 x3
    · rw [c2]
      intro A3 H3 e3 d3 p3
      refine ⟨b, rfl, ?_⟩
      rcases t3 with ⟨hb, t4⟩ | ⟨hb, t4⟩
      · subst hb
        refine ite_f (by decide) ?_
        obtain ⟨w1, w2, w3, w4, w5⟩ := leave e3 d3 p3
        exact ⟨A3, s2, acc, dacc, r, w1, w2, w3, w4, w5, t4, rr, Nat.le_succ_of_le hl⟩
      · subst hb
        refine ite_t rfl ⟨A3, ⟨A, H', []⟩, s2.env, s2.g, d3, ?_⟩
        have e : (⟨s2.env, s2.g⟩ : S) = s2 := rfl
        rw [e]
        rcases t4 with ⟨e, s3, f2, er⟩ | ⟨z, s3, f2, t5⟩
        · rw [f2]
          intro A4 cls dd H4 e4 d4 p4 x4
          obtain ⟨w1, w2, _, _, _⟩ := leave (e3.trans e4) d4 (p3.trans p4)
          exact exO rr er w1.1 w2 w1.2.1 x4
        · rw [f2]
          intro A4 H4 e4 d4 p4 v rv
          obtain ⟨w1, w2, w3, w4, w5⟩ := leave (e3.trans e4) d4 (p3.trans p4)
          have pu : Per H4 (upd H4 P (.lst (acc ++ [v]))) := per_lst w3
          have la : acc.length < sizeLine := by
            rw [ra.length, ← SZ_eq]
            omega
          refine ⟨acc, w3, la, ?_⟩
          have stu : stB Γ.K A1 H1 A4 (upd H4 P (.lst (acc ++ [v]))) := ⟨w1.1, w1.2.1.trans pu, fun a ys h m => by
            obtain ⟨u1, u2⟩ := w1.2.2 a ys h m
            exact ⟨by rw [upd_ne (L2.ne_of_none h nP)]; exact u1, u2⟩⟩
          have rps : Rps Γ.K A4 (upd H4 P (.lst (acc ++ [v]))) (acc ++ [v]) (dacc ++ [z]) := (Rps.per pu (Ext.refl _) w4).append (.cons (Rp.per pu (Ext.refl _) rv) .nil)
          have len : (dacc ++ [z]).length ≤ i + 1 := by
            rw [List.length_append]
            exact Nat.succ_le_succ hl
          rcases t5 with ⟨xs, s4, t6, er⟩ | ⟨e, s4, t6, er⟩
          · refine ⟨A4, s3, acc ++ [v], dacc ++ [z], _, stu, w2.out w3 f0 w5 dj0, upd_same, rps, w5, t6, ?_, len⟩
            rcases rr with ⟨ds', s', sf, z1, z2, z3⟩ | ⟨_, _, _, z1, _⟩
            · rw [er] at z1
              cases z1
              exact .inl ⟨xs, s4, sf, rfl, by rw [List.append_assoc]; exact z2, z3⟩
            · rw [er] at z1; cases z1
          · refine ⟨A4, s3, acc ++ [v], dacc ++ [z], _, stu, w2.out w3 f0 w5 dj0, upd_same, rps, w5, t6, ?_, len⟩
            rcases rr with ⟨ds', s', sf, z1, z2, z3⟩ | ⟨e', s', sf, z1, z2, z3⟩
            · rw [er] at z1; cases z1
            · rw [er] at z1
              cases z1
              exact .inr ⟨e, s4, sf, rfl, z2, z3⟩
  · intro H ⟨A, s', acc, dacc, r, st, di, hP, ra, nm, tu, rr, hl⟩
    rw [List.drop_length, Dl.turns] at tu
    subst tu
    rcases rr with ⟨ds, s4, sf, z1, z2, z3⟩ | ⟨_, _, _, z1, _⟩
    · cases z1
      subst z2
      rw [List.append_nil] at o1
      simp only [Dl.lcE] at o1
      split at o1
      · have di2 : Γ.DI A e0 s.env sf.g σ H := z3 ▸ di
        exact hq dacc { sf with env := s.env } A H (.ref P) di2 ⟨P, acc, rfl, hP, ra, f0, nm, dj0⟩ (o1 A H st.1 di2 st.2.1)
      · exact o1.elim
    · cases z1
/-- the parts of such a comprehension -/
structure LcXOk (Γ : Gam) (W : WX) (X : Cx) (elt tg iter : Expr) (ifs : List Expr) (scope : Scope) (own : List (Str × Nat)) (x : Ex) (t : Dl.Tgt) (i c : Ex) (gg : TG) (tt : L2.St → TT) : Prop where
  tk : L2.Takes X W
  hst : X.stack = X.env :: X.outer
  hfr : X.env.frame = some X.env.locals
  calm : X.calm = true
  nd : X.N.Nodup
  it : PI X tg iter (tItB Γ W i)
  bk : L2.BlkOk X.N X.env.scope scope own
  pg : ∀ σ s H C cl fp, PG (Dx.bX X W σ s H scope (compEnvC scope cl C X.env) fp) tg gg
  pt : ∀ σ s H C cl fp, PTs (Dx.bX X W σ s H scope (compEnvC scope cl C X.env) fp) ifs (tt σ)
  pe : ∀ σ s H C cl fp, PE (Dx.bX X W σ s H scope (compEnvC scope cl C X.env) fp) elt (tI Γ (Dx.Wo W σ) x)
  gf : GOf Γ t gg
  tf : ∀ σ, TTX Γ (Dx.Wo W σ) c (tt σ)
  fold : ∀ x, foldedSetIterable iter X.env x = pure x
  sub : ∀ j, j ∈ tgtL t → j ∈ own.map fun x => x.2
theorem k_lcX {elt tg iter : Expr} {ifs : List Expr} {scope : Scope} {own : List (Str × Nat)} {x i c : Ex} {t : Dl.Tgt} {gg : TG} {tt : L2.St → TT} {pos : Pos} (L : LcXOk Γ W X elt tg iter ifs scope own x t i c gg tt) :
    PE X (.ListComp elt [{ target := tg, iter := iter, ifs := ifs, is_async := 0 }] scope pos) (tF Γ W (.lcX x t (own.map fun x => x.2) i c)) :=
  PE.weak (Dx.pe_lcX (te := fun σ => tI Γ (Dx.Wo W σ) x) L.tk L.hst L.hfr L.calm L.nd L.it L.bk L.pg L.pt L.pe L.fold) fun σ H Q ⟨A, e0, env, g, d, ou⟩ => lcx_out rfl L.gf (L.tf σ) L.sub d ou fun l s A' H' v di fr k => k v (.inr ⟨l, rfl, fr⟩)
/-! ### tables of texts -/
theorem upd2 {p : Addr} {a b : HO} : upd (upd H p a) p b = upd H p b := by
  funext q
  by_cases z : q = p
  · subst z; rw [upd_same, upd_same]
  · rw [upd_ne z, upd_ne z, upd_ne z]
/-- a table of the module -/
def DkOk (X : Cx) (x : String) (t : List (String × String)) : Prop := ∃ p, X.mg (Str.ofString x) = some (.ref p) ∧ ∀ k v, t.lookup k = some v → L2.KDct X.K X.w p (Str.ofString k) (.str (Str.ofString v))
theorem k_kix {x : String} {t : List (String × String)} {i : Nat} {y : Str} {p q pos : Pos} (T : DkOk X x t) (hg : Gl X (Str.ofString x)) (hdx : (Str.ofString x == ("__debug__" : Str)) = false) (hN : X.N[i]? = some y) (hv : L2.Vis X.env.scope y) (hd : (y == ("__debug__" : Str)) = false) (hcd : (y == ("__classdict__" : Str)) = false) :
    PE X (.Subscript (.Name (Str.ofString x) p) (.Name y q) pos) (tI Γ W (.kix x t i)) := by
  obtain ⟨a, hm, ht⟩ := T
  refine PE.weak (L2.pe_ix L2.ix_kdict (L2.pe_glob (pos := p) (v := .ref a) hg hm rfl hdx) (L2.pe_var (pos := q) hN hv hd hcd) (fun _ _ => rfl)) fun σ H Q ⟨A, e0, env, g, d, ou⟩ => ?_
  simp only [Dl.evE, Dl.selD] at ou
  split at ou
  · rename_i k e
    obtain ⟨v, h1, h2⟩ := d.slot i _ (get_eq e)
    have h2 : Rp Γ.K A H v (.str k) := h2
    cases h2
    cases f : t.lookup k with
    | none => rw [f] at ou; exact ou.elim
    | some z =>
      rw [f] at ou
      exact ⟨_, h1, a, _, _, rfl, rfl, ht k z f, Out.here (a := D.str z) (s := ⟨env, g⟩) ou d _ (.str z)⟩
  · exact ou.elim
theorem k_lit2 (hu : X.A.units + 102 < cLine) {a b c e : String} {i : Nat} {y : Str} {j1 j2 j3 j4 : Nat} {p1 p2 p3 p4 pd q pos : Pos} (hN : X.N[i]? = some y) (hv : L2.Vis X.env.scope y) (hd : (y == ("__debug__" : Str)) = false) (hcd : (y == ("__classdict__" : Str)) = false) :
    PE X (.Subscript (.Dict [some (.Constant (.str (Str.ofString a)) j1 p1), some (.Constant (.str (Str.ofString c)) j2 p2)] [.Constant (.str (Str.ofString b)) j3 p3, .Constant (.str (Str.ofString e)) j4 p4] pd) (.Name y q) pos) (tI Γ W (.lit2 a b c e i)) := by
  refine PE.weak (L2.pe_dget (by omega) (L2.pe_disp (L2.pps_cons L2.pe_str L2.pe_str (L2.pps_cons L2.pe_str L2.pe_str L2.pps_nil)) rfl rfl (by simp) (by simp)) (L2.pe_var (pos := q) hN hv hd hcd) (fun _ _ => rfl)) fun σ H Q ⟨A, e0, env, g, d, ou⟩ => ?_
  simp only [Dl.evE] at ou
  split at ou
  · exact ou.elim
  · rename_i nac
    simp only [Dl.selD] at ou
    split at ou
    · rename_i k ek
      obtain ⟨v, h1, h2⟩ := d.slot i _ (get_eq ek)
      have h2 : Rp Γ.K A H v (.str k) := h2
      cases h2
      intro p hp
      have nac' : ¬ (Str.ofString c = Str.ofString a) := fun z => nac (ofString_inj z).symm
      have mk : L2.mergeK [] [((.inr (Str.ofString a) : L2.Key), V.str (Str.ofString b)), (.inr (Str.ofString c), V.str (Str.ofString e))] = [(.inr (Str.ofString a), V.str (Str.ofString b)), (.inr (Str.ofString c), V.str (Str.ofString e))] := by
        have z : ¬ ((Sum.inr (Str.ofString a) : L2.Key) = Sum.inr (Str.ofString c)) := fun z => nac' (Sum.inr.inj z).symm
        simp [L2.mergeK, L2.putK, z]
      refine ⟨upd_same, [(.inr (Str.ofString a), .str (Str.ofString b)), (.inr (Str.ofString c), .str (Str.ofString e))], rfl, by simp, ?_⟩
      rw [mk, upd2]
      have fin : ∀ z : String, ([(a, b), (c, e)] : List (String × String)).lookup k = some z → valV [((.inr (Str.ofString a) : L2.Key), V.str (Str.ofString b)), (.inr (Str.ofString c), V.str (Str.ofString e))] (.inr (Str.ofString k)) = some (.str (Str.ofString z)) := fun z hz => by
        by_cases ka : k = a
        · subst ka
          simp [List.lookup] at hz
          subst hz
          exact L2.valV_pos rfl
        · have ka' : ¬ ((Sum.inr (Str.ofString a) : L2.Key) = Sum.inr (Str.ofString k)) := fun z => ka (ofString_inj (Sum.inr.inj z)).symm
          rw [L2.valV_neg ka']
          by_cases kc : k = c
          · subst kc
            have : (k == a) = false := by simpa using ka
            simp [List.lookup, this] at hz
            subst hz
            exact L2.valV_pos rfl
          · have h1 : (k == a) = false := by simpa using ka
            have h2 : (k == c) = false := by simpa using kc
            simp [List.lookup, h1, h2] at hz
      cases f : ([(a, b), (c, e)] : List (String × String)).lookup k with
      | none => rw [f] at ou; exact ou.elim
      | some z =>
        rw [f] at ou
        have pr : Per H (upd H p (.dK [((.inr (Str.ofString a) : L2.Key), V.str (Str.ofString b)), (.inr (Str.ofString c), V.str (Str.ofString e))])) := per_new hp
        exact ⟨_, h1, p, _, rfl, .inl ⟨_, .inr (Str.ofString k), .inl upd_same, rfl, (fin z f).symm⟩, (Out.end_ (a := D.str z) (s := ⟨env, g⟩) ou) A _ (Ext.refl A) (d.new hp) pr _ (.str z)⟩
    · exact ou.elim
end
end Ds
end
section
set_option Elab.async false
set_option Elab.async false
set_option linter.all false
set_option maxRecDepth 100000
set_option maxHeartbeats 4000000
set_option autoImplicit false
/-! SndA: the source of draws: its dict and its two lists. -/
namespace Ds
open PySem PySem.Spec PyProof.Rows
open L2 (V Hp HO upd upd_same upd_ne RelV SqL SqT TE TA TT TS TG TI VK XK WX Cx Inv PE PA PT PTs PS PSs PG PGs PI It Walk PW Rd EP OpR tOp pe_op R2 rI rI0 Dp DpAll Room CallR tCB tCons tNil tTup tLst Gl Sp Ends exo exd OexC Zc Names Takes SP)
open Dl (D DV GS S R RC Ex Fl Le)
abbrev stK3 (z : AS) (n : Nat) : List (L2.Key × V) := [(ky "cells", .ref z.ca), (ky "lefts", .ref z.la), (ky "at", .int (n : Nat))]
theorem st_at (z : AS) (n : Nat) : L2.valV (stK3 z n) (ky "at") = some (V.int (n : Nat)) := by rfl
theorem st_cells (z : AS) (n : Nat) : L2.valV (stK3 z n) (ky "cells") = some (V.ref z.ca) := by rfl
theorem st_lefts (z : AS) (n : Nat) : L2.valV (stK3 z n) (ky "lefts") = some (V.ref z.la) := by rfl
theorem st_put (z : AS) (n m : Nat) : L2.putK (stK3 z n) (ky "at") (V.int (m : Nat)) = stK3 z m := by rfl
section
variable {Γ : Gam} {W : WX} {A A' : Option AS} {e0 : Ent} {H H' : Hp} {env env' : List (Option DV)} {g g' : Option GS} {σ : List (Option V)} {X : Cx} {E : Ends} {α : Type}
/-- the handle in a slot -/
theorem hnd_at {i : Nat} (d : Γ.DI A e0 env g σ H) (h : env[i]? = some (some (.im .hnd))) : ∃ z, A = some z ∧ σ[i]? = some (some (.ref z.sa)) := by
  obtain ⟨v, h1, h2⟩ := d.slot i _ h
  have h2 : Rp Γ.K A H v .hnd := h2
  cases h2 with
  | hnd e => exact ⟨_, e, h1⟩
theorem src_at {z : AS} {x : GS} (d : Γ.DI (some z) e0 env (some x) σ H) : H z.sa = some (.dK (stK3 z x.at_)) ∧ H z.ca = some (.lst (x.cells.map V.int)) ∧ H z.la = some (.lst (x.lefts.map V.int)) ∧ z.ca ≠ z.la ∧ x.lefts.length = x.cells.length ∧ 0 < x.cells.length := d.gok.1
def isComp : Expr → Bool
  | .ListComp .. => true
  | .SetComp .. => true
  | .DictComp .. => true
  | _ => false
theorem sub_sole {a b : Expr} {p : Pos} {e : Expr} {n : Nat} {env : Env} : swapsWithSole [.Subscript a b p] e n env = pure false := by
  show swapsWith e (some (.Subscript a b p)) n env = pure false
  cases e <;> rfl
theorem sub_st {a b : Expr} {p : Pos} {e : Expr} {env : Env} : swappedStores [.Subscript a b p] e env = pure none := by
  cases e <;> rfl
theorem noSl_str {m : Str} {j : Nat} {p : Pos} : L2.NoSl (.Constant (.str m) j p) := fun _ _ => rfl
/-- the source's own things change -/
theorem DI.src' {z : AS} {b : Addr} {o o' : HO} (d : Γ.DI (some z) e0 env g σ H) (hb : isM Γ.K (some z) b) (h : H b = some o) (no : (∀ xs, o ≠ .tup xs) ∧ (∀ q u, o ≠ .frz q u) ∧ (∀ f, o ≠ .xd f) ∧ ∀ f, o ≠ .ext f) (gk : GOk Γ.K (some z) g' (upd H b o')) :
    Γ.DI (some z) e0 env g' σ (upd H b o') ∧ Per H (upd H b o') := by
  have pr : Per H (upd H b o') := ⟨fun a xs e => by rw [upd_ne (fun q => by subst q; rw [h] at e; exact no.1 xs (Option.some.inj e))]; exact e, fun a q u e => by rw [upd_ne (fun q' => by subst q'; rw [h] at e; exact no.2.1 q u (Option.some.inj e))]; exact e,
    fun a f e => by rw [upd_ne (fun q => by subst q; rw [h] at e; exact no.2.2.1 f (Option.some.inj e))]; exact e, fun a f e => by rw [upd_ne (fun q => by subst q; rw [h] at e; exact no.2.2.2 f (Option.some.inj e))]; exact e⟩
  refine ⟨d.after (Ext.refl _) (fun a u e m => ?_) pr gk, pr⟩
  have ne : a ≠ b := fun q => by subst q; exact m hb
  exact ⟨by rw [upd_ne ne]; exact e, m⟩
theorem at_ints {l : List Int} {n : Int} {c : Int} (h0 : 0 ≤ n) (h : l[n.toNat]? = some c) : L2.atI (l.map V.int) n = some (V.int c) := by
  have lt := (List.getElem?_eq_some_iff.mp h).1
  unfold L2.atI L2.ixN
  rw [if_pos h0, if_pos (by rw [List.length_map]; omega)]
  show (l.map V.int)[n.toNat]? = _
  rw [List.getElem?_map, h]
  rfl
theorem ext_z {z : AS} (e : Ext (some z) A) : A = some z := by
  rcases e with e | e
  · exact e
  · cases e
section
variable {i : Nat} {x : Str} {p p1 p2 pos pos' : Pos} {j : Nat} (hu : X.A.units + 1 < cLine) (hN : X.N[i]? = some x) (hv : L2.Vis X.env.scope x) (hd : (x == ("__debug__" : Str)) = false) (hcd : (x == ("__classdict__" : Str)) = false)
include hu hN hv hd hcd
theorem k_stAt : PE X (.Subscript (.Name x p) (.Constant (.str "at") j p1) pos) (tI Γ W (.stAt i)) := by
  refine PE.weak (L2.pe_dget hu (L2.pe_var hN hv hd hcd) L2.pe_str noSl_str) fun σ H Q ⟨A, e0, env, g, d, ou⟩ => ?_
  simp only [Dl.evE] at ou
  split at ou
  · rename_i gg e1
    obtain ⟨z, rfl, hs⟩ := hnd_at d (get_eq e1)
    obtain ⟨h1, _⟩ := src_at d
    refine ⟨_, hs, z.sa, .int (gg.at_ : Nat), rfl, ?_, Out.here (a := D.int (gg.at_ : Nat)) (s := ⟨env, some gg⟩) ou d _ (.int _)⟩
    have := L2.DGet.k (k := ky "at") h1
    rw [st_at] at this
    exact this
  · exact ou.elim
theorem get_cells {σ : List (Option V)} {Q : VK} {z : AS} {gg : GS} (d : Γ.DI (some z) e0 env (some gg) σ H) (hs : σ[i]? = some (some (.ref z.sa))) (q : Q (.ref z.ca) H) : L2.tDGet (L2.tVar i) (L2.tC (.str ("cells" : Str))) σ H Q := by
  obtain ⟨h1, _⟩ := src_at d
  have := L2.DGet.k (k := ky "cells") h1
  rw [st_cells] at this
  exact ⟨_, hs, z.sa, _, rfl, this, q⟩
theorem get_lefts {σ : List (Option V)} {Q : VK} {z : AS} {gg : GS} (d : Γ.DI (some z) e0 env (some gg) σ H) (hs : σ[i]? = some (some (.ref z.sa))) (q : Q (.ref z.la) H) : L2.tDGet (L2.tVar i) (L2.tC (.str ("lefts" : Str))) σ H Q := by
  obtain ⟨h1, _⟩ := src_at d
  have := L2.DGet.k (k := ky "lefts") h1
  rw [st_lefts] at this
  exact ⟨_, hs, z.sa, _, rfl, this, q⟩
/-- len(state["cells"]) -/
theorem k_stLen (hK : X.K = Γ.K) (B : Bn X "len") : PE X (.Call (.Name "len" p2) [.Subscript (.Name x p) (.Constant (.str "cells") j p1) pos'] [] pos) (tI Γ W (.stLen i)) := by
  have pg : PE X (.Subscript (.Name x p) (.Constant (.str "cells") j p1) pos') (L2.tDGet (L2.tVar i) (L2.tC (.str ("cells" : Str)))) := L2.pe_dget hu (L2.pe_var hN hv hd hcd) L2.pe_str noSl_str
  refine PE.weak (L2.pe_callB (hK ▸ L2.call_len_seq) B.gl B.mg (by decide +kernel) (L2.pa_cons pg L2.pa_nil rfl) (by decide) (by decide) rfl rfl) fun σ H Q ⟨A, e0, env, g, d, ou⟩ => ?_
  simp only [Dl.evE] at ou
  split at ou
  · rename_i gg e1
    obtain ⟨z, rfl, hs⟩ := hnd_at d (get_eq e1)
    obtain ⟨_, h2, _⟩ := src_at d
    refine get_cells hu hN hv hd hcd d hs ⟨z.ca, gg.cells.map V.int, rfl, .inl (.inl (Rd.of h2)), ?_⟩
    rw [List.length_map]
    exact Out.here (a := D.int (gg.cells.length : Nat)) (s := ⟨env, some gg⟩) ou d _ (.int _)
  · exact ou.elim
/-- state["cells"][k] -/
theorem k_stCell (hK : X.K = Γ.K) {b : Expr} {y : Ex} (hb : PE X b (tI Γ W y)) (hp : noSlice b = true) : PE X (.Subscript (.Subscript (.Name x p) (.Constant (.str "cells") j p1) pos') b pos) (tI Γ W (.stCell i y)) := by
  have pg : PE X (.Subscript (.Name x p) (.Constant (.str "cells") j p1) pos') (L2.tDGet (L2.tVar i) (L2.tC (.str ("cells" : Str)))) := L2.pe_dget hu (L2.pe_var hN hv hd hcd) L2.pe_str noSl_str
  refine PE.weak (L2.pe_ix (hK ▸ L2.ix_list) pg hb (plainIx_of hp)) fun σ H Q ⟨A, e0, env, g, d, ou⟩ => ?_
  simp only [Dl.evE] at ou
  split at ou
  · rename_i e1
    obtain ⟨z, rfl, hs⟩ := hnd_at d (get_eq e1)
    cases g with
    | none => exact d.gok.1.elim
    | some gg =>
      refine get_cells hu hN hv hd hcd d hs ⟨some z, e0, env, some gg, d, ou.bind.imp fun k s A1 H1 _ e2 d1 p1 o1 v r => ?_⟩
      split at o1
      · rename_i n g2 eg _
        split at o1
        · rename_i h0
          obtain rfl : A1 = some z := by
            rcases e2 with e2 | e2
            · exact e2
            · cases e2
          cases hc : g2.cells[n.toNat]? with
          | none => rw [hc] at o1; exact o1.elim
          | some c =>
            rw [hc] at o1
            have d2 : Γ.DI (some z) e0 s.env (some g2) σ H1 := by rw [← eg]; exact d1
            obtain ⟨_, h2, _⟩ := src_at d2
            cases r
            exact ⟨z.ca, _, _, _, rfl, rfl, .inl (Rd.of h2), at_ints h0 hc, Out.here (a := D.int c) (s := s) o1 d1 _ (.int c)⟩
        · exact o1.elim
      · exact o1.elim
  · exact ou.elim
/-- state["lefts"][k] -/
theorem k_stLeft (hK : X.K = Γ.K) {b : Expr} {y : Ex} (hb : PE X b (tI Γ W y)) (hp : noSlice b = true) : PE X (.Subscript (.Subscript (.Name x p) (.Constant (.str "lefts") j p1) pos') b pos) (tI Γ W (.stLeft i y)) := by
  have pg : PE X (.Subscript (.Name x p) (.Constant (.str "lefts") j p1) pos') (L2.tDGet (L2.tVar i) (L2.tC (.str ("lefts" : Str)))) := L2.pe_dget hu (L2.pe_var hN hv hd hcd) L2.pe_str noSl_str
  refine PE.weak (L2.pe_ix (hK ▸ L2.ix_list) pg hb (plainIx_of hp)) fun σ H Q ⟨A, e0, env, g, d, ou⟩ => ?_
  simp only [Dl.evE] at ou
  split at ou
  · rename_i e1
    obtain ⟨z, rfl, hs⟩ := hnd_at d (get_eq e1)
    cases g with
    | none => exact d.gok.1.elim
    | some gg =>
      refine get_lefts hu hN hv hd hcd d hs ⟨some z, e0, env, some gg, d, ou.bind.imp fun k s A1 H1 _ e2 d1 p1 o1 v r => ?_⟩
      split at o1
      · rename_i n g2 eg _
        split at o1
        · rename_i h0
          obtain rfl : A1 = some z := by
            rcases e2 with e2 | e2
            · exact e2
            · cases e2
          cases hc : g2.lefts[n.toNat]? with
          | none => rw [hc] at o1; exact o1.elim
          | some c =>
            rw [hc] at o1
            have d2 : Γ.DI (some z) e0 s.env (some g2) σ H1 := by rw [← eg]; exact d1
            obtain ⟨_, _, h2, _⟩ := src_at d2
            cases r
            exact ⟨z.la, _, _, _, rfl, rfl, .inl (Rd.of h2), at_ints h0 hc, Out.here (a := D.int c) (s := s) o1 d1 _ (.int c)⟩
        · exact o1.elim
      · exact o1.elim
  · exact ou.elim
/-- state["at"] = e -/
theorem s_stSetAt {e : Expr} {y : Ex} (h : PE X e (tI Γ W y)) (hw : isComp e = false) : PS X (.Assign [.Subscript (.Name x p) (.Constant (.str "at") j p1) pos'] e pos) (tS Γ W (.stSetAt i y)) := by
  refine PS.weak (L2.ps_dput hu (L2.pe_var hN hv hd hcd) L2.pe_str h (by cases e <;> first | rfl | cases hw)) fun E σ H ⟨A, e0, env, g, d, o⟩ => ?_
  simp only [Dl.evS] at o
  refine ⟨A, e0, env, g, d, o.eval.imp fun k s A1 H1 _ e2 d1 p1 o1 v r => ?_⟩
  split at o1
  · rename_i g2 n e1 eg _
    split at o1
    · rename_i h0
      obtain ⟨z, rfl, hs⟩ := hnd_at d1 (get_eq e1)
      have d2 : Γ.DI (some z) e0 s.env (some g2) σ H1 := by rw [← eg]; exact d1
      obtain ⟨h1, h2, h3, h4, h5, h6⟩ := src_at d2
      cases r
      have hn : V.int n = V.int ((n.toNat : Nat) : Int) := by rw [Int.toNat_of_nonneg h0]
      refine ⟨_, hs, z.sa, upd H1 z.sa (.dK (stK3 z n.toNat)), rfl, ?_, ?_⟩
      · have := L2.DPut.k (k := ky "at") (v := V.int n) h1 (by show (3 : Nat) < sizeLine; decide)
        rw [hn, st_put] at this
        rw [hn]
        exact this
      · have nca : z.ca ≠ z.sa := fun q => by rw [q, h1] at h2; cases h2
        have nla : z.la ≠ z.sa := fun q => by rw [q, h1] at h3; cases h3
        obtain ⟨d3, p3⟩ := DI.src' (g' := some ⟨g2.cells, g2.lefts, n.toNat⟩) (o' := .dK (stK3 z n.toNat)) d1 (.inl (.inl rfl)) h1 ⟨fun _ q => (nomatch q), fun _ _ q => (nomatch q), fun _ q => (nomatch q), fun _ q => (nomatch q)⟩
          ⟨⟨upd_same, by rw [upd_ne nca]; exact h2, by rw [upd_ne nla]; exact h3, h4, h5, h6⟩, tabs_upd d1.gok.2 (fun ps q => by rw [h1] at q; cases q) fun f q => by rw [h1] at q; cases q⟩
        exact o1 _ σ _ (Ext.refl _) d3 p3
    · exact o1.elim
  · exact o1.elim
/-- state["lefts"][k] = e -/
theorem s_stSetLeft {e b : Expr} {y w : Ex} (h : PE X e (tI Γ W y)) (hb : PE X b (tI Γ W w)) (hp : noSlice b = true) : PS X (.Assign [.Subscript (.Subscript (.Name x p) (.Constant (.str "lefts") j p1) pos') b p2] e pos) (tS Γ W (.stSetLeft i w y)) := by
  have pg : PE X (.Subscript (.Name x p) (.Constant (.str "lefts") j p1) pos') (L2.tDGet (L2.tVar i) (L2.tC (.str ("lefts" : Str)))) := L2.pe_dget hu (L2.pe_var hN hv hd hcd) L2.pe_str noSl_str
  refine PS.weak (L2.ps_asg h (L2.pg_sub pg hb L2.set_list (fun v => by cases b <;> first | rfl | cases hp)) sub_sole sub_st rfl) fun E σ H ⟨A, e0, env, g, d, o⟩ => ?_
  simp only [Dl.evS] at o
  refine ⟨A, e0, env, g, d, o.eval.imp fun k s A1 H1 _ e2 d1 p1 o1 v r => ?_⟩
  split at o1
  · rename_i e1
    obtain ⟨z, rfl, hs⟩ := hnd_at d1 (get_eq e1)
    cases hg : s.g with
    | none => rw [hg] at d1; exact d1.gok.1.elim
    | some gg =>
      have d1' : Γ.DI (some z) e0 s.env (some gg) σ H1 := by rw [← hg]; exact d1
      refine get_lefts hu hN hv hd hcd d1' hs ⟨some z, e0, s.env, s.g, d1, OutS.eval (σ := σ) o1 |>.imp fun k2 s2 A2 H2 _ e3 d2 p2 o2 v2 r2 => ?_⟩
      split at o2
      · rename_i g2 n vv eg _ _
        split at o2
        · rename_i hh
          obtain rfl := ext_z e3
          have d3 : Γ.DI (some z) e0 s2.env (some g2) σ H2 := by rw [← eg]; exact d2
          obtain ⟨h1, h2, h3, h4, h5, h6⟩ := src_at d3
          cases r2
          cases r
          have hx : L2.ixN (g2.lefts.map V.int).length n = some n.toNat := by
            unfold L2.ixN
            rw [if_pos hh.1, if_pos (by rw [List.length_map]; omega)]
          refine ⟨z.la, _, _, _, rfl, rfl, h3, hx, ?_⟩
          have nsa : z.sa ≠ z.la := fun q => by rw [q, h3] at h1; cases h1
          obtain ⟨d4, p4⟩ := DI.src' (g' := some ⟨g2.cells, g2.lefts.set n.toNat vv, g2.at_⟩) (o' := .lst ((g2.lefts.map V.int).set n.toNat (V.int vv))) d2 (.inl (.inr (.inr rfl))) h3 ⟨fun _ q => (nomatch q), fun _ _ q => (nomatch q), fun _ q => (nomatch q), fun _ q => (nomatch q)⟩
            ⟨⟨by rw [upd_ne nsa]; exact h1, by rw [upd_ne h4]; exact h2, by rw [upd_same, List.map_set], h4, by rw [List.length_set]; exact h5, h6⟩, tabs_upd d2.gok.2 (fun ps q => by rw [h3] at q; cases q) fun f q => by rw [h3] at q; cases q⟩
          exact o2 _ σ _ (Ext.refl _) d4 p4
        · exact o2.elim
      · exact o2.elim
  · exact o1.elim
end
end
end Ds
end
section
set_option Elab.async false
set_option Elab.async false
set_option linter.all false
set_option maxRecDepth 100000
set_option maxHeartbeats 4000000
set_option autoImplicit false
/-! SndB: the source of draws is made. -/
namespace Ds
open PySem PySem.Spec PyProof.Rows
open L2 (V Hp HO upd upd_same upd_ne RelV SqL SqT TE TA TT TS TG TI VK XK WX Cx Inv PE PA PT PTs PS PSs PG PGs PI It Walk PW Rd EP OpR tOp pe_op R2 rI rI0 Dp DpAll Room CallR tCB tCons tNil tTup tLst Gl Sp Ends exo exd OexC Zc Names Takes SP)
open Dl (D DV GS S R RC Ex Fl Le)
section
variable {Γ : Gam} {W : WX} {A A' : Option AS} {e0 : Ent} {H H' : Hp} {env env' : List (Option DV)} {g g' : Option GS} {σ : List (Option V)} {X : Cx} {E : Ends} {α : Type}
theorem st_merge (c l : V) : L2.mergeK [] [(ky "cells", c), (ky "lefts", l), (ky "at", .int 0)] = [(ky "cells", c), (ky "lefts", l), (ky "at", .int 0)] := by rfl
/-- nothing that is tracked stands at a free place -/
theorem free_dj (d : Γ.DI A e0 env g σ H) {P : Addr} (n : H P = none) (i : Nat) (l' : List D) (e : env[i]? = some (some (.ml l'))) : σ[i]? ≠ some (some (.ref P)) := fun q => by
  obtain ⟨a, xs, h1, h2, _⟩ := own_at d e
  rw [q] at h1
  cases h1
  rw [n] at h2
  cases h2
/-- the new source -/
theorem DI.begin_ (d : Γ.DI A e0 env none σ H) {P a b : Addr} {i : Nat} {l : List D} {cs ls : List Int} (ei : env[i]? = some (some (.ml l))) (es : σ[i]? = some (some (.ref a))) (hl : Dl.intz l = some cs) (hP : H P = some (.dK [])) (h0 : e0.H P = none)
    (hb : H b = some (.lst (ls.map V.int))) (nb : e0.H b = none) (dj : ∀ (j : Nat) (l' : List D), env[j]? = some (some (.ml l')) → σ[j]? ≠ some (some (.ref b))) (len : ls.length = cs.length) (pos : 0 < cs.length) (nmd : Dl.noMd env = true) :
    Γ.DI (some ⟨P, a, b⟩) e0 (env.set i none) (some ⟨cs, ls, 0⟩) σ (upd H P (.dK [(ky "cells", .ref a), (ky "lefts", .ref b), (ky "at", .int 0)])) ∧ Per H (upd H P (.dK [(ky "cells", .ref a), (ky "lefts", .ref b), (ky "at", .int 0)])) ∧ Ext A (some ⟨P, a, b⟩) := by
  obtain ⟨a', xs, h1, ha, ra, na, ma⟩ := own_at d ei
  rw [es] at h1
  cases h1
  have xe := rps_ints ra hl
  subst xe
  have hA : A = none := by
    cases A with
    | none => rfl
    | some z => exact d.gok.1.elim
  subst hA
  have eA : e0.A = none := by
    rcases d.src with q | q
    · exact q.symm
    · exact q
  have ab : a ≠ b := fun q => dj i l ei (by rw [← q]; exact es)
  have aP : a ≠ P := fun q => by rw [q, hP] at ha; cases ha
  have bP : b ≠ P := fun q => by rw [q, hP] at hb; cases hb
  have pr : Per H (upd H P (.dK [(ky "cells", .ref a), (ky "lefts", .ref b), (ky "at", .int 0)])) :=
    ⟨fun c xs e => by rw [upd_ne (fun q => by subst q; rw [hP] at e; cases e)]; exact e, fun c q u e => by rw [upd_ne (fun q' => by subst q'; rw [hP] at e; cases e)]; exact e, fun c f e => by rw [upd_ne (fun q => by subst q; rw [hP] at e; cases e)]; exact e, fun c f e => by rw [upd_ne (fun q => by subst q; rw [hP] at e; cases e)]; exact e⟩
  have ex : Ext (none : Option AS) (some ⟨P, a, b⟩) := .inr rfl
  refine ⟨⟨fun c o e m => ?_, .inr eA, ⟨⟨upd_same, by rw [upd_ne aP]; exact ha, by rw [upd_ne bP]; exact hb, ab, len, pos⟩, tabs_upd d.gok.2 (fun ps q => by rw [hP] at q; cases q) fun f q => by rw [hP] at q; cases q⟩, by simpa using d.len, fun j dv e => ?_, fun j k l1 l2 c e1 e2 e3 e4 => ?_⟩, pr, ex⟩
  · obtain ⟨q1, q9⟩ := d.keep c o e m
    have cP : c ≠ P := fun q => by rw [q, h0] at e; cases e
    have ca : c ≠ a := fun q => by rw [q, na] at e; cases e
    have cb : c ≠ b := fun q => by rw [q, nb] at e; cases e
    exact ⟨by rw [upd_ne cP]; exact q1, fun z => by
      rcases z with (z | z | z) | z
      · exact cP z
      · exact ca z
      · exact cb z
      · exact q9 (.inr z)⟩
  · have nj : j ≠ i := fun z => by
      subst z
      have hlt : j < env.length := by
        have := (List.getElem?_eq_some_iff.mp e).1
        simpa using this
      rw [List.getElem?_set_self hlt] at e
      cases e
    rw [List.getElem?_set_ne (Ne.symm nj)] at e
    obtain ⟨v, w1, w2⟩ := d.slot j dv e
    refine ⟨v, w1, ?_⟩
    cases dv with
    | im x => exact Rp.per pr ex w2
    | md ks vs => exact (noMd_at nmd e).elim
    | exc c fs =>
      obtain ⟨c1, C, dd, vfs, e1, e2, e3, e4, e5⟩ := w2
      exact ⟨c1, C, dd, vfs, e1, e2, e3, pr.xd _ _ e4, fun f d q => let ⟨x, u1, u2⟩ := e5 f d q; ⟨x, u1, Rp.per pr ex u2⟩⟩
    | ml l2 =>
      obtain ⟨c, ys, rfl, hc, r, n, m⟩ := w2
      have cP : c ≠ P := fun q => by rw [q, hP] at hc; cases hc
      have ca : c ≠ a := fun q => nj (d.inj j i l2 l c e ei w1 (by rw [q]; exact es))
      have cb : c ≠ b := fun q => dj j l2 e (by rw [← q]; exact w1)
      exact ⟨c, ys, rfl, by rw [upd_ne cP]; exact hc, Rps.per pr ex r, n, fun z => by
        rcases z with (z | z | z) | z
        · exact cP z
        · exact ca z
        · exact cb z
        · exact m (.inr z)⟩
    | rd l2 =>
      obtain ⟨c, ys, rfl, hc, r, n, m⟩ := w2
      have cP : c ≠ P := fun q => by rw [q, hP] at hc; cases hc
      exact ⟨c, ys, rfl, by rw [upd_ne cP]; exact hc, Rps.per pr ex r, n, m⟩
  · have nj : ∀ {j : Nat} {l : List D}, (env.set i none)[j]? = some (some (.ml l)) → j ≠ i := fun {j l} e z => by
      subst z
      have hlt : j < env.length := by
        have := (List.getElem?_eq_some_iff.mp e).1
        simpa using this
      rw [List.getElem?_set_self hlt] at e
      cases e
    have n1 := nj e1
    have n2 := nj e2
    rw [List.getElem?_set_ne (Ne.symm n1)] at e1
    rw [List.getElem?_set_ne (Ne.symm n2)] at e2
    exact d.inj j k l1 l2 c e1 e2 e3 e4
theorem s_begin {i : Nat} {x : Str} {e : Expr} {y : Ex} {p p1 p2 p3 p4 pd pos : Pos} {j1 j2 j3 j4 : Nat} (hN : X.N[i]? = some x) (hv : L2.Vis X.env.scope x) (hd : (x == ("__debug__" : Str)) = false) (hcd : (x == ("__classdict__" : Str)) = false) (h : PE X e (tF Γ W y)) :
    PS X (.Return (some (.Dict [some (.Constant (.str "cells") j1 p1), some (.Constant (.str "lefts") j2 p2), some (.Constant (.str "at") j3 p3)] [.Name x p, e, .Constant (.int 0) j4 p4] pd)) pos) (tS Γ W (.begin_ i y)) := by
  refine PS.weak (L2.ps_ret (L2.pe_disp (L2.pps_cons L2.pe_str (L2.pe_var hN hv hd hcd) (L2.pps_cons L2.pe_str h (L2.pps_cons L2.pe_str L2.pe_int L2.pps_nil))) rfl rfl (by simp) (by simp))) fun E σ H ⟨A, e0, env, g, d, o⟩ => ?_
  simp only [Dl.evS] at o
  intro P nP
  split at o
  · rename_i l0 f0
    split at o
    rename_i nmd
    obtain ⟨a, xs, s1, s2, s3, s4, s5⟩ := own_at d (get_eq f0)
    obtain ⟨h0, nm⟩ := d.fresh nP
    have nm0 : ¬ isM Γ.K e0.A P := fun m => nm (d.src.m m)
    have dw : Γ.DI A (e0.wait P (.dK [])) env g σ (upd H P (.dK [])) := (d.new nP).wait upd_same h0 nm (fun j l' e => free_dj d nP j l' e) fun _ _ => nmd
    refine ⟨_, s1, A, e0.wait P (.dK []), env, g, dw, ?_⟩
    refine Out.wait (OutS.eval (σ := σ) (OutS.later o (Ext.refl A) (per_new nP))) h0 nm0 fun z s A1 H1 q1 e1 dw1 d1 p1 o1 v r => ?_
    obtain ⟨_, k1, k2, k3⟩ := dw1.unwait h0 nm0
    split at o1
    · rename_i l lr f1 f2
      split at o1
      · rename_i cs ls hc hr
        split at o1
        · rename_i hh
          rcases r with r | ⟨r', er, b, ys, rfl, hb, rb, nb, mb, djb⟩
          · exact absurd rfl (r.nl lr)
          · cases er
            have d2 : Γ.DI A1 e0 s.env none σ H1 := by rw [← f2]; exact d1
            have yb := rps_ints rb hr
            subst yb
            have bP : b ≠ P := fun q => by
              have z : upd e0.H P (.dK []) b = none := nb
              rw [q, upd_same] at z
              cases z
            have nb0 : e0.H b = none := by
              have z : upd e0.H P (.dK []) b = none := nb
              rw [upd_ne bP] at z
              exact z
            obtain ⟨g1, g2, g3⟩ := DI.begin_ d2 (get_eq f1) s1 hc k1 h0 hb nb0 djb hh.1.1 hh.1.2 hh.2
            refine ⟨k1, [(ky "cells", .ref a), (ky "lefts", .ref b), (ky "at", .int 0)], rfl, by simp, ?_⟩
            rw [st_merge]
            exact o1 _ σ _ g3 g1 g2 _ (.hnd rfl)
        · exact o1.elim
      · exact o1.elim
    · exact o1.elim
    · exact o.elim
  · exact o.elim
end
end Ds
end
section
set_option Elab.async false
set_option Elab.async false
set_option linter.all false
set_option maxRecDepth 100000
set_option maxHeartbeats 4000000
set_option autoImplicit false
/-! SndL: a thunk handed to a def. -/
namespace Ds
open PySem PySem.Spec PyProof.Rows
open L2 (V Hp HO upd upd_same upd_ne RelV SqL SqT TE TA TT TS TG TI VK XK WX Cx Inv PE PA PT PTs PS PSs PG PGs PI It Walk PW Rd EP OpR tOp pe_op R2 rI rI0 Dp DpAll Room CallR tCB tCons tNil tTup tLst Gl Sp Ends exo exd OexC)
open Dl (D DV GS S R RC Ex Fl Le)
open LamX (CodeO TabS Tabs TabB lamEnv lamCx LamS)
section
variable {X : Cx} {pins : List (Addr × Obj)} {σ : List (Option V)} {H : Hp} {s : Shared}
/-- the lambda is made; only the table at P has changed -/
theorem lam_new {T : List (Addr × Str)} {c P : Addr} {params : Arguments} {body : Expr} {scope : Scope} {pos : Pos} {E Q : Value → Shared → Prop} (I : Inv X pins σ H s) (TB : TabB X.base X.mg c P) (hcode : X.env.code = .ref c)
    (hm : (P, X.env.qual ++ "<lambda>") ∈ T) (hu : ∀ p ∈ T, p.1 = P → p.2 = X.env.qual ++ "<lambda>") (hT : Tabs T H) (hdef : defaultsOf params X.env = ([], [])) (hfree : ∀ y ∈ scope.names, y.2 = .free → ∃ c, X.env.cells.lookup y.1 = some c)
    (h : ∀ (f c' : Addr) (pm ctv : Value) (H1 : Hp) (s' : Shared), Inv X pins σ H1 s' → (∀ b o, b ≠ P → H b = some o → H1 b = some o) → Tabs T H1 →
      s'.heap.get? f = some (PySem.W.kla_obj "<lambda>" (X.env.qual ++ "<lambda>") params body scope (L2.cloFrom X.env.cells scope.names []) pm c' ctv) → H1 f = none → f ∉ L2.frs X.stack → H1 c' = some (CodeO c' (X.env.qual ++ "<lambda>")) → Q (.ref f) s') :
    wpAny (model X.prog X.w) X.A (eval (.Lambda params body scope pos) X.env) Q E s := by
  have tb := hT _ hm
  obtain ⟨ps, hP, tri, know⟩ := tb
  have bP : s.heap.BuiltinsAt X.mg P := TB.bm.keeps I.bk
  have oP : s.heap.get? P = some { cls := .none, data := .fields ps } := I.hok P _ hP
  have out : ∀ f, s.heap.objs.size ≤ f → f ∉ L2.frs X.stack := fun f hf z => by
    rcases List.mem_cons.mp (I.stkSub _ z) with e | e
    · have lt := I.lt
      rw [← e] at lt
      exact absurd (Nat.lt_of_lt_of_le lt hf) (Nat.lt_irrefl _)
    · exact I.nofs hf e
  refine PySem.W.kla_eval hdef ?_
  cases hc : codeAmong pos ps.toList with
  | some cv =>
    obtain ⟨c', e, ko⟩ := know pos cv hc
    subst e
    refine PySem.W.kla_makeFunctionHit (mg := X.mg) (c := c) (P := P) (ps := ps) (L2.closure_ok hfree) I.ok.glob (I.mod.glob.keeps I.bk) hcode (TB.code.keeps I.bk) oP tri hc bP fun ctv h' tk hx hsz => ?_
    refine h h'.objs.size c' ((X.mg "__name__").getD .none) ctv H _ (I.kept fun b o e => Heap.get?_push_of_some _ (hx b o e)) (fun _ _ _ e => e) hT (Heap.get?_push_size _ rfl) (I.hok.fresh hsz) (out _ hsz) ko
  | none =>
    refine PySem.W.kla_makeFunction (mg := X.mg) (c := c) (P := P) (ps := ps) (L2.closure_ok hfree) I.ok.glob (I.mod.glob.keeps I.bk) hcode (TB.code.keeps I.bk) oP tri hc TB.gP bP fun c' ctv h' tk hx hge hlt hrec htb => ?_
    obtain ⟨c2, oc, vs, t, e2, hoc, hd, hv⟩ := hrec
    cases e2
    have big : s.heap.objs.size ≤ h'.objs.size := Nat.le_trans hge (Nat.le_of_lt hlt)
    have nC : H c' = none := I.hok.fresh hge
    have nCP : P ≠ c' := L2.ne_of_none hP nC
    have J := LamX.inv_table (t' := tk) (more := #[rawInt pos.line, rawInt pos.col, .ref c']) (h' := h'.push (PySem.W.kla_obj "<lambda>" (X.env.qual ++ "<lambda>") params body scope (L2.cloFrom X.env.cells scope.names []) ((X.mg "__name__").getD .none) c' ctv)) I hP
      (fun b o hb e => Heap.get?_push_of_some _ (hx b o hb e)) (Heap.get?_push_of_some _ htb) hge ⟨oc, vs, t, Heap.get?_push_of_some _ hoc, hd, hv⟩
    have stay : ∀ b o, b ≠ P → H b = some o → upd (upd H P (.tbl (ps ++ #[rawInt pos.line, rawInt pos.col, .ref c']))) c' (CodeO c' (X.env.qual ++ "<lambda>")) b = some o := fun b o n e => by
      rw [upd_ne (L2.ne_of_none e nC), upd_ne n]
      exact e
    have code_ne : ∀ (b : Addr) (q : Str), H b = some (CodeO b q) → b ≠ P := fun b q e z => by
      rw [z, hP] at e
      exact LamX.codeO_ne ps (Option.some.inj e).symm
    have eL : (ps ++ #[rawInt pos.line, rawInt pos.col, .ref c']).toList = ps.toList ++ [rawInt pos.line, rawInt pos.col, .ref c'] := by simp
    refine h h'.objs.size c' ((X.mg "__name__").getD .none) ctv _ _ J stay (fun p hp => ?_) (Heap.get?_push_size _ rfl) ?_ (out _ big) upd_same
    · by_cases hb : p.1 = P
      · rw [hu p hp hb, hb]
        refine ⟨_, by rw [upd_ne nCP, upd_same], by rw [eL]; exact PySem.TriplesOk_snoc _ _ _ _ tri, fun p' cv hcv => ?_⟩
        rw [eL] at hcv
        rcases LamX.among_app _ tri hcv with z | z
        · obtain ⟨c0, e1, e2⟩ := know p' cv z
          exact ⟨c0, e1, stay _ _ (code_ne _ _ e2) e2⟩
        · exact ⟨c', z, upd_same⟩
      · obtain ⟨ps', a1, a2, a3⟩ := hT p hp
        refine ⟨ps', stay _ _ hb a1, a2, fun p' cv hcv => ?_⟩
        obtain ⟨c0, e1, e2⟩ := a3 p' cv hcv
        exact ⟨c0, e1, stay _ _ (code_ne _ _ e2) e2⟩
    · have n1 : h'.objs.size ≠ c' := Nat.ne_of_gt hlt
      have n2 : h'.objs.size ≠ P := Nat.ne_of_gt (Nat.lt_of_lt_of_le (Heap.lt_size oP) big)
      rw [upd_ne n1, upd_ne n2]
      exact I.hok.fresh big
/-- x(), in the def that got the lambda; what is raised may depend on the slots there -/
theorem k_act {CXg : L2.CXT} {Eg : XK} {Ng : List Str} {qg : Str} {sg : Scope} {g f c' : Addr} {cdg pm ctv : Value} {params : Arguments} {body : Expr} {scope : Scope} {k i : Nat} {a : Str} {pn : List (Addr × Obj)} {xe : Value → Shared → Prop} {W : WX} {tb : XK → TE} {p1 p2 : Pos}
    (I : Inv X pins σ H s) (L : LamS X.env.scope scope) (hf : s.heap.get? f = some (PySem.W.kla_obj "<lambda>" (X.env.qual ++ "<lambda>") params body scope (L2.cloFrom X.env.cells scope.names []) pm c' ctv)) (hfn : H f = none) (hfr : f ∉ L2.frs X.stack)
    (hbind : bindArgs (PySem.W.kla_fn "<lambda>" (X.env.qual ++ "<lambda>") params body scope (L2.cloFrom X.env.cells scope.names []) pm (.ref c') ctv) ⟨[], []⟩ = pure [])
    (tk : L2.Takes ((L2.cxOf CXg X.prog X.w X.K X.mg X.base Ng qg sg g cdg X.A X.stack s H Eg).tr pn xe) W) (hr : Room (k + 1) (X.A.deeper (envOfC qg sg s.heap.objs.size g cdg)))
    (hbody : ∀ (A : Around) (outer : List Env) (s : Shared) (H : Hp) (E : XK), Room k (A.deeper (lamEnv X scope s.heap.objs.size f c')) → A.guards = X.A.guards → PE (lamCx X A outer s H E scope f c') body (tb E))
    (hN : Ng[i]? = some a) (hv : L2.Vis sg a) (hd : (a == ("__debug__" : Str)) = false) (hcd : (a == ("__classdict__" : Str)) = false) :
    PE ((L2.cxOf CXg X.prog X.w X.K X.mg X.base Ng qg sg g cdg X.A X.stack s H Eg).tr pn xe) (.Call (.Name a p1) [] [] p2)
      (fun σZ HZ Q => σZ[i]? = some (some (.ref f)) ∧ HZ c' = some (CodeO c' (X.env.qual ++ "<lambda>")) ∧ tb (fun cls d H' => W cls d σZ H') σ HZ Q) := by
  refine ⟨fun pinsZ sZ σZ HZ Q IZ ⟨at_, code, rd⟩ => ?_⟩
  have look := (L2.pe_var (pos := p1) (i := i) hN hv hd hcd).run pinsZ sZ σZ HZ (fun v H1 => v = .ref f ∧ H1 = HZ) IZ ⟨.ref f, at_, rfl, rfl⟩
  refine wpAny_Call_Name_kw (L2.thn look fun u s1 z => ?_)
  obtain ⟨v, H1, I1, r1, rfl, eH⟩ := z
  rw [eH] at I1
  obtain rfl : u = Value.ref f := r1
  have un : L2.Un (L2.frs X.stack) [] H HZ s.heap s1.heap := I1.base
  have of1 := un.keep f _ hf hfn hfr (fun z => nomatch (show f ∈ ([] : List Addr) from z))
  refine PySem.W.callWith_F0 ⟨_, _, _, _, of1⟩ ?_
  obtain ⟨⟨oc, vs, t, hoc, hdc, hvc⟩, _, _⟩ := I1.hok c' _ code
  have ran : codeAny (model X.prog X.w) (X.A.deeper (envOfC qg sg s.heap.objs.size g cdg)) (.call (.ref f) ⟨[], []⟩)
      (L2.CR (L2.CX X.prog X.w) (envOfC qg sg s.heap.objs.size g cdg :: X.stack) X.prog X.w HZ s1 Q (fun cls d H' => W cls d σZ H')) s1 := by
    refine PySem.W.kla_callFunE hr.depth of1 rfl L.co L.gen rfl ⟨c', oc, vs, t, rfl, hoc, hdc, hvc⟩ ?_
    rw [hbind]
    refine wpAny_pure (wpAny_newFunctionEnv (fun y hy => (L.own y hy).2) (fun y hy => absurd hy (by simp)) (fun h₁ hns hsb => ⟨I1.nolimit.fresh _ hsb, ?_⟩) L.kind)
    show codeAny _ _ (.expr body (lamEnv X scope s1.heap.objs.size f c')) _ _
    have kp : ∀ b o, s1.heap.get? b = some o → h₁.get? b = some o := fun b o e => hsb.extBut b o (Nat.ne_of_lt (Heap.lt_size e)) (Heap.get?_push_of_some _ e)
    have J := LamX.lam_start2 (c' := c') (f := f) (scope := scope) (E := fun cls d H' => W cls d σZ H') (A := X.A.deeper (envOfC qg sg s.heap.objs.size g cdg)) (outer := envOfC qg sg s.heap.objs.size g cdg :: X.stack) (tk := s1.toks + ([] : List (Str × Value)).length) I L I1.env0 hr.hd un hns kp
    refine PySem.W.kla_codeExpr (wpAny_mono ((hbody _ _ s1 HZ _ (hr.deeper _) rfl).run [] _ _ HZ Q J rd) (fun v s' hq => ?_) fun e s' hq => hq)
    obtain ⟨w', H', J', rv, q⟩ := hq
    exact ⟨w', H', J'.os, J'.bare, J'.base, J'.hok, rv, q⟩
  refine wpAny_call (codeAny_mono ran fun r s' hq => ?_)
  cases r with
  | error e => exact tk e s' (L2.XE.of_call I1 (fun cls d H' h => h) hq)
  | ok fl =>
    cases fl with
    | ret u => exact I1.after hq
    | _ => exact hq.elim
end
end Ds
end
section
set_option Elab.async false
set_option Elab.async false
set_option linter.all false
set_option maxRecDepth 100000
set_option maxHeartbeats 4000000
set_option autoImplicit false
/-! SndM: a def that is handed a thunk. -/
namespace Ds
open PySem PySem.Spec PyProof.Rows
open L2 (V Hp HO upd upd_same upd_ne RelV SqL SqT TE TA TT TS TG TI VK XK WX Cx Inv PE PA PT PTs PS PSs PG PGs PI It Walk PW Rd EP OpR tOp pe_op R2 rI rI0 Dp DpAll Room CallR tCB tCons tNil tTup tLst Gl Sp Ends exo exd OexC)
open Dl (D DV GS S R RC Ex Fl Le)
open LamX (CodeO TabS Tabs TabB lamEnv lamCx LamS)
/-- a thunk that answers as x tells -/
def ThkOk (K : PySem.W.Frag) (cad : String → Option Addr) (A : Option AS) (H : Hp) (g : Option GS) (x : D) (tl : XK → Hp → VK → Prop) : Prop :=
  ∀ (E : XK) (HZ : Hp) (Q : VK), Kept K A H A HZ → Per H HZ → GOk K A g HZ → (match Dl.decR x g with
    | .ok d g1 => ∀ A2 H2 v, Ext A A2 → Kept K A HZ A2 H2 → Per HZ H2 → GOk K A2 g1 H2 → Rp K A2 H2 v d → Q v H2
    | .ex e g1 => ∀ A2 H2 cls dd, Ext A A2 → Kept K A HZ A2 H2 → Per HZ H2 → GOk K A2 g1 H2 → ExR K cad A2 H2 cls dd e → E cls dd H2
    | .stuck => False) → tl E HZ Q
/-- what a def does with a thunk -/
def TTh (Γ : Gam) (f : String) (tl : XK → Hp → VK → Prop) (H : Hp) (Q : VK) : Prop := ∃ A g x, GOk Γ.K A g H ∧ ThkOk Γ.K Γ.cad A H g x tl ∧ (match Γ.call f [x] g with
    | .ok v g' => ∀ A' H' u, Ext A A' → Kept Γ.K A H A' H' → Per H H' → GOk Γ.K A' g' H' → Rp Γ.K A' H' u v → Q u H'
    | _ => False)
abbrev gCx (X : Cx) (Ng : List Str) (x : Str) (sg : Scope) (g : Addr) (cdg : Value) (s : Shared) (H : Hp) : Cx := L2.cxOf C8.CX0 X.prog X.w X.K X.mg X.base Ng x sg g cdg X.A X.stack s H C8.E0
/-- its body does so -/
def Gives (Γ : Gam) (X : Cx) (Ng : List Str) (f : String) (sg : Scope) (g : Addr) (cdg : Value) (bg : List Stmt) (a : Str) : Prop :=
  ∀ (fl c' : Addr) (s : Shared) (H : Hp) (Q : VK) (tl : XK → Hp → VK → Prop) (q : Str),
    (∀ (W : WX) (pn : List (Addr × Obj)) (xe : Value → Shared → Prop) (p1 p2 : Pos), L2.Takes ((gCx X Ng (Str.ofString f) sg g cdg s H).tr pn xe) W →
      PE ((gCx X Ng (Str.ofString f) sg g cdg s H).tr pn xe) (.Call (.Name a p1) [] [] p2) (fun σZ HZ Q => σZ[0]? = some (some (.ref fl)) ∧ HZ c' = some (CodeO c' q) ∧ tl (fun cls d H' => W cls d σZ H') HZ Q)) →
    H c' = some (CodeO c' q) → TTh Γ f tl H Q →
    ∃ t, PSs (gCx X Ng (Str.ofString f) sg g cdg s H).nox bg t ∧ t { nx := fun _ H' => Q .non H', rt := Q } (L2.start Ng [.ref fl]) H
/-- the def that is handed a thunk, as it is called here -/
structure CaughtOk (Γ : Gam) (X : Cx) (f : String) (k : Nat) : Prop where
  ok : ∃ g Ng a sg pg bg dV kV doc pm cdv ct oc an od osl, X.mg (Str.ofString f) = some (.ref g) ∧ PySem.W.keepIn X.K (.ref g) = true ∧
    List.lookup g X.K = some ⟨oc, od, .func (PySem.W.fnOf (Str.ofString f) (Str.ofString f) pg bg sg dV kV doc pm an cdv ct), osl⟩ ∧ PySem.W.codeIn X.K cdv (Str.ofString f) = true ∧
    L2.Binds X.K (PySem.W.fnOf (Str.ofString f) (Str.ofString f) pg bg sg dV kV doc pm an cdv ct) [a] [] ∧ L2.FnScope Ng [a] sg ∧ L2.Vis sg a ∧ (a == ("__debug__" : Str)) = false ∧ (a == ("__classdict__" : Str)) = false ∧ Gives Γ X Ng f sg g cdv bg a
  hr : Room (k + 2) X.A
/-- the def that makes a thunk: its code's table -/
structure MakesOk (Γ : Gam) (X : Cx) : Prop where
  ok : ∃ c P, TabB X.base X.mg c P ∧ X.env.code = .ref c ∧ (P, X.env.qual ++ "<lambda>") ∈ tabs Γ.K ∧ ∀ p ∈ tabs Γ.K, p.1 = P → p.2 = X.env.qual ++ "<lambda>"
section
variable {Γ : Gam} {W : WX} {X : Cx}
theorem sok_mono {A : Option AS} {g : Option GS} {H H' : Hp} (h : SOk A g H) (k1 : ∀ a kvs, H a = some (.dK kvs) → H' a = some (.dK kvs)) (k2 : ∀ a xs, H a = some (.lst xs) → H' a = some (.lst xs)) : SOk A g H' := by
  cases A with
  | none => cases g with
    | none => trivial
    | some _ => exact h.elim
  | some z => cases g with
    | none => exact h.elim
    | some g =>
      obtain ⟨h1, h2, h3, h4⟩ := h
      exact ⟨k1 _ _ h1, k2 _ _ h2, k2 _ _ h3, h4⟩
theorem wipe_nil (σ : List (Option V)) : L2.wipe σ [] = σ := rfl
theorem k_caught {f0 : String} {e : Ex} {k : Nat} {params : Arguments} {body : Expr} {scope : Scope} {p lpos pos : Pos} (C : CaughtOk Γ X f0 k) (M : MakesOk Γ X) (hK : X.K = Γ.K) (hg : Gl X (Str.ofString f0)) (hd : (Str.ofString f0 == ("__debug__" : Str)) = false)
    (L : LamS X.env.scope scope) (hdef : defaultsOf params X.env = ([], []))
    (hbind : ∀ (q : Str) (cl : List (Str × Addr)) (pm cv ctv : Value), bindArgs (PySem.W.kla_fn "<lambda>" q params body scope cl pm cv ctv) ⟨[], []⟩ = pure [])
    (hbody : ∀ (A : Around) (outer : List Env) (s : Shared) (H : Hp) (E : XK) (L f c' : Addr), Room k (A.deeper (lamEnv X scope L f c')) → A.guards = X.A.guards → PE (lamCx X A outer s H E scope f c') body (tI Γ (fun cls d _ H => E cls d H) e)) :
    PE X (.Call (.Name (Str.ofString f0) p) [.Lambda params body scope lpos] [] pos) (tI Γ W (.caught f0 e)) := by
  obtain ⟨⟨g0, Ng, a, sg, pg, bg, dV, kV, doc, pm, cdv, ct, oc, an, od, osl, hm, hk, lk, hcg, hb, Sg, hva, ha1, ha2, hG⟩, hr⟩ := C
  obtain ⟨c, P, TB, hcode, hmT, hu⟩ := M
  refine ⟨fun pins s σ H Q I ⟨A, e0, env, g, d, ou⟩ => ?_⟩
  simp only [Dl.evE] at ou
  refine wpAny_Call_Name_kw (L2.ld_glob I hg hm ?_ hd)
  refine PySem.W.callWith_K (h₀ := X.base) I.ok.mod.kin hk ?_ (by rfl) (by rfl)
  show wpAny _ _ (spliced ((false, eval (.Lambda params body scope lpos) X.env) :: backTo pos (starEach [] X.env))) _ _ s
  refine Calls.spliced_cons (lam_new I TB hcode hmT hu d.gok.2 hdef (L.has I.ok) fun f c' pm' ctv H1 s' I1 eN T1 hf hfn hfr hco => ?_)
  refine Calls.spliced_nil ⟨I1.kIn, ?_⟩
  obtain ⟨ps, hP, _⟩ := d.gok.2 _ hmT
  have no : ∀ {b : Addr} {o : HO}, H b = some o → (∀ ps, o ≠ .tbl ps) → H1 b = some o := fun {b o} h n => eN b o (fun z => by
    rw [z, hP] at h
    exact n ps (Option.some.inj h).symm) h
  have k1 : Kept Γ.K A H A H1 := fun b o h m => ⟨eN b o (fun z => m (.inr ⟨X.env.qual ++ "<lambda>", by rw [z]; exact hmT⟩)) h, m⟩
  have p1 : Per H H1 := ⟨fun b xs h => no h (fun _ z => nomatch z), fun b q u h => no h (fun _ z => nomatch z), fun b q h => no h (fun _ z => nomatch z), fun b q h => no h (fun _ z => nomatch z)⟩
  have gk1 : GOk Γ.K A g H1 := ⟨sok_mono d.gok.1 (fun b q h => no h (fun _ z => nomatch z)) (fun b q h => no h (fun _ z => nomatch z)), T1⟩
  have d1 := d.after (Ext.refl A) k1 p1 gk1
  -- the caller's slots as the lambda sees them
  have see : ∀ HZ : Hp, Kept Γ.K A H1 A HZ → Per H1 HZ → GOk Γ.K A g HZ → Γ.DI A ⟨A, HZ, []⟩ (Dl.inner [] env) g σ HZ := fun HZ kz pz gz => (d1.after (Ext.refl A) kz pz gz).blk []
  have tt : TTh Γ f0 (fun E H' Q' => tI Γ (fun cls d _ H => E cls d H) e σ H' Q') H1 Q := by
    cases ev : Dl.evE Γ.gl Γ.call e ⟨Dl.inner [] env, g⟩ with
    | stuck => rw [ev] at ou; exact ou.elim
    | ok dd s1 =>
      simp only [ev] at ou
      refine ⟨A, g, Dl.encOk g s1.g dd, gk1, fun E HZ Q' kz pz gz hz => ⟨A, ⟨A, HZ, []⟩, Dl.inner [] env, g, see HZ kz pz gz, ?_⟩, ?_⟩
      · rw [ev]
        rw [Dl.decR_ok] at hz
        exact fun A2 H2 ex d2 p2 v rv => hz A2 H2 v ex (fun a o h m => d2.keep a o h m) p2 d2.gok rv
      · split at ou
        · rename_i v g' ec
          try rw [ec]
          exact fun A' H' u ex kp pr go rp => ou A' H' ex (d1.after ex kp pr go) (p1.trans pr) u rp
        · exact ou.elim
    | ex xx s1 =>
      simp only [ev] at ou
      refine ⟨A, g, Dl.encEx g s1.g xx, gk1, fun E HZ Q' kz pz gz hz => ⟨A, ⟨A, HZ, []⟩, Dl.inner [] env, g, see HZ kz pz gz, ?_⟩, ?_⟩
      · rw [ev]
        rw [Dl.decR_ex] at hz
        exact fun A2 cls dd H2 ex d2 p2 er => hz A2 H2 cls dd ex (fun a o h m => d2.keep a o h m) p2 d2.gok er
      · split at ou
        · rename_i v g' ec
          try rw [ec]
          exact fun A' H' u ex kp pr go rp => ou A' H' ex (d1.after ex kp pr go) (p1.trans pr) u rp
        · exact ou.elim
  have rc : codeAny (model X.prog X.w) X.A (.call (.ref g0) ⟨[.ref f], []⟩) (L2.CR C8.CX0 X.stack X.prog X.w H1 s' Q C8.E0) s' := by
    refine LamX.run_ofS (N := Ng) (ps := [a]) (us := [.ref f]) (vs := [.ref f]) lk hcg Sg hr I1.env0 (hb s' [.ref f] I1.kIn rfl) (.cons rfl .nil) rfl fun hr' => ?_
    obtain ⟨t', ht', hq'⟩ := hG f c' s' H1 Q _ (X.env.qual ++ "<lambda>") (fun W pn xe p1 p2 tk => k_act (i := 0) (tb := fun E => tI Γ (fun cls d _ H => E cls d H) e) I1 L hf hfn hfr (hbind _ _ _ _ _) tk hr' (fun A outer s H E hr2 hgd => hbody A outer s H E _ f c' hr2 hgd) (by
      have := Sg.pre
      match Ng, this with
      | b :: l, h => injection h with h1 h2; rw [h1]; rfl) hva ha1 ha2) hco tt
    exact ⟨t', ht'.nox, hq'⟩
  refine wpAny_call (codeAny_mono rc fun r s2 hq => ?_)
  cases r with
  | error e => exact (show False from hq).elim
  | ok fl =>
    cases fl with
    | ret u => exact I1.after hq
    | _ => exact hq.elim
end
end Ds
end
section
set_option Elab.async false
set_option Elab.async false
set_option linter.all false
set_option maxRecDepth 100000
set_option maxHeartbeats 1000000
set_option autoImplicit false
/-! SndI: isinstance of the error at hand. -/
namespace Ds
open PySem PySem.Spec PyProof.Rows
open L2 (V Hp HO upd upd_same upd_ne RelV SqL SqT TE TA TT TS TG TI VK XK WX Cx Inv PE PA PT PTs PS PSs PG PGs PI It Walk PW Rd EP OpR tOp pe_op R2 rI rI0 Dp DpAll Room CallR tCB tCons tNil tTup tLst Gl Sp Ends exo exd OexC Zc)
open Dl (D DV GS S R RC Ex Fl Le)
/-- what isinstance(e, a class of one's own) asks for -/
def IsSOk (Γ : Gam) (X : Cx) (k : String) : Prop := ∃ b, X.mg (Str.ofString k) = some (.ref b) ∧ ∀ k' C, Γ.cad k' = some C → L2.ExcC X.K C ∧ PySem.W.kitOne X.K (.ref C) (.ref b) = some (k' == k || k == "SayError" || k == "ValueError")
/-- the error at hand is of a class -/
def IsEOk (Γ : Gam) (X : Cx) (k : String) : Prop := ∀ (W : WX) (i : Nat) (x : Str) (p p1 p2 pos : Pos), X.N[i]? = some x → L2.Vis X.env.scope x → (x == ("__debug__" : Str)) = false → (x == ("__classdict__" : Str)) = false → Gl X (Str.ofString k) → (Str.ofString k == ("__debug__" : Str)) = false → Bn X "isinstance" →
  PE X (.Call (.Name "isinstance" p) [.Name x p1, .Name (Str.ofString k) p2] [] pos) (tI Γ W (.isE i k))
theorem call_isE2 {X : Cx} {a D d' : Addr} {oe : Obj} {pn : List (Addr × Obj)} (C : L2.ExcC X.K D) (hz : Zc (.ref D) (some d') oe) (hf : ∃ vs, oe.data = .fields vs) :
    CallR (X.suite a ((a, oe) :: pn)) (.builtin "isinstance") (fun xs H Q => ∃ (b : Addr) (v : Bool) (vfs : List (Str × V)), xs = [.ref a, .ref b] ∧ PySem.W.kitOne X.K (.ref D) (.ref b) = some v ∧ H d' = some (.xd vfs) ∧ Q (.bl v) H) := by
  intro pins s σ H xs us Q I r h
  obtain ⟨b, v, vfs, rfl, e, hxd, q⟩ := h
  cases r with
  | cons rx rr =>
    cases rr with
    | cons rt rr =>
      cases rr
      cases rx
      cases rt
      obtain ⟨hget, _⟩ := I.pin (a, oe) (List.mem_append.mpr (.inl List.mem_cons_self))
      obtain ⟨vs, hv⟩ := hf
      obtain ⟨mA, ⟨od, es, ep, ho, _⟩, _⟩ := I.hok d' _ hxd
      have J : PySem.W.InstAt s.heap a oe D (some od) := by
        obtain ⟨oc, odd, oda, osl⟩ := oe
        obtain ⟨h1, h2⟩ := hz
        dsimp only at h1 h2 hv
        subst h1 h2 hv
        exact ⟨hget, rfl, rfl, ho⟩
      obtain ⟨cd, hcd, _⟩ := PySem.W.any_some C.hd
      exact PySem.W.kia_one (PySem.W.kitx_exc (by rw [hcd]; rfl) C.hg C.hk C.hs C.ha C.hn C.ht C.hm) I.kIn J e (fun z => nomatch z) fun tk => ⟨.bl v, H, I.kept (t' := tk) fun _ _ z => z, rfl, q⟩
theorem isE_suite {Γ : Gam} {X : Cx} {a : Addr} {oe : Obj} {cls : Value} {dd : Option Addr} {pn : List (Addr × Obj)} {k : String} (S : IsSOk Γ X k) (hZ : Zc cls dd oe) (hf : ∃ vs, oe.data = .fields vs) (hz : Γ.Z = some (a, cls, dd)) : IsEOk Γ (X.suite a ((a, oe) :: pn)) k :=
  fun W i x p p1 p2 pos hN hv hd hcd hg hgd B => ⟨fun pins s σ H Q I ⟨A, e0, env, g, d, ou⟩ => by
  simp only [Dl.evE] at ou
  split at ou
  · rename_i c fs e
    obtain ⟨v, h1, a', C, d', vfs, q, rfl, hcad, hxd, hfl⟩ := d.slot i _ (get_eq e)
    rw [hz] at q
    cases q
    obtain ⟨b, hm, hcl⟩ := S
    obtain ⟨EC, kit⟩ := hcl c C hcad
    have call := L2.pe_callB (p := p) (pos := pos) (call_isE2 (pn := pn) EC hZ hf) B.gl B.mg (by decide +kernel) (L2.pa_cons (L2.pe_var (X := X.suite a ((a, oe) :: pn)) (pos := p1) hN hv hd hcd) (L2.pa_cons (L2.pe_glob (X := X.suite a ((a, oe) :: pn)) (u := .ref b) (v := .ref b) (pos := p2) hg hm rfl hgd) L2.pa_nil rfl) rfl) (by decide) (by decide) rfl rfl
    exact call.run pins s σ H Q I ⟨_, h1, b, _, vfs, rfl, kit, hxd, Out.here (a := D.bl _) (s := ⟨env, g⟩) ou d _ (.bl _)⟩
  · exact ou.elim⟩
end Ds
end
section
set_option Elab.async false
set_option Elab.async false
set_option linter.all false
set_option maxRecDepth 100000
set_option maxHeartbeats 8000000
set_option autoImplicit false
/-! Snd17: is an expression of the text the one of the small syntax? -/
namespace Ds
open PySem PySem.Spec PyProof.Rows
open L2 (V Hp HO upd upd_same upd_ne RelV SqL SqT TE TA TT TS TG TI VK XK WX Cx Inv PE PA PT PTs PS PSs PG PGs PI It Walk PW Rd EP OpR tOp pe_op R2 rI rI0 Dp DpAll Room CallR tCB tCons tNil tTup tLst Gl Sp Ends exo exd OexC Zc Names Takes SP)
open Dl (D DV GS S R RC Ex Fl Le)
/-- how a value is wanted: kept, looked at, new, a test, walked in a statement, walked in a comprehension -/
inductive Md where
  | I | B | F | T | K | L
  deriving DecidableEq
/-- what a checker goes by -/
structure Ck where
  N : List Str
  sc : Scope
  bn : List Str
  sig : String → Option Nat
  fld : String → Bool
  calm : Bool
  top : Bool
  lev : Bool := true
  cls : String → Option String := fun _ => none
  ex : String → Bool := fun _ => false
  xf : String → Bool := fun _ => false
  thF : String → Bool := fun _ => false
  ie : String → Bool := fun _ => false
  ieS : String → Bool := fun _ => false
  exq : Bool := true
  dks : String → Option (List (String × String)) := fun _ => none
/-- a scope of a comprehension within a scope -/
def relS (s sc : Scope) : Scope := { s with names := s.names.map fun (n, k) => if (k == .free && sc.kind == .function && sc.names.lookup n == some .cell) then (n, .cell) else (n, k) }
def Ck.sub (c : Ck) (s : Scope) : Ck := { c with sc := relS s c.sc, fld := fun _ => false, top := false, thF := fun _ => false, ie := fun _ => false, exq := false }
/-- a lambda's scope within a scope -/
def Ck.lam (c : Ck) (s : Scope) : Ck := { c with sc := s, fld := fun _ => false, top := false, thF := fun _ => false, ie := fun _ => false, calm := true, exq := false }
def noPar (p : Arguments) : Bool := match p with
  | ⟨[], [], none, [], [], none, []⟩ => true
  | _ => false
def strip : Expr → Expr
  | .BoolOp _ [e] _ => e
  | e => e
def isBool : Expr → Bool
  | .BoolOp .. => true
  | _ => false
def isTup : Expr → Bool
  | .Tuple .. => true
  | _ => false
def plainT : Expr → Bool
  | .BoolOp .. => false
  | .UnaryOp .Not _ _ => false
  | .IfExp .. => false
  | .Compare .. => false
  | _ => true
def okN (x : Str) : Bool := !(x == ("__debug__" : Str)) && !(x == ("__classdict__" : Str))
def Ck.glo (c : Ck) (x : Str) : Bool := decide (c.sc.names.lookup x = some .globalImplicit) && okN x
def Ck.blt (c : Ck) (x : Str) : Bool := c.glo x && c.bn.contains x
def Ck.vis (c : Ck) (i : Nat) (x : Str) : Bool := decide (c.N[i]? = some x) && (match c.sc.names.lookup x with
  | some .local => true
  | some .cell => true
  | some .free => true
  | _ => false) && okN x
def Ck.slot (c : Ck) (i : Nat) (x : Str) : Bool := decide (c.N[i]? = some x) && (match c.sc.names.lookup x with
  | some .local => true
  | some .cell => c.top
  | _ => false)
def Ck.slots (c : Ck) : List Nat → List Expr → Bool
  | [], [] => true
  | i :: l, .Name x _ :: es => c.slot i x && c.slots l es
  | _, _ => false
def Ck.tgt (c : Ck) : Dl.Tgt → Expr → Bool
  | .one i, .Name x _ => c.slot i x
  | .many l, .Tuple es _ _ => c.slots l es
  | _, _ => false
def binOf : Operator → Option Dl.Op2
  | .Add => some .add
  | .Sub => some .sub
  | .Mult => some .mul
  | .FloorDiv => some .fdiv
  | .Mod => some .mod
  | .Pow => some .pow
  | _ => none
def b1N : Dl.Blt → Str
  | .len => "len"
  | .abs => "abs"
  | .max => "max"
  | .min => "min"
  | .sum => "sum"
  | .sorted => "sorted"
  | .tuple => "tuple"
  | .list => "list"
  | .int => "int"
def Md.ib : Md → Bool
  | .I => true
  | .B => true
  | _ => false
def Md.fib : Md → Bool
  | .F => true
  | m => m.ib
def Md.ibt : Md → Bool
  | .T => true
  | m => m.ib
/-- a block's scope fits: own names, names from without -/
def blkB (N : List Str) (sc s : Scope) (own : List (Str × Nat)) : Bool :=
  decide (s.kind = .function) && s.names.all (fun y => decide (s.names.lookup y.1 = some y.2) && (!(decide (y.2 = .free)) || (decide (sc.names.lookup y.1 = some .cell) || decide (sc.names.lookup y.1 = some .free))) &&
    (!(decide (y.2 = .local) || decide (y.2 = .cell)) || ((own.map fun x => x.1).contains y.1 || !(N.contains y.1)))) && own.all (fun p => decide (N[p.2]? = some p.1))
def ownOf (N : List Str) (own : List Nat) : List (Str × Nat) := own.filterMap fun i => (N[i]?).map fun x => (x, i)
def foldB : Expr → Bool
  | .Set .. => false
  | _ => true
mutual
def ck (c : Ck) : Ex → Md → Expr → Bool
  | .non, m, e => m.ib && match strip e with
    | .Constant .none _ _ => true
    | _ => false
  | .bl b, m, e => m.ib && match strip e with
    | .Constant (.bool b') _ _ => b == b'
    | _ => false
  | .int i, m, e => m.ib && match strip e with
    | .Constant (.int i') _ _ => i == i'
    | _ => false
  | .str s, m, e => m.ib && match strip e with
    | .Constant (.str s') _ _ => decide (s' = Str.ofString s)
    | _ => false
  | .var i, m, e => m.ibt && match strip e with
    | .Name x _ => c.vis i x
    | _ => false
  | .bor i, m, e => match m, strip e with
    | .B, .Name x _ => c.vis i x
    | .T, .Name x _ => false
    | _, _ => false
  | .gl s, m, e => m.ib && match strip e with
    | .Name x _ => decide (x = Str.ofString s) && c.glo x
    | _ => false
  | .tup l, m, e => m.ib && match strip e with
    | .Tuple es _ _ => ckA c l es && decide (l.length ≤ 100000)
    | _ => false
  | .lst l, m, e => m.fib && match strip e with
    | .List es _ => ckA c l es && decide (l.length ≤ 100000)
    | _ => false
  | .bin o a b, m, e => m.fib && match strip e with
    | .BinOp a' o' b' _ => decide (binOf o' = some o) && ck c a .B a' && ck c b .B b'
    | _ => false
  | .neg a, m, e => m.ib && match strip e with
    | .UnaryOp .USub a' _ => ck c a .B a'
    | _ => false
  | .cmp o a b, m, e => m.ibt && match strip e with
    | .Compare a' [o'] [b'] _ => decide (cmpOf o' = some o) && !(behindInMarks o' b') && ck c a .B a' && ck c b .B b'
    | _ => false
  | .chain o p a b d, m, e => m.ibt && match strip e with
    | .Compare a' [o', p'] [b', d'] _ => decide (cmpOf o' = some o) && decide (cmpOf p' = some p) && !(lastMarks [o', p'] [b', d']) && ck c a .B a' && ck c b .B b' && ck c d .B d'
    | _ => false
  | .isN a, m, e => m.ibt && match strip e with
    | .Compare a' [.Is] [.Constant .none _ _] _ => ck c a .B a'
    | _ => false
  | .notN a, m, e => m.ibt && match strip e with
    | .Compare a' [.IsNot] [.Constant .none _ _] _ => ck c a .B a'
    | _ => false
  | .and a b, m, e => match strip e with
    | .BoolOp .And (a' :: b' :: r) pos => (match m with
      | .T => ck c a .T a' && ck c b .T (.BoolOp .And (b' :: r) pos)
      | m => m.ib && ck c a .I a' && ck c b .I (.BoolOp .And (b' :: r) pos))
    | _ => false
  | .or a b, m, e => match strip e with
    | .BoolOp .Or (a' :: b' :: r) pos => (match m with
      | .T => ck c a .T a' && ck c b .T (.BoolOp .Or (b' :: r) pos)
      | m => m.ib && ck c a .I a' && ck c b .I (.BoolOp .Or (b' :: r) pos))
    | _ => false
  | .not a, m, e => match strip e with
    | .UnaryOp .Not a' _ => (match m with
      | .T => ck c a .T a'
      | m => m.ib && ck c a .I a')
    | _ => false
  | .ife d a b, m, e => match strip e with
    | .IfExp d' a' b' _ => ck c d .T d' && (match m with
      | .F => ck c a .F a' && ck c b .F b'
      | m => m.ib && ck c a .I a' && ck c b .I b')
    | _ => false
  | .ix a i, m, e => m.ibt && match strip e with
    | .Subscript a' i' _ => noSlice i' && ck c a .B a' && ck c i .B i'
    | _ => false
  | .sl a lo hi, m, e => m.fib && match strip e with
    | .Subscript a' (.Slice lo' hi' none _) _ => ck c a .B a' && (match lo' with
        | none => (match lo with
          | .non => true
          | _ => false)
        | some b => (match lo with
          | .non => false
          | _ => true) && ck c lo .I b) && (match hi' with
        | none => (match hi with
          | .non => true
          | _ => false)
        | some b => (match hi with
          | .non => false
          | _ => true) && ck c hi .I b)
    | _ => false
  | .call f l, m, e => m.ibt && c.calm && match strip e with
    | .Call (.Name x _) (a' :: es) [] _ => decide (x = Str.ofString f) && c.glo x && decide (c.sig f = some l.length) && (a' :: es).all noStar && ckA c l (a' :: es)
    | _ => false
  | .b1 f a, m, e => m.fib && c.calm && match strip e with
    | .Call (.Name x _) [a'] [] _ => decide (x = b1N f) && c.blt x && noStar a' && ck c a .B a'
    | _ => false
  | .b2 f a b, m, e => m.fib && c.calm && match strip e with
    | .Call (.Name x _) [a', b'] [] _ => (decide (f = .max) || decide (f = .min)) && decide (x = b1N f) && c.blt x && noStar a' && noStar b' && ck c a .B a' && ck c b .B b'
    | _ => false
  | .isi a t, m, e => m.ibt && match strip e with
    | .Call (.Name x _) [a', .Name y _] [] _ => decide (x = ("isinstance" : Str)) && decide (y = Str.ofString (tyN t)) && c.blt x && c.blt y && noStar a' && ck c a .B a'
    | _ => false
  | .isE i k, m, e => m.ibt && match strip e with
    | .Call (.Name y _) [.Name x _, .Name z _] [] _ => decide (y = ("isinstance" : Str)) && decide (z = Str.ofString k) && c.ie k && c.blt y && c.glo z && c.vis i x
    | _ => false
  | .slr _, _, _ => false
  | .lrev _, _, _ => false
  | .cnt _ _, _, _ => false
  | .lcX x t own i d, m, e => m.fib && c.calm && c.exq && match strip e with
    | .ListComp x' [⟨t', i', ifs, 0⟩] s _ => foldB i' && (match i with
        | .iEnum _ => isTup t'
        | .iZip _ _ => isTup t'
        | _ => true) && ck c i .L i' && blkB c.N c.sc s (ownOf c.N own) && decide ((ownOf c.N own).map (fun x => x.2) = own) && (c.sub s).tgt t t' && (tgtL t).all (fun j => own.contains j) && ck (c.sub s) x .I x' && (match ifs, d with
        | [], .bl true => true
        | [d'], d => ck (c.sub s) d .T d'
        | _, _ => false)
    | _ => false
  | .kix x t i, m, e => m.ibt && match strip e with
    | .Subscript (.Name y _) (.Name z _) _ => decide (y = Str.ofString x) && c.glo y && decide (c.dks x = some t) && c.vis i z
    | _ => false
  | .lit2 a b k d i, m, e => m.ibt && match strip e with
    | .Subscript (.Dict [some (.Constant (.str a') _ _), some (.Constant (.str k') _ _)] [.Constant (.str b') _ _, .Constant (.str d') _ _] _) (.Name z _) _ => decide (a' = Str.ofString a) && decide (k' = Str.ofString k) && decide (b' = Str.ofString b) && decide (d' = Str.ofString d) && c.vis i z
    | _ => false
  | .keys a, m, e => m.fib && c.calm && match strip e with
    | .Call (.Name x _) [a'] [] _ => decide (x = ("sorted" : Str)) && c.blt x && noStar a' && ck c a .B a'
    | _ => false
  | .dix a i, m, e => m.ibt && match strip e with
    | .Subscript a' i' _ => noSlice i' && ck c a .B a' && ck c i .B i'
    | _ => false
  | .dc kx vx t own i d, m, e => m.ib && c.calm && match strip e with
    | .DictComp k' v' [⟨t', i', ifs, 0⟩] s _ => foldB i' && (match i with
        | .iEnum _ => isTup t'
        | .iZip _ _ => isTup t'
        | _ => true) && ck c i .L i' && blkB c.N c.sc s (ownOf c.N own) && decide ((ownOf c.N own).map (fun x => x.2) = own) && (c.sub s).tgt t t' && (tgtL t).all (fun j => own.contains j) && ck (c.sub s) kx .I k' && ck (c.sub s) vx .I v' && (match ifs, d with
        | [], .bl true => true
        | [d'], d => ck (c.sub s) d .T d'
        | _, _ => false)
    | _ => false
  | .caught f x, m, e => m.ibt && c.calm && match strip e with
    | .Call (.Name y _) [.Lambda params body scope _] [] _ => decide (y = Str.ofString f) && c.glo y && c.thF f && noPar params && LamX.lamSB c.sc scope && ck (c.lam scope) x .I body
    | _ => false
  | .fld i f, m, e => m.ib && match strip e with
    | .Attribute (.Name x _) g _ => decide (g = Str.ofString f) && c.fld f && c.vis i x
    | _ => false
  | .like a b, m, e => m.ibt && c.calm && match strip e with
    | .Compare (.Call (.Name x _) [a'] [] _) [.Eq] [.Call (.Name y _) [b'] [] _] _ => decide (x = ("repr" : Str)) && decide (y = ("repr" : Str)) && c.blt x && noStar a' && noStar b' && ck c a .B a' && ck c b .B b'
    | _ => false
  | .lc x t own i d, m, e => m.fib && c.calm && match strip e with
    | .ListComp x' [⟨t', i', ifs, 0⟩] s _ => foldB i' && (match i with
        | .iEnum _ => isTup t'
        | .iZip _ _ => isTup t'
        | _ => true) && ck c i .L i' && blkB c.N c.sc s (ownOf c.N own) && decide ((ownOf c.N own).map (fun x => x.2) = own) && (c.sub s).tgt t t' && (tgtL t).all (fun j => own.contains j) && ck (c.sub s) x .I x' && (match ifs, d with
        | [], .bl true => true
        | [d'], d => ck (c.sub s) d .T d'
        | _, _ => false)
    | _ => false
  | .iSeq a, m, e => match m with
    | .K => ck c a .I e
    | .L => ck c a .B e
    | _ => false
  | .iRng a, m, e => (m == .K || m == .L) && match e with
    | .Call (.Name x _) [a'] [] _ => decide (x = ("range" : Str)) && c.blt x && noStar a' && (match m with
      | .K => ck c a .I a'
      | _ => ck c a .B a')
    | _ => false
  | .iRng2 a b, m, e => (m == .K || m == .L) && match e with
    | .Call (.Name x _) [a', b'] [] _ => decide (x = ("range" : Str)) && c.blt x && noStar a' && noStar b' && (match m with
      | .K => ck c a .I a' && ck c b .I b'
      | _ => ck c a .B a' && ck c b .B b')
    | _ => false
  | .iEnum a, m, e => (m == .K || m == .L) && match e with
    | .Call (.Name x _) [a'] [] _ => decide (x = ("enumerate" : Str)) && c.blt x && noStar a' && (match m with
      | .K => ck c a .I a'
      | _ => ck c a .B a')
    | _ => false
  | .iZip a b, m, e => (m == .K || m == .L) && match e with
    | .Call (.Name x _) [a', b'] [] _ => decide (x = ("zip" : Str)) && c.blt x && noStar a' && noStar b' && (ck c a .I a' && ck c b .I b')
    | _ => false
  | .iRev a, m, e => (m == .K || m == .L) && match e with
    | .Call (.Name x _) [a'] [] _ => decide (x = ("reversed" : Str)) && c.blt x && noStar a' && (match m with
      | .K => ck c a .I a'
      | _ => ck c a .B a')
    | _ => false
  | .stAt i, m, e => m.ib && match strip e with
    | .Subscript (.Name x _) (.Constant (.str k) _ _) _ => decide (k = ("at" : Str)) && c.vis i x
    | _ => false
  | .stLen i, m, e => m.ib && match strip e with
    | .Call (.Name y _) [.Subscript (.Name x _) (.Constant (.str k) _ _) _] [] _ => decide (y = ("len" : Str)) && decide (k = ("cells" : Str)) && c.blt y && c.vis i x
    | _ => false
  | .stCell i a, m, e => m.ib && match strip e with
    | .Subscript (.Subscript (.Name x _) (.Constant (.str k) _ _) _) b _ => decide (k = ("cells" : Str)) && c.vis i x && noSlice b && ck c a .I b
    | _ => false
  | .stLeft i a, m, e => m.ib && match strip e with
    | .Subscript (.Subscript (.Name x _) (.Constant (.str k) _ _) _) b _ => decide (k = ("lefts" : Str)) && c.vis i x && noSlice b && ck c a .I b
    | _ => false
def ckA (c : Ck) : List Ex → List Expr → Bool
  | [], [] => true
  | x :: l, e :: es => noStar e && ck c x .I e && ckA c l es
  | _, _ => false
end
/-- the context a checker's answer is good for -/
structure Ctx (Γ : Gam) (X : Cx) (W : WX) (c : Ck) : Prop where
  K : X.K = Γ.K
  N : X.N = c.N
  nd : X.N.Nodup
  sc : X.env.scope = c.sc
  fn : c.sc.kind = .function
  calm : c.calm = true → X.calm = true
  un : X.A.units + 102 < cLine
  gd : X.A.guards = some []
  bn : ∀ x, c.bn.contains x = true → X.mg x = none
  gl : ∀ x, GlOk Γ X x
  calls : c.calm = true → ∀ f n, c.sig f = some n → CallOk Γ X f n
  fld : ∀ f, c.fld f = true → FldOk Γ X f
  tk : Dx.TakesF X W
  tkx : c.exq = true → Takes X W ∧ X.stack = X.env :: X.outer ∧ X.env.frame = some X.env.locals
  top : c.top = true → ∀ x, X.fn x = true
  cau : c.calm = true → ∀ f, c.thF f = true → ∃ k, CaughtOk Γ X f k ∧ MakesOk Γ X ∧ ∀ (A : Around) (outer : List Env) (s : Shared) (H : Hp) (E : XK) (scope : Scope) (f' c' : Addr), Room k (A.deeper (LamX.lamEnv X scope s.heap.objs.size f' c')) → A.guards = X.A.guards →
    (A.deeper (LamX.lamEnv X scope s.heap.objs.size f' c')).units + 102 < cLine ∧ ∀ h n, c.sig h = some n → CallOk Γ (LamX.lamCx X A outer s H E scope f' c') h n
  ie : ∀ k, c.ie k = true → IsEOk Γ X k
  dk : ∀ x t, c.dks x = some t → DkOk X x t
def tgOk : Ex → Expr → Bool
  | .iEnum _, t => isTup t
  | .iZip _ _, t => isTup t
  | _, _ => true
def Good (Γ : Gam) (X : Cx) (W : WX) (m : Md) (x : Ex) (e : Expr) : Prop := match m with
  | .I => PE X e (tI Γ W x)
  | .B => PE X e (tB Γ W x)
  | .F => PE X e (tF Γ W x)
  | .T => PT X e (tT Γ W x) ∧ (isBool e = true → PW X e (tT Γ W x))
  | .K => ∀ tg, tgOk x tg = true → PI X tg e (tItK Γ W x)
  | .L => ∀ tg, tgOk x tg = true → PI X tg e (tItB Γ W x)
section
variable {Γ : Gam} {W : WX} {X : Cx} {c : Ck} {m : Md} {x : Ex} {e : Expr}
theorem good_strip (hm : m ≠ .K ∧ m ≠ .L) (h : Good Γ X W m x (strip e)) : Good Γ X W m x e := by
  unfold strip at h
  split at h
  · rename_i op e' pos
    cases m with
    | I => exact L2.pe_one h
    | B => exact L2.pe_one h
    | F => exact L2.pe_one h
    | T =>
      have w : PW X (.BoolOp op [e'] pos) (tT Γ W x) := by
        cases op
        · exact L2.pw_and1 h.1
        · exact L2.pw_or1 h.1
      exact ⟨w.pt, fun _ => w⟩
    | K => exact absurd rfl hm.1
    | L => exact absurd rfl hm.2
  · exact h
theorem good_I (hm : m.ib = true) (h : PE X e (tI Γ W x)) : Good Γ X W m x e := by
  cases m <;> first | (cases hm; done) | exact h | exact PE.toB h
theorem good_F (hm : m.fib = true) (h : PE X e (tF Γ W x)) : Good Γ X W m x e := by
  cases m <;> first | (cases hm; done) | exact h | exact PE.toI h | exact PE.toB (PE.toI h)
theorem good_IT (hm : m.ibt = true) (h : PE X e (tI Γ W x)) (ht : m = .T → PT X e (tT Γ W x)) (hb : isBool e = false) : Good Γ X W m x e := by
  cases m with
  | T => exact ⟨ht rfl, fun z => by rw [hb] at z; cases z⟩
  | I => exact h
  | B => exact PE.toB h
  | F => cases hm
  | K => cases hm
  | L => cases hm
theorem plain_isTrue (h : plainT e = true) (env : Env) : ∀ whole, isTrue e env whole = (do let v ← whole; standAt e.pos; holding [v] (truthy v)) := by
  intro whole
  cases e <;> first | rfl | (cases h; done) | skip
  rename_i op a pos
  cases op <;> first | rfl | (cases h; done)
theorem good_IP (hm : m.ibt = true) (h : PE X e (tI Γ W x)) (hp : plainT e = true) : Good Γ X W m x e :=
  good_IT hm h (fun _ => q_val h (plain_isTrue hp _)) (by cases e <;> first | rfl | cases hp)
theorem ib_ne (h : m.ib = true) : m ≠ .K ∧ m ≠ .L := by cases m <;> first | (cases h; done) | exact ⟨by decide, by decide⟩
theorem fib_ne (h : m.fib = true) : m ≠ .K ∧ m ≠ .L := by cases m <;> first | (cases h; done) | exact ⟨by decide, by decide⟩
theorem ibt_ne (h : m.ibt = true) : m ≠ .K ∧ m ≠ .L := by cases m <;> first | (cases h; done) | exact ⟨by decide, by decide⟩
theorem okN_ok {x : Str} (h : okN x = true) : (x == ("__debug__" : Str)) = false ∧ (x == ("__classdict__" : Str)) = false := by
  unfold okN at h
  rw [Bool.and_eq_true] at h
  exact ⟨by simpa using h.1, by simpa using h.2⟩
theorem Ctx.vis (C : Ctx Γ X W c) {i : Nat} {x : Str} (h : c.vis i x = true) : X.N[i]? = some x ∧ L2.Vis X.env.scope x ∧ (x == ("__debug__" : Str)) = false ∧ (x == ("__classdict__" : Str)) = false := by
  unfold Ck.vis at h
  rw [Bool.and_eq_true, Bool.and_eq_true] at h
  obtain ⟨⟨h1, h2⟩, h3⟩ := h
  refine ⟨by rw [C.N]; exact of_decide_eq_true h1, ?_, okN_ok h3⟩
  rw [C.sc]
  split at h2
  · rename_i q; exact .inl q
  · rename_i q; exact .inr (.inl q)
  · rename_i q; exact .inr (.inr q)
  · cases h2
theorem Ctx.slot (C : Ctx Γ X W c) {i : Nat} {x : Str} (h : c.slot i x = true) : Slot1 X i x := by
  unfold Ck.slot at h
  rw [Bool.and_eq_true] at h
  obtain ⟨h1, h2⟩ := h
  have hN : X.N[i]? = some x := by rw [C.N]; exact of_decide_eq_true h1
  split at h2
  · rename_i q
    rw [← C.sc] at q
    exact ⟨C.nd, hN, .inl q, .inr q⟩
  · rename_i q
    rw [← C.sc] at q
    exact ⟨C.nd, hN, .inr q, .inl (C.top h2 x)⟩
  · cases h2
theorem Ctx.slots (C : Ctx Γ X W c) : ∀ {l : List Nat} {es : List Expr}, c.slots l es = true → Slots X l es
  | [], [], _ => .nil
  | i :: l, e :: es, h => by
    cases e with
    | Name x p =>
      simp only [Ck.slots, Bool.and_eq_true] at h
      exact .cons (C.slot h.1) (C.slots h.2)
    | _ => simp [Ck.slots] at h
  | [], _ :: _, h => by simp [Ck.slots] at h
  | _ :: _, [], h => by simp [Ck.slots] at h
theorem Ctx.glo (C : Ctx Γ X W c) {x : Str} (h : c.glo x = true) : Gl X x ∧ (x == ("__debug__" : Str)) = false := by
  unfold Ck.glo at h
  rw [Bool.and_eq_true] at h
  refine ⟨?_, (okN_ok h.2).1⟩
  show X.env.scope.names.lookup x = _
  rw [C.sc]
  exact of_decide_eq_true h.1
theorem Ctx.blt (C : Ctx Γ X W c) {x : Str} (h : c.blt x = true) : Bn X x := by
  unfold Ck.blt at h
  rw [Bool.and_eq_true] at h
  exact ⟨(C.glo h.1).1, C.bn x h.2⟩
theorem k_bin (C : Ctx Γ X W c) {op : Operator} {o : Dl.Op2} {a b : Expr} {x y : Ex} {pos : Pos} (ho : binOf op = some o) (ha : PE X a (tB Γ W x)) (hb : PE X b (tB Γ W y)) : PE X (.BinOp a op b pos) (tF Γ W (.bin o x y)) := by
  cases op <;> simp only [binOf] at ho <;> cases ho
  · exact k_add C.K ha hb
  · exact k_sub ha hb
  · exact k_mul C.K ha hb
  · exact k_mod ha hb
  · exact k_pow ha hb
  · exact k_fdiv ha hb
theorem k_one (C : Ctx Γ X W c) (hc : c.calm = true) {f : Dl.Blt} {a : Expr} {y : Ex} {p pos : Pos} (hb : c.blt (b1N f) = true) (hs : noStar a = true) (ha : PE X a (tB Γ W y)) : PE X (.Call (.Name (b1N f) p) [a] [] pos) (tF Γ W (.b1 f y)) := by
  have B := C.blt hb
  cases f
  · exact k_len C.K B hs ha
  · exact k_abs B hs ha
  · exact k_max C.K (C.calm hc) B hs ha
  · exact k_min C.K (C.calm hc) B hs ha
  · exact k_sum C.K (C.calm hc) B hs ha
  · exact k_sorted C.K B hs ha
  · exact k_tuple C.K B hs ha
  · exact k_list C.K B hs ha
  · exact k_int1 B hs ha
theorem blk_ok {N : List Str} {sc s : Scope} {own : List (Str × Nat)} (h : blkB N sc s own = true) : L2.BlkOk N sc s own := by
  unfold blkB at h
  rw [Bool.and_eq_true, Bool.and_eq_true] at h
  obtain ⟨⟨h1, h2⟩, h3⟩ := h
  rw [List.all_eq_true] at h2 h3
  refine ⟨of_decide_eq_true h1, fun y hy => ?_, fun p hp => of_decide_eq_true (h3 p hp), fun y hy e => ?_, fun y hy e => ?_⟩
  · have := h2 y hy
    rw [Bool.and_eq_true, Bool.and_eq_true] at this
    exact of_decide_eq_true this.1.1
  · have := h2 y hy
    rw [Bool.and_eq_true, Bool.and_eq_true] at this
    have q := this.1.2
    simp only [e, decide_true, Bool.not_true, Bool.false_or, Bool.or_eq_true, decide_eq_true_eq] at q
    exact q
  · have := h2 y hy
    rw [Bool.and_eq_true, Bool.and_eq_true] at this
    have q := this.2
    have e' : (decide (y.2 = .local) || decide (y.2 = .cell)) = true := by simpa using e
    rw [e'] at q
    simpa using q
theorem fold_ok {i : Expr} (h : foldB i = true) (env : Env) : ∀ x, foldedSetIterable i env x = pure x := by
  intro x
  cases i <;> first | rfl | (cases h; done)
theorem Ctx.sub (C : Ctx Γ X W c) {s : Shared} {H : Hp} {scope : Scope} {Ca : Addr} {cl : List (Str × Addr)} {fp : List Addr} (hk : scope.kind = .function) : Ctx Γ (X.blk s H scope (compEnvC scope cl Ca X.env) fp) W0 (c.sub scope) :=
  ⟨C.K, C.N, C.nd, by
    show relabel scope X.env = relS scope c.sc
    unfold relabel relS
    rw [← C.sc]
    rfl, hk, C.calm, C.un, C.gd, C.bn, fun x => C.gl x, fun h f n q => by
      obtain ⟨⟨k, a, fd, ps, F, r⟩, g⟩ := C.calls h f n q
      exact ⟨⟨k, a, fd, ps, F, r⟩, g⟩, fun f h => (nomatch h), fun _ _ ⟨_, _, _, _, _, _, _, _, _, _, _, _, _, _, _, _, w⟩ => w.elim, fun h => (nomatch h), fun h => (nomatch h), fun _ _ h => (nomatch h), fun _ h => (nomatch h), fun x t h => C.dk x t h⟩
theorem Ctx.subX (C : Ctx Γ X W c) (σ : L2.St) {s : Shared} {H : Hp} {scope : Scope} {Ca : Addr} {cl : List (Str × Addr)} {fp : List Addr} (hk : scope.kind = .function) : Ctx Γ (Dx.bX X W σ s H scope (compEnvC scope cl Ca X.env) fp) (Dx.Wo W σ) (c.sub scope) :=
  ⟨C.K, C.N, C.nd, by
    show relabel scope X.env = relS scope c.sc
    unfold relabel relS
    rw [← C.sc]
    rfl, hk, C.calm, C.un, C.gd, C.bn, fun x => C.gl x, fun h f n q => by
      obtain ⟨⟨k, a, fd, ps, F, r⟩, g⟩ := C.calls h f n q
      exact ⟨⟨k, a, fd, ps, F, r⟩, g⟩, fun f h => (nomatch h), Dx.bX_takes, fun h => (nomatch h), fun h => (nomatch h), fun _ _ h => (nomatch h), fun _ h => (nomatch h), fun x t h => C.dk x t h⟩
end
end Ds
end
section
set_option Elab.async false
set_option Elab.async false
set_option linter.all false
set_option maxRecDepth 100000
set_option maxHeartbeats 8000000
set_option autoImplicit false
/-! Snd18: the checker of expressions is right. -/
namespace Ds
open PySem PySem.Spec PyProof.Rows
open L2 (V Hp HO upd upd_same upd_ne RelV SqL SqT TE TA TT TS TG TI VK XK WX Cx Inv PE PA PT PTs PS PSs PG PGs PI It Walk PW Rd EP OpR tOp pe_op R2 rI rI0 Dp DpAll Room CallR tCB tCons tNil tTup tLst Gl Sp Ends exo exd OexC Zc Names Takes SP)
open Dl (D DV GS S R RC Ex Fl Le)
theorem ckB {Γ : Gam} {X : Cx} {W : WX} {c : Ck} {x : Ex} {e : Expr} (h : Good Γ X W .B x e) : PE X e (tB Γ W x) := h
theorem partOk_of {Γ : Gam} {X : Cx} {W : WX} {c : Ck} {x : Ex} {o : Option Expr} (h : (match o with
    | none => (match x with
      | .non => true
      | _ => false)
    | some b => (match x with
      | .non => false
      | _ => true) && ck c x .I b) = true) (ih : ∀ e, ck c x .I e = true → Good Γ X W .I x e) : PartOk X Γ W o x := by
  cases o with
  | none => cases x <;> first | (cases h; done) | exact .inl ⟨rfl, rfl⟩
  | some b =>
    simp only [Bool.and_eq_true] at h
    refine .inr ⟨b, rfl, ?_, ih b h.2⟩
    intro z
    subst z
    simp at h
/-- the reading of a target -/
def tgG (K : PySem.W.Frag) : Dl.Tgt → TG
  | .one i => L2.gName i
  | .many l => L2.gTup K l.length (gSl l)
theorem tgt_ok {Γ : Gam} {X : Cx} {W : WX} {c : Ck} (C : Ctx Γ X W c) (hc : X.calm = true) {t : Dl.Tgt} {e : Expr} (h : c.tgt t e = true) : PG X e (tgG Γ.K t) ∧ GOf Γ t (tgG Γ.K t) := by
  cases t with
  | one i =>
    cases e with
    | Name x p =>
      have L := C.slot (show c.slot i x = true from h)
      exact ⟨L2.pg_name L.nd L.at_ L.loc L.fn, g_one (x := x)⟩
    | _ => cases h
  | many l =>
    cases e with
    | Tuple es k pos => exact g_many C.K hc (C.slots (show c.slots l es = true from h))
    | _ => cases h
theorem tgt_g {Γ : Gam} {c : Ck} {t : Dl.Tgt} {e : Expr} (h : ∃ X W, Ctx Γ X W c ∧ X.calm = true) (ht : c.tgt t e = true) : GOf Γ t (tgG Γ.K t) := by
  obtain ⟨X, W, C, hc⟩ := h
  exact (tgt_ok C hc ht).2
theorem own_fst {N : List Str} : ∀ {own : List Nat} {p : Str × Nat}, p ∈ ownOf N own → N[p.2]? = some p.1 := fun {own p} h => by
  obtain ⟨i, hi, e⟩ := List.mem_filterMap.mp h
  cases q : N[i]? with
  | none => rw [q] at e; cases e
  | some x => rw [q] at e; cases e; exact q
/-- the context of a lambda's body -/
theorem lam_ctx {Γ : Gam} {X : Cx} {W : WX} {c : Ck} (C : Ctx Γ X W c) {A : Around} {outer : List Env} {s : Shared} {H : Hp} {E : XK} {scope : Scope} {f' c' : Addr} (L : LamX.LamS X.env.scope scope)
    (inn : (A.deeper (LamX.lamEnv X scope s.heap.objs.size f' c')).units + 102 < cLine ∧ ∀ h n, c.sig h = some n → CallOk Γ (LamX.lamCx X A outer s H E scope f' c') h n) (hg : A.guards = X.A.guards) : Ctx Γ (LamX.lamCx X A outer s H E scope f' c') (fun cls d _ H => E cls d H) (c.lam scope) where
  K := C.K
  N := C.N
  nd := C.nd
  sc := rfl
  fn := L.kind
  calm := fun _ => rfl
  un := inn.1
  gd := hg.trans C.gd
  bn := C.bn
  gl := fun x => C.gl x
  calls := fun _ h n q => inn.2 h n q
  fld := fun f h => nomatch h
  tk := Dx.TakesF.of (L2.takes_of rfl rfl rfl rfl)
  tkx := fun h => nomatch h
  dk := fun x t h => C.dk x t h
  top := fun h => nomatch h
  cau := fun _ f h => nomatch h
  ie := fun k h => nomatch h
mutual
theorem ck_ok : ∀ (x : Ex) {Γ : Gam} {X : Cx} {W : WX} {c : Ck} {m : Md} {e : Expr}, Ctx Γ X W c → ck c x m e = true → Good Γ X W m x e
  | .non, Γ, X, W, c, m, e, C, h => by
    simp only [ck, Bool.and_eq_true] at h
    refine good_strip (ib_ne h.1) (good_I h.1 ?_)
    have h2 := h.2
    split at h2
    · rename_i q; rw [q]; exact k_non
    · cases h2
  | .bl b, Γ, X, W, c, m, e, C, h => by
    simp only [ck, Bool.and_eq_true] at h
    refine good_strip (ib_ne h.1) (good_I h.1 ?_)
    have h2 := h.2
    split at h2
    · rename_i q
      rw [q]
      have e := eq_of_beq h2
      subst e
      exact k_bl
    · cases h2
  | .int i, Γ, X, W, c, m, e, C, h => by
    simp only [ck, Bool.and_eq_true] at h
    refine good_strip (ib_ne h.1) (good_I h.1 ?_)
    have h2 := h.2
    split at h2
    · rename_i q
      rw [q]
      have e := eq_of_beq h2
      subst e
      exact k_int
    · cases h2
  | .str s, Γ, X, W, c, m, e, C, h => by
    simp only [ck, Bool.and_eq_true] at h
    refine good_strip (ib_ne h.1) (good_I h.1 ?_)
    have h2 := h.2
    split at h2
    · rename_i q
      rw [q]
      have e := of_decide_eq_true h2
      subst e
      exact k_str
    · cases h2
  | .var i, Γ, X, W, c, m, e, C, h => by
    simp only [ck, Bool.and_eq_true] at h
    have h2 := h.2
    split at h2
    · rename_i q
      obtain ⟨h1, h2, h3, h4⟩ := C.vis h2
      refine good_strip (ibt_ne h.1) ?_
      rw [q]
      exact good_IP h.1 (k_var h1 h2 h3 h4) rfl
    · cases h2
  | .bor i, Γ, X, W, c, m, e, C, h => by
    simp only [ck] at h
    split at h
    · rename_i q
      obtain ⟨h1, h2, h3, h4⟩ := C.vis h
      refine good_strip ⟨by decide, by decide⟩ ?_
      rw [q]
      exact k_bor h1 h2 h3 h4
    · cases h
    · cases h
  | .gl s, Γ, X, W, c, m, e, C, h => by
    simp only [ck, Bool.and_eq_true] at h
    refine good_strip (ib_ne h.1) (good_I h.1 ?_)
    have h2 := h.2
    split at h2
    · rename_i q
      rw [q]
      rw [Bool.and_eq_true] at h2
      have e := of_decide_eq_true h2.1
      subst e
      obtain ⟨h3, h4⟩ := C.glo h2.2
      exact k_gl (C.gl s) h3 h4
    · cases h2
  | .tup l, Γ, X, W, c, m, e, C, h => by
    simp only [ck, Bool.and_eq_true] at h
    refine good_strip (ib_ne h.1) (good_I h.1 ?_)
    have h2 := h.2
    split at h2
    · rename_i q
      rw [q]
      rw [Bool.and_eq_true] at h2
      exact k_tup (ckA_ok l C h2.1) (of_decide_eq_true h2.2)
    · cases h2
  | .lst l, Γ, X, W, c, m, e, C, h => by
    simp only [ck, Bool.and_eq_true] at h
    refine good_strip (fib_ne h.1) (good_F h.1 ?_)
    have h2 := h.2
    split at h2
    · rename_i q
      rw [q]
      rw [Bool.and_eq_true] at h2
      exact k_lst (ckA_ok l C h2.1) (of_decide_eq_true h2.2)
    · cases h2
  | .bin o a b, Γ, X, W, c, m, e, C, h => by
    simp only [ck, Bool.and_eq_true] at h
    refine good_strip (fib_ne h.1) (good_F h.1 ?_)
    have h2 := h.2
    split at h2
    · rename_i q
      rw [q]
      simp only [Bool.and_eq_true] at h2
      exact k_bin C (of_decide_eq_true h2.1.1) (ck_ok a (m := .B) C h2.1.2) (ck_ok b (m := .B) C h2.2)
    · cases h2
  | .neg a, Γ, X, W, c, m, e, C, h => by
    simp only [ck, Bool.and_eq_true] at h
    refine good_strip (ib_ne h.1) (good_I h.1 ?_)
    have h2 := h.2
    split at h2
    · rename_i q
      rw [q]
      exact k_neg (ck_ok a (m := .B) C h2)
    · cases h2
  | .cmp o a b, Γ, X, W, c, m, e, C, h => by
    simp only [ck, Bool.and_eq_true] at h
    refine good_strip (ibt_ne h.1) ?_
    have h2 := h.2
    split at h2
    · rename_i q
      rw [q]
      simp only [Bool.and_eq_true, Bool.not_eq_true'] at h2
      obtain ⟨r, o1, o2⟩ := op_of (Γ := Γ) C.K (by have := C.un; omega) (of_decide_eq_true h2.1.1.1)
      exact good_IT h.1 (k_cmp o1 o2 h2.1.1.2 (ck_ok a (m := .B) C h2.1.2) (ck_ok b (m := .B) C h2.2)) (fun _ => q_cmp o1 o2 h2.1.1.2 (ck_ok a (m := .B) C h2.1.2) (ck_ok b (m := .B) C h2.2)) rfl
    · cases h2
  | .chain o p a b d, Γ, X, W, c, m, e, C, h => by
    simp only [ck, Bool.and_eq_true] at h
    refine good_strip (ibt_ne h.1) ?_
    have h2 := h.2
    split at h2
    · rename_i q
      rw [q]
      simp only [Bool.and_eq_true, Bool.not_eq_true'] at h2
      obtain ⟨⟨⟨⟨⟨w1, w2⟩, w3⟩, w4⟩, w5⟩, w6⟩ := h2
      obtain ⟨r, o1, o2⟩ := op_of (Γ := Γ) C.K (by have := C.un; omega) (of_decide_eq_true w1)
      obtain ⟨r', p1, p2⟩ := op_of (Γ := Γ) C.K (by have := C.un; omega) (of_decide_eq_true w2)
      exact good_IT h.1 (k_chain o1 p1 o2 p2 w3 (ck_ok a (m := .B) C w4) (ck_ok b (m := .B) C w5) (ck_ok d (m := .B) C w6)) (fun _ => q_chain o1 p1 o2 p2 w3 (ck_ok a (m := .B) C w4) (ck_ok b (m := .B) C w5) (ck_ok d (m := .B) C w6)) rfl
    · cases h2
  | .isN a, Γ, X, W, c, m, e, C, h => by
    simp only [ck, Bool.and_eq_true] at h
    refine good_strip (ibt_ne h.1) ?_
    have h2 := h.2
    split at h2
    · rename_i q
      rw [q]
      exact good_IT h.1 (k_isN (ck_ok a (m := .B) C h2)) (fun _ => q_isN (ck_ok a (m := .B) C h2)) rfl
    · cases h2
  | .notN a, Γ, X, W, c, m, e, C, h => by
    simp only [ck, Bool.and_eq_true] at h
    refine good_strip (ibt_ne h.1) ?_
    have h2 := h.2
    split at h2
    · rename_i q
      rw [q]
      exact good_IT h.1 (k_notN (ck_ok a (m := .B) C h2)) (fun _ => q_notN (ck_ok a (m := .B) C h2)) rfl
    · cases h2
  | .and a b, Γ, X, W, c, m, e, C, h => by
    simp only [ck] at h
    split at h
    · rename_i q
      split at h
      · rw [Bool.and_eq_true] at h
        refine good_strip ⟨by decide, by decide⟩ ?_
        rw [q]
        have w := q_and (ck_ok a (m := .T) C h.1).1 ((ck_ok b (m := .T) C h.2).2 rfl)
        exact ⟨w.pt, fun _ => w⟩
      · simp only [Bool.and_eq_true] at h
        refine good_strip (ib_ne h.1.1) (good_I h.1.1 ?_)
        rw [q]
        exact k_and (ck_ok a (m := .I) C h.1.2) (ck_ok b (m := .I) C h.2)
    · cases h
  | .or a b, Γ, X, W, c, m, e, C, h => by
    simp only [ck] at h
    split at h
    · rename_i q
      split at h
      · rw [Bool.and_eq_true] at h
        refine good_strip ⟨by decide, by decide⟩ ?_
        rw [q]
        have w := q_or (ck_ok a (m := .T) C h.1).1 ((ck_ok b (m := .T) C h.2).2 rfl)
        exact ⟨w.pt, fun _ => w⟩
      · simp only [Bool.and_eq_true] at h
        refine good_strip (ib_ne h.1.1) (good_I h.1.1 ?_)
        rw [q]
        exact k_or (ck_ok a (m := .I) C h.1.2) (ck_ok b (m := .I) C h.2)
    · cases h
  | .not a, Γ, X, W, c, m, e, C, h => by
    simp only [ck] at h
    split at h
    · rename_i q
      split at h
      · refine good_strip ⟨by decide, by decide⟩ ?_
        rw [q]
        exact ⟨q_not (ck_ok a (m := .T) C h).1, fun z => by cases z⟩
      · rw [Bool.and_eq_true] at h
        refine good_strip (ib_ne h.1) (good_I h.1 ?_)
        rw [q]
        exact k_not (ck_ok a (m := .I) C h.2)
    · cases h
  | .ife d a b, Γ, X, W, c, m, e, C, h => by
    simp only [ck] at h
    split at h
    · rename_i q
      rw [Bool.and_eq_true] at h
      have h2 := h.2
      split at h2
      · rw [Bool.and_eq_true] at h2
        refine good_strip ⟨by decide, by decide⟩ ?_
        rw [q]
        exact k_ifeF (ck_ok d (m := .T) C h.1).1 (ck_ok a (m := .F) C h2.1) (ck_ok b (m := .F) C h2.2)
      · simp only [Bool.and_eq_true] at h2
        refine good_strip (ib_ne h2.1.1) (good_I h2.1.1 ?_)
        rw [q]
        exact k_ifeI (ck_ok d (m := .T) C h.1).1 (ck_ok a (m := .I) C h2.1.2) (ck_ok b (m := .I) C h2.2)
    · cases h
  | .ix a i, Γ, X, W, c, m, e, C, h => by
    simp only [ck, Bool.and_eq_true] at h
    refine good_strip (ibt_ne h.1) ?_
    have h2 := h.2
    split at h2
    · rename_i q
      rw [q]
      simp only [Bool.and_eq_true] at h2
      exact good_IP h.1 (k_ix C.K (ck_ok a (m := .B) C h2.1.2) (ck_ok i (m := .B) C h2.2) (plainIx_of h2.1.1)) rfl
    · cases h2
  | .sl a lo hi, Γ, X, W, c, m, e, C, h => by
    simp only [ck, Bool.and_eq_true] at h
    refine good_strip (fib_ne h.1) (good_F h.1 ?_)
    have h2 := h.2
    split at h2
    · rename_i q
      rw [q]
      simp only [Bool.and_eq_true] at h2
      exact k_sl C.K (ck_ok a (m := .B) C h2.1.1) (partOk_of (c := c) h2.1.2 fun e he => ck_ok lo (m := .I) C he) (partOk_of (c := c) h2.2 fun e he => ck_ok hi (m := .I) C he)
    · cases h2
  | .call f l, Γ, X, W, c, m, e, C, h => by
    simp only [ck, Bool.and_eq_true] at h
    refine good_strip (ibt_ne h.1.1) ?_
    have h2 := h.2
    split at h2
    · rename_i q
      rw [q]
      simp only [Bool.and_eq_true] at h2
      obtain ⟨⟨⟨⟨w1, w2⟩, w3⟩, w4⟩, w5⟩ := h2
      have e := of_decide_eq_true w1
      subst e
      obtain ⟨g1, g2⟩ := C.glo w2
      exact good_IP h.1.1 (k_call (C.calls h.1.2 f _ (of_decide_eq_true w3)) C.tk g1 g2 w4 (ckA_ok l C w5)) rfl
    · cases h2
  | .b1 f a, Γ, X, W, c, m, e, C, h => by
    simp only [ck, Bool.and_eq_true] at h
    refine good_strip (fib_ne h.1.1) (good_F h.1.1 ?_)
    have h2 := h.2
    split at h2
    · rename_i q
      rw [q]
      simp only [Bool.and_eq_true] at h2
      have e := of_decide_eq_true h2.1.1.1
      subst e
      exact k_one C h.1.2 h2.1.1.2 h2.1.2 (ck_ok a (m := .B) C h2.2)
    · cases h2
  | .b2 f a b, Γ, X, W, c, m, e, C, h => by
    simp only [ck, Bool.and_eq_true] at h
    refine good_strip (fib_ne h.1.1) (good_F h.1.1 ?_)
    have h2 := h.2
    split at h2
    · rename_i q
      rw [q]
      simp only [Bool.and_eq_true] at h2
      obtain ⟨⟨⟨⟨⟨⟨w1, w2⟩, w3⟩, w4⟩, w5⟩, w6⟩, w7⟩ := h2
      have e := of_decide_eq_true w2
      subst e
      rw [Bool.or_eq_true] at w1
      rcases w1 with w1 | w1
      · have e := of_decide_eq_true w1
        subst e
        exact k_max2 (C.calm h.1.2) (C.blt w3) w4 w5 (ck_ok a (m := .B) C w6) (ck_ok b (m := .B) C w7)
      · have e := of_decide_eq_true w1
        subst e
        exact k_min2 (C.calm h.1.2) (C.blt w3) w4 w5 (ck_ok a (m := .B) C w6) (ck_ok b (m := .B) C w7)
    · cases h2
  | .isi a t, Γ, X, W, c, m, e, C, h => by
    simp only [ck, Bool.and_eq_true] at h
    refine good_strip (ibt_ne h.1) ?_
    have h2 := h.2
    split at h2
    · rename_i q
      rw [q]
      simp only [Bool.and_eq_true] at h2
      obtain ⟨⟨⟨⟨⟨w1, w2⟩, w3⟩, w4⟩, w5⟩, w6⟩ := h2
      have e1 := of_decide_eq_true w1
      have e2 := of_decide_eq_true w2
      subst e1
      exact good_IP h.1 (k_isi C.K (C.blt w3) (C.blt w4) e2 w5 (ck_ok a (m := .B) C w6)) rfl
    · cases h2
  | .isE i k, Γ, X, W, c, m, e, C, h => by
    simp only [ck, Bool.and_eq_true] at h
    refine good_strip (ibt_ne h.1) ?_
    have h2 := h.2
    split at h2
    · rename_i q
      rw [q]
      simp only [Bool.and_eq_true] at h2
      obtain ⟨⟨⟨⟨⟨w1, w2⟩, w3⟩, w4⟩, w5⟩, w6⟩ := h2
      have e1 := of_decide_eq_true w1
      have e2 := of_decide_eq_true w2
      subst e1 e2
      obtain ⟨g1, g2⟩ := C.glo w5
      obtain ⟨v1, v2, v3, v4⟩ := C.vis w6
      exact good_IP h.1 (C.ie k w3 W i _ _ _ _ _ v1 v2 v3 v4 g1 g2 (C.blt w4)) rfl
    · cases h2
  | .slr _, Γ, X, W, c, m, e, C, h => by simp only [ck] at h; cases h
  | .lrev _, Γ, X, W, c, m, e, C, h => by simp only [ck] at h; cases h
  | .cnt _ _, Γ, X, W, c, m, e, C, h => by simp only [ck] at h; cases h
  | .caught f x, Γ, X, W, c, m, e, C, h => by
    simp only [ck, Bool.and_eq_true] at h
    refine good_strip (ibt_ne h.1.1) ?_
    have h2 := h.2
    split at h2
    · rename_i q
      rw [q]
      simp only [Bool.and_eq_true] at h2
      obtain ⟨⟨⟨⟨⟨w1, w2⟩, w3⟩, w4⟩, w5⟩, w6⟩ := h2
      have e1 := of_decide_eq_true w1
      subst e1
      obtain ⟨g1, g2⟩ := C.glo w2
      obtain ⟨k, co, mk, inn⟩ := C.cau h.1.2 f w3
      have L := LamX.lamS_by (sc := X.env.scope) (by rw [C.sc]; exact w5)
      unfold noPar at w4
      split at w4
      · exact good_IP h.1.1 (k_caught co mk C.K g1 g2 L rfl (fun _ _ _ _ _ => rfl) fun A outer s H E Lz f' c' hr hg => ck_ok x (m := .I) (lam_ctx C L (inn A outer s H E _ f' c' ⟨hr.hd, hr.dp, hr.un⟩ hg) hg) w6) rfl
      · cases w4
    · cases h2
  | .fld i f, Γ, X, W, c, m, e, C, h => by
    simp only [ck, Bool.and_eq_true] at h
    refine good_strip (ib_ne h.1) (good_I h.1 ?_)
    have h2 := h.2
    split at h2
    · rename_i q
      rw [q]
      simp only [Bool.and_eq_true] at h2
      have e := of_decide_eq_true h2.1.1
      subst e
      obtain ⟨g1, g2, g3, g4⟩ := C.vis h2.2
      exact C.fld f h2.1.2 W i _ _ _ g1 g2 g3 g4
    · cases h2
  | .like a b, Γ, X, W, c, m, e, C, h => by
    simp only [ck, Bool.and_eq_true] at h
    refine good_strip (ibt_ne h.1.1) ?_
    have h2 := h.2
    split at h2
    · rename_i q
      rw [q]
      simp only [Bool.and_eq_true] at h2
      obtain ⟨⟨⟨⟨⟨⟨w1, w2⟩, w3⟩, w4⟩, w5⟩, w6⟩, w7⟩ := h2
      have e1 := of_decide_eq_true w1
      have e2 := of_decide_eq_true w2
      subst e1 e2
      exact good_IT h.1.1 (k_like C.K C.gd C.un (C.blt w3) w4 w5 (ck_ok a (m := .B) C w6) (ck_ok b (m := .B) C w7)) (fun _ => q_like C.K C.gd C.un (C.blt w3) w4 w5 (ck_ok a (m := .B) C w6) (ck_ok b (m := .B) C w7)) rfl
    · cases h2
  | .lc x t own i d, Γ, X, W, c, m, e, C, h => by
    simp only [ck, Bool.and_eq_true] at h
    refine good_strip (fib_ne h.1.1) (good_F h.1.1 ?_)
    have h2 := h.2
    split at h2
    · rename_i x' t' i' ifs sc pos q
      rw [q]
      simp only [Bool.and_eq_true] at h2
      obtain ⟨⟨⟨⟨⟨⟨⟨⟨w1, w2⟩, w3⟩, w4⟩, w5⟩, w6⟩, w7⟩, w8⟩, w9⟩ := h2
      have hc := C.calm h.1.2
      have bk := blk_ok w4
      have ow := of_decide_eq_true w5
      have sub := fun {s H Ca cl fp} => C.sub (s := s) (H := H) (scope := sc) (Ca := Ca) (cl := cl) (fp := fp) bk.kind
      have hi := ck_ok i (m := .L) C w3 t' (by
        cases i <;> first | rfl | exact w2 | cases w2)
      have gf : GOf Γ t (tgG Γ.K t) := tgt_g ⟨_, _, sub (s := X.s_0) (H := X.H_0) (Ca := 0) (cl := []) (fp := []), hc⟩ w6
      have pg := fun s H Ca cl fp => (tgt_ok (sub (s := s) (H := H) (Ca := Ca) (cl := cl) (fp := fp)) hc w6).1
      have pe := fun s H Ca cl fp => ck_ok x (m := .I) (sub (s := s) (H := H) (Ca := Ca) (cl := cl) (fp := fp)) w8
      have sb : ∀ j, j ∈ tgtL t → j ∈ (ownOf c.N own).map fun x => x.2 := fun j hj => by
        rw [ow]
        simpa using List.all_eq_true.mp w7 j hj
      have bk' : L2.BlkOk X.N X.env.scope sc (ownOf c.N own) := by
        rw [C.N, C.sc]; exact bk
      split at w9
      · have L : LcOk Γ W X x' t' i' [] sc (ownOf c.N own) x t i (.bl true) (tgG Γ.K t) L2.tYes := ⟨hc, C.nd, hi, bk', pg, fun _ _ _ _ _ => L2.pts_nil, pe, gf, tt_yes, fold_ok w1 _, sb⟩
        have r := k_lc (pos := pos) L
        rw [ow] at r
        exact r
      · rename_i d' dd _ _
        have pt := fun s H Ca cl fp => L2.pts_one (ck_ok _ (m := .T) (sub (s := s) (H := H) (Ca := Ca) (cl := cl) (fp := fp)) w9).1
        have L := LcOk.mk (W := W) (X := X) (Γ := Γ) (scope := sc) hc C.nd hi bk' pg pt pe gf tt_one (fold_ok w1 _) sb
        have r := k_lc (pos := pos) L
        rw [ow] at r
        exact r
      · cases w9
    · cases h2
  | .lcX x t own i d, Γ, X, W, c, m, e, C, h => by
    simp only [ck, Bool.and_eq_true] at h
    refine good_strip (fib_ne h.1.1.1) (good_F h.1.1.1 ?_)
    have h2 := h.2
    split at h2
    · rename_i x' t' i' ifs sc pos q
      rw [q]
      simp only [Bool.and_eq_true] at h2
      obtain ⟨⟨⟨⟨⟨⟨⟨⟨w1, w2⟩, w3⟩, w4⟩, w5⟩, w6⟩, w7⟩, w8⟩, w9⟩ := h2
      have hc := C.calm h.1.1.2
      obtain ⟨tks, hst, hfr⟩ := C.tkx h.1.2
      have bk := blk_ok w4
      have ow := of_decide_eq_true w5
      have sub := fun {σ s H Ca cl fp} => C.subX σ (s := s) (H := H) (scope := sc) (Ca := Ca) (cl := cl) (fp := fp) bk.kind
      have hi := ck_ok i (m := .L) C w3 t' (by
        cases i <;> first | rfl | exact w2 | cases w2)
      have gf : GOf Γ t (tgG Γ.K t) := tgt_g ⟨_, _, sub (σ := []) (s := X.s_0) (H := X.H_0) (Ca := 0) (cl := []) (fp := []), hc⟩ w6
      have pg := fun σ s H Ca cl fp => (tgt_ok (sub (σ := σ) (s := s) (H := H) (Ca := Ca) (cl := cl) (fp := fp)) hc w6).1
      have pe := fun σ s H Ca cl fp => ck_ok x (m := .I) (sub (σ := σ) (s := s) (H := H) (Ca := Ca) (cl := cl) (fp := fp)) w8
      have sb : ∀ j, j ∈ tgtL t → j ∈ (ownOf c.N own).map fun x => x.2 := fun j hj => by
        rw [ow]
        simpa using List.all_eq_true.mp w7 j hj
      have bk' : L2.BlkOk X.N X.env.scope sc (ownOf c.N own) := by
        rw [C.N, C.sc]; exact bk
      split at w9
      · have L : LcXOk Γ W X x' t' i' [] sc (ownOf c.N own) x t i (.bl true) (tgG Γ.K t) (fun _ => L2.tYes) := ⟨tks, hst, hfr, hc, C.nd, hi, bk', pg, fun _ _ _ _ _ _ => L2.pts_nil, pe, gf, fun _ => ttx_yes, fold_ok w1 _, sb⟩
        have r := k_lcX (pos := pos) L
        rw [ow] at r
        exact r
      · rename_i d' dd _ _
        have pt := fun σ s H Ca cl fp => L2.pts_one (ck_ok _ (m := .T) (sub (σ := σ) (s := s) (H := H) (Ca := Ca) (cl := cl) (fp := fp)) w9).1
        have L := LcXOk.mk (W := W) (X := X) (Γ := Γ) (scope := sc) tks hst hfr hc C.nd hi bk' pg pt pe gf (fun σ => ttx_one) (fold_ok w1 _) sb
        have r := k_lcX (pos := pos) L
        rw [ow] at r
        exact r
      · cases w9
    · cases h2
  | .kix x t i, Γ, X, W, c, m, e, C, h => by
    simp only [ck, Bool.and_eq_true] at h
    refine good_strip (ibt_ne h.1) ?_
    have h2 := h.2
    split at h2
    · rename_i q
      rw [q]
      simp only [Bool.and_eq_true] at h2
      obtain ⟨⟨⟨w1, w2⟩, w3⟩, w4⟩ := h2
      have e1 := of_decide_eq_true w1
      subst e1
      obtain ⟨g1, g2⟩ := C.glo w2
      obtain ⟨v1, v2, v3, v4⟩ := C.vis w4
      exact good_IP h.1 (k_kix (C.dk x t (of_decide_eq_true w3)) g1 g2 v1 v2 v3 v4) rfl
    · cases h2
  | .lit2 a b k d i, Γ, X, W, c, m, e, C, h => by
    simp only [ck, Bool.and_eq_true] at h
    refine good_strip (ibt_ne h.1) ?_
    have h2 := h.2
    split at h2
    · rename_i q
      rw [q]
      simp only [Bool.and_eq_true] at h2
      obtain ⟨⟨⟨⟨w1, w2⟩, w3⟩, w4⟩, w5⟩ := h2
      have e1 := of_decide_eq_true w1
      have e2 := of_decide_eq_true w2
      have e3 := of_decide_eq_true w3
      have e4 := of_decide_eq_true w4
      subst e1 e2 e3 e4
      obtain ⟨v1, v2, v3, v4⟩ := C.vis w5
      exact good_IP h.1 (k_lit2 C.un v1 v2 v3 v4) rfl
    · cases h2
  | .keys a, Γ, X, W, c, m, e, C, h => by
    simp only [ck, Bool.and_eq_true] at h
    refine good_strip (fib_ne h.1.1) (good_F h.1.1 ?_)
    have h2 := h.2
    split at h2
    · rename_i q
      rw [q]
      simp only [Bool.and_eq_true] at h2
      have e := of_decide_eq_true h2.1.1.1
      subst e
      exact k_keys (C.calm h.1.2) (C.blt h2.1.1.2) h2.1.2 (ck_ok a (m := .B) C h2.2)
    · cases h2
  | .dix a i, Γ, X, W, c, m, e, C, h => by
    simp only [ck, Bool.and_eq_true] at h
    refine good_strip (ibt_ne h.1) ?_
    have h2 := h.2
    split at h2
    · rename_i q
      rw [q]
      simp only [Bool.and_eq_true] at h2
      exact good_IP h.1 (k_dix C.un (ck_ok a (m := .B) C h2.1.2) (ck_ok i (m := .B) C h2.2) h2.1.1) rfl
    · cases h2
  | .dc kx vx t own i d, Γ, X, W, c, m, e, C, h => by
    simp only [ck, Bool.and_eq_true] at h
    refine good_strip (ib_ne h.1.1) (good_I h.1.1 ?_)
    have h2 := h.2
    split at h2
    · rename_i k' v' t' i' ifs sc pos q
      rw [q]
      simp only [Bool.and_eq_true] at h2
      obtain ⟨⟨⟨⟨⟨⟨⟨⟨⟨w1, w2⟩, w3⟩, w4⟩, w5⟩, w6⟩, w7⟩, w8⟩, w10⟩, w9⟩ := h2
      have hc := C.calm h.1.2
      have bk := blk_ok w4
      have ow := of_decide_eq_true w5
      have sub := fun {s H Ca cl fp} => C.sub (s := s) (H := H) (scope := sc) (Ca := Ca) (cl := cl) (fp := fp) bk.kind
      have hi := ck_ok i (m := .L) C w3 t' (by
        cases i <;> first | rfl | exact w2 | cases w2)
      have gf : GOf Γ t (tgG Γ.K t) := tgt_g ⟨_, _, sub (s := X.s_0) (H := X.H_0) (Ca := 0) (cl := []) (fp := []), hc⟩ w6
      have pg := fun s H Ca cl fp => (tgt_ok (sub (s := s) (H := H) (Ca := Ca) (cl := cl) (fp := fp)) hc w6).1
      have pk := fun s H Ca cl fp => ck_ok kx (m := .I) (sub (s := s) (H := H) (Ca := Ca) (cl := cl) (fp := fp)) w8
      have pe := fun s H Ca cl fp => ck_ok vx (m := .I) (sub (s := s) (H := H) (Ca := Ca) (cl := cl) (fp := fp)) w10
      have sb : ∀ j, j ∈ tgtL t → j ∈ (ownOf c.N own).map fun x => x.2 := fun j hj => by
        rw [ow]
        simpa using List.all_eq_true.mp w7 j hj
      have bk' : L2.BlkOk X.N X.env.scope sc (ownOf c.N own) := by
        rw [C.N, C.sc]; exact bk
      split at w9
      · have L : DcOk Γ W X k' v' t' i' [] sc (ownOf c.N own) kx vx t i (.bl true) (tgG Γ.K t) L2.tYes := ⟨hc, C.nd, hi, bk', pg, fun _ _ _ _ _ => L2.pts_nil, pk, pe, gf, tt_yes, fold_ok w1 _, sb⟩
        have r := k_dc (pos := pos) L
        rw [ow] at r
        exact r
      · rename_i d' dd _ _
        have pt := fun s H Ca cl fp => L2.pts_one (ck_ok _ (m := .T) (sub (s := s) (H := H) (Ca := Ca) (cl := cl) (fp := fp)) w9).1
        have L := DcOk.mk (W := W) (X := X) (Γ := Γ) (scope := sc) hc C.nd hi bk' pg pt pk pe gf tt_one (fold_ok w1 _) sb
        have r := k_dc (pos := pos) L
        rw [ow] at r
        exact r
      · cases w9
    · cases h2
  | .iSeq a, Γ, X, W, c, m, e, C, h => by
    simp only [ck] at h
    split at h
    · exact fun tg _ => i_seqK C.K (ck_ok a (m := .I) C h)
    · exact fun tg _ => i_seqB C.K (ck_ok a (m := .B) C h)
    · cases h
  | .iRng a, Γ, X, W, c, m, e, C, h => by
    simp only [ck, Bool.and_eq_true] at h
    have h2 := h.2
    split at h2
    · simp only [Bool.and_eq_true] at h2
      obtain ⟨⟨⟨w1, w2⟩, w3⟩, w4⟩ := h2
      have e1 := of_decide_eq_true w1
      subst e1
      cases m with
      | K => exact fun tg _ => i_rngK (C.blt w2) w3 (ck_ok a (m := .I) C w4)
      | L => exact fun tg _ => i_rngB (C.blt w2) w3 (ck_ok a (m := .B) C w4)
      | _ => cases h.1
    · cases h2
  | .iRng2 a b, Γ, X, W, c, m, e, C, h => by
    simp only [ck, Bool.and_eq_true] at h
    have h2 := h.2
    split at h2
    · simp only [Bool.and_eq_true] at h2
      obtain ⟨⟨⟨⟨w1, w2⟩, w3⟩, w4⟩, w5⟩ := h2
      have e1 := of_decide_eq_true w1
      subst e1
      cases m with
      | K =>
        simp only [Bool.and_eq_true] at w5
        exact fun tg _ => i_rng2K (C.blt w2) w3 w4 (ck_ok a (m := .I) C w5.1) (ck_ok b (m := .I) C w5.2)
      | L =>
        simp only [Bool.and_eq_true] at w5
        exact fun tg _ => i_rng2B (C.blt w2) w3 w4 (ck_ok a (m := .B) C w5.1) (ck_ok b (m := .B) C w5.2)
      | _ => cases h.1
    · cases h2
  | .iEnum a, Γ, X, W, c, m, e, C, h => by
    simp only [ck, Bool.and_eq_true] at h
    have h2 := h.2
    split at h2
    · simp only [Bool.and_eq_true] at h2
      obtain ⟨⟨⟨w1, w2⟩, w3⟩, w4⟩ := h2
      have e1 := of_decide_eq_true w1
      subst e1
      cases m with
      | K =>
        intro tg ht
        cases tg <;> first | (cases ht; done) | exact i_enumK C.K (C.blt w2) w3 (ck_ok a (m := .I) C w4)
      | L =>
        intro tg ht
        cases tg <;> first | (cases ht; done) | exact i_enumB C.K (C.blt w2) w3 (ck_ok a (m := .B) C w4)
      | _ => cases h.1
    · cases h2
  | .iZip a b, Γ, X, W, c, m, e, C, h => by
    simp only [ck, Bool.and_eq_true] at h
    have h2 := h.2
    split at h2
    · simp only [Bool.and_eq_true] at h2
      obtain ⟨⟨⟨⟨w1, w2⟩, w3⟩, w4⟩, w5, w6⟩ := h2
      have e1 := of_decide_eq_true w1
      subst e1
      cases m with
      | K =>
        intro tg ht
        cases tg <;> first | (cases ht; done) | exact i_zipK C.K (C.blt w2) w3 w4 (ck_ok a (m := .I) C w5) (ck_ok b (m := .I) C w6)
      | L =>
        intro tg ht
        cases tg <;> first | (cases ht; done) | exact i_zipB C.K (C.blt w2) w3 w4 (ck_ok a (m := .I) C w5) (ck_ok b (m := .I) C w6)
      | _ => cases h.1
    · cases h2
  | .iRev a, Γ, X, W, c, m, e, C, h => by
    simp only [ck, Bool.and_eq_true] at h
    have h2 := h.2
    split at h2
    · simp only [Bool.and_eq_true] at h2
      obtain ⟨⟨⟨w1, w2⟩, w3⟩, w4⟩ := h2
      have e1 := of_decide_eq_true w1
      subst e1
      cases m with
      | K => exact fun tg _ => i_revK C.K (C.blt w2) w3 (ck_ok a (m := .I) C w4)
      | L => exact fun tg _ => i_revB C.K (C.blt w2) w3 (ck_ok a (m := .B) C w4)
      | _ => cases h.1
    · cases h2
  | .stAt i, Γ, X, W, c, m, e, C, h => by
    simp only [ck, Bool.and_eq_true] at h
    refine good_strip (ib_ne h.1) (good_I h.1 ?_)
    have h2 := h.2
    split at h2
    · rename_i q
      rw [q]
      simp only [Bool.and_eq_true] at h2
      have e1 := of_decide_eq_true h2.1
      subst e1
      obtain ⟨g1, g2, g3, g4⟩ := C.vis h2.2
      exact k_stAt (by have := C.un; omega) g1 g2 g3 g4
    · cases h2
  | .stLen i, Γ, X, W, c, m, e, C, h => by
    simp only [ck, Bool.and_eq_true] at h
    refine good_strip (ib_ne h.1) (good_I h.1 ?_)
    have h2 := h.2
    split at h2
    · rename_i q
      rw [q]
      simp only [Bool.and_eq_true] at h2
      have e1 := of_decide_eq_true h2.1.1.1
      have e2 := of_decide_eq_true h2.1.1.2
      subst e1 e2
      obtain ⟨g1, g2, g3, g4⟩ := C.vis h2.2
      exact k_stLen (by have := C.un; omega) g1 g2 g3 g4 C.K (C.blt h2.1.2)
    · cases h2
  | .stCell i a, Γ, X, W, c, m, e, C, h => by
    simp only [ck, Bool.and_eq_true] at h
    refine good_strip (ib_ne h.1) (good_I h.1 ?_)
    have h2 := h.2
    split at h2
    · rename_i q
      rw [q]
      simp only [Bool.and_eq_true] at h2
      have e1 := of_decide_eq_true h2.1.1.1
      subst e1
      obtain ⟨g1, g2, g3, g4⟩ := C.vis h2.1.1.2
      exact k_stCell (by have := C.un; omega) g1 g2 g3 g4 C.K (ck_ok a (m := .I) C h2.2) h2.1.2
    · cases h2
  | .stLeft i a, Γ, X, W, c, m, e, C, h => by
    simp only [ck, Bool.and_eq_true] at h
    refine good_strip (ib_ne h.1) (good_I h.1 ?_)
    have h2 := h.2
    split at h2
    · rename_i q
      rw [q]
      simp only [Bool.and_eq_true] at h2
      have e1 := of_decide_eq_true h2.1.1.1
      subst e1
      obtain ⟨g1, g2, g3, g4⟩ := C.vis h2.1.1.2
      exact k_stLeft (by have := C.un; omega) g1 g2 g3 g4 C.K (ck_ok a (m := .I) C h2.2) h2.1.2
    · cases h2
theorem ckA_ok : ∀ (l : List Ex) {Γ : Gam} {X : Cx} {W : WX} {c : Ck} {es : List Expr}, Ctx Γ X W c → ckA c l es = true → PA X es (tA Γ W l)
  | [], Γ, X, W, c, es, C, h => by
    cases es with
    | nil => exact a_nil
    | cons e es => simp [ckA] at h
  | x :: l, Γ, X, W, c, es, C, h => by
    cases es with
    | nil => simp [ckA] at h
    | cons e es =>
      simp only [ckA, Bool.and_eq_true] at h
      exact a_cons (ck_ok x (m := .I) C h.1.2) (ckA_ok l C h.2) (star_cons h.1.1 es _)
end
end Ds
end
section
set_option Elab.async false
set_option Elab.async false
set_option linter.all false
set_option maxRecDepth 100000
set_option maxHeartbeats 8000000
set_option autoImplicit false
/-! Snd19: is a statement of the text the one of the small syntax? -/
namespace Ds
open PySem PySem.Spec PyProof.Rows
open L2 (V Hp HO upd upd_same upd_ne RelV SqL SqT TE TA TT TS TG TI VK XK WX Cx Inv PE PA PT PTs PS PSs PG PGs PI It Walk PW Rd EP OpR tOp pe_op R2 rI rI0 Dp DpAll Room CallR tCB tCons tNil tTup tLst Gl Sp Ends exo exd OexC Zc Names Takes SP)
open Dl (D DV GS S R RC Ex Fl Le)
def isStarE : Expr → Bool
  | .Starred .. => true
  | _ => false
/-- the plain names among targets -/
def namesAt (sc : Scope) (ts : List Expr) : List Str := ts.filterMap fun
  | .Name id pos => if sc.names.lookup id == some .local && pos.line == ((ts.head?.map (·.pos.line)).getD 0) then some id else none
  | _ => none
/-- how several targets are stored: not understood, in their order, from the right -/
def swapR (sc : Scope) (ts vs : List Expr) : Option (Option (List Str)) :=
  if (!(ts.length == 2 || ts.length == 3) || vs.length != ts.length) = true then some none
  else if vs.any isStarE = true then some none
  else if ((namesAt sc ts).length != ts.length || (namesAt sc ts).eraseDups.length != (namesAt sc ts).length) = true then some none
  else if vs.all (foldedForSure 8) = true then some none
  else if vs.all (constantsAlone 8) = true then none
  else some (some (namesAt sc ts))
theorem swapR_ok {env : Env} {sc : Scope} {ts vs : List Expr} {r : Option (List Str)} {k k2 : Nat} {p p2 : Pos} (he : env.scope = sc) (hk : sc.kind = .function) (h : swapR sc ts vs = some r) : swappedStores [.Tuple ts k p] (.Tuple vs k2 p2) env = pure r := by
  have hb : (env.blockKind != .function) = false := by
    unfold Env.blockKind
    rw [he, hk]
    decide
  have hkd : ∀ x, env.kindOf x = sc.names.lookup x := fun x => by
    unfold Env.kindOf; rw [he]
  unfold swapR at h
  unfold swappedStores
  simp only [hb, Bool.or_false]
  split at h
  · rename_i c1
    cases h
    rw [if_pos c1]
  · rename_i c1
    rw [if_neg c1]
    split at h
    · rename_i c2
      cases h
      rw [if_pos (Eq.trans (congrArg vs.any (funext fun x => by cases x <;> rfl)) c2)]
    · rename_i c2
      rw [if_neg (fun z => c2 (Eq.trans (congrArg vs.any (funext fun x => by cases x <;> rfl)) z))]
      simp only [hkd]
      split at h
      · rename_i c3
        cases h
        exact if_pos c3
      · rename_i c3
        refine (if_neg c3).trans ?_
        split at h
        · rename_i c4
          cases h
          exact if_pos c4
        · rename_i c4
          refine (if_neg c4).trans ?_
          split at h
          · cases h
          · rename_i c5
            cases h
            exact if_neg c5
/-- does a comprehension's list go to its name without a stop -/
def swapW (sc : Scope) (y : Str) (py pos : Pos) (s : Scope) : Bool := sc.names.lookup y == some .local && py.line == pos.line && !(s.names.any fun (n, k) => n == y && (k == .local || k == .cell))
theorem swapW_ok {env : Env} {sc : Scope} {y : Str} {py pos : Pos} {s : Scope} {elt : Expr} {gs : List Comprehension} {n : Nat} (he : env.scope = sc) (hk : sc.kind = .function) : swapsWith (.ListComp elt gs s pos) (some (.Name y py)) n env = pure (swapW sc y py pos s) := by
  have hb : (env.blockKind == .function) = true := by
    unfold Env.blockKind
    rw [he, hk]
    decide
  have hkd : env.kindOf y = sc.names.lookup y := by
    unfold Env.kindOf; rw [he]
  show (pure (env.blockKind == .function && env.kindOf y == some .local && py.line == pos.line && !(s.names.any _)) : Sem Bool) = _
  rw [hb, hkd, Bool.true_and]
  rfl
theorem noComp_ok {e : Expr} (h : isComp e = false) (t : Option Expr) (n : Nat) (env : Env) : swapsWith e t n env = pure false := by
  cases e <;> first | rfl | (cases h; done)
theorem sole_ok {tg e : Expr} {n : Nat} {env : Env} (h : ∀ t, swapsWith e (some t) n env = pure false) : swapsWithSole [tg] e n env = pure false := h tg
theorem tup_sole {es : List Expr} {k : Nat} {p : Pos} {e : Expr} {n : Nat} {env : Env} : swapsWithSole [.Tuple es k p] e n env = pure false := by
  show swapsWith e (some (.Tuple es k p)) n env = pure false
  cases e <;> rfl
theorem tup_st {es : List Expr} {k : Nat} {p : Pos} {e : Expr} {env : Env} (h : isTup e = false) : swappedStores [.Tuple es k p] e env = pure none := by
  cases e <;> first | rfl | (cases h; done)
def ckP (c : Ck) : List (Nat × Bool × Ex) → List Expr → Bool
  | [], [] => true
  | (_, o, x) :: l, e :: es => noStar e && (match o with
    | false => ck c x .I e
    | true => ck c x .F e) && ckP c l es
  | _, _ => false
/-- a slot that only this def has -/
def Ck.own (c : Ck) (i : Nat) (x : Str) : Bool := decide (c.N[i]? = some x) && decide (c.sc.names.lookup x = some .local)
def Ck.owns (c : Ck) : List (Nat × Bool × Ex) → List Expr → Bool
  | [], [] => true
  | (i, _, _) :: l, .Name x _ :: es => c.own i x && c.owns l es
  | _, _ => false
def namesOf : List Expr → List Str
  | .Name x _ :: es => x :: namesOf es
  | _ => []
def distinct : List Nat → Bool
  | [] => true
  | i :: l => !(l.contains i) && distinct l
def ckCl (c : Ck) : List String → Expr → Bool
  | [k], .Name x _ => decide (x = Str.ofString k) && c.ex k
  | [k, k'], .Tuple [.Name x _, .Name y _] _ _ => decide (x = Str.ofString k) && decide (y = Str.ofString k') && c.ex k && c.ex k'
  | _, _ => false
def Ck.suite (c : Ck) : Ck := { c with calm := false, lev := false, fld := c.xf, ie := c.ieS, thF := fun _ => false, exq := false }
def Ck.tr (c : Ck) : Ck := { c with thF := fun _ => false, ie := fun _ => false }
mutual
def ckS (c : Ck) : Dl.St → Stmt → Bool
  | .pass, st => match st with
    | .Pass _ => true
    | .Expr (.Constant (.str _) _ _) _ => true
    | _ => false
  | .brk, st => match st with
    | .Break _ => true
    | _ => false
  | .cont, st => match st with
    | .Continue _ => true
    | _ => false
  | .ret x, st => match st with
    | .Return (some e) _ => ck c x .I e
    | .Return none _ => (match x with
      | .non => true
      | _ => false)
    | _ => false
  | .ext _ _, _ => false
  | .pop _ _, _ => false
  | .expr x, st => match st with
    | .Expr e _ => !(isComp e) && ck c x .I e
    | _ => false
  | .ifs x a b, st => match st with
    | .If e l r _ => ck c x .T e && ckSs c a l && ckSs c b r
    | _ => false
  | .set i x, st => match st with
    | .Assign [.Name y _] e _ => !(isComp e) && c.slot i y && ck c x .I e
    | _ => false
  | .setL i x, st => match st with
    | .Assign [.Name y py] e _ => (match e with
      | .ListComp x' gs s pos => ck c x .F (.ListComp x' gs s pos) && (if swapW c.sc y py pos s then c.own i y && (match x with
        | .lc .. => true
        | _ => false) else c.slot i y)
      | e => !(isComp e) && c.slot i y && ck c x .F e)
    | _ => false
  | .unp l x, st => match st with
    | .Assign [.Tuple es _ _] e _ => c.calm && c.slots l es && ck c x .I e && (match e with
      | .Tuple vs _ _ => decide (swapR c.sc es vs = some none)
      | _ => true)
    | _ => false
  | .par l, st => match st with
    | .Assign [.Tuple es _ _] (.Tuple vs _ _) _ => c.calm && c.owns l es && ckP c l vs && distinct (l.map (·.1)) && decide (swapR c.sc es vs = some (some (namesOf es)))
    | _ => false
  | .setIx i k x, st => match st with
    | .Assign [.Subscript (.Name y _) k' _] e _ => c.slot i y && okN y && noSlice k' && ck c x .I e && ck c k .I k'
    | _ => false
  | .app i x, st => match st with
    | .Expr (.Call (.Attribute (.Name y _) m p1) [e] [] p2) _ => decide (m = ("append" : Str)) && c.slot i y && okN y && noStar e && (p1.endLine == p2.line) && ck c x .I e
    | _ => false
  | .fors t x b, st => match st with
    | .For tg it bd [] _ => c.calm && foldB it && tgOk x tg && c.tgt t tg && ck c x .K it && ckSs c b bd
    | _ => false
  | .whil x b, st => match st with
    | .While e bd [] _ => c.calm && ck c x .T e && ckSs c b bd
    | _ => false
  | .raise k l, st => match st with
    | .Raise (some (.Call (.Name y _) (e :: es) [] _)) none _ => c.calm && decide (y = Str.ofString k) && c.glo y && (c.cls k).isSome && (e :: es).all noStar && ckA c l (e :: es)
    | _ => false
  | .tryS b hs, st => match st with
    | .Try bd hds [] [] _ => c.lev && ckSs c.tr b bd && ckH c hs hds && !hds.isEmpty
    | _ => false
  | .stSetAt i x, st => match st with
    | .Assign [.Subscript (.Name y _) (.Constant (.str k) _ _) _] e _ => decide (k = ("at" : Str)) && c.vis i y && !(isComp e) && ck c x .I e
    | _ => false
  | .stSetLeft i k x, st => match st with
    | .Assign [.Subscript (.Subscript (.Name y _) (.Constant (.str s) _ _) _) k' _] e _ => decide (s = ("lefts" : Str)) && c.vis i y && noSlice k' && ck c k .I k' && ck c x .I e
    | _ => false
  | .newD i, st => match st with
    | .Assign [.Name y _] (.Dict [] [] _) _ => c.slot i y
    | _ => false
  | .bump i j m, st => match st with
    | .Assign [.Subscript (.Name x _) (.Name y _) _] (.BinOp (.Call (.Attribute (.Name x' _) g p1) [.Name y' _, .Constant (.int n) _ _] [] p2) .Add (.Name z _) _) _ => decide (g = ("get" : Str)) && decide (x' = x) && decide (y' = y) && n == 0 && c.slot i x && c.slot j y && c.slot m z && okN x && okN y && okN z && (p1.endLine == p2.line)
    | _ => false
  | .retD i, st => match st with
    | .Return (some (.Name x _)) _ => c.slot i x && okN x
    | _ => false
  | .begin_ i x, st => match st with
    | .Return (some (.Dict [some (.Constant (.str s1) _ _), some (.Constant (.str s2) _ _), some (.Constant (.str s3) _ _)] [.Name y _, e, .Constant (.int n) _ _] _)) _ => decide (s1 = ("cells" : Str)) && decide (s2 = ("lefts" : Str)) && decide (s3 = ("at" : Str)) && n == 0 && c.vis i y && ck c x .F e
    | _ => false
def ckSs (c : Ck) : List Dl.St → List Stmt → Bool
  | [], [] => true
  | x :: l, st :: sts => ckS c x st && ckSs c l sts
  | _, _ => false
def ckH (c : Ck) : List (List String × Option Nat × List Dl.St) → List ExceptHandler → Bool
  | [], [] => true
  | (cs, n, b) :: hs, .ExceptHandler (some t) nm (b₀ :: su) _ :: hds => ckCl c cs t && (match n, nm with
      | none, none => true
      | some i, some y => c.own i y
      | _, _ => false) && ckSs c.suite b (b₀ :: su) && ckH c hs hds
  | _, _ => false
end
end Ds
end
section
set_option Elab.async false
set_option Elab.async false
set_option linter.all false
set_option maxRecDepth 100000
set_option maxHeartbeats 400000
set_option autoImplicit false
/-! Snd20: the checker of statements is right. -/
namespace Ds
open PySem PySem.Spec PyProof.Rows
open L2 (V Hp HO upd upd_same upd_ne RelV SqL SqT TE TA TT TS TG TI VK XK WX Cx Inv PE PA PT PTs PS PSs PG PGs PI It Walk PW Rd EP OpR tOp pe_op R2 rI rI0 Dp DpAll Room CallR tCB tCons tNil tTup tLst Gl Sp Ends exo exd OexC Zc Names Takes SP)
open Dl (D DV GS S R RC Ex Fl Le)
/-- .. for statements -/
structure CtxS (Γ : Gam) (X : Cx) (W : WX) (c : Ck) : Prop extends Ctx Γ X W c where
  tks : Takes X W
  po : c.calm = true → PassesOwn (model X.prog X.w) X.A X.env X.xe
  lv : c.lev = true → X.stack = X.env :: X.outer ∧ X.env.frame = some X.env.locals ∧ Γ.Z = none
  cl : c.calm = true → ∀ k f, c.cls k = some f → ClsOk Γ X k f
  nm : ∀ k, c.ex k = true → NameC Γ X k
  xf : ∀ f, c.xf f = true → ∀ k C, Γ.cad k = some C → L2.XfC X.K C ∧ PySem.W.findIn X.K (.ref C) (Str.ofString f) = some none
  ies : ∀ k, c.ieS k = true → IsSOk Γ X k
section
variable {Γ : Gam} {W : WX} {X : Cx} {c : Ck}
theorem CtxS.own (C : CtxS Γ X W c) {i : Nat} {x : Str} (h : c.own i x = true) : SlotL X i x := by
  unfold Ck.own at h
  rw [Bool.and_eq_true] at h
  refine ⟨C.nd, ?_, ?_⟩
  · rw [C.N]; exact of_decide_eq_true h.1
  · rw [C.sc]; exact of_decide_eq_true h.2
theorem lcOk_of (C : Ctx Γ X W c) {x i d : Ex} {t : Dl.Tgt} {own : List Nat} {x' : Expr} {gs : List Comprehension} {sc : Scope} {pos : Pos} (h : ck c (.lc x t own i d) .F (.ListComp x' gs sc pos) = true) :
    ∃ t' i' ifs tt, gs = [⟨t', i', ifs, 0⟩] ∧ LcOk Γ W X x' t' i' ifs sc (ownOf c.N own) x t i d (tgG Γ.K t) tt ∧ (ownOf c.N own).map (fun x => x.2) = own := by
  simp only [ck, Bool.and_eq_true, strip] at h
  have h2 := h.2
  split at h2
  · rename_i x2 t' i' ifs sc2 pos2 q
    cases q
    simp only [Bool.and_eq_true] at h2
    obtain ⟨⟨⟨⟨⟨⟨⟨⟨w1, w2⟩, w3⟩, w4⟩, w5⟩, w6⟩, w7⟩, w8⟩, w9⟩ := h2
    have hc := C.calm h.1.2
    have bk := blk_ok w4
    have ow := of_decide_eq_true w5
    have sub := fun {s H Ca cl fp} => C.sub (s := s) (H := H) (scope := sc) (Ca := Ca) (cl := cl) (fp := fp) bk.kind
    have hi := ck_ok i (m := .L) C w3 t' (by
      cases i <;> first | rfl | exact w2 | cases w2)
    have gf : GOf Γ t (tgG Γ.K t) := tgt_g ⟨_, _, sub (s := X.s_0) (H := X.H_0) (Ca := 0) (cl := []) (fp := []), hc⟩ w6
    have pg := fun s H Ca cl fp => (tgt_ok (sub (s := s) (H := H) (Ca := Ca) (cl := cl) (fp := fp)) hc w6).1
    have pe := fun s H Ca cl fp => ck_ok x (m := .I) (sub (s := s) (H := H) (Ca := Ca) (cl := cl) (fp := fp)) w8
    have sb : ∀ j, j ∈ tgtL t → j ∈ (ownOf c.N own).map fun x => x.2 := fun j hj => by
      rw [ow]
      simpa using List.all_eq_true.mp w7 j hj
    have bk' : L2.BlkOk X.N X.env.scope sc (ownOf c.N own) := by
      rw [C.N, C.sc]; exact bk
    split at w9
    · exact ⟨t', i', [], L2.tYes, rfl, ⟨hc, C.nd, hi, bk', pg, fun _ _ _ _ _ => L2.pts_nil, pe, gf, tt_yes, fold_ok w1 _, sb⟩, ow⟩
    · rename_i d' dd _ _
      have pt := fun s H Ca cl fp => L2.pts_one (ck_ok _ (m := .T) (sub (s := s) (H := H) (Ca := Ca) (cl := cl) (fp := fp)) w9).1
      exact ⟨t', i', _, _, rfl, ⟨hc, C.nd, hi, bk', pg, pt, pe, gf, tt_one, fold_ok w1 _, sb⟩, ow⟩
    · cases w9
  · cases h2
theorem ckP_ok (C : Ctx Γ X W c) : ∀ {l : List (Nat × Bool × Ex)} {es : List Expr}, ckP c l es = true → PA X es (tPr Γ W l)
  | [], [], _ => p_nil
  | [], _ :: _, h => by simp [ckP] at h
  | (i, o, x) :: l, [], h => by simp [ckP] at h
  | (i, o, x) :: l, e :: es, h => by
    simp only [ckP, Bool.and_eq_true] at h
    have h2 := h.1.2
    split at h2
    · exact p_keep (ck_ok x (m := .I) C h2) (ckP_ok C h.2) h.1.1
    · exact p_new (ck_ok x (m := .F) C h2) (ckP_ok C h.2) h.1.1
theorem ckCl_ok (C : CtxS Γ X W c) {cs : List String} {t : Expr} (h : ckCl c cs t = true) : ClOk Γ X t cs := by
  unfold ckCl at h
  split at h
  · rw [Bool.and_eq_true] at h
    have e := of_decide_eq_true h.1
    subst e
    exact .one (C.nm _ h.2)
  · simp only [Bool.and_eq_true] at h
    have e1 := of_decide_eq_true h.1.1.1
    have e2 := of_decide_eq_true h.1.1.2
    subst e1 e2
    exact .two (C.nm _ h.1.2) (C.nm _ h.2)
  · cases h
/-- the body of a try -/
theorem CtxS.tr (C : CtxS Γ X W c) (hl : c.lev = true) {W' : WX} {pn : List (Addr × Obj)} {xe : Value → Shared → Prop} (tk : Takes (X.tr pn xe) W') (po : PassesOwn (model X.prog X.w) X.A X.env xe) : CtxS Γ (X.tr pn xe) W' c.tr where
  K := C.K
  N := C.N
  nd := C.nd
  sc := C.sc
  fn := C.fn
  calm := C.calm
  un := C.un
  gd := C.gd
  bn := C.bn
  gl := fun x => C.gl x
  calls := fun h f n q => by
    obtain ⟨o, g⟩ := C.calls h f n q
    exact ⟨o, g⟩
  fld := fun f h => fld_none (C.lv hl).2.2
  tk := Dx.TakesF.of tk
  tkx := fun _ => ⟨tk, (C.lv hl).1, (C.lv hl).2.1⟩
  dk := fun x t h => C.dk x t h
  tks := tk
  top := C.top
  cau := fun _ f h => nomatch h
  ie := fun k h => nomatch h
  po := fun _ => po
  lv := C.lv
  cl := fun h k f q => by
    obtain ⟨o, g⟩ := C.cl h k f q
    exact ⟨o, g⟩
  nm := fun k h => by
    obtain ⟨v, n, r⟩ := C.nm k h
    exact ⟨v, n, r⟩
  xf := C.xf
  ies := C.ies
/-- an except suite -/
theorem CtxS.suite (C : CtxS Γ X W c) {a : Addr} {oe : Obj} {cls : Value} {d : Option Addr} {pn : List (Addr × Obj)} (hz : Zc cls d oe) (hf : ∃ vs, oe.data = .fields vs) : CtxS { Γ with Z := some (a, cls, d) } (X.suite a ((a, oe) :: pn)) W0 c.suite where
  K := C.K
  N := C.N
  nd := C.nd
  sc := C.sc
  fn := C.fn
  calm := fun h => nomatch h
  un := C.un
  gd := C.gd
  bn := C.bn
  gl := fun x => C.gl x
  calls := fun h => nomatch h
  fld := fun f h => fld_suite (Γ := { Γ with Z := some (a, cls, d) }) (fun k C' q => C.xf f h k C' q) hz hf rfl
  tk := fun _ _ ⟨_, _, _, _, _, _, _, _, _, _, _, _, _, _, _, _, w⟩ => w.elim
  dk := fun x t h => C.dk x t h
  tkx := fun h => nomatch h
  tks := fun _ _ ⟨_, _, _, _, _, _, _, _, _, _, _, _, _, _, _, _, w⟩ => w.elim
  top := C.top
  cau := fun h => nomatch h
  ie := fun k h => by
    obtain ⟨b, hm, hc⟩ := C.ies k h
    exact isE_suite (Γ := { Γ with Z := some (a, cls, d) }) ⟨b, hm, hc⟩ hz hf rfl
  po := fun h => nomatch h
  lv := fun h => nomatch h
  cl := fun h => nomatch h
  nm := fun k h => by
    obtain ⟨v, n, r⟩ := C.nm k h
    exact ⟨v, n, r⟩
  xf := C.xf
  ies := C.ies
end
theorem owns_nil {c : Ck} {es : List Expr} (h : c.owns [] es = true) : es = [] := by
  cases es with
  | nil => rfl
  | cons _ _ => simp [Ck.owns] at h
theorem owns_inv {c : Ck} {i : Nat} {o : Bool} {x : Ex} {l : List (Nat × Bool × Ex)} {es : List Expr} (h : c.owns ((i, o, x) :: l) es = true) : ∃ y p es', es = .Name y p :: es' ∧ c.own i y = true ∧ c.owns l es' = true := by
  cases es with
  | nil => simp [Ck.owns] at h
  | cons e es =>
    cases e with
    | Name y p =>
      simp only [Ck.owns, Bool.and_eq_true] at h
      exact ⟨y, p, es, rfl, h.1, h.2⟩
    | _ => simp [Ck.owns] at h
theorem ckP_nil {c : Ck} {es : List Expr} (h : ckP c [] es = true) : es = [] := by
  cases es with
  | nil => rfl
  | cons _ _ => simp [ckP] at h
theorem ckP_inv {c : Ck} {q : Nat × Bool × Ex} {l : List (Nat × Bool × Ex)} {es : List Expr} (h : ckP c (q :: l) es = true) : ∃ y es', es = y :: es' ∧ ckP c l es' = true := by
  cases es with
  | nil => obtain ⟨i, o, x⟩ := q; simp [ckP] at h
  | cons e es =>
    obtain ⟨i, o, x⟩ := q
    simp only [ckP, Bool.and_eq_true] at h
    exact ⟨e, es, rfl, h.2⟩
theorem par_ok {Γ : Gam} {X : Cx} {W : WX} {c : Ck} (C : CtxS Γ X W c) (hc : X.calm = true) {l : List (Nat × Bool × Ex)} {es vs : List Expr} {k k2 : Nat} {p p2 pos : Pos} (h1 : c.owns l es = true) (h2 : ckP c l vs = true) (h3 : distinct (l.map (·.1)) = true) (h4 : swapR c.sc es vs = some (some (namesOf es))) :
    PS X (.Assign [.Tuple es k p] (.Tuple vs k2 p2) pos) (tS Γ W (.par l)) := by
  have hw := swapR_ok (k := k) (k2 := k2) (p := p) (p2 := p2) C.sc C.fn h4
  have hp := ckP_ok C.toCtx h2
  have len : (l.length = 2 ∨ l.length = 3) := by
    have el : es.length = l.length := by
      clear hw h4 hp h2 h3
      induction l generalizing es with
      | nil => cases es <;> simp_all [Ck.owns]
      | cons q l ih =>
        cases es with
        | nil => simp [Ck.owns] at h1
        | cons e es =>
          cases e <;> simp [Ck.owns] at h1
          simp [ih h1.2]
    unfold swapR at h4
    split at h4
    · cases h4
    · rename_i c1
      simp only [Bool.or_eq_true, Bool.not_eq_true', bne_iff_ne, ne_eq, not_or, Bool.not_eq_false, beq_iff_eq, Decidable.not_not] at c1
      rw [el] at c1
      exact c1.1
  rcases len with len | len
  · match l, len with
    | [(i, o1, x1), (j, o2, x2)], _ =>
      obtain ⟨a, pa, es, rfl, w1, h1⟩ := owns_inv h1
      obtain ⟨b, pb, es, rfl, w2, h1⟩ := owns_inv h1
      obtain rfl := owns_nil h1
      obtain ⟨v1, vs1, rfl, q1⟩ := ckP_inv h2
      obtain ⟨v2, vs2, rfl, q2⟩ := ckP_inv q1
      obtain rfl := ckP_nil q2
      have ij : i ≠ j := by
        intro z
        subst z
        simp [distinct] at h3
      exact s_par2 (p := (o1, x1)) (q := (o2, x2)) hc (C.own w1) (C.own w2) ij hp hw
  · match l, len with
    | [(i, o1, x1), (j, o2, x2), (n, o3, x3)], _ =>
      obtain ⟨a, pa, es, rfl, w1, h1⟩ := owns_inv h1
      obtain ⟨b, pb, es, rfl, w2, h1⟩ := owns_inv h1
      obtain ⟨d, pd, es, rfl, w3, h1⟩ := owns_inv h1
      obtain rfl := owns_nil h1
      obtain ⟨v1, vs1, rfl, q1⟩ := ckP_inv h2
      obtain ⟨v2, vs2, rfl, q2⟩ := ckP_inv q1
      obtain ⟨v3, vs3, rfl, q3⟩ := ckP_inv q2
      obtain rfl := ckP_nil q3
      simp only [distinct, List.map_cons, List.map_nil, List.contains_cons, List.contains_nil, Bool.or_false, Bool.and_eq_true, Bool.not_eq_true', Bool.or_eq_false_iff, beq_eq_false_iff_ne, ne_eq] at h3
      exact s_par3 (p := (o1, x1)) (q := (o2, x2)) (t := (o3, x3)) hc (C.own w1) (C.own w2) (C.own w3) h3.1.1 h3.1.2 h3.2.1 hp hw
theorem app_form {e : Expr} {p : Pos} {env : Env} (h : noStar e = true) : ((((backTo p (starEach [e] env)).all fun x => !x.1) && (backToKw p (keywordEach [] env)).all fun x => x.1.isSome) && decide (([e] : List Expr).length + ([] : List Keyword).length + (if ([] : List Keyword).isEmpty = true then 0 else 1) < 30)) = true := by
  rw [star_cons h]
  rfl
theorem unp_st {env : Env} {sc : Scope} {es : List Expr} {k : Nat} {p : Pos} {e : Expr} (he : env.scope = sc) (hk : sc.kind = .function) (h : (match e with
    | .Tuple vs _ _ => decide (swapR sc es vs = some none)
    | _ => true) = true) : swappedStores [.Tuple es k p] e env = pure none := by
  cases e <;> first | exact swapR_ok he hk (of_decide_eq_true h) | rfl
mutual
theorem ckS_ok : ∀ (x : Dl.St) {Γ : Gam} {X : Cx} {W : WX} {c : Ck} {st : Stmt}, CtxS Γ X W c → ckS c x st = true → PS X st (tS Γ W x)
  | .pass, Γ, X, W, c, st, C, h => by
    simp only [ckS] at h
    split at h
    · exact s_pass
    · exact s_doc
    · cases h
  | .brk, Γ, X, W, c, st, C, h => by
    simp only [ckS] at h
    split at h
    · exact s_brk
    · cases h
  | .cont, Γ, X, W, c, st, C, h => by
    simp only [ckS] at h
    split at h
    · exact s_cont
    · cases h
  | .ret x, Γ, X, W, c, st, C, h => by
    simp only [ckS] at h
    split at h
    · exact s_ret (ck_ok x (m := .I) C.toCtx h)
    · split at h
      · exact s_retN
      · cases h
    · cases h
  | .expr x, Γ, X, W, c, st, C, h => by
    simp only [ckS] at h
    split at h
    · simp only [Bool.and_eq_true, Bool.not_eq_true'] at h
      exact s_expr (ck_ok x (m := .I) C.toCtx h.2) (noComp_ok h.1 _ _ _)
    · cases h
  | .ifs x a b, Γ, X, W, c, st, C, h => by
    simp only [ckS] at h
    split at h
    · simp only [Bool.and_eq_true] at h
      exact s_ifs (ck_ok x (m := .T) C.toCtx h.1.1).1 (ckSs_ok a C h.1.2) (ckSs_ok b C h.2)
    · cases h
  | .set i x, Γ, X, W, c, st, C, h => by
    simp only [ckS] at h
    split at h
    · simp only [Bool.and_eq_true, Bool.not_eq_true'] at h
      exact s_set (C.slot h.1.2) (ck_ok x (m := .I) C.toCtx h.2) (noComp_ok h.1.1 _ _ _)
    · cases h
  | .setL i x, Γ, X, W, c, st, C, h => by
    simp only [ckS] at h
    split at h
    · split at h
      · rw [Bool.and_eq_true] at h
        have h2 := h.2
        split at h2
        · rename_i sw
          rw [Bool.and_eq_true] at h2
          have h3 := h2.2
          split at h3
          · obtain ⟨t', i', ifs, tt, rfl, L, ow⟩ := lcOk_of C.toCtx h.1
            have r := fun spos => s_setLc (spos := spos) L (C.own h2.1) ((swapW_ok C.sc C.fn).trans (congrArg pure sw))
            rw [ow] at r
            exact r _
          · cases h3
        · rename_i sw
          rw [Bool.not_eq_true] at sw
          exact s_setL (C.slot h2) (ck_ok x (m := .F) C.toCtx h.1) ((swapW_ok C.sc C.fn).trans (congrArg pure sw))
      · simp only [Bool.and_eq_true, Bool.not_eq_true'] at h
        exact s_setL (C.slot h.1.2) (ck_ok x (m := .F) C.toCtx h.2) (noComp_ok h.1.1 _ _ _)
    · cases h
  | .unp l x, Γ, X, W, c, st, C, h => by
    simp only [ckS] at h
    split at h
    · simp only [Bool.and_eq_true] at h
      exact s_unp C.K (C.calm h.1.1.1) (C.slots h.1.1.2) (ck_ok x (m := .I) C.toCtx h.1.2) tup_sole (unp_st C.sc C.fn h.2)
    · cases h
  | .par l, Γ, X, W, c, st, C, h => by
    simp only [ckS] at h
    split at h
    · simp only [Bool.and_eq_true] at h
      exact par_ok C (C.calm h.1.1.1.1) h.1.1.1.2 h.1.1.2 h.1.2 (of_decide_eq_true h.2)
    · cases h
  | .setIx i k x, Γ, X, W, c, st, C, h => by
    simp only [ckS] at h
    split at h
    · simp only [Bool.and_eq_true] at h
      obtain ⟨⟨⟨⟨w1, w2⟩, w3⟩, w4⟩, w5⟩ := h
      obtain ⟨q1, q2⟩ := okN_ok w2
      exact s_setIx (C.slot w1) (ck_ok x (m := .I) C.toCtx w4) (ck_ok k (m := .I) C.toCtx w5) q1 q2 w3 sub_sole sub_st
    · cases h
  | .newD i, Γ, X, W, c, st, C, h => by
    simp only [ckS] at h
    split at h
    · exact s_newD (C.slot h)
    · cases h
  | .bump i j m, Γ, X, W, c, st, C, h => by
    simp only [ckS] at h
    split at h
    · simp only [Bool.and_eq_true] at h
      obtain ⟨⟨⟨⟨⟨⟨⟨⟨⟨⟨w1, w2⟩, w3⟩, w4⟩, w5⟩, w6⟩, w7⟩, w8⟩, w9⟩, w10⟩, w11⟩ := h
      have e1 := of_decide_eq_true w1
      have e2 := of_decide_eq_true w2
      have e3 := of_decide_eq_true w3
      have e4 := eq_of_beq w4
      subst e1
      subst e2
      subst e3
      subst e4
      exact s_bump C.un (C.slot w5) (C.slot w6) (C.slot w7) (okN_ok w8) (okN_ok w9) (okN_ok w10) w11 ⟨rfl, rfl, w11, rfl⟩
    · cases h
  | .retD i, Γ, X, W, c, st, C, h => by
    simp only [ckS] at h
    split at h
    · simp only [Bool.and_eq_true] at h
      exact s_retD (C.slot h.1) (okN_ok h.2)
    · cases h
  | .app i x, Γ, X, W, c, st, C, h => by
    simp only [ckS] at h
    split at h
    · simp only [Bool.and_eq_true] at h
      obtain ⟨⟨⟨⟨⟨w1, w2⟩, w3⟩, w4⟩, w5⟩, w6⟩ := h
      have e := of_decide_eq_true w1
      subst e
      obtain ⟨q1, q2⟩ := okN_ok w3
      exact s_app C.K (C.slot w2) (ck_ok x (m := .I) C.toCtx w6) w4 w5 q1 q2 (app_form w4) rfl
    · cases h
  | .fors t x b, Γ, X, W, c, st, C, h => by
    simp only [ckS] at h
    split at h
    · simp only [Bool.and_eq_true] at h
      obtain ⟨⟨⟨⟨⟨w1, w2⟩, w3⟩, w4⟩, w5⟩, w6⟩ := h
      obtain ⟨g1, g2⟩ := tgt_ok C.toCtx (C.calm w1) w4
      exact s_for (C.po w1) (C.calm w1) (ck_ok x (m := .K) C.toCtx w5 _ w3) g1 g2 (ckSs_ok b C w6) (fold_ok w2 _)
    · cases h
  | .whil x b, Γ, X, W, c, st, C, h => by
    simp only [ckS] at h
    split at h
    · simp only [Bool.and_eq_true] at h
      exact s_while (C.po h.1.1) (ck_ok x (m := .T) C.toCtx h.1.2).1 (ckSs_ok b C h.2)
    · cases h
  | .ext i x, Γ, X, W, c, st, C, h => by simp only [ckS] at h; cases h
  | .pop t i, Γ, X, W, c, st, C, h => by simp only [ckS] at h; cases h
  | .raise k l, Γ, X, W, c, st, C, h => by
    simp only [ckS] at h
    split at h
    · simp only [Bool.and_eq_true] at h
      obtain ⟨⟨⟨⟨⟨w1, w2⟩, w3⟩, w4⟩, w5⟩, w6⟩ := h
      have e := of_decide_eq_true w2
      subst e
      obtain ⟨f, hf⟩ := Option.isSome_iff_exists.mp w4
      obtain ⟨g1, g2⟩ := C.glo w3
      exact s_raise C.K (C.calm w1) C.tks (C.cl w1 k f hf) g1 g2 w5 (ckA_ok l C.toCtx w6)
    · cases h
  | .tryS b hs, Γ, X, W, c, st, C, h => by
    simp only [ckS] at h
    split at h
    · rename_i bd hds _
      simp only [Bool.and_eq_true] at h
      obtain ⟨⟨⟨w1, w2⟩, w3⟩, w4⟩ := h
      obtain ⟨l1, l2, l3⟩ := C.lv w1
      cases hds with
      | nil => simp at w4
      | cons h₀ hds => exact s_try l3 l1 l2 C.tks (fun W' pn xe tk po => ckSs_ok b (C.tr w1 tk po) w2) (ckH_ok hs C w3)
    · cases h
  | .stSetAt i x, Γ, X, W, c, st, C, h => by
    simp only [ckS] at h
    split at h
    · simp only [Bool.and_eq_true, Bool.not_eq_true'] at h
      have e1 := of_decide_eq_true h.1.1.1
      subst e1
      obtain ⟨g1, g2, g3, g4⟩ := C.vis h.1.1.2
      exact s_stSetAt (by have := C.un; omega) g1 g2 g3 g4 (ck_ok x (m := .I) C.toCtx h.2) h.1.2
    · cases h
  | .stSetLeft i k x, Γ, X, W, c, st, C, h => by
    simp only [ckS] at h
    split at h
    · simp only [Bool.and_eq_true] at h
      obtain ⟨⟨⟨⟨w1, w2⟩, w3⟩, w4⟩, w5⟩ := h
      have e1 := of_decide_eq_true w1
      subst e1
      obtain ⟨g1, g2, g3, g4⟩ := C.vis w2
      exact s_stSetLeft (by have := C.un; omega) g1 g2 g3 g4 (ck_ok x (m := .I) C.toCtx w5) (ck_ok k (m := .I) C.toCtx w4) w3
    · cases h
  | .begin_ i x, Γ, X, W, c, st, C, h => by
    simp only [ckS] at h
    split at h
    · simp only [Bool.and_eq_true] at h
      obtain ⟨⟨⟨⟨⟨w1, w2⟩, w3⟩, w4⟩, w5⟩, w6⟩ := h
      have e1 := of_decide_eq_true w1
      have e2 := of_decide_eq_true w2
      have e3 := of_decide_eq_true w3
      have e4 := eq_of_beq w4
      subst e1 e2 e3 e4
      obtain ⟨g1, g2, g3, g4⟩ := C.vis w5
      exact s_begin g1 g2 g3 g4 (ck_ok x (m := .F) C.toCtx w6)
    · cases h
theorem ckSs_ok : ∀ (l : List Dl.St) {Γ : Gam} {X : Cx} {W : WX} {c : Ck} {sts : List Stmt}, CtxS Γ X W c → ckSs c l sts = true → PSs X sts (tSs Γ W l)
  | [], Γ, X, W, c, sts, C, h => by
    cases sts with
    | nil => exact b_nil
    | cons _ _ => simp [ckSs] at h
  | x :: l, Γ, X, W, c, sts, C, h => by
    cases sts with
    | nil => simp [ckSs] at h
    | cons st sts =>
      simp only [ckSs, Bool.and_eq_true] at h
      exact b_cons (ckS_ok x C h.1) (ckSs_ok l C h.2)
theorem ckH_ok : ∀ (l : List (List String × Option Nat × List Dl.St)) {Γ : Gam} {X : Cx} {W : WX} {c : Ck} {hds : List ExceptHandler}, CtxS Γ X W c → ckH c l hds = true → HdsR Γ X hds l
  | [], Γ, X, W, c, hds, C, h => by
    cases hds with
    | nil => exact .nil
    | cons _ _ => simp [ckH] at h
  | (cs, n, b) :: hs, Γ, X, W, c, hds, C, h => by
    match hds, h with
    | [], h => simp [ckH] at h
    | .ExceptHandler (some t) nm (b₀ :: su) pos :: hds, h =>
      simp only [ckH, Bool.and_eq_true] at h
      obtain ⟨⟨⟨w1, w2⟩, w3⟩, w4⟩ := h
      refine .cons (ckCl_ok C w1) ?_ (fun a oe cls d pn hz hf => ckSs_ok b (C.suite hz hf) w3) (ckH_ok hs C w4)
      cases n with
      | none => cases nm with
        | none => trivial
        | some _ => cases w2
      | some i => cases nm with
        | none => cases w2
        | some y => exact C.own w2
    | .ExceptHandler none _ _ _ :: _, h => simp [ckH] at h
    | .ExceptHandler (some _) _ [] _ :: _, h => simp [ckH] at h
end
end Ds
end
section
set_option Elab.async false
set_option Elab.async false
set_option linter.all false
set_option maxRecDepth 100000
set_option maxHeartbeats 1000000
set_option autoImplicit false
/-! SndN: the body of a def that is handed a thunk. -/
namespace Ds
open PySem PySem.Spec PyProof.Rows
open L2 (V Hp HO upd upd_same upd_ne RelV SqL SqT TE TA TT TS TG TI VK XK WX Cx Inv PE PA PT PTs PS PSs PG PGs PI It Walk PW Rd EP OpR tOp pe_op R2 rI rI0 Dp DpAll Room CallR tCB tCons tNil tTup tLst Gl Sp Ends exo exd OexC Zc Names Takes SP)
open Dl (D DV GS S R RC Ex Fl Le)
open LamX (CodeO)
/-- try: y = (word, a()); except ..; .. -/
def ckT0 (c : Ck) (a : Str) (b : List Dl.St) (st : List Stmt) : Bool := match b, st with
  | .tryS [.set j (.tup [.str w, .call q []])] hs :: post, .Try [.Assign [.Name y _] (.Tuple [.Constant (.str w') _ _, .Call (.Name z _) [] [] _] _ _) _] hds [] [] _ :: posts =>
    decide (q = "()") && (decide (z = a) && (decide (w' = Str.ofString w) && (c.lev && (c.slot j y && (ckH c hs hds && (!hds.isEmpty && ckSs c post posts))))))
  | _, _ => false
/-- .. behind y = None, too -/
def ckT (c : Ck) (a : Str) (b : List Dl.St) (st : List Stmt) : Bool := ckT0 c a b st || (match b, st with
  | .set j .non :: b, .Assign [.Name y _] (.Constant .none _ _) _ :: st => c.slot j y && decide (j ≠ 0) && ckT0 c a b st
  | _, _ => false)
section
variable {Γ : Gam} {X : Cx} {c : Ck} {a : Str} {fl c' : Addr} {q : Str} {tl : XK → Hp → VK → Prop} {A0 : Option AS} {H0 : Hp} {g0 : Option GS} {x : D} {call0 : String → List D → Option GS → RC}
/-- the frame's facts -/
def Frm (Γ : Gam) (fl : Addr) (A0 : Option AS) (H0 : Hp) (g0 : Option GS) (b : List Dl.St) (W : WX) (E : Ends) (σ : List (Option V)) (H : Hp) : Prop :=
  ∃ env A, Γ.DI A ⟨A0, H0, []⟩ env g0 σ H ∧ σ[0]? = some (some (.ref fl)) ∧ Ext A0 A ∧ Per H0 H ∧ OutS Γ W A ⟨A0, H0, []⟩ H (Dl.evB Γ.fl Γ.gl Γ.call b ⟨env, g0⟩) E
theorem same_src {A : Option AS} {K : PySem.W.Frag} {H : Hp} (h0 : GOk K A0 g0 H0) (h : GOk K A g0 H) (e : Ext A0 A) : A = A0 := by
  rcases e with e | e
  · exact e
  · have q0 := h0.some_iff
    have q := h.some_iff
    rw [e] at q0
    rw [← q0] at q
    rw [e]
    cases A with
    | none => rfl
    | some _ => cases q
theorem try_first (C : CtxS Γ X W0 c) (hc : Γ.call = Dl.thk call0 x) (gk0 : GOk Γ.K A0 g0 H0) (th : ThkOk Γ.K Γ.cad A0 H0 g0 x tl) (hco : H0 c' = some (CodeO c' q))
    (act : ∀ (W : WX) (pn : List (Addr × Obj)) (xe : Value → Shared → Prop) (p1 p2 : Pos), L2.Takes (X.tr pn xe) W →
      PE (X.tr pn xe) (.Call (.Name a p1) [] [] p2) (fun σZ HZ Q => σZ[0]? = some (some (.ref fl)) ∧ HZ c' = some (CodeO c' q) ∧ tl (fun cls d H' => W cls d σZ H') HZ Q))
    {b : List Dl.St} {st : List Stmt} (h : ckT0 c a b st = true) : PSs X st (Frm Γ fl A0 H0 g0 b W0) := by
  unfold ckT0 at h
  split at h
  · rename_i j w q' hs post y py w' k1 p1 z p2 p3 k2 p4 p5 hds p6 posts
    simp only [Bool.and_eq_true, decide_eq_true_eq] at h
    obtain ⟨e1, e2, e3, hl, hsl, hh, hne, hp⟩ := h
    subst e1 e2 e3
    obtain ⟨l1, l2, l3⟩ := C.lv hl
    have L := C.slot hsl
    cases hds with
    | nil => simp at hne
    | cons h₀ hds =>
      have body : ∀ (W : WX) (pn : List (Addr × Obj)) (xe : Value → Shared → Prop), Takes (X.tr pn xe) W → PassesOwn (model X.prog X.w) X.A X.env xe →
          PSs (X.tr pn xe) [.Assign [.Name y py] (.Tuple [.Constant (.str (Str.ofString w)) k1 p1, .Call (.Name z p2) [] [] p3] k2 p4) p5] (Frm Γ fl A0 H0 g0 [.set j (.tup [.str w, .call "()" []])] W) := fun W pn xe tk po => by
        refine PSs.weak (L2.pss_one (L2.ps_set (X := X.tr pn xe) L.nd L.at_ L.loc (L2.pe_tup (L2.pa_cons L2.pe_str (L2.pa_cons (act W pn xe _ _ tk) L2.pa_nil))) rfl L.fn)) fun E σ H ⟨env, A, d, s0, ex, pr, o⟩ => ?_
        have eA := same_src gk0 d.gok ex
        subst eA
        have kp : Kept Γ.K A H0 A H := fun b o e m => d.keep b o e m
        have nc : ¬ isM Γ.K A c' := fun m => by
          obtain ⟨o, e, _, _, _, n⟩ := gk0.there m
          rw [hco] at e
          exact n _ (Option.some.inj e).symm
        refine ⟨s0, (kp _ _ hco nc).1, th _ H _ kp pr d.gok ?_⟩
        simp only [Dl.evB, Dl.evS, Dl.evE, Dl.evEs, hc, Dl.thk, Dl.R.bind_ok] at o
        simp only [if_true] at o
        cases ed : Dl.decR x g0 with
        | stuck => simp only [ed] at o; exact o.elim
        | ex e g1 =>
          simp only [ed, Dl.R.bind_ex] at o
          exact fun A2 H2 cls dd e2 k2 p2 gk er => o A2 σ cls dd H2 e2 (d.after e2 k2 p2 gk) p2 er
        | ok v g1 =>
          simp only [ed, Dl.R.bind_ok] at o
          intro A2 H2 u e2 k2 p2 gk ru
          refine ⟨by show (2 : Nat) ≤ sizeLine; decide, fun p np => ?_⟩
          have d2 := d.after e2 k2 p2 gk
          have rt : Rp Γ.K A2 (upd H2 p (.tup [.str (Str.ofString w), u])) (.ref p) (.tup [.str w, v]) := rp_new_tup np (.cons (.str w) (.cons ru .nil))
          exact OutS.here (Γ := Γ) (W := W) (E := E) (fl := .nx) (OutS.later o e2 (p2.trans (per_new np))) ((d2.new np).put rt)
      refine PSs.weak (L2.pss_cons (s_tryR l3 l1 l2 C.tks (tb := fun W => Frm Γ fl A0 H0 g0 [.set j (.tup [.str w, .call "()" []])] W) body (ckH_ok hs C hh)) (ckSs_ok post C hp)) fun E σ H ⟨env, A, d, s0, ex, pr, o⟩ => ?_
      simp only [Dl.evB] at o
      refine ⟨env, A, d, s0, ex, pr, try_start (o.seq fun fl' s A' σ' H' _ e1 d1 p1 o1 => ?_)⟩
      cases fl' with
      | nx => exact ⟨A', _, s.env, s.g, d1, o1⟩
      | brk => exact OutS.here (Γ := Γ) (W := W0) (E := E) (fl := .brk) (s := s) o1 d1
      | cont => exact OutS.here (Γ := Γ) (W := W0) (E := E) (fl := .cont) (s := s) o1 d1
      | ret v => exact OutS.here (Γ := Γ) (W := W0) (E := E) (fl := .ret v) (s := s) o1 d1
  · cases h
theorem thk_body (C : CtxS Γ X W0 c) (hc : Γ.call = Dl.thk call0 x) (gk0 : GOk Γ.K A0 g0 H0) (th : ThkOk Γ.K Γ.cad A0 H0 g0 x tl) (hco : H0 c' = some (CodeO c' q))
    (act : ∀ (W : WX) (pn : List (Addr × Obj)) (xe : Value → Shared → Prop) (p1 p2 : Pos), L2.Takes (X.tr pn xe) W →
      PE (X.tr pn xe) (.Call (.Name a p1) [] [] p2) (fun σZ HZ Q => σZ[0]? = some (some (.ref fl)) ∧ HZ c' = some (CodeO c' q) ∧ tl (fun cls d H' => W cls d σZ H') HZ Q))
    {b : List Dl.St} {st : List Stmt} (h : ckT c a b st = true) : PSs X st (Frm Γ fl A0 H0 g0 b W0) := by
  unfold ckT at h
  rw [Bool.or_eq_true] at h
  rcases h with h | h
  · exact try_first C hc gk0 th hco act h
  · split at h
    · rename_i j b y py k1 p1 p2 st
      simp only [Bool.and_eq_true, decide_eq_true_eq] at h
      obtain ⟨⟨hsl, nj⟩, hr⟩ := h
      have L := C.slot hsl
      refine PSs.weak (L2.pss_cons (L2.ps_set L.nd L.at_ L.loc L2.pe_non rfl L.fn) (try_first C hc gk0 th hco act hr)) fun E σ H ⟨env, A, d, s0, ex, pr, o⟩ => ?_
      simp only [Dl.evB, Dl.evS, Dl.evE, Dl.R.bind_ok] at o
      exact ⟨_, A, d.put .non, by rw [List.getElem?_set_ne (by omega)]; exact s0, ex, pr, o⟩
    · cases h
end
end Ds
end
section
set_option Elab.async false
set_option Elab.async false
set_option linter.all false
set_option maxRecDepth 100000
set_option maxHeartbeats 8000000
set_option autoImplicit false
/-! Snd21: every def of a text keeps what the interpreter answers. -/
namespace Ds
open PySem PySem.Spec PyProof.Rows
open L2 (V Hp HO upd upd_same upd_ne RelV SqL SqT TE TA TT TS TG TI VK XK WX Cx Inv PE PA PT PTs PS PSs PG PGs PI It Walk PW Rd EP OpR tOp pe_op R2 rI rI0 Dp DpAll Room CallR tCB tCons tNil tTup tLst Gl Sp Ends exo exd OexC Zc Names Takes SP FunD)
open Dl (D DV GS S R RC Ex Fl Le)
/-- a def of the text and of the small syntax -/
structure DefOk (K : PySem.W.Frag) (mg : Str → Option Value) (c : Ck) (f : String) (F : Dl.Fn) : Prop where
  ok : ∃ fa fd x qual params body ps, FunD K x qual params body c.sc [] [] fa fd ∧ mg (Str.ofString f) = some (.ref fa) ∧ L2.FnScope c.N ps c.sc ∧ ps.length = F.params ∧ c.N.length = F.slots ∧ ckSs c F.body body = true ∧ L2.Binds K fd ps []
/-- a def that is handed a thunk -/
structure ThOk (K : PySem.W.Frag) (mg : Str → Option Value) (c : Ck) (f : String) (F : Dl.Fn) : Prop where
  ok : ∃ fa fd params body a, FunD K (Str.ofString f) (Str.ofString f) params body c.sc [] [] fa fd ∧ mg (Str.ofString f) = some (.ref fa) ∧ L2.FnScope c.N [a] c.sc ∧ c.N.length = F.slots ∧ L2.Binds K fd [a] [] ∧ okN a = true ∧ ckT c a F.body body = true
  no : ∀ k, c.thF k = false
/-- what the text's names are -/
structure TextOk (K : PySem.W.Frag) (mg : Str → Option Value) (cad : String → Option Addr) (P : Dl.Pr) (cc : String → Ck) (w : World) : Prop where
  dk : ∀ f x t, (cc f).dks x = some t → ∃ p, mg (Str.ofString x) = some (.ref p) ∧ ∀ k v, t.lookup k = some v → L2.KDct K w p (Str.ofString k) (.str (Str.ofString v))
  df : ∀ f F, P.fn f = some F → P.th f = false → DefOk K mg (cc f) f F
  sg : ∀ f h n, (cc f).sig h = some n → ∃ F, P.fn h = some F ∧ F.params = n ∧ P.th h = false
  bn : ∀ f x, (cc f).bn.contains x = true → mg x = none
  gl : ∀ x d, P.gl x = some d → ∃ u v, mg (Str.ofString x) = some u ∧ RelV v u ∧ ∀ A H, Rp K A H v d
  un : P.fn "()" = none
  nf : ∀ f k, (cc f).fld k = false
  ni : ∀ f k, (cc f).ie k = false
  cl : ∀ f k g, (cc f).cls k = some g → P.fl k = some [g] ∧ ∃ C fI fd ps, OexC K C ∧ PySem.W.findIn K (.ref C) "__init__" = some (some (.ref fI)) ∧ PySem.W.typeIn K (.ref fI) = some (.type "function") ∧
    (∀ (p : Program) (w : World) (base : Heap), L2.FnOk p w K mg base (L2.CX p w) 1 fI fd ps (spIni K C (Str.ofString g))) ∧ L2.Binds K fd ps [] ∧ mg (Str.ofString k) = some (.ref C) ∧ cad k = some C ∧ PySem.W.findIn K (.ref C) (Str.ofString g) = some none
  nm : ∀ f k, (cc f).ex k = true → ∃ v, (cc f).sc.names.lookup (Str.ofString k) = some .globalImplicit ∧ (Str.ofString k == ("__debug__" : Str)) = false ∧ mg (Str.ofString k) = some v ∧ ∀ k' C, cad k' = some C → PySem.W.exmOne K (.ref C) v = some (k' == k || k == "SayError" || k == "ValueError")
  xf : ∀ f g, (cc f).xf g = true → ∀ k C, cad k = some C → L2.XfC K C ∧ PySem.W.findIn K (.ref C) (Str.ofString g) = some none
  ies : ∀ f k, (cc f).ieS k = true → ∃ b, mg (Str.ofString k) = some (.ref b) ∧ ∀ k' C, cad k' = some C → L2.ExcC K C ∧ PySem.W.kitOne K (.ref C) (.ref b) = some (k' == k || k == "SayError" || k == "ValueError")
  tf : ∀ f h, (cc f).thF h = true → ∃ F, P.fn h = some F ∧ P.th h = true ∧ ThOk K mg (cc h) h F
  mkt : ∀ f h fa o fd, (cc f).thF h = true → mg (Str.ofString f) = some (.ref fa) → List.lookup fa K = some o → o.data = .func fd → ∀ base : Heap, K.In base → base.Ns mainGlobals mg → ∃ c P, fd.code = .ref c ∧ LamX.TabB base mg c P ∧
    (P, fd.qualname ++ ".<locals>." ++ "<lambda>") ∈ tabs K ∧ ∀ p ∈ tabs K, p.1 = P → p.2 = fd.qualname ++ ".<locals>." ++ "<lambda>"
def gam (K : PySem.W.Frag) (cad : String → Option Addr) (P : Dl.Pr) (n : Nat) : Gam := { K := K, fl := P.fl, gl := P.gl, call := Dl.run P n, cad := cad, Z := none }
theorem start_di {K : PySem.W.Frag} {cad : String → Option Addr} {A : Option AS} {H : Hp} {vs : List V} {ds : List D} {g : Option GS} {N : List Str} (r : Rps K A H vs ds) (q : GOk K A g H) : Ds.DI K none cad A ⟨A, H, []⟩ (Dl.start N.length ds) g (L2.start N vs) H := by
  have hl := r.length
  have low : ∀ (i : Nat) (dv : DV), (Dl.start N.length ds)[i]? = some (some dv) → ∃ d, ds[i]? = some d ∧ dv = .im d := fun i dv h => by
    unfold Dl.start at h
    by_cases lt : i < ds.length
    · rw [List.getElem?_append_left (by simpa using lt), List.getElem?_map, List.getElem?_eq_getElem lt] at h
      cases h
      exact ⟨_, List.getElem?_eq_getElem lt, rfl⟩
    · rw [List.getElem?_append_right (by simpa using Nat.le_of_not_lt lt), List.getElem?_replicate] at h
      split at h <;> cases h
  refine ⟨fun a o h m => ⟨h, m⟩, Ext.refl A, q, ?_, fun i dv h => ?_, fun i j l l' a h1 _ _ _ => ?_⟩
  · unfold Dl.start L2.start
    simp [hl]
  · obtain ⟨d, e, rfl⟩ := low i dv h
    obtain ⟨v, e2, rv⟩ := r.get e
    refine ⟨v, ?_, rv⟩
    unfold L2.start
    have lt := (List.getElem?_eq_some_iff.mp e2).1
    rw [List.getElem?_append_left (by simpa using lt), List.getElem?_map, e2]
    rfl
  · obtain ⟨d, _, e⟩ := low i _ h1
    cases e
theorem FnG.of {P : Program} {w : World} {K : PySem.W.Frag} {mg : Str → Option Value} {base : Heap} {k : Nat} {f : Addr} {fd : FuncData} {ps : List Str} {sp : Sp} (h : ∀ vs H Q E, sp vs H Q E → False) : FnG P w K mg base k f fd ps sp :=
  ⟨fun A outer s H args us vs Q E _ _ _ _ _ q => (h vs H Q E q).elim⟩
/-- the callees keep theirs -/
def IhOk (p : Program) (w : World) (K : PySem.W.Frag) (mg : Str → Option Value) (base : Heap) (cad : String → Option Addr) (P : Dl.Pr) (n : Nat) : Prop :=
  ∀ (h : String) (G : Dl.Fn), P.fn h = some G → P.th h = false → ∃ fa fd ps, FnG p w K mg base (3 * n + 2) fa fd ps (SpOf K cad (Dl.run P n h) G.params) ∧ ps.length = G.params ∧ mg (Str.ofString h) = some (.ref fa) ∧ PySem.W.keepIn K (.ref fa) = true ∧ L2.Binds K fd ps []
theorem calls_ok {p : Program} {w : World} {K : PySem.W.Frag} {mg : Str → Option Value} {base : Heap} {cad : String → Option Addr} {P : Dl.Pr} {cc : String → Ck} (T : TextOk K mg cad P cc w) {n : Nat} (ih : IhOk p w K mg base cad P n) {f h : String} {m : Nat} (hs : (cc f).sig h = some m)
    {Γ : Gam} (h1 : Γ.K = K) (h2 : Γ.cad = cad) (h3 : Γ.call h = Dl.run P n h) {X : Cx} (e1 : X.prog = p) (e2 : X.w = w) (e3 : X.K = K) (e4 : X.mg = mg) (e5 : X.base = base) (hr : Room (3 * n + 2) X.A) (hg : X.A.guards = some []) : CallOk Γ X h m := by
  obtain ⟨G, hG, em, ht⟩ := T.sg f h m hs
  obtain ⟨fa', fd', ps', FG, l', m', k', b'⟩ := ih h G hG ht
  refine ⟨⟨3 * n + 2, fa', fd', ps', ?_, hr, em ▸ l', ?_, ?_, ?_⟩, hg⟩
  · rw [e1, e2, e3, e4, e5, h1, h2, h3, ← em]; exact FG
  · rw [e4]; exact m'
  · rw [e3]; exact k'
  · rw [e3]; exact b'
/-- the context of a def's body -/
theorem ctx_ok {p : Program} {w : World} {K : PySem.W.Frag} {mg : Str → Option Value} {base : Heap} {cad : String → Option Addr} {P : Dl.Pr} {cc : String → Ck} (T : TextOk K mg cad P cc w) {n : Nat} (ih : IhOk p w K mg base cad P n) {f : String} {Γ : Gam} {W : WX} {X : Cx}
    (h1 : Γ.K = K) (h2 : Γ.cad = cad) (h3 : ∀ h m, (cc f).sig h = some m → Γ.call h = Dl.run P n h) (h4 : Γ.fl = P.fl) (h5 : Γ.gl = P.gl) (h6 : Γ.Z = none) (e1 : X.prog = p) (e2 : X.w = w) (e3 : X.K = K) (e4 : X.mg = mg) (e5 : X.base = base) (hr : Room (3 * n + 2) X.A) (hg : X.A.guards = some [])
    (x1 : X.N = (cc f).N) (x2 : (cc f).N.Nodup) (x3 : X.env.scope = (cc f).sc) (x4 : (cc f).sc.kind = .function) (x5 : X.calm = true) (tk : L2.Takes X W) (x6 : ∀ x, X.fn x = true) (po : PassesOwn (model X.prog X.w) X.A X.env X.xe) (x7 : X.stack = X.env :: X.outer) (x8 : X.env.frame = some X.env.locals)
    (cau : (cc f).calm = true → ∀ h, (cc f).thF h = true → ∃ k, CaughtOk Γ X h k ∧ MakesOk Γ X ∧ ∀ (A : Around) (outer : List Env) (s : Shared) (H : Hp) (E : XK) (scope : Scope) (f' c' : Addr), Room k (A.deeper (LamX.lamEnv X scope s.heap.objs.size f' c')) → A.guards = X.A.guards →
      (A.deeper (LamX.lamEnv X scope s.heap.objs.size f' c')).units + 102 < cLine ∧ ∀ h n, (cc f).sig h = some n → CallOk Γ (LamX.lamCx X A outer s H E scope f' c') h n) : CtxS Γ X W (cc f) where
  K := e3.trans h1.symm
  N := x1
  nd := by rw [x1]; exact x2
  sc := x3
  fn := x4
  calm := fun _ => x5
  un := by have := hr.un; omega
  gd := hg
  bn := fun y hy => by rw [e4]; exact T.bn f y hy
  gl := fun y d hd => by
    rw [h5] at hd
    rw [e4, h1]
    exact T.gl y d hd
  calls := fun _ h m hs => calls_ok T ih hs h1 h2 (h3 h m hs) e1 e2 e3 e4 e5 hr hg
  fld := fun k hk => by rw [T.nf f k] at hk; cases hk
  tk := Dx.TakesF.of tk
  tkx := fun _ => ⟨tk, x7, x8⟩
  dk := fun x t hx => by
    obtain ⟨p', q1, q2⟩ := T.dk f x t hx
    exact ⟨p', by rw [e4]; exact q1, by rw [e3, e2]; exact q2⟩
  tks := tk
  top := fun _ => x6
  cau := cau
  ie := fun k hk => by rw [T.ni f k] at hk; cases hk
  po := fun _ => po
  lv := fun _ => ⟨x7, x8, h6⟩
  cl := fun _ k g hk => by
    obtain ⟨hfl, C, fI, fdI, psI, q1, q2, q3, q4, q5, q6, q7, q8⟩ := T.cl f k g hk
    refine ⟨⟨C, fI, 1, fdI, psI, ?_, ?_, ?_, ?_, Room.down hr (by omega), ?_, ?_, ?_, ?_⟩, by rw [h4]; exact hfl⟩
    · rw [e3]; exact q1
    · rw [e3]; exact q2
    · rw [e3]; exact q3
    · rw [e1, e2, e3, e4, e5]; exact q4 p w base
    · rw [e3]; exact q5
    · rw [e4]; exact q6
    · rw [h2]; exact q7
    · rw [e3]; exact q8
  nm := fun k hk => by
    obtain ⟨v, q1, q2, q3, q4⟩ := T.nm f k hk
    refine ⟨v, ⟨?_, q2, .inl ?_⟩, fun k' C hc => ?_⟩
    · show X.env.scope.names.lookup _ = _
      rw [x3]; exact q1
    · rw [e4]; exact q3
    · rw [e3]
      rw [h2] at hc
      exact q4 k' C hc
  xf := fun g hg k C hc => by
    rw [h2] at hc
    rw [e3]
    exact T.xf f g hg k C hc
  ies := fun k hk => by
    obtain ⟨b, q1, q2⟩ := T.ies f k hk
    refine ⟨b, by rw [e4]; exact q1, fun k' C hc => ?_⟩
    rw [h2] at hc
    rw [e3]
    exact q2 k' C hc
theorem start_none {dv : DV} (n : Nat) (i : Nat) : (Dl.start n [])[i]? ≠ some (some dv) := by
  intro h
  unfold Dl.start at h
  simp [List.getElem?_replicate] at h
/-- a def that is handed a thunk does with it what the interpreter does -/
theorem gives_ok {p : Program} {w : World} {K : PySem.W.Frag} {mg : Str → Option Value} {base : Heap} {cad : String → Option Addr} {P : Dl.Pr} {cc : String → Ck} (T : TextOk K mg cad P cc w) {m : Nat} (ih : IhOk p w K mg base cad P m) {h : String} {F : Dl.Fn} (hf : P.fn h = some F) (ht : P.th h = true)
    {Γ : Gam} (h1 : Γ.K = K) (h2 : Γ.cad = cad) (h3 : Γ.call h = Dl.run P (m + 1) h) {X : Cx} (e1 : X.prog = p) (e2 : X.w = w) (e3 : X.K = K) (e4 : X.mg = mg) (e5 : X.base = base) (hr : Room (3 * m + 3) X.A) (hg : X.A.guards = some [])
    {a : Str} {g : Addr} {cdv : Value} {body : List Stmt} (S : L2.FnScope (cc h).N [a] (cc h).sc) (hl : (cc h).N.length = F.slots) (hno : ∀ k, (cc h).thF k = false) (hck : ckT (cc h) a F.body body = true) : Gives Γ X (cc h).N h (cc h).sc g cdv body a := by
  intro fl c' s H Q tl q act hco ⟨A, g0, x, gk, th, res⟩
  rw [h3] at res
  rw [h1] at gk
  have run : Dl.run P (m + 1) h [x] g0 = Dl.finish (Dl.evB P.fl P.gl (Dl.thk (Dl.run P m) x) F.body ⟨Dl.start F.slots [], g0⟩) := by
    rw [Dl.run, hf]
    show (if P.th h = true then _ else _) = _
    rw [if_pos ht]
  rw [run] at res
  have C : CtxS { gam K cad P m with call := Dl.thk (Dl.run P m) x } (gCx X (cc h).N (Str.ofString h) (cc h).sc g cdv s H).nox W0 (cc h) := by
    refine ctx_ok T ih rfl rfl (fun h' m' hs => ?_) rfl rfl rfl e1 e2 e3 e4 e5 (hr.deeper _) hg rfl S.nd rfl S.kind rfl LamX.takes0 (fun _ => rfl) PassesOwn.never rfl rfl (fun _ k hk => by rw [hno k] at hk; cases hk)
    obtain ⟨G, hG, _⟩ := T.sg h h' m' hs
    have : h' ≠ "()" := fun z => by rw [z, T.un] at hG; cases hG
    funext ds g'
    exact if_neg this
  have th' : ThkOk K cad A H g0 x tl := by rw [← h1, ← h2]; exact th
  refine ⟨_, thk_body (fl := fl) (c' := c') (q := q) (a := a) (tl := tl) (A0 := A) (H0 := H) (g0 := g0) (x := x) (call0 := Dl.run P m) C rfl gk th' hco act hck, Dl.start F.slots [], A, ?_, ?_, Ext.refl A, Per.refl H, ?_⟩
  · refine ⟨fun b o e n => ⟨e, n⟩, Ext.refl A, gk, ?_, fun i dv e => absurd e (start_none _ _), fun i j l l' b e _ _ _ => absurd e (start_none _ _)⟩
    have := hl
    unfold Dl.start L2.start
    simp [hl]
    have := S.pre
    match hN : (cc h).N, this with
    | b :: l, _ => rw [hN] at hl; simp at hl; omega
  · have := S.pre
    match hN : (cc h).N, this with
    | b :: l, _ => rfl
  · cases e : Dl.evB P.fl P.gl (Dl.thk (Dl.run P m) x) F.body ⟨Dl.start F.slots [], g0⟩ with
    | stuck => rw [e] at res; exact res.elim
    | ex y s1 => rw [e] at res; exact res.elim
    | ok f s1 =>
      rw [e] at res
      show OutS _ W0 A ⟨A, H, []⟩ H (Dl.evB P.fl P.gl (Dl.thk (Dl.run P m) x) F.body ⟨Dl.start F.slots [], g0⟩) _
      rw [e]
      intro A' σ' H' e1' d1 p1
      rw [h1] at res
      cases f with
      | nx => exact res A' H' .non e1' (fun a o h m => d1.keep a o h m) p1 d1.gok .non
      | ret d => exact fun v r => res A' H' v e1' (fun a o h m => d1.keep a o h m) p1 d1.gok r
      | brk => exact res.elim
      | cont => exact res.elim
/-- a def, where its callees keep theirs -/
theorem one_ok {p : Program} {w : World} {K : PySem.W.Frag} {mg : Str → Option Value} {base : Heap} {cad : String → Option Addr} {P : Dl.Pr} {cc : String → Ck} (T : TextOk K mg cad P cc w) (hK : K.In base) (hN : base.Ns mainGlobals mg) {n : Nat} (ih : IhOk p w K mg base cad P n) (ihp : ∀ m, n = m + 1 → IhOk p w K mg base cad P m)
    {f : String} {F : Dl.Fn} (hf : P.fn f = some F) (ht : P.th f = false) {fa : Addr} {fd : FuncData} {x qual : Str} {params : Arguments} {body : List Stmt} {ps : List Str} (FD : FunD K x qual params body (cc f).sc [] [] fa fd) (hmg : mg (Str.ofString f) = some (.ref fa)) (S : L2.FnScope (cc f).N ps (cc f).sc) (h1 : ps.length = F.params) (h2 : (cc f).N.length = F.slots)
    (h3 : ckSs (cc f) F.body body = true) : FnG p w K mg base (3 * (n + 1) + 2) fa fd ps (SpOf K cad (Dl.run P (n + 1) f) F.params) := by
  obtain ⟨oc, od, dV, kV, doc, pm, an, cdv, ct, osl, rfl, lk, hcd, _, _⟩ := FD.ex
  refine fnG_of (k := 3 * n + 4) lk hcd S (fun vs H Q E q => q.1.trans h1.symm) fun A outer s H vs Q E hr hg q => ?_
  obtain ⟨hv, A0, ds, g, rs, gk, q⟩ := q
  let Γ := gam K cad P n
  let X := L2.cxOf (L2.CX p w) p w K mg base (cc f).N qual (cc f).sc fa cdv A outer s H E
  let W : WX := fun cls d _ H => E cls d H
  have C : CtxS Γ X W (cc f) := by
    refine ctx_ok T ih rfl rfl (fun h' m' hs => rfl) rfl rfl rfl rfl rfl rfl rfl rfl (Room.down hr (by omega)) hg rfl S.nd rfl S.kind rfl (L2.takes_of rfl rfl rfl rfl) (fun _ => rfl) (L2.passes_of rfl) rfl rfl (fun _ h hth => ?_)
    obtain ⟨G, hG, tG, hTO⟩ := T.tf f h hth
    obtain ⟨fa', fd', params', body', a, FD', hm', S', hl', hb', oka, hck'⟩ := hTO.ok
    obtain ⟨oc', od', dV', kV', doc', pm', an', cdv', ct', osl', rfl, lk', hcd', _, _⟩ := FD'.ex
    refine ⟨3 * n + 2, ⟨⟨fa', (cc h).N, a, (cc h).sc, params', body', dV', kV', doc', pm', cdv', ct', oc', an', od', osl', hm', FD'.kp, lk', hcd', hb', S', ?_, (okN_ok oka).1, (okN_ok oka).2, ?_⟩, hr⟩, ?_, ?_⟩
    · rcases S'.par a (by simp) with z | z
      · exact .inl z
      · exact .inr (.inl z)
    · cases n with
      | zero =>
        intro fl c' s' H' Q' tl q' _ _ ⟨A1, g1, x1, _, _, res⟩
        exact (show False from res).elim
      | succ m => exact gives_ok T (ihp m rfl) hG tG rfl rfl rfl rfl rfl rfl rfl rfl (Room.down hr (by omega)) hg S' hl' hTO.no hck'
    · obtain ⟨c, P', z1, z2, z3, z4⟩ := T.mkt f h fa _ _ hth hmg lk rfl base hK hN
      exact ⟨c, P', z2, z1, z3, z4⟩
    · intro A' outer' s' H' E' scope f' c' hr' hg'
      refine ⟨by have := hr'.un; omega, fun h' m' hs => ?_⟩
      exact calls_ok T ih hs rfl rfl rfl rfl rfl rfl rfl rfl hr' (hg'.trans hg)
  refine ⟨_, ckSs_ok F.body C h3, A0, ⟨A0, H, []⟩, Dl.start F.slots ds, g, ?_, ?_⟩
  · rw [← h2]
    exact start_di rs gk
  · have hd : ds.length = F.params := rs.length.symm.trans hv
    have run : Dl.run P (n + 1) f ds g = Dl.finish (Dl.evB P.fl P.gl (Dl.run P n) F.body ⟨Dl.start F.slots ds, g⟩) := by
      rw [Dl.run, hf]
      show (if P.th f = true then _ else _) = _
      rw [ht]
      exact if_pos hd
    rw [run] at q
    show OutS Γ W A0 ⟨A0, H, []⟩ H (Dl.evB P.fl P.gl (Dl.run P n) F.body ⟨Dl.start F.slots ds, g⟩) _
    cases e : Dl.evB P.fl P.gl (Dl.run P n) F.body ⟨Dl.start F.slots ds, g⟩ with
    | stuck => rw [e] at q; exact q
    | ex x s1 =>
      rw [e] at q
      exact fun A' σ' cls dd H' e1 d1 p1 x1 => q A' H' cls dd e1 (fun a o h m => d1.keep a o h m) p1 d1.gok x1
    | ok fl s1 =>
      rw [e] at q
      intro A' σ' H' e1 d1 p1
      cases fl with
      | nx => exact q A' H' .non e1 (fun a o h m => d1.keep a o h m) p1 d1.gok .non
      | ret d => exact fun v r => q A' H' v e1 (fun a o h m => d1.keep a o h m) p1 d1.gok r
      | brk => exact q.elim
      | cont => exact q.elim
/-- every def, by the fuel -/
theorem all_ok {p : Program} {w : World} {K : PySem.W.Frag} {mg : Str → Option Value} {base : Heap} {cad : String → Option Addr} {P : Dl.Pr} {cc : String → Ck} (T : TextOk K mg cad P cc w) (hK : K.In base) (hN : base.Ns mainGlobals mg) : ∀ n : Nat, IhOk p w K mg base cad P n
  | 0, f, F, hf, ht => by
    obtain ⟨fa, fd, x, qual, params, body, ps, FD, hm, S, h1, h2, h3, hb⟩ := (T.df f F hf ht).ok
    refine ⟨fa, fd, ps, FnG.of fun vs H Q E q => ?_, h1, hm, FD.kp, hb⟩
    obtain ⟨_, A, ds, g, _, _, q⟩ := q
    rw [Dl.run] at q
    exact q
  | 1, f, F, hf, ht => by
    obtain ⟨fa, fd, x, qual, params, body, ps, FD, hm, S, h1, h2, h3, hb⟩ := (T.df f F hf ht).ok
    exact ⟨fa, fd, ps, one_ok T hK hN (all_ok T hK hN 0) (fun m e => by cases e) hf ht FD hm S h1 h2 h3, h1, hm, FD.kp, hb⟩
  | n + 2, f, F, hf, ht => by
    obtain ⟨fa, fd, x, qual, params, body, ps, FD, hm, S, h1, h2, h3, hb⟩ := (T.df f F hf ht).ok
    exact ⟨fa, fd, ps, one_ok T hK hN (all_ok T hK hN (n + 1)) (fun m e => by cases e; exact all_ok T hK hN n) hf ht FD hm S h1 h2 h3, h1, hm, FD.kp, hb⟩
end Ds
end
section
set_option Elab.async false
set_option Elab.async false
set_option linter.all false
set_option maxRecDepth 100000
set_option maxHeartbeats 8000000
set_option autoImplicit false
/-! Snd22: the law is called. -/
namespace Ds
open PySem PySem.Spec PyProof.Rows
open L2 (V Hp HO upd upd_same upd_ne RelV SqL SqT VK XK Inv Room Sp Env0 Only HOk Mod)
open Dl (D DV GS S R RC Ex Fl Le)
/-- the law's promise, from the plain law -/
theorem sp_law {K : PySem.W.Frag} {cad : String → Option Addr} {P : Dl.Pr} {n : Nat} {H : Hp} {a : Addr} {ns : List Int} (pl : ∃ g, Dl.run P n "law" [.lst (ns.map D.int)] none = .ok (.bl true) g) (h : FzL K H a (ns.map V.int)) (t : LamX.Tabs (tabs K) H) :
    SpOf K cad (Dl.run P n "law") 1 [.ref a] H (fun v _ => v = .bl true) fun _ _ _ => False := by
  obtain ⟨g, e⟩ := pl
  refine ⟨rfl, none, [.lst (ns.map D.int)], none, .cons (.lst h (rps_of_ints ns)) .nil, ⟨trivial, t⟩, ?_⟩
  rw [e]
  intro A' H' v _ _ _ _ r
  cases r
  rfl
/-- .. called where the claim calls it; the tables of the defs' code objects may grow -/
theorem call_law {P : Program} {w : World} {K : PySem.W.Frag} {mg mb : Str → Option Value} {k : Nat} {fa a : Addr} {fd : FuncData} {x : Str} {sp : Sp} {s₁ : Shared} {vs : List Value} {ns : List Int}
    (KX : K.In s₁.heap) (hns : s₁.heap.Ns mainGlobals mg) (hb : s₁.heap.Ns builtinsNs mb) (hbb : ∀ x : Str, x ≠ "__name__" → mb x = bootBuiltins x) (hlim : s₁.heap.NoLimit) (hg : s₁.gens = #[])
    (hT : ∀ p ∈ tabs K, s₁.heap.get? p.1 = some { cls := .none, data := .fields #[] }) (nT : ∀ p ∈ tabs K, List.lookup p.1 K = none) (cT : ∀ p ∈ tabs K, isCodeTable s₁.heap p.1)
    (ha : s₁.heap.get? a = some { cls := .type "list", data := .seq vs.toArray }) (hi : IntsAre vs ns) (hl : ns.length ≤ sizeLine) (hr : Room k callerA)
    (F : ∀ base : Heap, K.In base → base.Ns mainGlobals mg → FnG P w K mg base k fa fd [x] sp) (hbind : ∀ (s : Shared) (u : Value), BindsTo s fd ⟨[u], []⟩ [(x, u)])
    (hsp : ∀ H : Hp, FzL K H a (ns.map V.int) → LamX.Tabs (tabs K) H → sp [.ref a] H (fun v _ => v = .bl true) fun _ _ _ => False) :
    codeAny (model P w) callerA (.call (.ref fa) ⟨[.ref a], []⟩) (fun r s' => r = .ok (.ret (.bool true)) ∧ OldK s₁.heap s'.heap ∧ s'.os = s₁.os ∧ AllBare s'.gens) s₁ := by
  have rv := L2.vals_ints hi
  have lv := hi.length
  have tb : ∀ b : Addr, b ∈ (tabs K).map (·.1) → ∃ p ∈ tabs K, p.1 = b := fun b m => by
    obtain ⟨p, mp, e⟩ := List.mem_map.mp m
    exact ⟨p, mp, e⟩
  have mt : ∀ p ∈ tabs K, p.1 ∈ (tabs K).map (·.1) := fun p m => List.mem_map.mpr ⟨p, m, rfl⟩
  have aT : a ∉ (tabs K).map (·.1) := fun z => by
    obtain ⟨p, mp, e⟩ := tb a z
    have q := hT p mp
    rw [e, ha] at q
    have z' : Data.seq vs.toArray _ = Data.fields #[] := congrArg Obj.data (Option.some.inj q)
    cases z'
  -- over an abstract heap that tracks the tables and, perhaps, the script, not to be changed
  have over : ∀ H : Hp, (∀ p ∈ tabs K, H p.1 = some (.tbl #[])) → (∀ b, H b = none ∨ b ∈ (tabs K).map (·.1) ∨ ∃ ob xs, H b = some (.frz ob (.lst xs))) → FzL K H a (ns.map V.int) → L2.HOk P w H s₁.heap → (∀ b, H b ≠ none → b = a ∨ b ∈ (tabs K).map (·.1)) → (H a ≠ none → List.lookup a K = none) →
      codeAny (model P w) callerA (.call (.ref fa) ⟨[.ref a], []⟩) (fun r s' => r = .ok (.ret (.bool true)) ∧ OldK s₁.heap s'.heap ∧ s'.os = s₁.os ∧ AllBare s'.gens) s₁ := by
    intro H isTb only fz hok one out
    have tabsH : LamX.Tabs (tabs K) H := fun p m => LamX.TabS.nil (isTb p m)
    have seen : ∀ {b : Addr} {o : Obj}, s₁.heap.get? b = some o → H b = none → (L2.hidT s₁.heap H).get? b = some o := fun e n => L2.hidT_get e n
    have notDict : ∀ {b : Addr} {o : Obj} {es : Array DictEntry} {ep : Nat}, s₁.heap.get? b = some o → o.data = .dict es ep → H b = none := fun {b o es ep} e d => by
      by_cases q : H b = none
      · exact q
      · rcases one b q with eb | eb
        · rw [eb, ha] at e
          cases e
          cases (show Data.seq vs.toArray _ = Data.dict es ep from d)
        · obtain ⟨p, mp, ep'⟩ := tb b eb
          have z := hT p mp
          rw [ep', e] at z
          cases z
          cases (show Data.fields #[] = Data.dict es ep from d)
    have ns' : ∀ {b : Addr} {m : Str → Option Value}, s₁.heap.Ns b m → (L2.hidT s₁.heap H).Ns b m := fun ⟨o, es, ep, e, d, r⟩ => ⟨o, es, ep, seen e (notDict e d), d, r⟩
    have KB : K.In (L2.hidT s₁.heap H) := fun b o e => seen (KX b o e) (by
      by_cases q : H b = none
      · exact q
      · rcases one b q with eb | eb
        · rw [eb] at e q
          rw [out q] at e
          cases e
        · obtain ⟨p, mp, ep'⟩ := tb b eb
          have z := nT p mp
          rw [ep', e] at z
          cases z)
    have md : L2.Mod K mg (L2.hidT s₁.heap H) := ⟨KB, ns' hns, ⟨mb, ns' hb, hbb⟩, let ⟨mc, h1, h2⟩ := hlim; ⟨mc, ns' h1, h2⟩⟩
    have none_in : ∀ b : Addr, b ∈ ([] : List Addr) → False := fun b z => by cases z
    have e0 : L2.Env0 P w K mg (L2.hidT s₁.heap H) callerA [] s₁ H := ⟨rfl, md, fun b o e => L2.of_hidT e, Nat.le_of_eq (L2.hidT_size _ _), trivial, fun b hb => (none_in b hb).elim, hok, .of_eq hg⟩
    refine codeAny_mono ((F _ KB (ns' hns)).go callerA [] s₁ H ⟨[.ref a], []⟩ [.ref a] [.ref a] _ _ hr rfl e0 (hbind s₁ (.ref a)) (.cons rfl .nil) (hsp H fz tabsH)) ?_
    intro r s' z
    cases r with
    | error e =>
      obtain ⟨_, _, _, _, _, _, _, _, _, _, _, _, f⟩ := z
      exact f.elim
    | ok fl => cases fl with
      | ret u =>
        obtain ⟨v, H', os, bare, un, hok', ru, ev⟩ := z
        have ev : v = .bl true := ev
        subst ev
        cases ru
        have same : ∀ b o, b ∉ (tabs K).map (·.1) → s₁.heap.get? b = some o → s'.heap.get? b = some o := fun b o nb e => by
          rcases only b with q | q | ⟨ob, xs, q⟩
          · exact un.keep b o e q (fun m => none_in b m) (fun m => none_in b m)
          · exact absurd q nb
          · obtain ⟨e1, _⟩ := hok b _ q
            obtain ⟨e2, _⟩ := hok' b _ (un.frzs b ob _ q)
            rw [e] at e1
            cases e1
            exact e2
        have grew : ∀ p ∈ tabs K, ∃ more : Array Value, s'.heap.get? p.1 = some { cls := .none, data := .fields more } := fun p m => by
          obtain ⟨more, y⟩ := un.tbls p.1 #[] (isTb p m)
          exact ⟨_, hok' p.1 _ y⟩
        refine ⟨rfl, ⟨fun b o e => ?_, fun b o e => ?_⟩, os, bare⟩
        · by_cases hb : b ∈ (tabs K).map (·.1)
          · obtain ⟨p, mp, ep⟩ := tb b hb
            obtain ⟨more, hm⟩ := grew p mp
            have z := hT p mp
            rw [← ep] at e ⊢
            rw [z] at e
            cases e
            exact .inr (.inl ⟨cT p mp, rfl, #[], more, rfl, by rw [Array.empty_append]; exact hm⟩)
          · exact .inl (same b o hb e)
        · by_cases hb : b ∈ (tabs K).map (·.1)
          · obtain ⟨p, mp, ep⟩ := tb b hb
            obtain ⟨more, hm⟩ := grew p mp
            exact ⟨_, by rw [← ep]; exact hm⟩
          · exact ⟨o, same b o hb e⟩
      | _ => exact z.elim
  have tabAt : ∀ b : Addr, b ∈ (tabs K).map (·.1) → s₁.heap.get? b = some { cls := .none, data := .fields #[] } := fun b m => by
    obtain ⟨p, mp, e⟩ := tb b m
    rw [← e]
    exact hT p mp
  by_cases hk : List.lookup a K = none
  · refine over (fun b => if b = a then some (.frz { cls := .type "list", data := .seq vs.toArray } (.lst (ns.map V.int))) else if b ∈ (tabs K).map (·.1) then some (.tbl #[]) else none) (fun p m => ?_) (fun b => ?_) (.inl ⟨_, if_pos rfl⟩) (fun b u z => ?_) (fun b z => ?_) fun _ => hk
    · exact (if_neg (show ¬ p.1 = a from fun z => aT (by rw [← z]; exact mt p m))).trans (if_pos (mt p m))
    · by_cases e : b = a
      · exact .inr (.inr ⟨_, _, if_pos e⟩)
      · by_cases e2 : b ∈ (tabs K).map (·.1)
        · exact .inr (.inl e2)
        · exact .inl ((if_neg e).trans (if_neg e2))
    · by_cases e : b = a
      · have z' := (if_pos e).symm.trans z
        cases z'
        subst e
        exact ⟨ha, by rw [List.length_map]; exact hl, vs, _, rv, ha⟩
      · have z1 := (if_neg e).symm.trans z
        by_cases e2 : b ∈ (tabs K).map (·.1)
        · have z' := (if_pos e2).symm.trans z1
          cases z'
          exact tabAt b e2
        · have z' := (if_neg e2).symm.trans z1
          cases z'
    · by_cases e : b = a
      · exact .inl e
      · by_cases e2 : b ∈ (tabs K).map (·.1)
        · exact .inr e2
        · exact absurd ((if_neg e).trans (if_neg e2)) z
  · obtain ⟨o, ho⟩ := Option.ne_none_iff_exists'.mp hk
    have e := KX a o ho
    rw [ha] at e
    cases e
    refine over (fun b => if b ∈ (tabs K).map (·.1) then some (.tbl #[]) else none) (fun p m => if_pos (mt p m)) (fun b => ?_) (.inr ⟨vs, _, ho, by rw [List.length_map]; exact hl, rv⟩) (fun b u z => ?_) (fun b z => ?_) fun z => absurd (if_neg aT) z
    · by_cases e2 : b ∈ (tabs K).map (·.1)
      · exact .inr (.inl e2)
      · exact .inl (if_neg e2)
    · by_cases e2 : b ∈ (tabs K).map (·.1)
      · have z' := (if_pos e2).symm.trans z
        cases z'
        exact tabAt b e2
      · have z' := (if_neg e2).symm.trans z
        cases z'
    · by_cases e2 : b ∈ (tabs K).map (·.1)
      · exact .inr e2
      · exact absurd (if_neg e2) z
theorem room_caller : Room 150 callerA := ⟨rfl, by decide +kernel, by decide +kernel⟩
end Ds
end
section
set_option Elab.async false
set_option Elab.async false
set_option linter.all false
set_option maxRecDepth 100000
set_option maxHeartbeats 8000000
set_option autoImplicit false
/-! Snd23: the end of a law; an own class's __init__. -/
namespace Ds
open PySem PySem.Spec PyProof.Rows
open L2 (V Hp HO upd upd_same upd_ne RelV SqL SqT VK XK WX Cx Inv PE PSs Room Sp Gl FunD exo exd OexC)
open Dl (D DV GS S R RC Ex Fl Le)
/-- what a law's text must give at the heap behind its top -/
structure LawOk (P : Dl.Pr) (mg : Str → Option Value) (fa : Addr) (h : Heap) (w : World) : Prop where
  ok : ∃ (K : PySem.W.Frag) (cad : String → Option Addr) (cc : String → Ck) (G : Dl.Fn) (fd : FuncData) (y qual : Str) (params : Arguments) (body : List Stmt) (x : Str), K.In h ∧ TextOk K mg cad P cc w ∧ P.fn "law" = some G ∧ P.th "law" = false ∧ G.params = 1 ∧
    FunD K y qual params body (cc "law").sc [] [] fa fd ∧ mg (Str.ofString "law") = some (.ref fa) ∧ L2.FnScope (cc "law").N [x] (cc "law").sc ∧ (cc "law").N.length = G.slots ∧ ckSs (cc "law") G.body body = true ∧ (∀ (s : Shared) (u : Value), BindsTo s fd ⟨[u], []⟩ [(x, u)]) ∧
    (∀ p ∈ tabs K, h.get? p.1 = some { cls := .none, data := .fields #[] }) ∧ (∀ p ∈ tabs K, List.lookup p.1 K = none) ∧ ∀ p ∈ tabs K, isCodeTable h p.1
theorem walk_law {l : PySem.W.OpenLaw} {m n : Nat} {q : Program} {loose : List Str} {XP : (Str → Option Value) → Heap → Prop} {YP : World → Heap → Prop} {d : DefRec} {P : Dl.Pr}
    (hn : l.most = some m) (hm : m ≤ sizeLine) (hdf : d.params.defaults = []) (hr : Room (3 * (n + 1) + 2) callerA)
    (pl : ∀ ns : List Int, ns.length ≤ m → ∃ g, Dl.run P (n + 1) "law" [.lst (ns.map D.int)] none = .ok (.bl true) g)
    (F : ∀ (w : World) (mg : Str → Option Value) (fa : Addr) (h : Heap), YP w h → h.Ns mainGlobals mg → mg d.name = some (.ref fa) → LawOk P mg fa h w) :
    PySem.W.WalkO q loose XP YP l.row.toRowW d [] (fun f vs => PySem.call f vs) := by
  refine Att.attach_call hn hdf fun w s₀ s₁ mg mb fa o pm cd doc a vs ns G Y ho hd hcd hmg hobj hints hlen hg => ?_
  obtain ⟨K, cad, cc, LF, fd, y, qual, params, body, x, KX, T, hf, ht, h1, FD, hml, S, h2, h3, hb, t1, t2, t3⟩ := (F w mg fa _ Y G.T.g hmg).ok
  refine call_law (sp := SpOf K cad (Dl.run P (n + 1) "law") 1) (x := x) (fd := fd) KX G.T.g G.T.b G.T.builtins G.T.nolimit hg t1 t2 t3 hobj hints (Nat.le_trans hlen hm) hr (fun base hK hN => ?_) hb fun H fz tb => sp_law (pl ns hlen) fz tb
  have ih := all_ok (p := l.prog) (w := w) (base := base) T hK hN
  have r := one_ok (p := l.prog) (w := w) (base := base) T hK hN (ih n) (fun m _ => ih m) hf ht FD hml S (by rw [h1]; rfl) h2 h3
  rw [h1] at r
  exact r
/-- an own class's __init__ keeps its promise -/
theorem ini_fn {p : Program} {w : World} {K : PySem.W.Frag} {mg : Str → Option Value} {base : Heap} {CS C fI : Addr} {y qual : Str} {params : Arguments} {body : List Stmt} {sc : Scope} {fd : FuncData} {b f self x : Str} {m : String} {j : Nat} {p1 p2 p3 p4 p5 p6 p7 p8 p9 p10 : Pos}
    (FD : FunD K y qual params body sc [] [] fI fd) (S : L2.FnScope [self, x] [self, x] sc)
    (hb : body = [.Expr (.Call (.Attribute (.Name b p1) "__init__" p2) [.Name self p3, .Constant (.str m) j p4] [] p5) p6, .Assign [.Attribute (.Name self p7) f p8] (.Name x p9) p10])
    (h0 : List.lookup self sc.names = some .local) (h1 : List.lookup x sc.names = some .local) (hg : List.lookup b sc.names = some .globalImplicit) (ok0 : okN self = true) (ok1 : okN x = true) (okb : okN b = true) (hl : (p2.endLine == p5.line) = true)
    (hm : mg b = some (.ref CS)) (T : Sup K CS) : L2.FnOk p w K mg base (L2.CX p w) 1 fI fd [self, x] (spIni K C f) := by
  refine FD.ok S (fun vs H Q E q => ?_) fun cdv A outer s H vs Q E hr q => ?_
  · obtain ⟨a, v, rfl, _⟩ := q
    rfl
  · subst hb
    exact ini_ok (X := L2.cxOf (L2.CX p w) p w K mg base [self, x] qual sc fI cdv A outer s H E) rfl h0 h1 (okN_ok ok0).1 (okN_ok ok1).1 (okN_ok ok0).2 (okN_ok ok1).2 hg hm (okN_ok okb).1 T hl q
end Ds
end
section
set_option Elab.async false
set_option Elab.async false
set_option linter.all false
set_option maxRecDepth 100000
set_option maxHeartbeats 8000000
set_option autoImplicit false
/-! Snd24: facts of the written part, as Bools. -/
namespace Ds
open PySem PySem.Spec PyProof.Rows
open L2 (OexC)
def oexB (K : PySem.W.Frag) (C : Addr) : Bool := (match List.lookup C K with
  | some ⟨.type "type", _, .cls cd, sl⟩ => (match cd.mro, sl.toList with
    | .ref C' :: bm, [_, _, _, _, some (.builtin n), _] => C' == C && n == "ValueError.__new__" && !cd.hasDel && cd.hasDict && HandSPX.refsVE bm
    | _, _ => false)
  | _ => false) && decide (PySem.W.findIn K (.ref C) "__setattr__" = some (some (.builtin "object.__setattr__"))) && decide (PySem.W.subIn K (.ref C) (.type "BaseException") = some true) && decide (PySem.W.typeIn K (.ref C) = some (.type "type")) && PySem.W.keepIn K (.ref C)
theorem oexB_ok {K : PySem.W.Frag} {C : Addr} (h : oexB K C = true) : OexC K C := by
  unfold oexB at h
  simp only [Bool.and_eq_true, decide_eq_true_eq] at h
  obtain ⟨⟨⟨⟨h1, h2⟩, h3⟩, h4⟩, h5⟩ := h
  refine ⟨?_, h2, h3, h4, h5⟩
  split at h1
  · rename_i dd cd sl ho
    split at h1
    · rename_i C' bm k0 k1 k2 k3 n k5 hm hs
      simp only [Bool.and_eq_true, beq_iff_eq, Bool.not_eq_true'] at h1
      obtain ⟨⟨⟨⟨e1, e2⟩, e3⟩, e4⟩, e5⟩ := h1
      subst e1 e2
      obtain ⟨nm, bs, mro, ns, qn, hd, sn, sb, ab, col, del⟩ := cd
      dsimp only at hm e3 e4
      subst hm e3 e4
      have es : sl = #[k0, k1, k2, k3, some (.builtin "ValueError.__new__"), k5] := by
        apply Array.toList_inj.mp
        exact hs
      subst es
      exact ⟨nm, qn, ns, bs, bm, sn, sb, ab, col, dd, k0, k1, k2, k3, k5, ho, e5⟩
    · cases h1
  · cases h1
def supB (K : PySem.W.Frag) (C : Addr) : Bool := decide (PySem.W.specialIn K (.ref C) "__getattribute__" = some (some (.builtin "type.__getattribute__"))) && PySem.W.readsIn K C (.type "type") &&
  (match PySem.W.findCls K (.ref C) (.type "type") "__init__" with
  | some (.val (.builtin n)) => n == "ValueError.__init__"
  | _ => false)
theorem supB_ok {K : PySem.W.Frag} {C : Addr} (h : supB K C = true) : Sup K C := by
  unfold supB at h
  simp only [Bool.and_eq_true, decide_eq_true_eq] at h
  obtain ⟨⟨h1, h2⟩, h3⟩ := h
  refine ⟨h1, h2, ?_⟩
  split at h3
  · rename_i n q
    have e := eq_of_beq h3
    subst e
    exact q
  · cases h3
end Ds
end
section
set_option Elab.async false
set_option Elab.async false
set_option linter.all false
set_option maxRecDepth 100000
set_option maxHeartbeats 8000000
set_option autoImplicit false
/-! Snd25: the Hook: what the head tells of the written part. -/
namespace Ds
open PySem PySem.Spec PyProof.Rows
open L2 (OexC)
abbrev gaS (K : PySem.W.Frag) (x : String) : Addr := He.ga K (Str.ofString x)
/-- of the classes: the one above them; those that are raised, each with its field; the names in except clauses; the fields -/
def exQ (sup : String) (cls : List (String × String)) (nms flds : List String) (K : PySem.W.Frag) : Bool := supB K (gaS K sup) && cls.all fun p => oexB K (gaS K p.1) &&
  decide (PySem.W.findIn K (.ref (gaS K p.1)) "__init__" = some (some (.ref (He.ma K (gaS K p.1) "__init__")))) && decide (PySem.W.typeIn K (.ref (He.ma K (gaS K p.1) "__init__")) = some (.type "function")) && L2.xfB K (gaS K p.1) &&
  nms.all (fun k => decide (PySem.W.exmOne K (.ref (gaS K p.1)) (.ref (gaS K k)) = some (p.1 == k || k == "SayError" || k == "ValueError"))) && flds.all fun f => decide (PySem.W.findIn K (.ref (gaS K p.1)) (Str.ofString f) = some none)
/-! ### tables of code objects -/
def excB (K : PySem.W.Frag) (C : Addr) : Bool := decide (PySem.W.findIn K (.ref C) "__getattribute__" = some (some (.builtin "BaseException.__getattribute__"))) && (decide (PySem.W.findIn K (.ref C) "__getattr__" = some none) && (decide (PySem.W.subIn K (.ref C) (.type "BaseException") = some true) && (PySem.W.hasDictIn K C &&
  (decide (PySem.W.findIn K (.ref C) "__class__" = some (some (.builtin "object.__class__"))) && (decide (PySem.W.specialIn K (.builtin "object.__class__") "__get__" = some (some (.builtin "getset_descriptor.__get__"))) && (decide (PySem.W.takesIn K (.builtin "object.__class__") = some true) && decide (PySem.W.mroIn K C (.type "object") = some true)))))))
theorem excB_ok {K : PySem.W.Frag} {C : Addr} (h : excB K C = true) : L2.ExcC K C := by
  unfold excB at h
  simp only [Bool.and_eq_true, decide_eq_true_eq] at h
  obtain ⟨h1, h2, h3, h4, h5, h6, h7, h8⟩ := h
  exact ⟨h1, h2, h3, h4, h5, h6, h7, h8⟩
/-- of isinstance(e, a class) -/
def isQ (cls : List (String × String)) (nms : List String) (K : PySem.W.Frag) : Bool := cls.all fun p => excB K (gaS K p.1) && nms.all fun k => decide (PySem.W.kitOne K (.ref (gaS K p.1)) (.ref (gaS K k)) = some (p.1 == k || k == "SayError" || k == "ValueError"))
/-- a def's code object, its table -/
def cpOf (K : PySem.W.Frag) (o : Obj) : List (Addr × Addr) := match o.data with
  | .func fd => (match fd.code with
    | .ref c => (match List.lookup c K with
      | some ⟨_, _, .fields vs, _⟩ => (match (vs[11]? : Option Value) with
        | some (.ref P) => [(c, P)]
        | _ => [])
      | _ => [])
    | _ => [])
  | _ => []
def bmB (K : PySem.W.Frag) : Bool := match PySem.W.nsIn K mainGlobals "__builtins__" with
  | some (some (.ref bm)) => decide (bm ≠ builtinsNs) && (decide (bm ≠ mainGlobals) && (match List.lookup bm K with
    | some ⟨.type t, some d, .plain, _⟩ => decide (t = "module") && decide (d = builtinsNs)
    | _ => false))
  | _ => false
def tkB (K : PySem.W.Frag) : Bool := (K.all fun q => (cpOf K q.2).all fun p => PySem.W.codeHdIn K p.1 p.2) && ((tabs K).all (fun p => (List.lookup p.1 K).isNone && (decide (mainGlobals ≠ p.1) && (tabs K).all fun r => !(decide (p.1 = r.1)) || decide (p.2 = r.2))) && bmB K)
def okTab (o : Option Obj) : Bool := match o with
  | some ⟨.none, none, .fields vs, sl⟩ => vs.isEmpty && sl.isEmpty
  | _ => false
theorem okTab_ok {o : Option Obj} (h : okTab o = true) : o = some { cls := .none, data := .fields #[] } := by
  unfold okTab at h
  split at h
  · rename_i vs sl
    simp only [Bool.and_eq_true, Array.isEmpty_iff] at h
    obtain ⟨rfl, rfl⟩ := h
    rfl
  · cases h
def tabA (g : Addr → Option Obj) (a : Addr) : List Addr := match g a with
  | some o => (match o.data with
    | .func fd => (match fd.code with
      | .ref c => (match g c with
        | some ⟨_, _, .fields vs, _⟩ => (match (vs[11]? : Option Value) with
          | some (.ref P) => [P]
          | _ => [])
        | _ => [])
      | _ => [])
    | _ => [])
  | none => []
/-- the written part without the tables -/
def frQ (g : Addr → Option Obj) (n : Nat) : PySem.W.Frag := He.frG g (((cStatics :: He.asD g n)).filter fun a => !((cStatics :: He.asD g n).flatMap (tabA g)).contains a)
theorem frQ_in {h : Heap} {n : Nat} : (frQ h.get? n).In h := He.frG_in
abbrev AlQ : Type := (He.AlD × Bool) × List (Option (List (Option (Str × Int))))
def obsQ (n : Nat) (fa : List He.Fa) (fn : List He.DefD) (ex : PySem.W.Frag → Bool) (ts : List (String × List String)) (g : Addr → Option Obj) : AlQ := ((He.obsD fa fn (frQ g n), ex (frQ g n) && (tkB (frQ g n) && (tabs (frQ g n)).all fun p => okTab (g p.1))), ts.map fun t => He.dicW (frQ g n) (gaS (frQ g n) t.1))
/-- what is known behind the top -/
def SaysQ (fa : List He.Fa) (fn : List He.DefD) (ex : PySem.W.Frag → Bool) (ts : List (String × List String)) (w : World) (h : Heap) : Prop := ∃ K : PySem.W.Frag, K.In h ∧ He.SaysD fa fn K ∧ ex K = true ∧ tkB K = true ∧ (∀ p ∈ tabs K, h.get? p.1 = some { cls := .none, data := .fields #[] }) ∧ ∀ t ∈ ts, ∃ es n, L2.KDict K w (gaS K t.1) es n
def hookQ (n : Nat) (fa : List He.Fa) (fn : List He.DefD) (ex : PySem.W.Frag → Bool) (ts : List (String × List String)) : PySem.W.Hook where
  α := AlQ
  obs := fun s => obsQ n fa fn ex ts s.heap.get?
  val := fun w => ((He.valD fn, true), ts.map fun t => some (He.keysIn w.params (t.2.map Str.ofString)))
  says := fun w h => SaysQ fa fn ex ts w h
  of := fun w s e => by
    have e2 := congrArg (fun z : AlQ => z.1.2) e
    have e5 : ts.map (fun t => He.dicW (frQ s.heap.get? n) (gaS (frQ s.heap.get? n) t.1)) = ts.map fun t => some (He.keysIn w.params (t.2.map Str.ofString)) := congrArg (fun z : AlQ => z.2) e
    obtain ⟨h1, h2⟩ := Bool.and_eq_true_iff.mp e2
    obtain ⟨h3, h4⟩ := Bool.and_eq_true_iff.mp h2
    exact ⟨_, frQ_in, congrArg (fun z : AlQ => z.1.1) e, h1, h3, fun p m => okTab_ok (List.all_eq_true.mp h4 p m), fun t m => He.dicW_ok (List.map_inj_left.mp e5 t m)⟩
  keeps := fun _ _ _ ⟨K, hK, c, e, t, q, d⟩ k => ⟨K, PySem.W.Frag.In.keeps hK k, c, e, t, fun p m => k _ _ (q p m), d⟩
theorem obsQ_eq {n : Nat} {fa : List He.Fa} {fn : List He.DefD} {ex : PySem.W.Frag → Bool} {ts : List (String × List String)} {g : Addr → Option Obj} {s : Shared} (h : ∀ a, g a = s.heap.get? a) : obsQ n fa fn ex ts g = (hookQ n fa fn ex ts).obs s := by
  have e : g = s.heap.get? := funext h
  rw [e]
  rfl
/-- what follows of the tables -/
theorem lookup_in {K : PySem.W.Frag} {a : Addr} {o : Obj} : ∀ {K : PySem.W.Frag}, List.lookup a K = some o → (a, o) ∈ K
  | [], h => by cases h
  | (b, o') :: K, h => by
    rw [List.lookup_cons] at h
    by_cases z : (a == b) = true
    · rw [z] at h
      cases h
      have := eq_of_beq z
      subst this
      exact List.mem_cons_self ..
    · have z' : (a == b) = false := by simpa using z
      rw [z'] at h
      exact List.mem_cons_of_mem _ (lookup_in (K := K) h)
theorem tab_cp {K : PySem.W.Frag} {o : Obj} {p : Addr × Str} (h : p ∈ tabOf K o) : ∃ c fd, (c, p.1) ∈ cpOf K o ∧ o.data = .func fd ∧ fd.code = .ref c ∧ p.2 = fd.qualname ++ ".<locals>." ++ "<lambda>" := by
  unfold tabOf at h
  split at h
  · rename_i fd e1
    split at h
    · rename_i c e2
      split at h
      · rename_i vs _ e3
        split at h
        · rename_i P e4
          simp only [List.mem_singleton] at h
          subst h
          refine ⟨c, fd, ?_, e1, e2, rfl⟩
          unfold cpOf
          simp only [e1, e2, e3, e4, List.mem_singleton]
        · cases h
      · cases h
    · cases h
  · cases h
theorem tkB_code {K : PySem.W.Frag} {h : Heap} (X : K.In h) (t : tkB K = true) : ∀ p ∈ tabs K, isCodeTable h p.1 := fun p m => by
  obtain ⟨q, mq, mp⟩ := List.mem_flatMap.mp m
  obtain ⟨c, fd, mc, _⟩ := tab_cp mp
  obtain ⟨t1, _⟩ := Bool.and_eq_true_iff.mp t
  have hd := PySem.W.codeHd_of_K X (List.all_eq_true.mp (List.all_eq_true.mp t1 q mq) _ mc)
  obtain ⟨o, vs, _, _, _, _, _, _, _, e1, e2, e3, e4, _⟩ := hd
  exact ⟨c, o, vs, e1, e2, e3, e4⟩
theorem tkB_none {K : PySem.W.Frag} (t : tkB K = true) : ∀ p ∈ tabs K, List.lookup p.1 K = none := fun p m => by
  obtain ⟨_, t2⟩ := Bool.and_eq_true_iff.mp t
  obtain ⟨t3, _⟩ := Bool.and_eq_true_iff.mp t2
  obtain ⟨t4, _⟩ := Bool.and_eq_true_iff.mp (List.all_eq_true.mp t3 p m)
  simpa using t4
/-- the maker's table -/
theorem tkB_mk {K : PySem.W.Frag} {mg : Str → Option Value} {fa c : Addr} {o : Obj} {fd : FuncData} {vs : Array Value} {od : Option Addr} {oc : Value} {sl : Array (Option Value)} {P : Addr} (t : tkB K = true) (lk : List.lookup fa K = some o) (hd : o.data = .func fd) (hc : fd.code = .ref c) (lc : List.lookup c K = some ⟨oc, od, .fields vs, sl⟩) (hv : vs[11]? = some (.ref P))
    {base : Heap} (X : K.In base) (N : base.Ns mainGlobals mg) : LamX.TabB base mg c P ∧ (P, fd.qualname ++ ".<locals>." ++ "<lambda>") ∈ tabs K ∧ ∀ p ∈ tabs K, p.1 = P → p.2 = fd.qualname ++ ".<locals>." ++ "<lambda>" := by
  have m : (P, fd.qualname ++ ".<locals>." ++ "<lambda>") ∈ tabs K := List.mem_flatMap.mpr ⟨(fa, o), lookup_in (K := K) lk, by
    unfold tabOf
    simp only [hd, hc, lc, hv, List.mem_singleton]⟩
  have mc : (c, P) ∈ cpOf K o := by
    unfold cpOf
    simp only [hd, hc, lc, hv, List.mem_singleton]
  obtain ⟨t1, t2⟩ := Bool.and_eq_true_iff.mp t
  obtain ⟨t3, t4⟩ := Bool.and_eq_true_iff.mp t2
  have cd := PySem.W.codeHd_of_K X (List.all_eq_true.mp (List.all_eq_true.mp t1 _ (lookup_in (K := K) lk)) _ mc)
  obtain ⟨u1, u2⟩ := Bool.and_eq_true_iff.mp (List.all_eq_true.mp t3 _ m)
  obtain ⟨u3, u4⟩ := Bool.and_eq_true_iff.mp u2
  have nP : List.lookup P K = none := by simpa using u1
  refine ⟨⟨cd, ?_, of_decide_eq_true u3⟩, m, fun p mp e => ?_⟩
  · unfold bmB at t4
    split at t4
    · rename_i bm eb
      simp only [Bool.and_eq_true, decide_eq_true_eq] at t4
      obtain ⟨b1, b2, b3⟩ := t4
      split at b3
      · rename_i t5 d sl' el
        simp only [Bool.and_eq_true, decide_eq_true_eq] at b3
        obtain ⟨rfl, rfl⟩ := b3
        refine ⟨bm, _, PySem.W.mg_of X N eb, b1, b2, fun (z : bm = P) => ?_, X _ _ el, rfl, rfl, rfl⟩
        rw [z, nP] at el; cases el
      · cases b3
    · cases t4
  · have := List.all_eq_true.mp u4 p mp
    simp only [Bool.or_eq_true, Bool.not_eq_true', decide_eq_false_iff_not, decide_eq_true_eq] at this
    rcases this with z | z
    · exact absurd e.symm z
    · exact z.symm
end Ds
end
section
set_option Elab.async false
set_option Elab.async false
set_option linter.all false
set_option maxRecDepth 100000
set_option maxHeartbeats 8000000
set_option autoImplicit false
/-! Snd26: a text as data: what is checked of it, and what follows. -/
namespace Ds
open PySem PySem.Spec PyProof.Rows
open L2 (V Hp OexC FunD RelV)
open Dl (D)
abbrev stS (x : String) : Str := Str.ofString x
structure Txt where
  fnL : List (String × Dl.Fn)
  ds : List (List String × He.DefD)
  cls : List (String × String)
  is : List (He.DefD × Str × Str × String)
  sup : String
  nms : List String
  flds : List String
  bn : List String
  zis : List (String × Int)
  tups : List (String × List Int)
  ths : List String := []
  dks : List (String × List (String × String)) := []
namespace Txt
def P (T : Txt) : Dl.Pr := Dl.mkP T.fnL T.zis T.tups T.cls T.ths
def fa (T : Txt) : List He.Fa := T.fnL.map (fun p => He.Fa.glo (stS p.1)) ++ (T.nms.map (fun x => He.Fa.glo (stS x)) ++ (T.tups.map (fun p => He.Fa.glo (stS p.1)) ++ (T.bn.map (fun x => He.Fa.free (stS x)) ++ (T.zis.map (fun p => He.Fa.int (stS p.1) p.2) ++ T.dks.map fun p => He.Fa.glo (stS p.1)))))
def fn (T : Txt) : List He.DefD := T.ds.map (·.2) ++ T.is.map (·.1)
def tpB (T : Txt) (K : PySem.W.Frag) : Bool := T.tups.all fun p => He.tupB K (stS p.1) (p.2.map He.Dv.int)
/-- each def's code object has a table -/
def mkB (T : Txt) (K : PySem.W.Frag) : Bool := T.ths.isEmpty || T.fnL.all fun p => match List.lookup (gaS K p.1) K with
  | some o => !(cpOf K o).isEmpty
  | none => false
def tabl (T : Txt) : List (String × List String) := T.dks.map fun p => (p.1, p.2.map fun q => q.1)
/-- what the tables hold -/
def dkV (T : Txt) (K : PySem.W.Frag) : Bool := T.dks.all fun p => p.2.all fun q => match PySem.W.nsIn K (gaS K p.1) (stS q.1) with
  | some (some (.str z _)) => decide (z = stS q.2)
  | _ => false
def ex (T : Txt) (K : PySem.W.Frag) : Bool := exQ T.sup T.cls T.nms T.flds K && (T.tpB K && (isQ T.cls T.nms K && (T.mkB K && T.dkV K)))
def mkC (T : Txt) (N : List String) (sc : Scope) (th : Bool) : Ck := { N := N.map stS, sc := sc, bn := T.bn.map stS, sig := fun h => if T.ths.contains h then none else (T.fnL.lookup h).map fun F => F.params, fld := fun _ => false, calm := true, top := true, lev := true, cls := fun c => T.cls.lookup c, ex := fun k => T.nms.contains k && (decide (sc.names.lookup (stS k) = some .globalImplicit) && okN (stS k)), xf := fun f => T.flds.contains f, ie := fun _ => false, ieS := fun k => T.nms.contains k, thF := fun h => !th && T.ths.contains h, dks := fun x => T.dks.lookup x }
def find (T : Txt) (f : String) : Option (List String × He.DefD) := ((T.fnL.map (·.1)).zip T.ds).lookup f
def cc (T : Txt) (f : String) : Ck := match T.find f with
  | some q => T.mkC q.1 q.2.scope (T.ths.contains f)
  | none => T.mkC [] default true
def scB (N ps : List Str) (sc : Scope) : Bool := decide (sc.kind = .function) && (!sc.isCoroutine && (!sc.isGenerator && (decide N.Nodup && (decide (N.take ps.length = ps) && (ps.all (fun x => decide (sc.names.lookup x = some .local) || decide (sc.names.lookup x = some .cell)) && sc.names.all fun y => decide (y.2 ≠ .free))))))
theorem scB_ok {N ps : List Str} {sc : Scope} (h : scB N ps sc = true) : L2.FnScope N ps sc := by
  unfold scB at h
  simp only [Bool.and_eq_true, decide_eq_true_eq, Bool.not_eq_true', List.all_eq_true, Bool.or_eq_true] at h
  obtain ⟨h1, h2, h3, h4, h5, h6, h7⟩ := h
  exact ⟨h1, h2, h3, h4, h5, h6, h7⟩
def psN (N : List String) (n : Nat) : List Str := (N.take n).map stS
def okD (T : Txt) (p : String × Dl.Fn) (q : List String × He.DefD) : Bool := decide (q.2.at_ = (stS p.1, none)) && (q.2.dfl.isEmpty && (q.2.kwd.isEmpty && (scB (q.1.map stS) (psN q.1 p.2.params) q.2.scope && (decide (q.1.length = p.2.slots) && (decide (p.2.params ≤ p.2.slots) && (if T.ths.contains p.1 then decide (q.2.name = stS p.1) && (decide (q.2.qual = stS p.1) && (decide (p.2.params = 1) && (match q.1 with
  | a :: _ => okN (stS a) && ckT (T.mkC q.1 q.2.scope true) (stS a) p.2.body q.2.body
  | [] => false))) else ckSs (T.mkC q.1 q.2.scope false) p.2.body q.2.body))))))
def allD (T : Txt) : List (String × Dl.Fn) → List (List String × He.DefD) → Bool
  | [], [] => true
  | p :: l, q :: r => T.okD p q && allD T l r
  | _, _ => false
def iniB (b self x f : Str) (msg : String) (body : List Stmt) : Bool := match body with
  | [.Expr (.Call (.Attribute (.Name b' _) i' p2) [.Name s' _, .Constant (.str m') _ _] [] p5) _, .Assign [.Attribute (.Name s2 _) f' _] (.Name x' _) _] => decide (b' = b) && (decide (i' = "__init__") && (decide (s' = self) && (decide (s2 = self) && (decide (f' = f) && (decide (x' = x) && (decide (m' = stS msg) && (p2.endLine == p5.line)))))))
  | _ => false
def okI (T : Txt) (p : String × String) (q : He.DefD × Str × Str × String) : Bool := decide (q.1.at_ = (stS p.1, some (stS "__init__"))) && (q.1.dfl.isEmpty && (q.1.kwd.isEmpty && (scB [q.2.1, q.2.2.1] [q.2.1, q.2.2.1] q.1.scope && (iniB (stS T.sup) q.2.1 q.2.2.1 (stS p.2) q.2.2.2 q.1.body && (decide (List.lookup q.2.1 q.1.scope.names = some .local) && (decide (List.lookup q.2.2.1 q.1.scope.names = some .local) && (decide (List.lookup (stS T.sup) q.1.scope.names = some .globalImplicit) && (okN q.2.1 && (okN q.2.2.1 && (okN (stS T.sup) && (T.nms.contains p.1 && T.flds.contains p.2)))))))))))
def allI (T : Txt) : List (String × String) → List (He.DefD × Str × Str × String) → Bool
  | [], [] => true
  | p :: l, q :: r => T.okI p q && allI T l r
  | _, _ => false
def ok (T : Txt) : Bool := T.allD T.fnL T.ds && (T.allI T.cls T.is && (T.nms.contains T.sup && ((T.fnL.lookup "()").isNone && T.ths.all fun h => (T.fnL.lookup h).isSome)))
/-- the parameters are bound -/
def bP (d : He.DefD) (ps : List Str) : Prop := ∀ (kV doc pm : Value) (an : Option Addr) (cdv ct : Value) (us : List Value), us.length = ps.length → bindArgs (PySem.W.fnOf d.name d.qual d.params d.body d.scope .none kV doc pm an cdv ct) ⟨us, []⟩ = pure (ps.zip us)
def bD : List (String × Dl.Fn) → List (List String × He.DefD) → Prop
  | p :: l, q :: r => bP q.2 (psN q.1 p.2.params) ∧ bD l r
  | _, _ => True
def bI : List (He.DefD × Str × Str × String) → Prop
  | q :: r => bP q.1 [q.2.1, q.2.2.1] ∧ bI r
  | _ => True
theorem find_ok {T : Txt} {f : String} {F : Dl.Fn} : ∀ (l : List (String × Dl.Fn)) (r : List (List String × He.DefD)), T.allD l r = true → bD l r → l.lookup f = some F →
    ∃ q, ((l.map (·.1)).zip r).lookup f = some q ∧ T.okD (f, F) q = true ∧ bP q.2 (psN q.1 F.params) ∧ q ∈ r ∧ (f, F) ∈ l
  | [], _, _, _, h => by cases h
  | p :: l, [], h, _, _ => by cases h
  | (g, G) :: l, q :: r, h, b, e => by
    obtain ⟨h1, h2⟩ := Bool.and_eq_true_iff.mp (show (T.okD (g, G) q && T.allD l r) = true from h)
    rw [List.lookup_cons] at e
    rw [List.map_cons, List.zip_cons_cons, List.lookup_cons]
    by_cases z : (f == g) = true
    · rw [z] at e ⊢
      cases e
      have := eq_of_beq z
      subst this
      exact ⟨q, rfl, h1, b.1, List.mem_cons_self .., List.mem_cons_self ..⟩
    · have z' : (f == g) = false := by simpa using z
      rw [z'] at e ⊢
      obtain ⟨q', e1, e2, e3, e4, e5⟩ := find_ok l r h2 b.2 e
      exact ⟨q', e1, e2, e3, List.mem_cons_of_mem _ e4, List.mem_cons_of_mem _ e5⟩
theorem look_mem {α : Type} {f : String} {a : α} : ∀ {l : List (String × α)}, l.lookup f = some a → (f, a) ∈ l
  | [], h => by cases h
  | (g, b) :: l, h => by
    rw [List.lookup_cons] at h
    by_cases z : (f == g) = true
    · rw [z] at h
      cases h
      have := eq_of_beq z
      subst this
      exact List.mem_cons_self ..
    · have z' : (f == g) = false := by simpa using z
      rw [z'] at h
      exact List.mem_cons_of_mem _ (look_mem h)
theorem findI_ok {T : Txt} {c g : String} : ∀ (l : List (String × String)) (r : List (He.DefD × Str × Str × String)), T.allI l r = true → bI r → (c, g) ∈ l → ∃ q, q ∈ r ∧ T.okI (c, g) q = true ∧ bP q.1 [q.2.1, q.2.2.1]
  | [], _, _, _, h => by cases h
  | p :: l, [], h, _, _ => by cases h
  | p :: l, q :: r, h, b, e => by
    obtain ⟨h1, h2⟩ := Bool.and_eq_true_iff.mp (show (T.okI p q && T.allI l r) = true from h)
    cases e with
    | head => exact ⟨q, List.mem_cons_self .., h1, b.1⟩
    | tail _ m =>
      obtain ⟨q', e1, e2, e3⟩ := findI_ok l r h2 b.2 m
      exact ⟨q', List.mem_cons_of_mem _ e1, e2, e3⟩
def cad (T : Txt) (K : PySem.W.Frag) (k : String) : Option Addr := if (T.cls.map (·.1)).contains k then some (gaS K k) else none
theorem rps_consts {K : PySem.W.Frag} {A : Option AS} {H : Hp} : ∀ l : List Int, Rps K A H ((l.map He.Dv.int).map (He.Dv.v K)) (l.map D.int)
  | [] => .nil
  | i :: l => .cons (.int i) (rps_consts l)
section
variable {T : Txt} {K : PySem.W.Frag} {h : Heap} {mg : Str → Option Value}
theorem fact (c : He.SaysD T.fa T.fn K) {f : He.Fa} (m : f ∈ T.fa) : f.ok K = true := by
  obtain ⟨i, e⟩ := List.getElem?_of_mem m
  exact c.fact i e
theorem defn (c : He.SaysD T.fa T.fn K) {d : He.DefD} (m : d ∈ T.fn) : ∃ fd, FunD K d.name d.qual d.params d.body d.scope (d.dvs K) (d.kws K) (He.fAd K d.at_) fd := by
  obtain ⟨i, e⟩ := List.getElem?_of_mem m
  exact c.def_ i e
theorem glo_fn (X : K.In h) (G : h.Ns mainGlobals mg) (c : He.SaysD T.fa T.fn K) {f : String} {F : Dl.Fn} (m : (f, F) ∈ T.fnL) : mg (stS f) = some (.ref (gaS K f)) :=
  He.glo_ok X G (fact c (List.mem_append_left _ (List.mem_map_of_mem (f := fun p : String × Dl.Fn => He.Fa.glo (stS p.1)) m)))
theorem glo_nm (X : K.In h) (G : h.Ns mainGlobals mg) (c : He.SaysD T.fa T.fn K) {x : String} (m : x ∈ T.nms) : mg (stS x) = some (.ref (gaS K x)) :=
  He.glo_ok X G (fact c (List.mem_append_right _ (List.mem_append_left _ (List.mem_map_of_mem (f := fun x : String => He.Fa.glo (stS x)) m))))
theorem glo_tp (X : K.In h) (G : h.Ns mainGlobals mg) (c : He.SaysD T.fa T.fn K) {x : String} {l : List Int} (m : (x, l) ∈ T.tups) : mg (stS x) = some (.ref (gaS K x)) :=
  He.glo_ok X G (fact c (List.mem_append_right _ (List.mem_append_right _ (List.mem_append_left _ (List.mem_map_of_mem (f := fun p : String × List Int => He.Fa.glo (stS p.1)) m)))))
theorem free_bn (X : K.In h) (G : h.Ns mainGlobals mg) (c : He.SaysD T.fa T.fn K) {x : String} (m : x ∈ T.bn) : mg (stS x) = none :=
  He.free_ok X G (fact c (List.mem_append_right _ (List.mem_append_right _ (List.mem_append_right _ (List.mem_append_left _ (List.mem_map_of_mem (f := fun x : String => He.Fa.free (stS x)) m))))))
theorem int_at (X : K.In h) (G : h.Ns mainGlobals mg) (c : He.SaysD T.fa T.fn K) {x : String} {i : Int} (m : (x, i) ∈ T.zis) : ∃ t, mg (stS x) = some (.int i t) :=
  He.int_ok X G (fact c (List.mem_append_right _ (List.mem_append_right _ (List.mem_append_right _ (List.mem_append_right _ (List.mem_append_left _ (List.mem_map_of_mem (f := fun p : String × Int => He.Fa.int (stS p.1) p.2) m)))))))
theorem glo_dk (X : K.In h) (G : h.Ns mainGlobals mg) (c : He.SaysD T.fa T.fn K) {x : String} {t : List (String × String)} (m : (x, t) ∈ T.dks) : mg (stS x) = some (.ref (gaS K x)) :=
  He.glo_ok X G (fact c (List.mem_append_right _ (List.mem_append_right _ (List.mem_append_right _ (List.mem_append_right _ (List.mem_append_right _ (List.mem_map_of_mem (f := fun p : String × List (String × String) => He.Fa.glo (stS p.1)) m)))))))
theorem def_ok (X : K.In h) (G : h.Ns mainGlobals mg) (c : He.SaysD T.fa T.fn K) (hT : T.ok = true) (hb : bD T.fnL T.ds) {f : String} {F : Dl.Fn} (hf : T.fnL.lookup f = some F) :
    ∃ fd d ps, FunD K d.name d.qual d.params d.body (T.cc f).sc [] [] (gaS K f) fd ∧ mg (stS f) = some (.ref (gaS K f)) ∧ L2.FnScope (T.cc f).N ps (T.cc f).sc ∧ ps.length = F.params ∧ (T.cc f).N.length = F.slots ∧ (T.cc f).sc = d.scope ∧ bP d ps ∧
    (T.ths.contains f = false → ckSs (T.cc f) F.body d.body = true) ∧ (T.ths.contains f = true → d.name = stS f ∧ d.qual = stS f ∧ ∃ a, ps = [a] ∧ okN a = true ∧ ckT (T.cc f) a F.body d.body = true) := by
  obtain ⟨h1, _⟩ := Bool.and_eq_true_iff.mp hT
  obtain ⟨⟨N, d⟩, e1, e2, e3, e4, e5⟩ := find_ok _ _ h1 hb hf
  unfold okD at e2
  simp only [Bool.and_eq_true, decide_eq_true_eq, List.isEmpty_iff] at e2
  obtain ⟨q1, q2, q3, q4, q5, q6, q7⟩ := e2
  obtain ⟨fd, FD⟩ := defn c (List.mem_append_left _ (List.mem_map_of_mem (f := fun q : List String × He.DefD => q.2) e4))
  have ec : T.cc f = T.mkC N d.scope (T.ths.contains f) := by
    unfold cc
    have : T.find f = some (N, d) := e1
    rw [this]
  have dv : d.dvs K = [] := by unfold He.DefD.dvs; rw [q2]; rfl
  have kv : d.kws K = [] := by unfold He.DefD.kws; rw [q3]; rfl
  have fv : He.fAd K d.at_ = gaS K f := by rw [q1]; rfl
  have FD : FunD K d.name d.qual d.params d.body d.scope (d.dvs K) (d.kws K) (He.fAd K d.at_) fd := FD
  rw [dv, kv, fv] at FD
  refine ⟨fd, d, psN N F.params, ?_, glo_fn X G c e5, ?_, ?_, ?_, ?_, e3, fun t => ?_, fun t => ?_⟩
  · rw [ec]; exact FD
  · rw [ec]; exact scB_ok q4
  · unfold psN
    rw [List.length_map, List.length_take]
    omega
  · rw [ec]
    show (N.map stS).length = _
    rw [List.length_map]
    exact q5
  · rw [ec]; rfl
  · rw [if_neg (by rw [t]; decide)] at q7
    rw [ec, t]; exact q7
  · rw [if_pos t] at q7
    simp only [Bool.and_eq_true, decide_eq_true_eq] at q7
    obtain ⟨z1, z2, z3, z4⟩ := q7
    cases N with
    | nil => cases z4
    | cons a N =>
      obtain ⟨z5, z6⟩ := Bool.and_eq_true_iff.mp z4
      refine ⟨z1, z2, stS a, ?_, z5, ?_⟩
      · rw [z3]; rfl
      · rw [ec, t]; exact z6
theorem ini_at {CS C fI : Addr} {d : He.DefD} {fd : FuncData} {self x b f : Str} {msg : String} (FD : FunD K d.name d.qual d.params d.body d.scope [] [] fI fd) (S : L2.FnScope [self, x] [self, x] d.scope) (hi : iniB b self x f msg d.body = true)
    (h0 : List.lookup self d.scope.names = some .local) (h1 : List.lookup x d.scope.names = some .local) (hg : List.lookup b d.scope.names = some .globalImplicit) (ok0 : okN self = true) (ok1 : okN x = true) (okb : okN b = true) (hm : mg b = some (.ref CS)) (TS : Sup K CS) :
    ∀ (p : Program) (w : World) (base : Heap), L2.FnOk p w K mg base (L2.CX p w) 1 fI fd [self, x] (spIni K C f) := by
  intro p w base
  unfold iniB at hi
  split at hi
  · rename_i hbody
    simp only [Bool.and_eq_true, decide_eq_true_eq] at hi
    obtain ⟨z1, z2, z3, z4, z5, z6, z8, z7⟩ := hi
    subst z1 z2 z3 z4 z5 z6 z8
    exact ini_fn FD S hbody h0 h1 hg ok0 ok1 okb z7 hm TS
  · cases hi
end
end Txt
end Ds
end
section
set_option Elab.async false
set_option Elab.async false
set_option linter.all false
set_option maxRecDepth 100000
set_option maxHeartbeats 8000000
set_option autoImplicit false
/-! Snd27: a text that is checked is a text as the promise wants it. -/
namespace Ds
open PySem PySem.Spec PyProof.Rows
open L2 (V Hp OexC FunD RelV)
open Dl (D)
namespace Txt
section
variable {T : Txt} {K : PySem.W.Frag} {h : Heap} {mg : Str → Option Value}
theorem cc_mk (T : Txt) (f : String) : ∃ N sc th, T.cc f = T.mkC N sc th := by
  unfold cc
  split
  · exact ⟨_, _, _, rfl⟩
  · exact ⟨_, _, _, rfl⟩
theorem find_none {f : String} : ∀ (l : List (String × Dl.Fn)) (r : List (List String × He.DefD)) (q : List String × He.DefD), ((l.map (·.1)).zip r).lookup f = some q → ∃ F, l.lookup f = some F
  | [], _, q, h => by cases h
  | p :: l, [], q, h => by cases h
  | (g, G) :: l, p :: r, q, h => by
    rw [List.map_cons, List.zip_cons_cons, List.lookup_cons] at h
    rw [List.lookup_cons]
    by_cases z : (f == g) = true
    · rw [z]; exact ⟨_, rfl⟩
    · have z' : (f == g) = false := by simpa using z
      rw [z'] at h ⊢
      exact find_none l r q h
/-- a def that hands on thunks -/
theorem cc_th {T : Txt} {f h : String} (e : (T.cc f).thF h = true) : (∃ F, T.fnL.lookup f = some F) ∧ T.ths.contains h = true := by
  unfold cc at e
  split at e
  · rename_i q eq
    obtain ⟨_, e2⟩ := Bool.and_eq_true_iff.mp (show (!(T.ths.contains f) && T.ths.contains h) = true from e)
    exact ⟨find_none _ _ _ eq, e2⟩
  · obtain ⟨e1, _⟩ := Bool.and_eq_true_iff.mp (show (!true && T.ths.contains h) = true from e)
    cases e1
theorem cc_no {T : Txt} {f : String} (t : T.ths.contains f = true) (k : String) : (T.cc f).thF k = false := by
  unfold cc
  split
  · show (!(T.ths.contains f) && T.ths.contains k) = false
    rw [t]; rfl
  · rfl
theorem cad_cls {k : String} {C : Addr} (e : T.cad K k = some C) : (∃ g, (k, g) ∈ T.cls) ∧ C = gaS K k := by
  unfold cad at e
  split at e
  · rename_i q
    cases e
    rw [List.contains_eq_mem, decide_eq_true_eq] at q
    obtain ⟨p, m, e⟩ := List.mem_map.mp q
    subst e
    exact ⟨⟨p.2, m⟩, rfl⟩
  · cases e
theorem cad_of {k g : String} (m : (k, g) ∈ T.cls) : T.cad K k = some (gaS K k) := by
  unfold cad
  exact if_pos (by
    rw [List.contains_eq_mem, decide_eq_true_eq]
    exact List.mem_map_of_mem (f := fun p : String × String => p.1) m)
/-- what is known of a class -/
theorem ex_cls (e : T.ex K = true) {k g : String} (m : (k, g) ∈ T.cls) : OexC K (gaS K k) ∧ PySem.W.findIn K (.ref (gaS K k)) "__init__" = some (some (.ref (He.ma K (gaS K k) "__init__"))) ∧ PySem.W.typeIn K (.ref (He.ma K (gaS K k) "__init__")) = some (.type "function") ∧
    L2.XfC K (gaS K k) ∧ (∀ n ∈ T.nms, PySem.W.exmOne K (.ref (gaS K k)) (.ref (gaS K n)) = some (k == n || n == "SayError" || n == "ValueError")) ∧ ∀ f ∈ T.flds, PySem.W.findIn K (.ref (gaS K k)) (stS f) = some none := by
  obtain ⟨e1, _⟩ := Bool.and_eq_true_iff.mp (show (exQ T.sup T.cls T.nms T.flds K && (T.tpB K && (isQ T.cls T.nms K && (T.mkB K && T.dkV K)))) = true from e)
  unfold exQ at e1
  obtain ⟨_, e2⟩ := Bool.and_eq_true_iff.mp e1
  have q := List.all_eq_true.mp e2 _ m
  simp only [Bool.and_eq_true, decide_eq_true_eq, List.all_eq_true] at q
  obtain ⟨⟨⟨⟨⟨q1, q2⟩, q3⟩, q4⟩, q5⟩, q6⟩ := q
  exact ⟨oexB_ok q1, q2, q3, L2.xfB_ok q4, q5, q6⟩
theorem ex_sup (e : T.ex K = true) : Sup K (gaS K T.sup) := by
  obtain ⟨e1, _⟩ := Bool.and_eq_true_iff.mp (show (exQ T.sup T.cls T.nms T.flds K && (T.tpB K && (isQ T.cls T.nms K && (T.mkB K && T.dkV K)))) = true from e)
  unfold exQ at e1
  obtain ⟨e2, _⟩ := Bool.and_eq_true_iff.mp e1
  exact supB_ok e2
theorem ex_is (e : T.ex K = true) {k g : String} (m : (k, g) ∈ T.cls) : L2.ExcC K (gaS K k) ∧ ∀ n ∈ T.nms, PySem.W.kitOne K (.ref (gaS K k)) (.ref (gaS K n)) = some (k == n || n == "SayError" || n == "ValueError") := by
  obtain ⟨_, e1⟩ := Bool.and_eq_true_iff.mp (show (exQ T.sup T.cls T.nms T.flds K && (T.tpB K && (isQ T.cls T.nms K && (T.mkB K && T.dkV K)))) = true from e)
  obtain ⟨_, e2⟩ := Bool.and_eq_true_iff.mp e1
  obtain ⟨e3, _⟩ := Bool.and_eq_true_iff.mp e2
  unfold isQ at e3
  have q := List.all_eq_true.mp e3 _ m
  simp only [Bool.and_eq_true, decide_eq_true_eq, List.all_eq_true] at q
  exact ⟨excB_ok q.1, q.2⟩
theorem ex_mk (e : T.ex K = true) {t : String} (ht : T.ths.contains t = true) {f : String} {F : Dl.Fn} (m : (f, F) ∈ T.fnL) : ∃ o, List.lookup (gaS K f) K = some o ∧ (cpOf K o).isEmpty = false := by
  obtain ⟨_, e1⟩ := Bool.and_eq_true_iff.mp (show (exQ T.sup T.cls T.nms T.flds K && (T.tpB K && (isQ T.cls T.nms K && (T.mkB K && T.dkV K)))) = true from e)
  obtain ⟨_, e2⟩ := Bool.and_eq_true_iff.mp e1
  obtain ⟨_, e34⟩ := Bool.and_eq_true_iff.mp e2
  obtain ⟨e3, _⟩ := Bool.and_eq_true_iff.mp e34
  unfold mkB at e3
  rcases Bool.or_eq_true_iff.mp e3 with z | z
  · rw [List.isEmpty_iff] at z
    rw [z] at ht
    cases ht
  · have q := List.all_eq_true.mp z _ m
    dsimp only at q
    split at q
    · rename_i o eo
      exact ⟨o, eo, by simpa using q⟩
    · cases q
theorem cp_has {o : Obj} {fd : FuncData} (hd : o.data = .func fd) (h : (cpOf K o).isEmpty = false) : ∃ (c : Addr) (oc : Value) (od : Option Addr) (vs : Array Value) (sl : Array (Option Value)) (P : Addr), fd.code = .ref c ∧ List.lookup c K = some ⟨oc, od, .fields vs, sl⟩ ∧ vs[11]? = some (.ref P) := by
  unfold cpOf at h
  simp only [hd] at h
  split at h
  · rename_i c ec
    split at h
    · rename_i oc od vs sl el
      split at h
      · rename_i P eP
        exact ⟨c, oc, od, vs, sl, P, ec, el, eP⟩
      · cases h
    · cases h
  · cases h
theorem ex_dk (e : T.ex K = true) {x : String} {t : List (String × String)} (m : (x, t) ∈ T.dks) {k v : String} (hk : t.lookup k = some v) : ∃ u, PySem.W.nsIn K (gaS K x) (stS k) = some (some u) ∧ RelV (.str (stS v)) u := by
  obtain ⟨_, e1⟩ := Bool.and_eq_true_iff.mp (show (exQ T.sup T.cls T.nms T.flds K && (T.tpB K && (isQ T.cls T.nms K && (T.mkB K && T.dkV K)))) = true from e)
  obtain ⟨_, e2⟩ := Bool.and_eq_true_iff.mp e1
  obtain ⟨_, e3⟩ := Bool.and_eq_true_iff.mp e2
  obtain ⟨_, e4⟩ := Bool.and_eq_true_iff.mp e3
  have q := List.all_eq_true.mp (List.all_eq_true.mp e4 _ m) _ (look_mem hk)
  dsimp only at q
  split at q
  · rename_i z tk ez
    have := of_decide_eq_true q
    subst this
    exact ⟨_, ez, tk, rfl⟩
  · cases q
theorem text_ok {w : World} (X : K.In h) (G : h.Ns mainGlobals mg) (c : He.SaysD T.fa T.fn K) (e : T.ex K = true) (hT : T.ok = true) (hb : bD T.fnL T.ds) (hi : bI T.is) (tk : tkB K = true) (kd : ∀ t ∈ T.tabl, ∃ es n, L2.KDict K w (gaS K t.1) es n) : TextOk K mg (T.cad K) T.P T.cc w where
  dk := fun f x t hx => by
    obtain ⟨N, sc, th, ec⟩ := T.cc_mk f
    rw [ec] at hx
    have hx : T.dks.lookup x = some t := hx
    have m := look_mem hx
    refine ⟨gaS K x, glo_dk X G c m, fun k v hk => ?_⟩
    obtain ⟨es, n, D⟩ := kd _ (List.mem_map_of_mem (f := fun p : String × List (String × String) => (p.1, p.2.map fun q => q.1)) m)
    obtain ⟨u, u1, u2⟩ := ex_dk e m hk
    exact ⟨es, n, u, D.at_, D.lit, u1, u2⟩
  df := fun f F hf ht => by
    obtain ⟨fd, d, ps, q1, q2, q3, q4, q5, _, q8, q6, _⟩ := def_ok X G c hT hb (show T.fnL.lookup f = some F from hf)
    exact ⟨_, fd, _, _, _, _, ps, q1, q2, q3, q4, q5, q6 ht, FunD.bindsN q1 q8⟩
  un := by
    obtain ⟨_, h23⟩ := Bool.and_eq_true_iff.mp hT
    obtain ⟨_, h3⟩ := Bool.and_eq_true_iff.mp h23
    obtain ⟨_, h4⟩ := Bool.and_eq_true_iff.mp h3
    obtain ⟨h5, _⟩ := Bool.and_eq_true_iff.mp h4
    exact Option.isNone_iff_eq_none.mp h5
  ni := fun f k => by
    obtain ⟨N, sc, th, ec⟩ := T.cc_mk f
    rw [ec]
    rfl
  ies := fun f k hk => by
    obtain ⟨N, sc, th, ec⟩ := T.cc_mk f
    rw [ec] at hk
    have hk : T.nms.contains k = true := hk
    rw [List.contains_eq_mem, decide_eq_true_eq] at hk
    refine ⟨gaS K k, glo_nm X G c hk, fun k' C hc => ?_⟩
    obtain ⟨⟨g, m⟩, rfl⟩ := cad_cls hc
    exact ⟨(ex_is e m).1, (ex_is e m).2 k hk⟩
  tf := fun f h hh => by
    obtain ⟨_, ht⟩ := cc_th hh
    obtain ⟨_, h23⟩ := Bool.and_eq_true_iff.mp hT
    obtain ⟨_, h3⟩ := Bool.and_eq_true_iff.mp h23
    obtain ⟨_, h4⟩ := Bool.and_eq_true_iff.mp h3
    obtain ⟨_, h5⟩ := Bool.and_eq_true_iff.mp h4
    rw [List.contains_eq_mem, decide_eq_true_eq] at ht
    obtain ⟨F, hF⟩ := Option.isSome_iff_exists.mp (List.all_eq_true.mp h5 h ht)
    have ht' : T.ths.contains h = true := by rw [List.contains_eq_mem, decide_eq_true_eq]; exact ht
    obtain ⟨fd, d, ps, q1, q2, q3, q4, q5, _, q8, _, q6⟩ := def_ok X G c hT hb hF
    obtain ⟨z1, z2, a, rfl, z3, z4⟩ := q6 ht'
    have bi := FunD.bindsN q1 q8
    rw [z1, z2] at q1
    exact ⟨F, hF, ht', ⟨gaS K h, fd, _, _, a, q1, q2, q3, q5, bi, z3, z4⟩, fun k => cc_no ht' k⟩
  mkt := fun f h fa o fd hh hm hl hd base X' N' => by
    obtain ⟨⟨F, hF⟩, ht⟩ := cc_th hh
    have m := look_mem hF
    have ea : fa = gaS K f := by
      have : (some (Value.ref fa)) = some (.ref (gaS K f)) := hm.symm.trans (glo_fn X G c m)
      injection this with this
      injection this
    subst ea
    obtain ⟨o', eo, ne⟩ := ex_mk e ht m
    have : o = o' := Option.some.inj (hl.symm.trans eo)
    subst this
    obtain ⟨c', oc, od, vs, sl, P, e1, e2, e3⟩ := cp_has hd ne
    exact ⟨c', P, e1, tkB_mk tk hl hd e1 e2 e3 X' N'⟩
  sg := fun f g n hs => by
    obtain ⟨N, sc, th, ec⟩ := T.cc_mk f
    rw [ec] at hs
    have hs : (if T.ths.contains g then none else (T.fnL.lookup g).map fun F => F.params) = some n := hs
    have tg : T.ths.contains g = false := by
      cases z : T.ths.contains g with
      | false => rfl
      | true => rw [if_pos z] at hs; cases hs
    rw [if_neg (by rw [tg]; decide)] at hs
    cases q : T.fnL.lookup g with
    | none => rw [q] at hs; cases hs
    | some F =>
      rw [q] at hs
      cases hs
      exact ⟨F, q, rfl, tg⟩
  bn := fun f x hx => by
    obtain ⟨N, sc, th, ec⟩ := T.cc_mk f
    rw [ec] at hx
    have hx : (T.bn.map stS).contains x = true := hx
    rw [List.contains_eq_mem, decide_eq_true_eq] at hx
    obtain ⟨y, my, rfl⟩ := List.mem_map.mp hx
    exact free_bn X G c my
  gl := fun x d hd => by
    have hd : Dl.glL T.zis T.tups x = some d := hd
    unfold Dl.glL at hd
    split at hd
    · rename_i i q
      cases hd
      obtain ⟨t, et⟩ := int_at X G c (look_mem q)
      exact ⟨_, .int i, et, ⟨t, rfl⟩, fun A H => .int i⟩
    · split at hd
      · rename_i l q
        cases hd
        obtain ⟨_, e23⟩ := Bool.and_eq_true_iff.mp (show (exQ T.sup T.cls T.nms T.flds K && (T.tpB K && (isQ T.cls T.nms K && (T.mkB K && T.dkV K)))) = true from e)
        obtain ⟨e2, _⟩ := Bool.and_eq_true_iff.mp e23
        have tb := List.all_eq_true.mp e2 _ (look_mem q)
        exact ⟨_, .ref (gaS K x), glo_tp X G c (look_mem q), rfl, fun A H => .tup (He.tupB_ok tb H) (rps_consts l)⟩
      · cases hd
  nf := fun f k => by
    obtain ⟨N, sc, th, ec⟩ := T.cc_mk f
    rw [ec]
    rfl
  cl := fun f k g hk => by
    obtain ⟨N, sc, th, ec⟩ := T.cc_mk f
    rw [ec] at hk
    have hk : T.cls.lookup k = some g := hk
    have m := look_mem hk
    obtain ⟨h1, h23⟩ := Bool.and_eq_true_iff.mp hT
    obtain ⟨h2, h34⟩ := Bool.and_eq_true_iff.mp h23
    obtain ⟨h3, _⟩ := Bool.and_eq_true_iff.mp h34
    rw [List.contains_eq_mem, decide_eq_true_eq] at h3
    obtain ⟨q, mq, ok, bq⟩ := findI_ok _ _ h2 hi m
    obtain ⟨d, self, x, msg⟩ := q
    unfold okI at ok
    simp only [Bool.and_eq_true, decide_eq_true_eq, List.isEmpty_iff] at ok
    obtain ⟨o1, o2, o3, o4, o5, o6, o7, o8, o9, o10, o11, o12, o13⟩ := ok
    rw [List.contains_eq_mem, decide_eq_true_eq] at o12 o13
    obtain ⟨fd, FD⟩ := defn c (List.mem_append_right _ (List.mem_map_of_mem (f := fun q : He.DefD × Str × Str × String => q.1) mq))
    have dv : d.dvs K = [] := by unfold He.DefD.dvs; rw [o2]; rfl
    have kv : d.kws K = [] := by unfold He.DefD.kws; rw [o3]; rfl
    have fv : He.fAd K d.at_ = He.ma K (gaS K k) "__init__" := by rw [o1]; rfl
    have FD : FunD K d.name d.qual d.params d.body d.scope (d.dvs K) (d.kws K) (He.fAd K d.at_) fd := FD
    rw [dv, kv, fv] at FD
    obtain ⟨x1, x2, x3, x4, x5, x6⟩ := ex_cls e m
    refine ⟨?_, gaS K k, _, fd, [self, x], x1, x2, x3, ini_at FD (scB_ok o4) o5 o6 o7 o8 o9 o10 o11 (glo_nm X G c h3) (ex_sup e), FunD.bindsN FD bq, glo_nm X G c o12, cad_of m, x6 g o13⟩
    show Dl.flL T.cls k = some [g]
    unfold Dl.flL
    rw [hk]
  nm := fun f k hk => by
    obtain ⟨N, sc, th, ec⟩ := T.cc_mk f
    rw [ec] at hk ⊢
    have hk : (T.nms.contains k && (decide (sc.names.lookup (stS k) = some .globalImplicit) && okN (stS k))) = true := hk
    simp only [Bool.and_eq_true, decide_eq_true_eq, List.contains_eq_mem] at hk
    obtain ⟨k1, k2, k3⟩ := hk
    refine ⟨.ref (gaS K k), k2, (okN_ok k3).1, glo_nm X G c k1, fun k' C hc => ?_⟩
    obtain ⟨⟨g, m⟩, rfl⟩ := cad_cls hc
    exact (ex_cls e m).2.2.2.2.1 k k1
  xf := fun f g hg k C hc => by
    obtain ⟨N, sc, th, ec⟩ := T.cc_mk f
    rw [ec] at hg
    have hg : T.flds.contains g = true := hg
    rw [List.contains_eq_mem, decide_eq_true_eq] at hg
    obtain ⟨⟨g', m⟩, rfl⟩ := cad_cls hc
    obtain ⟨_, _, _, x4, _, x6⟩ := ex_cls e m
    exact ⟨x4, x6 g hg⟩
theorem law_text {w : World} {fa : Addr} {F : Dl.Fn} (Y : SaysQ T.fa T.fn T.ex T.tabl w h) (G : h.Ns mainGlobals mg) (hm : mg ("law" : Str) = some (.ref fa)) (hT : T.ok = true) (hb : bD T.fnL T.ds) (hi : bI T.is)
    (hl : T.fnL.lookup "law" = some F) (h1 : F.params = 1) (ht : T.ths.contains "law" = false) : LawOk T.P mg fa h w := by
  obtain ⟨K, X, c, e, tk, tn, kd⟩ := Y
  obtain ⟨fd, d, ps, q1, q2, q3, q4, q5, q7, q8, q6, _⟩ := def_ok X G c hT hb hl
  have ea : fa = gaS K "law" := by
    have : (some (Value.ref fa)) = some (.ref (gaS K "law")) := hm.symm.trans q2
    injection this with this
    injection this
  subst ea
  obtain ⟨x, rfl⟩ : ∃ x, ps = [x] := by
    rw [h1] at q4
    match ps, q4 with
    | [x], _ => exact ⟨x, rfl⟩
  exact ⟨K, T.cad K, T.cc, F, fd, _, _, _, _, x, X, text_ok X G c e hT hb hi tk kd, hl, ht, h1, q1, q2, q3, q5, q6 ht, fun s u => FunD.bindsA q1 q8 s [u] rfl, tn, tkB_none tk, tkB_code X tk⟩
end
end Txt
end Ds
end
section
set_option Elab.async false
set_option autoImplicit false
namespace Dl.K03
open Dl
/-- is_from: 0 value 1 least 2 most -/
def fis_from : Fn := ⟨3, 3, [.ret (.and (.isi (.bor 0) .int) (.and (.not (.isi (.bor 0) .bool)) (.chain .le .le (.bor 1) (.bor 0) (.bor 2))))]⟩
def nis_from : List String := ["value", "least", "most"]
/-- are_pairs: 0 value 1 pair -/
def fare_pairs : Fn := ⟨1, 2, [.ifs (.not (.isi (.bor 0) .tuple)) [.ret (.bl false)] [],
    .fors (.one 1) (.iSeq (.var 0)) [.ifs (.or (.not (.isi (.bor 1) .tuple)) (.cmp .ne (.b1 .len (.bor 1)) (.int 2))) [.ret (.bl false)] [],
    .ifs (.or (.not (.call "is_from" [(.ix (.bor 1) (.int 0)), (.int 0), (.bin .sub (.gl "NAMES") (.int 1))])) (.not (.call "is_from" [(.ix (.bor 1) (.int 1)), (.neg (.gl "GREATEST")), (.gl "GREATEST")]))) [.ret (.bl false)] []],
    .ret (.bl true)]⟩
def nare_pairs : List String := ["value", "pair"]
/-- is_term: 0 value 1 last 2 name 3 factor -/
def fis_term : Fn := ⟨1, 4, [.ifs (.or (.not (.isi (.bor 0) .tuple)) (.or (.cmp .ne (.b1 .len (.bor 0)) (.int 2)) (.not (.call "is_from" [(.ix (.bor 0) (.int 0)), (.neg (.gl "GREATEST")), (.gl "GREATEST")])))) [.ret (.bl false)] [],
    .ifs (.not (.call "are_pairs" [(.ix (.bor 0) (.int 1))])) [.ret (.bl false)] [],
    .set 1 (.neg (.int 1)),
    .fors (.many [2, 3]) (.iSeq (.ix (.bor 0) (.int 1))) [.ifs (.or (.cmp .le (.bor 2) (.bor 1)) (.cmp .eq (.bor 3) (.int 0))) [.ret (.bl false)] [],
    .set 1 (.var 2)],
    .ret (.bl true)]⟩
def nis_term : List String := ["value", "last", "name", "factor"]
/-- fitted: 0 const 1 factors 2 pairs 3 name 4 factor -/
def ffitted : Fn := ⟨2, 5, [.ifs (.not (.chain .le .le (.neg (.gl "GREATEST")) (.bor 0) (.gl "GREATEST"))) [.raise "TooGreat" [(.gl "GREATEST")]] [],
    .setL 2 (.lst []),
    .fors (.one 3) (.iSeq (.keys (.bor 1))) [.set 4 (.dix (.bor 1) (.var 3)),
    .ifs (.not (.chain .le .le (.neg (.gl "GREATEST")) (.bor 4) (.gl "GREATEST"))) [.raise "TooGreat" [(.gl "GREATEST")]] [],
    .ifs (.cmp .ne (.bor 4) (.int 0)) [.app 2 (.tup [(.var 3), (.var 4)])] []],
    .ret (.tup [(.var 0), (.b1 .tuple (.bor 2))])]⟩
def nfitted : List String := ["const", "factors", "pairs", "name", "factor"]
/-- scaled: 0 term 1 factor 2 name 3 old -/
def fscaled : Fn := ⟨2, 4, [.ret (.call "fitted" [(.bin .mul (.ix (.bor 0) (.int 0)) (.bor 1)), (.dc (.var 2) (.bin .mul (.bor 3) (.bor 1)) (.many [2, 3]) [2, 3] (.iSeq (.ix (.bor 0) (.int 1))) (.bl true))])]⟩
def nscaled : List String := ["term", "factor", "name", "old"]
/-- moved: 0 term 1 step -/
def fmoved : Fn := ⟨2, 2, [.ifs (.not (.chain .le .le (.neg (.gl "GREATEST")) (.bin .add (.ix (.bor 0) (.int 0)) (.bor 1)) (.gl "GREATEST"))) [.raise "TooGreat" [(.gl "GREATEST")]] [],
    .ret (.tup [(.bin .add (.ix (.bor 0) (.int 0)) (.bor 1)), (.ix (.bor 0) (.int 1))])]⟩
def nmoved : List String := ["term", "step"]
/-- has_form: 0 value 1 word -/
def fhas_form : Fn := ⟨1, 2, [.ifs (.or (.not (.isi (.bor 0) .tuple)) (.or (.cmp .eq (.b1 .len (.bor 0)) (.int 0)) (.not (.isi (.ix (.bor 0) (.int 0)) .str)))) [.ret (.bl false)] [],
    .set 1 (.ix (.bor 0) (.int 0)),
    .ifs (.cmp .inn (.bor 1) (.tup [(.str "ge"), (.str "eq")])) [.ret (.and (.cmp .eq (.b1 .len (.bor 0)) (.int 2)) (.call "is_term" [(.ix (.bor 0) (.int 1))]))] [],
    .ifs (.cmp .eq (.bor 1) (.str "mod")) [.ret (.and (.cmp .eq (.b1 .len (.bor 0)) (.int 3)) (.and (.call "is_from" [(.ix (.bor 0) (.int 1)), (.int 2), (.gl "MOST_MODULUS")]) (.call "is_term" [(.ix (.bor 0) (.int 2))])))] [],
    .ifs (.cmp .eq (.bor 1) (.str "not")) [.ret (.cmp .eq (.b1 .len (.bor 0)) (.int 2))] [],
    .ifs (.cmp .inn (.bor 1) (.tup [(.str "and"), (.str "or")])) [.ret (.and (.cmp .eq (.b1 .len (.bor 0)) (.int 2)) (.isi (.ix (.bor 0) (.int 1)) .tuple))] [],
    .ret (.and (.cmp .inn (.bor 1) (.tup [(.str "some"), (.str "all")])) (.and (.cmp .eq (.b1 .len (.bor 0)) (.int 3)) (.call "is_from" [(.ix (.bor 0) (.int 1)), (.int 0), (.bin .sub (.gl "NAMES") (.int 1))])))]⟩
def nhas_form : List String := ["value", "word"]
/-- inner: 0 formula 1 word -/
def finner : Fn := ⟨1, 2, [.set 1 (.ix (.bor 0) (.int 0)),
    .ifs (.cmp .inn (.bor 1) (.tup [(.str "and"), (.str "or")])) [.ret (.ix (.bor 0) (.int 1))] [],
    .ifs (.cmp .eq (.bor 1) (.str "not")) [.ret (.tup [(.ix (.bor 0) (.int 1))])] [],
    .ret (.ife (.cmp .inn (.bor 1) (.tup [(.str "some"), (.str "all")])) (.tup [(.ix (.bor 0) (.int 2))]) (.tup []))]⟩
def ninner : List String := ["formula", "word"]
/-- place_of: 0 formula 1 index -/
def fplace_of : Fn := ⟨2, 2, [.ifs (.cmp .inn (.ix (.bor 0) (.int 0)) (.tup [(.str "and"), (.str "or")])) [.ret (.tup [(.int 1), (.var 1)])] [],
    .ret (.ife (.cmp .eq (.ix (.bor 0) (.int 0)) (.str "not")) (.tup [(.int 1)]) (.tup [(.int 2)]))]⟩
def nplace_of : List String := ["formula", "index"]
/-- walked: 0 value 1 path 2 deep 3 met 4 number 5 index 6 part -/
def fwalked : Fn := ⟨4, 7, [.ifs (.cmp .gt (.bor 2) (.gl "MOST_DEEP")) [.raise "TooGreat" [(.gl "MOST_DEEP")]] [],
    .ifs (.cmp .eq (.bor 3) (.gl "MOST_PARTS")) [.raise "TooGreat" [(.gl "MOST_PARTS")]] [],
    .ifs (.not (.call "has_form" [(.var 0)])) [.raise "BadFormula" [(.var 1)]] [],
    .set 4 (.bin .add (.bor 3) (.int 1)),
    .fors (.many [5, 6]) (.iEnum (.call "inner" [(.var 0)])) [.set 4 (.call "walked" [(.var 6), (.bin .add (.bor 1) (.call "place_of" [(.var 0), (.var 5)])), (.bin .add (.bor 2) (.int 1)), (.var 4)])],
    .ret (.var 4)]⟩
def nwalked : List String := ["value", "path", "deep", "met", "number", "index", "part"]
/-- need_formula: 0 value -/
def fneed_formula : Fn := ⟨1, 1, [.expr (.call "walked" [(.var 0), (.tup []), (.int 1), (.int 0)]),
    .ret (.var 0)]⟩
def nneed_formula : List String := ["value"]
/-- driven_in: 0 formula 1 negative 2 word 3 above 4 told 5 part -/
def fdriven_in : Fn := ⟨2, 6, [.set 2 (.ix (.bor 0) (.int 0)),
    .ifs (.cmp .eq (.bor 2) (.str "not")) [.ret (.call "driven_in" [(.ix (.bor 0) (.int 1)), (.not (.var 1))])] [],
    .ifs (.cmp .eq (.bor 2) (.str "mod")) [.ret (.ife (.var 1) (.tup [(.str "not"), (.var 0)]) (.var 0))] [],
    .ifs (.cmp .eq (.bor 2) (.str "ge")) [.ret (.ife (.var 1) (.tup [(.str "ge"), (.call "moved" [(.call "scaled" [(.ix (.bor 0) (.int 1)), (.neg (.int 1))]), (.neg (.int 1))])]) (.var 0))] [],
    .ifs (.cmp .eq (.bor 2) (.str "eq")) [.ifs (.not (.var 1)) [.ret (.var 0)] [],
    .set 3 (.tup [(.str "ge"), (.call "moved" [(.ix (.bor 0) (.int 1)), (.neg (.int 1))])]),
    .ret (.tup [(.str "or"), (.tup [(.var 3), (.tup [(.str "ge"), (.call "moved" [(.call "scaled" [(.ix (.bor 0) (.int 1)), (.neg (.int 1))]), (.neg (.int 1))])])])])] [],
    .set 4 (.ife (.var 1) (.kix "CONTRARY" [("and", "or"), ("or", "and"), ("some", "all"), ("all", "some")] 2) (.var 2)),
    .ifs (.cmp .inn (.bor 2) (.tup [(.str "and"), (.str "or")])) [.ret (.tup [(.var 4), (.b1 .tuple (.lcX (.call "driven_in" [(.var 5), (.var 1)]) (.one 5) [5] (.iSeq (.ix (.bor 0) (.int 1))) (.bl true)))])] [],
    .ret (.tup [(.var 4), (.ix (.bor 0) (.int 1)), (.call "driven_in" [(.ix (.bor 0) (.int 2)), (.var 1)])])]⟩
def ndriven_in : List String := ["formula", "negative", "word", "above", "told", "part"]
/-- inward: 0 formula -/
def finward : Fn := ⟨1, 1, [.ret (.call "need_formula" [(.call "driven_in" [(.call "need_formula" [(.var 0)]), (.bl false)])])]⟩
def ninward : List String := ["formula"]
/-- negated: 0 formula -/
def fnegated : Fn := ⟨1, 1, [.ret (.call "need_formula" [(.call "driven_in" [(.call "need_formula" [(.var 0)]), (.bl true)])])]⟩
def nnegated : List String := ["formula"]
/-- driven: 0 formula 1 part -/
def fdriven : Fn := ⟨1, 2, [.ifs (.cmp .eq (.ix (.bor 0) (.int 0)) (.str "not")) [.ret (.cmp .eq (.ix (.ix (.bor 0) (.int 1)) (.int 0)) (.str "mod"))] [],
    .fors (.one 1) (.iSeq (.call "inner" [(.var 0)])) [.ifs (.not (.call "driven" [(.var 1)])) [.ret (.bl false)] []],
    .ret (.bl true)]⟩
def ndriven : List String := ["formula", "part"]
/-- is_inward: 0 formula -/
def fis_inward : Fn := ⟨1, 1, [.ret (.call "driven" [(.call "need_formula" [(.var 0)])])]⟩
def nis_inward : List String := ["formula"]
/-- _law_mixed: 0 _law_cell 1 _law_k -/
def f_law_mixed : Fn := ⟨2, 2, [.set 0 (.bin .mod (.b1 .int (.bor 0)) (.int 2147483647)),
    .ret (.bin .mod (.bin .mul (.bin .mod (.bin .add (.bin .add (.bin .mul (.bor 0) (.bin .add (.int 48271) (.bin .mul (.bin .mul (.int 2) (.bor 1)) (.bor 1)))) (.bin .mul (.int 69621) (.bor 1))) (.int 11)) (.int 2147483647)) (.int 69621)) (.int 2147483629))]⟩
def n_law_mixed : List String := ["_law_cell", "_law_k"]
/-- _law_begin: 0 _law_script 1 _law_cells_so 2 _law_cell -/
def f_law_begin : Fn := ⟨1, 3, [.setL 1 (.ife (.cmp .ne (.bor 0) (.lst [])) (.b1 .list (.bor 0)) (.lst [(.int 0)])),
    .begin_ 1 (.lc (.ife (.cmp .ge (.bor 2) (.bin .pow (.int 10) (.int 18))) (.var 2) (.int 0)) (.one 2) [2] (.iSeq (.bor 1)) (.bl true))]⟩
def n_law_begin : List String := ["_law_script", "_law_cells_so", "_law_cell"]
/-- _law_draw: 0 _law_state 1 _law_limit 2 _law_at 3 _law_place 4 _law_left 5 _law_number -/
def f_law_draw : Fn := ⟨2, 6, [.set 2 (.stAt 0),
    .stSetAt 0 (.bin .add (.bor 2) (.int 1)),
    .set 3 (.bin .mod (.b1 .int (.bor 2)) (.stLen 0)),
    .set 4 (.stLeft 0 (.var 3)),
    .ifs (.cmp .gt (.bor 4) (.int 0)) [.stSetLeft 0 (.var 3) (.bin .fdiv (.bor 4) (.bor 1)),
    .ret (.bin .mod (.b1 .int (.bor 4)) (.bor 1))] [],
    .set 5 (.call "_law_mixed" [(.call "_law_mixed" [(.stCell 0 (.var 3)), (.var 2)]), (.bin .add (.int 40) (.bor 2))]),
    .ret (.bin .mod (.bin .fdiv (.b1 .int (.bin .add (.bin .mul (.bor 5) (.int 2147483647)) (.call "_law_mixed" [(.var 5), (.bin .add (.int 7) (.bor 2))]))) (.int 64)) (.bor 1))]⟩
def n_law_draw : List String := ["_law_state", "_law_limit", "_law_at", "_law_place", "_law_left", "_law_number"]
/-- _law_of: 0 _law_state 1 _law_some -/
def f_law_of : Fn := ⟨2, 2, [.ret (.ix (.bor 1) (.call "_law_draw" [(.var 0), (.b1 .len (.bor 1))]))]⟩
def n_law_of : List String := ["_law_state", "_law_some"]
/-- _law_term: 0 _law_state 1 _law_names 2 _law_most 3 _law_bound_here 4 _law_parts_so 5 _law_name 6 _law_factor -/
def f_law_term : Fn := ⟨4, 7, [.set 4 (.tup []),
    .fors (.one 5) (.iSeq (.var 1)) [.set 6 (.bin .sub (.call "_law_draw" [(.var 0), (.bin .add (.bin .mul (.int 2) (.bor 2)) (.int 1))]) (.bor 2)),
    .ifs (.cmp .ne (.bor 6) (.int 0)) [.set 4 (.bin .add (.bor 4) (.tup [(.tup [(.var 5), (.var 6)])]))] []],
    .ret (.tup [(.bin .sub (.call "_law_draw" [(.var 0), (.bin .add (.bin .mul (.int 2) (.bor 3)) (.int 1))]) (.bor 3)), (.var 4)])]⟩
def n_law_term : List String := ["_law_state", "_law_names", "_law_most", "_law_bound_here", "_law_parts_so", "_law_name", "_law_factor"]
/-- _law_atom: 0 _law_state 1 _law_names 2 _law_most 3 _law_bound_here 4 _law_pick 5 _law_term_here -/
def f_law_atom : Fn := ⟨4, 6, [.par [(4, false, (.call "_law_draw" [(.var 0), (.int 6)])), (5, false, (.call "_law_term" [(.var 0), (.var 1), (.var 2), (.var 3)]))],
    .ifs (.cmp .lt (.bor 4) (.int 3)) [.ret (.tup [(.str "ge"), (.var 5)])] [],
    .ret (.ife (.cmp .eq (.bor 4) (.int 3)) (.tup [(.str "eq"), (.var 5)]) (.tup [(.str "mod"), (.bin .add (.int 2) (.call "_law_draw" [(.var 0), (.int 3)])), (.var 5)]))]⟩
def n_law_atom : List String := ["_law_state", "_law_names", "_law_most", "_law_bound_here", "_law_pick", "_law_term_here"]
/-- _law_plain: 0 _law_state 1 _law_names 2 _law_many_so 3 _law_most 4 _law_bound_here 5 _law_atom_here 6 _law_left 7 _law_one 8 _law_other 9 _law_found -/
def f_law_plain : Fn := ⟨5, 10, [.ifs (.or (.cmp .lt (.bor 2) (.int 2)) (.cmp .eq (.call "_law_draw" [(.var 0), (.int 4)]) (.int 0))) [.set 5 (.call "_law_atom" [(.var 0), (.var 1), (.var 3), (.var 4)]),
    .ret (.ife (.cmp .eq (.call "_law_draw" [(.var 0), (.int 3)]) (.int 0)) (.tup [(.str "not"), (.var 5)]) (.var 5))] [],
    .set 6 (.bin .add (.int 1) (.call "_law_draw" [(.var 0), (.bin .sub (.bor 2) (.int 1))])),
    .set 7 (.call "_law_plain" [(.var 0), (.var 1), (.var 6), (.var 3), (.var 4)]),
    .set 8 (.call "_law_plain" [(.var 0), (.var 1), (.bin .sub (.bor 2) (.bor 6)), (.var 3), (.var 4)]),
    .set 9 (.tup [(.ix (.lst [(.str "and"), (.str "or")]) (.call "_law_draw" [(.var 0), (.int 2)])), (.tup [(.var 7), (.var 8)])]),
    .ret (.ife (.cmp .eq (.call "_law_draw" [(.var 0), (.int 5)]) (.int 0)) (.tup [(.str "not"), (.var 9)]) (.var 9))]⟩
def n_law_plain : List String := ["_law_state", "_law_names", "_law_many_so", "_law_most", "_law_bound_here", "_law_atom_here", "_law_left", "_law_one", "_law_other", "_law_found"]
/-- _law_like: 0 _law_got 1 _law_due -/
def f_law_like : Fn := ⟨2, 2, [.ret (.like (.bor 0) (.bor 1))]⟩
def n_law_like : List String := ["_law_got", "_law_due"]
/-- _law_inside: 0 _law_formula_here 1 _law_at 2 _law_part -/
def f_law_inside : Fn := ⟨1, 3, [.ifs (.cmp .inn (.ix (.bor 0) (.int 0)) (.tup [(.str "and"), (.str "or")])) [.ret (.lc (.tup [(.tup [(.int 1), (.var 1)]), (.var 2)]) (.many [1, 2]) [1, 2] (.iEnum (.ix (.bor 0) (.int 1))) (.bl true))] [],
    .ifs (.cmp .eq (.ix (.bor 0) (.int 0)) (.str "not")) [.ret (.lst [(.tup [(.tup [(.int 1)]), (.ix (.bor 0) (.int 1))])])] [],
    .ret (.ife (.cmp .inn (.ix (.bor 0) (.int 0)) (.tup [(.str "some"), (.str "all")])) (.lst [(.tup [(.tup [(.int 2)]), (.ix (.bor 0) (.int 2))])]) (.lst []))]⟩
def n_law_inside : List String := ["_law_formula_here", "_law_at", "_law_part"]
/-- _law_parts: 0 _law_formula_here 1 _law_path 2 _law_found 3 _law_step 4 _law_part -/
def f_law_parts : Fn := ⟨2, 5, [.set 2 (.lst [(.tup [(.var 1), (.var 0)])]),
    .fors (.many [3, 4]) (.iSeq (.call "_law_inside" [(.var 0)])) [.set 2 (.bin .add (.bor 2) (.call "_law_parts" [(.var 4), (.bin .add (.bor 1) (.bor 3))]))],
    .ret (.var 2)]⟩
def n_law_parts : List String := ["_law_formula_here", "_law_path", "_law_found", "_law_step", "_law_part"]
/-- _law_deep: 0 _law_formula_here 1 _law_found 2 _law_step 3 _law_part -/
def f_law_deep : Fn := ⟨1, 4, [.set 1 (.int 0),
    .fors (.many [2, 3]) (.iSeq (.call "_law_inside" [(.var 0)])) [.set 1 (.b2 .max (.var 1) (.call "_law_deep" [(.var 3)]))],
    .ret (.bin .add (.bor 1) (.int 1))]⟩
def n_law_deep : List String := ["_law_formula_here", "_law_found", "_law_step", "_law_part"]
/-- _law_put_at: 0 _law_formula_here 1 _law_path 2 _law_part 3 _law_items_so -/
def f_law_put_at : Fn := ⟨3, 4, [.ifs (.cmp .eq (.bor 1) (.tup [])) [.ret (.var 2)] [],
    .ifs (.cmp .inn (.ix (.bor 0) (.int 0)) (.tup [(.str "and"), (.str "or")])) [.setL 3 (.b1 .list (.ix (.bor 0) (.int 1))),
    .setIx 3 (.ix (.bor 1) (.int 1)) (.call "_law_put_at" [(.ix (.bor 3) (.ix (.bor 1) (.int 1))), (.sl (.bor 1) (.int 2) .non), (.var 2)]),
    .ret (.tup [(.ix (.bor 0) (.int 0)), (.b1 .tuple (.bor 3))])] [],
    .ret (.bin .add (.sl (.bor 0) .non (.ix (.bor 1) (.int 0))) (.tup [(.call "_law_put_at" [(.ix (.bor 0) (.ix (.bor 1) (.int 0))), (.sl (.bor 1) (.int 1) .non), (.var 2)])]))]⟩
def n_law_put_at : List String := ["_law_formula_here", "_law_path", "_law_part", "_law_items_so"]
/-- _law_bound: 0 _law_state 1 _law_names 2 _law_deep_here 3 _law_many_so 4 _law_pick 5 _law_word 6 _law_found 7 _law_step -/
def f_law_bound : Fn := ⟨4, 8, [.set 4 (.call "_law_draw" [(.var 0), (.int 7)]),
    .ifs (.or (.cmp .eq (.bor 2) (.int 0)) (.cmp .eq (.bor 4) (.int 0))) [.ret (.call "_law_plain" [(.var 0), (.var 1), (.var 3), (.int 2), (.int 6)])] [],
    .ifs (.cmp .eq (.bor 4) (.int 1)) [.ret (.tup [(.str "not"), (.call "_law_bound" [(.var 0), (.var 1), (.bin .sub (.bor 2) (.int 1)), (.var 3)])])] [],
    .ifs (.cmp .lt (.bor 4) (.int 5)) [.set 5 (.ix (.lst [(.str "some"), (.str "all")]) (.call "_law_draw" [(.var 0), (.int 2)])),
    .ret (.tup [(.var 5), (.call "_law_of" [(.var 0), (.var 1)]), (.call "_law_bound" [(.var 0), (.var 1), (.bin .sub (.bor 2) (.int 1)), (.var 3)])])] [],
    .set 6 (.tup []),
    .fors (.one 7) (.iRng (.call "_law_draw" [(.var 0), (.int 4)])) [.set 6 (.bin .add (.bor 6) (.tup [(.call "_law_bound" [(.var 0), (.var 1), (.bin .sub (.bor 2) (.int 1)), (.var 3)])]))],
    .ret (.tup [(.ix (.lst [(.str "and"), (.str "or")]) (.bin .sub (.bor 4) (.int 5))), (.var 6)])]⟩
def n_law_bound : List String := ["_law_state", "_law_names", "_law_deep_here", "_law_many_so", "_law_pick", "_law_word", "_law_found", "_law_step"]
/-- _law_minus: 0 _law_term_here 1 _law_more 2 _law_name 3 _law_factor -/
def f_law_minus : Fn := ⟨2, 4, [.ret (.tup [(.bin .sub (.bor 1) (.ix (.bor 0) (.int 0))), (.b1 .tuple (.lc (.tup [(.var 2), (.neg (.var 3))]) (.many [2, 3]) [2, 3] (.iSeq (.ix (.bor 0) (.int 1))) (.bl true)))])]⟩
def n_law_minus : List String := ["_law_term_here", "_law_more", "_law_name", "_law_factor"]
/-- _law_inward: 0 _law_formula_here 1 _law_contrary 2 _law_word 3 _law_low 4 _law_part -/
def f_law_inward : Fn := ⟨2, 5, [.set 2 (.ix (.bor 0) (.int 0)),
    .ifs (.cmp .eq (.bor 2) (.str "not")) [.ret (.call "_law_inward" [(.ix (.bor 0) (.int 1)), (.not (.var 1))])] [],
    .ifs (.cmp .eq (.bor 2) (.str "mod")) [.ret (.ife (.var 1) (.tup [(.str "not"), (.var 0)]) (.var 0))] [],
    .ifs (.cmp .inn (.bor 2) (.tup [(.str "and"), (.str "or")])) [.set 2 (.ife (.var 1) (.lit2 "and" "or" "or" "and" 2) (.var 2)),
    .ret (.tup [(.var 2), (.b1 .tuple (.lc (.call "_law_inward" [(.var 4), (.var 1)]) (.one 4) [4] (.iSeq (.ix (.bor 0) (.int 1))) (.bl true)))])] [],
    .ifs (.cmp .inn (.bor 2) (.tup [(.str "some"), (.str "all")])) [.set 2 (.ife (.var 1) (.lit2 "some" "all" "all" "some" 2) (.var 2)),
    .ret (.tup [(.var 2), (.ix (.bor 0) (.int 1)), (.call "_law_inward" [(.ix (.bor 0) (.int 2)), (.var 1)])])] [],
    .ifs (.not (.var 1)) [.ret (.var 0)] [],
    .set 3 (.tup [(.str "ge"), (.call "_law_minus" [(.ix (.bor 0) (.int 1)), (.neg (.int 1))])]),
    .ifs (.cmp .eq (.bor 2) (.str "ge")) [.ret (.var 3)] [],
    .ret (.tup [(.str "or"), (.tup [(.tup [(.str "ge"), (.tup [(.bin .sub (.ix (.ix (.bor 0) (.int 1)) (.int 0)) (.int 1)), (.ix (.ix (.bor 0) (.int 1)) (.int 1))])]), (.var 3)])])]⟩
def n_law_inward : List String := ["_law_formula_here", "_law_contrary", "_law_word", "_law_low", "_law_part"]
/-- _law_caught: 0 _law_call 1 _law_told 2 e -/
def f_law_caught : Fn := ⟨1, 3, [.tryS [.set 1 (.tup [(.str "told"), (.call "()" [])])] [(["BadFormula"], some 2, [.set 1 (.tup [(.str "formula"), (.fld 2 "path"), (.isE 2 "SayError")])]), (["TooGreat"], some 2, [.set 1 (.tup [(.str "great"), (.fld 2 "most"), (.isE 2 "SayError")])])],
    .ret (.var 1)]⟩
def n_law_caught : List String := ["_law_call", "_law_told", "e"]
/-- _law_made: 0 _law_formula_here 1 _law_path 2 _law_part -/
def f_law_made : Fn := ⟨1, 3, [.fors (.many [1, 2]) (.iSeq (.call "_law_parts" [(.var 0), (.tup [])])) [.ifs (.and (.cmp .inn (.ix (.bor 2) (.int 0)) (.tup [(.str "ge"), (.str "eq"), (.str "mod")])) (.cmp .gt (.b1 .abs (.ix (.ix (.bor 2) (.neg (.int 1))) (.int 0))) (.bin .pow (.int 10) (.int 9)))) [.ret (.tup [(.str "great"), (.bin .pow (.int 10) (.int 9)), (.bl true)])] []],
    .ret (.ife (.cmp .lt (.call "_law_deep" [(.var 0)]) (.int 21)) (.tup [(.str "told"), (.var 0)]) (.tup [(.str "great"), (.int 20), (.bl true)]))]⟩
def n_law_made : List String := ["_law_formula_here", "_law_path", "_law_part"]
/-- _law_ahead: 0 _law_formula_here 1 _law_path 2 _law_part -/
def f_law_ahead : Fn := ⟨1, 3, [.fors (.many [1, 2]) (.iSeq (.call "_law_parts" [(.var 0), (.tup [])])) [.ifs (.and (.cmp .eq (.ix (.bor 2) (.int 0)) (.str "not")) (.cmp .ne (.ix (.ix (.bor 2) (.int 1)) (.int 0)) (.str "mod"))) [.ret (.bl false)] []],
    .ret (.bl true)]⟩
def n_law_ahead : List String := ["_law_formula_here", "_law_path", "_law_part"]
/-- _law_formula: 0 _law_state 1 _law_formula_here 2 _law_rows 3 _law_path 4 _law_part 5 _law_const 6 _law_step -/
def f_law_formula : Fn := ⟨1, 7, [.set 1 (.call "_law_bound" [(.var 0), (.lst [(.int 0), (.int 1), (.int 2), (.int 3)]), (.int 3), (.int 3)]),
    .setL 2 (.lc (.tup [(.var 3), (.var 4)]) (.many [3, 4]) [3, 4] (.iSeq (.call "_law_parts" [(.var 1), (.tup [])])) (.cmp .inn (.ix (.bor 4) (.int 0)) (.tup [(.str "ge"), (.str "eq"), (.str "mod")]))),
    .ifs (.and (.cmp .ne (.bor 2) (.lst [])) (.cmp .eq (.call "_law_draw" [(.var 0), (.int 3)]) (.int 0))) [.unp [3, 4] (.call "_law_of" [(.var 0), (.var 2)]),
    .set 5 (.call "_law_of" [(.var 0), (.lst [(.bin .pow (.int 10) (.int 9)), (.neg (.bin .pow (.int 10) (.int 9))), (.bin .sub (.bin .pow (.int 10) (.int 9)) (.int 1)), (.bin .sub (.int 1) (.bin .pow (.int 10) (.int 9)))])]),
    .set 1 (.call "_law_put_at" [(.var 1), (.var 3), (.bin .add (.sl (.bor 4) .non (.neg (.int 1))) (.tup [(.tup [(.var 5), (.ix (.ix (.bor 4) (.neg (.int 1))) (.int 1))])]))])] [],
    .ifs (.cmp .eq (.call "_law_draw" [(.var 0), (.int 3)]) (.int 0)) [.fors (.one 6) (.iRng (.bin .sub (.int 20) (.call "_law_deep" [(.var 1)]))) [.set 1 (.tup [(.call "_law_of" [(.var 0), (.lst [(.str "and"), (.str "or")])]), (.tup [(.var 1)])])]] [],
    .ret (.var 1)]⟩
def n_law_formula : List String := ["_law_state", "_law_formula_here", "_law_rows", "_law_path", "_law_part", "_law_const", "_law_step"]
/-- _law_many_parts: 0 _law_state 1 _law_size 2 _law_formula_here 3 _law_due -/
def f_law_many_parts : Fn := ⟨1, 4, [.ifs (.cmp .gt (.call "_law_draw" [(.var 0), (.int 4)]) (.int 0)) [.ret (.bl true)] [],
    .set 1 (.bin .add (.int 665) (.call "_law_draw" [(.var 0), (.int 4)])),
    .set 2 (.tup [(.str "and"), (.bin .mul (.tup [(.tup [(.str "eq"), (.tup [(.int 3), (.tup [(.tup [(.int 1), (.int 1)])])])])]) (.bor 1))]),
    .set 3 (.ife (.cmp .lt (.bor 1) (.int 667)) (.tup [(.str "told"), (.call "_law_inward" [(.var 2), (.bl true)])]) (.tup [(.str "great"), (.int 2000), (.bl true)])),
    .ifs (.not (.call "_law_like" [(.caught "_law_caught" (.call "negated" [(.var 2)])), (.var 3)])) [.ret (.bl false)] [],
    .ret (.call "_law_like" [(.caught "_law_caught" (.call "inward" [(.tup [(.str "not"), (.var 2)])])), (.var 3)])]⟩
def n_law_many_parts : List String := ["_law_state", "_law_size", "_law_formula_here", "_law_due"]
/-- law: 0 _law_script 1 _law_state 2 _law_formula_here 3 _law_contrary 4 _law_due 5 _law_got 6 _law_path 7 _law_value 8 _law_asked -/
def flaw : Fn := ⟨1, 9, [.set 1 (.call "_law_begin" [(.var 0)]),
    .set 2 (.call "_law_formula" [(.var 1)]),
    .fors (.one 3) (.iSeq (.tup [(.bl false), (.bl true)])) [.set 4 (.call "_law_made" [(.call "_law_inward" [(.var 2), (.var 3)])]),
    .set 5 (.caught "_law_caught" (.ife (.var 3) (.call "negated" [(.var 2)]) (.call "inward" [(.var 2)]))),
    .ifs (.not (.call "_law_like" [(.var 5), (.var 4)])) [.ret (.bl false)] [],
    .ifs (.and (.cmp .eq (.ix (.bor 5) (.int 0)) (.str "told")) (.not (.call "_law_like" [(.lst [(.call "is_inward" [(.ix (.bor 5) (.int 1))]), (.call "inward" [(.ix (.bor 5) (.int 1))])]), (.lst [(.bl true), (.ix (.bor 5) (.int 1))])]))) [.ret (.bl false)] []],
    .ifs (.not (.call "_law_like" [(.call "is_inward" [(.var 2)]), (.call "_law_ahead" [(.var 2)])])) [.ret (.bl false)] [],
    .set 6 (.ix (.call "_law_of" [(.var 1), (.call "_law_parts" [(.var 2), (.tup [])])]) (.int 0)),
    .set 7 (.call "_law_put_at" [(.var 2), (.var 6), (.call "_law_of" [(.var 1), (.lst [.non, (.tup [(.str "not")]), (.tup [(.str "or"), (.lst [])])])])]),
    .setL 8 (.lst [(.caught "_law_caught" (.call "inward" [(.var 7)]))]),
    .app 8 (.caught "_law_caught" (.call "negated" [(.var 7)])),
    .app 8 (.caught "_law_caught" (.call "is_inward" [(.var 7)])),
    .ret (.and (.call "_law_like" [(.var 8), (.bin .mul (.lst [(.tup [(.str "formula"), (.var 6), (.bl true)])]) (.int 3))]) (.call "_law_many_parts" [(.var 1)]))]⟩
def nlaw : List String := ["_law_script", "_law_state", "_law_formula_here", "_law_contrary", "_law_due", "_law_got", "_law_path", "_law_value", "_law_asked"]
def fnL : List (String × Fn) := [("is_from", fis_from), ("are_pairs", fare_pairs), ("is_term", fis_term), ("fitted", ffitted), ("scaled", fscaled), ("moved", fmoved), ("has_form", fhas_form), ("inner", finner), ("place_of", fplace_of), ("walked", fwalked), ("need_formula", fneed_formula), ("driven_in", fdriven_in), ("inward", finward), ("negated", fnegated), ("driven", fdriven), ("is_inward", fis_inward), ("_law_mixed", f_law_mixed), ("_law_begin", f_law_begin), ("_law_draw", f_law_draw), ("_law_of", f_law_of), ("_law_term", f_law_term), ("_law_atom", f_law_atom), ("_law_plain", f_law_plain), ("_law_like", f_law_like), ("_law_inside", f_law_inside), ("_law_parts", f_law_parts), ("_law_deep", f_law_deep), ("_law_put_at", f_law_put_at), ("_law_bound", f_law_bound), ("_law_minus", f_law_minus), ("_law_inward", f_law_inward), ("_law_caught", f_law_caught), ("_law_made", f_law_made), ("_law_ahead", f_law_ahead), ("_law_formula", f_law_formula), ("_law_many_parts", f_law_many_parts), ("law", flaw)]
def zis : List (String × Int) := [("NAMES", 10), ("GREATEST", 1000000000), ("MOST_PARTS", 2000), ("MOST_DEEP", 20), ("MOST_MODULUS", 1000000)]
def tups : List (String × List Int) := []
def cls : List (String × String) := [("BadFormula", "path"), ("TooGreat", "most")]
def ths : List String := ["_law_caught"]
def dks : List (String × List (String × String)) := [("CONTRARY", [("and", "or"), ("or", "and"), ("some", "all"), ("all", "some")])]
def prog : Pr := mkP fnL zis tups cls ths
end Dl.K03
end
section
set_option Elab.async false
set_option autoImplicit false
set_option linter.all false
/-! Ev: how the interpreter goes, as rules for simp. Plain Lean. -/
namespace Dl
variable {fl : Flds} {gl : String → Option D} {call : String → List D → Option GS → RC}
variable {α β : Type}
/-- holds a continuation fast: simp does not go into it -/
def Tg {α : Type} (_ : α) : Type := Unit
/-- bind, the continuation held fast -/
def R.nd (r : R α) (f : α → S → R β) (_ : Tg f := ()) : R β := r.bind f
@[simp] theorem nd_ok (a : α) (s : S) (f : α → S → R β) : (R.ok a s).nd f = f a s := (rfl)
@[simp] theorem nd_ex (e : Exn) (s : S) (f : α → S → R β) : (R.ex e s : R α).nd f = .ex e s := (rfl)
@[simp] theorem nd_stuck (f : α → S → R β) : (R.stuck : R α).nd f = .stuck := (rfl)
/-- a branch -/
def br (b : R D) (t e : S → R α) (_ : Tg (t, e) := ()) : R α := b.bind fun x s => match x with
  | .bl true => t s
  | .bl false => e s
  | _ => .stuck
@[simp] theorem br_t (s : S) (t e : S → R α) : br (.ok (.bl true) s) t e = t s := (rfl)
@[simp] theorem br_f (s : S) (t e : S → R α) : br (.ok (.bl false) s) t e = e s := (rfl)
@[simp] theorem br_ex (x : Exn) (s : S) (t e : S → R α) : br (.ex x s) t e = .ex x s := (rfl)
theorem br_b (b : Bool) (s : S) (t e : S → R α) : br (.ok (.bl b) s) t e = if b = true then t s else e s := by cases b <;> rfl
/-- what follows -/
def sq (r : R Fl) (k : S → R Fl) (_ : Tg k := ()) : R Fl := r.bind fun r s => match r with
  | .nx => k s
  | r => .ok r s
@[simp] theorem sq_nx (s : S) (k : S → R Fl) : sq (.ok .nx s) k = k s := (rfl)
@[simp] theorem sq_ret (d : D) (s : S) (k : S → R Fl) : sq (.ok (.ret d) s) k = .ok (.ret d) s := (rfl)
@[simp] theorem sq_brk (s : S) (k : S → R Fl) : sq (.ok .brk s) k = .ok .brk s := (rfl)
@[simp] theorem sq_cont (s : S) (k : S → R Fl) : sq (.ok .cont s) k = .ok .cont s := (rfl)
@[simp] theorem sq_ex (e : Exn) (s : S) (k : S → R Fl) : sq (.ex e s) k = .ex e s := (rfl)
/-- back from a call -/
def cl (r : RC) (s : S) : R D := match r with
  | .ok d g => .ok d { s with g := g }
  | .ex e g => .ex e { s with g := g }
  | .stuck => .stuck
@[simp] theorem cl_ok (d : D) (g : Option GS) (e : List (Option DV)) (h : Option GS) : cl (.ok d g) ⟨e, h⟩ = .ok d ⟨e, g⟩ := (rfl)
@[simp] theorem cl_ex (x : Exn) (g : Option GS) (e : List (Option DV)) (h : Option GS) : cl (.ex x g) ⟨e, h⟩ = .ex x ⟨e, g⟩ := (rfl)
@[simp] theorem put_mk (e : List (Option DV)) (g : Option GS) (i : Nat) (v : DV) : S.put ⟨e, g⟩ i v = ⟨e.set i (some v), g⟩ := (rfl)
@[simp] theorem get_mk (e : List (Option DV)) (g : Option GS) (i : Nat) : S.get ⟨e, g⟩ i = (e[i]?).getD none := (rfl)
/-- a slot read -/
def rdV (o : Option DV) (i : Nat) (s : S) : R D := match o with
  | some (.im d) => .ok d s
  | some (.ml l) => .ok (.lst l) (s.put i (.im (.lst l)))
  | _ => .stuck
def rdB (o : Option DV) (s : S) : R D := match o with
  | some (.im d) => .ok d s
  | some (.ml l) => .ok (.lst l) s
  | some (.rd l) => .ok (.lst l) s
  | _ => .stuck
@[simp] theorem rdV_im (d : D) (i : Nat) (s : S) : rdV (some (.im d)) i s = .ok d s := (rfl)
@[simp] theorem rdV_ml (l : List D) (i : Nat) (s : S) : rdV (some (.ml l)) i s = .ok (.lst l) (s.put i (.im (.lst l))) := (rfl)
@[simp] theorem rdB_im (d : D) (s : S) : rdB (some (.im d)) s = .ok d s := (rfl)
@[simp] theorem rdB_ml (l : List D) (s : S) : rdB (some (.ml l)) s = .ok (.lst l) s := (rfl)
@[simp] theorem rdB_rd (l : List D) (s : S) : rdB (some (.rd l)) s = .ok (.lst l) s := (rfl)
@[simp] theorem evE_non (s : S) : evE gl call .non s = .ok .non s := (rfl)
@[simp] theorem evE_bl (b : Bool) (s : S) : evE gl call (.bl b) s = .ok (.bl b) s := (rfl)
@[simp] theorem evE_int (i : Int) (s : S) : evE gl call (.int i) s = .ok (.int i) s := (rfl)
@[simp] theorem evE_str (i : String) (s : S) : evE gl call (.str i) s = .ok (.str i) s := (rfl)
@[simp] theorem evE_var (i : Nat) (s : S) : evE gl call (.var i) s = rdV (s.get i) i s := (rfl)
@[simp] theorem evE_bor (i : Nat) (s : S) : evE gl call (.bor i) s = rdB (s.get i) s := (rfl)
@[simp] theorem evE_gl (x : String) (s : S) : evE gl call (.gl x) s = ofO (gl x) s := (rfl)
@[simp] theorem evE_tup (l : List Ex) (s : S) : evE gl call (.tup l) s = (evEs gl call l s).nd fun ds s => .ok (.tup ds) s := (rfl)
@[simp] theorem evE_lst (l : List Ex) (s : S) : evE gl call (.lst l) s = (evEs gl call l s).nd fun ds s => .ok (.lst ds) s := (rfl)
@[simp] theorem evE_bin (o : Op2) (a b : Ex) (s : S) : evE gl call (.bin o a b) s = (evE gl call a s).nd fun x s => (evE gl call b s).nd fun y s => ofO (op2 o x y) s := (rfl)
def ngD (x : D) (s : S) : R D := match x with
  | .int i => .ok (.int (-i)) s
  | _ => .stuck
@[simp] theorem ngD_int (i : Int) (s : S) : ngD (.int i) s = .ok (.int (-i)) s := (rfl)
@[simp] theorem evE_neg (a : Ex) (s : S) : evE gl call (.neg a) s = (evE gl call a s).nd ngD := (rfl)
@[simp] theorem evE_cmp (o : Cmp) (a b : Ex) (s : S) : evE gl call (.cmp o a b) s = (evE gl call a s).nd fun x s => (evE gl call b s).nd fun y s => ofO ((cmp2 o x y).map .bl) s := (rfl)
def ob (o : Option Bool) (s : S) : R D := match o with
  | some b => .ok (.bl b) s
  | none => .stuck
@[simp] theorem ob_some (b : Bool) (s : S) : ob (some b) s = .ok (.bl b) s := (rfl)
@[simp] theorem evE_chain (o p : Cmp) (a b c : Ex) (s : S) : evE gl call (.chain o p a b c) s = (evE gl call a s).nd fun x s => (evE gl call b s).nd fun y s => br (ob (cmp2 o x y) s) (fun s => (evE gl call c s).nd fun z s => ofO ((cmp2 p y z).map .bl) s) (fun s => .ok (.bl false) s) := by
  rw [evE]
  congr 1
  funext x s
  congr 1
  funext y s
  cases cmp2 o x y with
  | none => rfl
  | some b => cases b <;> rfl
@[simp] theorem evE_isN (a : Ex) (s : S) : evE gl call (.isN a) s = (evE gl call a s).nd fun x s => .ok (.bl (isNonD x)) s := (rfl)
@[simp] theorem evE_notN (a : Ex) (s : S) : evE gl call (.notN a) s = (evE gl call a s).nd fun x s => .ok (.bl (!isNonD x)) s := (rfl)
@[simp] theorem evE_and (a b : Ex) (s : S) : evE gl call (.and a b) s = br (evE gl call a s) (evE gl call b) fun s => .ok (.bl false) s := (rfl)
@[simp] theorem evE_or (a b : Ex) (s : S) : evE gl call (.or a b) s = br (evE gl call a s) (fun s => .ok (.bl true) s) (evE gl call b) := (rfl)
def ntD (x : D) (s : S) : R D := match x with
  | .bl b => .ok (.bl (!b)) s
  | _ => .stuck
@[simp] theorem ntD_bl (b : Bool) (s : S) : ntD (.bl b) s = .ok (.bl (!b)) s := (rfl)
@[simp] theorem evE_not (a : Ex) (s : S) : evE gl call (.not a) s = (evE gl call a s).nd ntD := (rfl)
@[simp] theorem evE_ife (c a b : Ex) (s : S) : evE gl call (.ife c a b) s = br (evE gl call c s) (evE gl call a) (evE gl call b) := (rfl)
@[simp] theorem evE_ix (a i : Ex) (s : S) : evE gl call (.ix a i) s = (evE gl call a s).nd fun x s => (evE gl call i s).nd fun y s => ofO (ixD x y) s := (rfl)
@[simp] theorem evE_sl (a lo hi : Ex) (s : S) : evE gl call (.sl a lo hi) s = (evE gl call a s).nd fun x s => (evE gl call lo s).nd fun y s => (ofO (partOf lo y) s).nd fun i s =>
      (evE gl call hi s).nd fun z s => (ofO (partOf hi z) s).nd fun j s => ofO (slD x i j) s := (rfl)
@[simp] theorem evE_call (f : String) (l : List Ex) (s : S) : evE gl call (.call f l) s = (evEs gl call l s).nd fun ds s => cl (call f ds s.g) s := (rfl)
@[simp] theorem evE_b1 (f : Blt) (a : Ex) (s : S) : evE gl call (.b1 f a) s = (evE gl call a s).nd fun x s => ofO (blt1 f x) s := (rfl)
@[simp] theorem evE_b2 (f : Blt) (a b : Ex) (s : S) : evE gl call (.b2 f a b) s = (evE gl call a s).nd fun x s => (evE gl call b s).nd fun y s => ofO (blt2 f x y) s := (rfl)
@[simp] theorem evE_isi (a : Ex) (t : Ty) (s : S) : evE gl call (.isi a t) s = (evE gl call a s).nd fun x s => ofO ((isTy t x).map .bl) s := (rfl)
def fdX (o : Option DV) (f : String) (s : S) : R D := match o with
  | some (.exc _ fs) => ofO (fs.lookup f) s
  | _ => .stuck
@[simp] theorem fdX_e (k : String) (fs : List (String × D)) (f : String) (s : S) : fdX (some (.exc k fs)) f s = ofO (fs.lookup f) s := (rfl)
@[simp] theorem evE_fld (i : Nat) (f : String) (s : S) : evE gl call (.fld i f) s = fdX (s.get i) f s := (rfl)
/-- the same repr -/
def lkD (x y : D) (s : S) : R D := if D.same x y then .ok (.bl true) s else .stuck
@[simp] theorem evE_like (a b : Ex) (s : S) : evE gl call (.like a b) s = (evE gl call a s).nd fun x s => if x.shw then (evE gl call b s).nd fun y s => lkD x y s else .stuck := (rfl)
def lcX (r : R (List D)) (s : S) : R D := (quiet r).bind fun ds s' => if ds.length < SZ then .ok (.lst ds) { s' with env := s.env } else .stuck
@[simp] theorem lcX_ok (ds : List D) (s' s : S) : lcX (.ok ds s') s = if ds.length < SZ then .ok (.lst ds) { s' with env := s.env } else .stuck := (rfl)
@[simp] theorem evE_lc (x : Ex) (t : Tgt) (own : List Nat) (i c : Ex) (s : S) : evE gl call (.lc x t own i c) s = (evI gl call i s).nd fun l s => lcX (turns (evE gl call x) (evE gl call c) t (inner own s.env) l s) s := (rfl)
@[simp] theorem evEs_nil (s : S) : evEs gl call [] s = .ok [] s := (rfl)
@[simp] theorem evEs_cons (e : Ex) (l : List Ex) (s : S) : evEs gl call (e :: l) s = (evE gl call e s).nd fun d s => (evEs gl call l s).nd fun ds s => .ok (d :: ds) s := (rfl)
@[simp] theorem evI_iSeq (a : Ex) (s : S) : evI gl call (.iSeq a) s = (evE gl call a s).nd fun x s => ofO (seqD x) s := (rfl)
def rgD (x : D) (s : S) : R (List D) := match x with
  | .int i => if small i then .ok (rangeD 0 i.toNat) s else .stuck
  | _ => .stuck
@[simp] theorem rgD_int (i : Int) (s : S) : rgD (.int i) s = if small i then .ok (rangeD 0 i.toNat) s else .stuck := (rfl)
@[simp] theorem evI_iRng (a : Ex) (s : S) : evI gl call (.iRng a) s = (evE gl call a s).nd rgD := (rfl)
@[simp] theorem evI_iEnum (a : Ex) (s : S) : evI gl call (.iEnum a) s = (evE gl call a s).nd fun x s => ofO ((seqD x).map (enumD 0)) s := (rfl)
@[simp] theorem evI_iRev (a : Ex) (s : S) : evI gl call (.iRev a) s = (evE gl call a s).nd fun x s => ofO ((seqD x).map List.reverse) s := (rfl)
@[simp] theorem evS_set (i : Nat) (e : Ex) (s : S) : evS fl gl call (.set i e) s = (evE gl call e s).nd fun d s => .ok .nx (s.put i (.im d)) := (rfl)
def slS (i : Nat) (d : D) (s : S) : R Fl := match d with
  | .lst l => .ok .nx (s.put i (.ml l))
  | d => .ok .nx (s.put i (.im d))
@[simp] theorem slS_lst (i : Nat) (l : List D) (s : S) : slS i (.lst l) s = .ok .nx (s.put i (.ml l)) := (rfl)
@[simp] theorem slS_tup (i : Nat) (l : List D) (s : S) : slS i (.tup l) s = .ok .nx (s.put i (.im (.tup l))) := (rfl)
@[simp] theorem slS_non (i : Nat) (s : S) : slS i .non s = .ok .nx (s.put i (.im .non)) := (rfl)
@[simp] theorem evS_setL (i : Nat) (e : Ex) (s : S) : evS fl gl call (.setL i e) s = (evE gl call e s).nd (slS i) := by
  rw [evS]
  congr 1
@[simp] theorem evS_unp (l : List Nat) (e : Ex) (s : S) : evS fl gl call (.unp l e) s = (evE gl call e s).nd fun d s => match bindT (.many l) d s with
    | some s => .ok .nx s
    | none => .stuck := (rfl)
@[simp] theorem evS_par (l : List (Nat × Bool × Ex)) (s : S) : evS fl gl call (.par l) s = (evP gl call l s).nd fun vs s => .ok .nx (putsV vs s) := (rfl)
@[simp] theorem evP_nil (s : S) : evP gl call [] s = .ok [] s := (rfl)
@[simp] theorem evP_cons (i : Nat) (o : Bool) (e : Ex) (l : List (Nat × Bool × Ex)) (s : S) : evP gl call ((i, o, e) :: l) s = (evE gl call e s).nd fun d s => (evP gl call l s).nd fun ds s => .ok ((i, o, d) :: ds) s := (rfl)
@[simp] theorem putsV_nil (s : S) : putsV [] s = s := (rfl)
@[simp] theorem putsV_l (i : Nat) (l : List D) (r : List (Nat × Bool × D)) (s : S) : putsV ((i, true, .lst l) :: r) s = putsV r (s.put i (.ml l)) := (rfl)
@[simp] theorem putsV_t (i : Nat) (l : List D) (r : List (Nat × Bool × D)) (s : S) : putsV ((i, true, .tup l) :: r) s = putsV r (s.put i (.im (.tup l))) := (rfl)
@[simp] theorem putsV_n (i : Nat) (r : List (Nat × Bool × D)) (s : S) : putsV ((i, true, .non) :: r) s = putsV r (s.put i (.im .non)) := (rfl)
@[simp] theorem putsV_f (i : Nat) (d : D) (r : List (Nat × Bool × D)) (s : S) : putsV ((i, false, d) :: r) s = putsV r (s.put i (.im d)) := by cases d <;> rfl
def sxS (o : Option DV) (i : Nat) (j d : D) (s : S) : R Fl := match o, j with
  | some (.ml l), .int j => match setAt l j d with
    | some l => .ok .nx (s.put i (.ml l))
    | none => .stuck
  | _, _ => .stuck
theorem sxS_ok {l l' : List D} {i : Nat} {j : Int} {d : D} (s : S) (h : setAt l j d = some l') : sxS (some (.ml l)) i (.int j) d s = .ok .nx (s.put i (.ml l')) := by
  unfold sxS
  simp only [h]
def onM (o : Option DV) (r : R Fl) : R Fl := match o with
  | some (.ml _) => r
  | _ => .stuck
@[simp] theorem onM_ml (l : List D) (r : R Fl) : onM (some (.ml l)) r = r := (rfl)
@[simp] theorem evS_setIx (i : Nat) (k e : Ex) (s : S) : evS fl gl call (.setIx i k e) s = (evE gl call e s).nd fun d s => onM (s.get i) ((evE gl call k s).nd fun j s => sxS (s.get i) i j d s) := (rfl)
def apS (o : Option DV) (i : Nat) (d : D) (s : S) : R Fl := match o with
  | some (.ml l) => if l.length < SZ then .ok .nx (s.put i (.ml (l ++ [d]))) else .stuck
  | _ => .stuck
@[simp] theorem apS_ml (l : List D) (i : Nat) (d : D) (s : S) : apS (some (.ml l)) i d s = if l.length < SZ then .ok .nx (s.put i (.ml (l ++ [d]))) else .stuck := (rfl)
@[simp] theorem evS_app (i : Nat) (e : Ex) (s : S) : evS fl gl call (.app i e) s = onM (s.get i) ((evE gl call e s).nd fun d s => apS (s.get i) i d s) := (rfl)
@[simp] theorem evS_expr (e : Ex) (s : S) : evS fl gl call (.expr e) s = (evE gl call e s).nd fun _ s => .ok .nx s := (rfl)
@[simp] theorem evS_ret (e : Ex) (s : S) : evS fl gl call (.ret e) s = (evE gl call e s).nd fun d s => .ok (.ret d) s := (rfl)
@[simp] theorem evS_ifs (c : Ex) (a b : List St) (s : S) : evS fl gl call (.ifs c a b) s = br (evE gl call c s) (evB fl gl call a) (evB fl gl call b) := (rfl)
/-- one turn of a for -/
def turn (fl : Flds) (gl : String → Option D) (call : String → List D → Option GS → RC) (t : Tgt) (b : List St) (d : D) (s : S) : R Fl := match bindT t d s with
    | some s => evB fl gl call b s
    | none => .stuck
@[simp] theorem evS_fors (t : Tgt) (i : Ex) (b : List St) (s : S) : evS fl gl call (.fors t i b) s = (evI gl call i s).nd fun l s => walk (turn fl gl call t b) l s := (rfl)
@[simp] theorem turn_one (i : Nat) (b : List St) (d : D) (s : S) : turn fl gl call (.one i) b d s = evB fl gl call b (s.put i (.im d)) := (rfl)
@[simp] theorem turn_two (i j : Nat) (b : List St) (c d : D) (e : List (Option DV)) (g : Option GS) : turn fl gl call (.many [i, j]) b (.tup [c, d]) ⟨e, g⟩ = evB fl gl call b ⟨(e.set i (some (.im c))).set j (some (.im d)), g⟩ := (rfl)
@[simp] theorem evS_whil (c : Ex) (b : List St) (s : S) : evS fl gl call (.whil c b) s = whileN (evE gl call c) (evB fl gl call b) MOST s := (rfl)
@[simp] theorem evS_brk (s : S) : evS fl gl call .brk s = .ok .brk s := (rfl)
@[simp] theorem evS_cont (s : S) : evS fl gl call .cont s = .ok .cont s := (rfl)
@[simp] theorem evS_pass (s : S) : evS fl gl call .pass s = .ok .nx s := (rfl)
def rsX (o : Option (List String)) (c : String) (ds : List D) (s : S) : R Fl := match o with
  | some ns => if ns.length = ds.length then .ex ⟨c, ns.zip ds⟩ s else .stuck
  | none => .stuck
@[simp] theorem rsX_1 (n : String) (d : D) (c : String) (s : S) : rsX (some [n]) c [d] s = .ex ⟨c, [(n, d)]⟩ s := (rfl)
@[simp] theorem evS_raise (c : String) (l : List Ex) (s : S) : evS fl gl call (.raise c l) s = (evEs gl call l s).nd fun ds s => rsX (fl c) c ds s := (rfl)
def tr (r : R Fl) (h : Exn → S → R Fl) (_ : Tg h := ()) : R Fl := match r with
    | .ok r s => .ok r s
    | .ex e s => h e s
    | .stuck => .stuck
@[simp] theorem tr_ok (r : Fl) (s : S) (h : Exn → S → R Fl) : tr (.ok r s) h = .ok r s := (rfl)
@[simp] theorem tr_ex (e : Exn) (s : S) (h : Exn → S → R Fl) : tr (.ex e s) h = h e s := (rfl)
@[simp] theorem evS_try (b : List St) (hs : List (List String × Option Nat × List St)) (s : S) : evS fl gl call (.tryS b hs) s = tr (evB fl gl call b s) (evH fl gl call hs) := (rfl)
@[simp] theorem evB_nil (s : S) : evB fl gl call [] s = .ok .nx s := (rfl)
@[simp] theorem evB_cons (x : St) (l : List St) (s : S) : evB fl gl call (x :: l) s = sq (evS fl gl call x s) (evB fl gl call l) := by
  rw [evB]
  unfold sq
  congr 1
@[simp] theorem fin_nx (s : S) : finish (.ok .nx s) = .ok .non s.g := (rfl)
@[simp] theorem fin_ret (d : D) (s : S) : finish (.ok (.ret d) s) = .ok d s.g := (rfl)
@[simp] theorem fin_ex (e : Exn) (s : S) : finish (.ex e s) = .ex e s.g := (rfl)
theorem run_eq {P : Pr} {n : Nat} {f : String} {ds : List D} {g : Option GS} (F : Fn) (hf : P.fn f = some F) (hl : ds.length = F.params) (ht : P.th f = false := by rfl) : run P (n + 1) f ds g = finish (evB P.fl P.gl (run P n) F.body ⟨start F.slots ds, g⟩) := by
  rw [run, hf]
  show (if P.th f then _ else _) = _
  rw [ht]
  exact if_pos hl
@[simp] theorem walk_nil (f : D → S → R Fl) (s : S) : walk f [] s = .ok .nx s := (rfl)
/-- walks that go on, by an invariant of what is left and the state -/
theorem walk_all {f : D → S → R Fl} (I : List D → S → Prop) : ∀ (l : List D) (s : S), I l s → (∀ d r s, I (d :: r) s → ∃ s', f d s = .ok .nx s' ∧ I r s') → ∃ s', walk f l s = .ok .nx s' ∧ I [] s'
  | [], s, h, _ => ⟨s, rfl, h⟩
  | d :: l, s, h, st => by
    obtain ⟨s1, e1, h1⟩ := st d l s h
    obtain ⟨s2, e2, h2⟩ := walk_all I l s1 h1 st
    exact ⟨s2, by rw [walk, e1]; exact e2, h2⟩
theorem walk_nx {f : D → S → R Fl} {d : D} {l : List D} {s s1 : S} (h : f d s = .ok .nx s1) : walk f (d :: l) s = walk f l s1 := by rw [walk, h]; rfl
theorem walk_ret {f : D → S → R Fl} {d : D} {l : List D} {s s1 : S} {v : D} (h : f d s = .ok (.ret v) s1) : walk f (d :: l) s = .ok (.ret v) s1 := by rw [walk, h]; rfl
theorem walk_brk {f : D → S → R Fl} {d : D} {l : List D} {s s1 : S} (h : f d s = .ok .brk s1) : walk f (d :: l) s = .ok .nx s1 := by rw [walk, h]; rfl
theorem walk_ex {f : D → S → R Fl} {d : D} {l : List D} {s s1 : S} {e : Exn} (h : f d s = .ex e s1) : walk f (d :: l) s = .ex e s1 := by rw [walk, h]; rfl
theorem whileN_f {c : S → R D} {f : S → R Fl} {n : Nat} {s s1 : S} (h : c s = .ok (.bl false) s1) : whileN c f (n + 1) s = .ok .nx s1 := by rw [whileN, h]; rfl
theorem whileN_t {c : S → R D} {f : S → R Fl} {n : Nat} {s s1 s2 : S} (h : c s = .ok (.bl true) s1) (h2 : f s1 = .ok .nx s2) : whileN c f (n + 1) s = whileN c f n s2 := by
  rw [whileN, h]
  show (f s1).bind _ = _
  rw [h2]
  rfl
/-- a comprehension's turns, where the draws go on -/
theorem turns_ex {f c : S → R D} {t : Tgt} {e0 : List (Option DV)} (I : Nat → Option GS → Prop) (Q : D → D → Prop) : ∀ (l : List D) (s : S), I l.length s.g →
    (∀ (n : Nat) (d : D) (g : Option GS), d ∈ l → I (n + 1) g → ∃ s1 x s2, bindT t d ⟨e0, g⟩ = some s1 ∧ c s1 = .ok (.bl true) s1 ∧ f s1 = .ok x s2 ∧ Q d x ∧ I n s2.g) →
    ∃ xs s', turns f c t e0 l s = .ok xs s' ∧ I 0 s'.g ∧ xs.length = l.length ∧ ∀ i (h : i < xs.length) (h' : i < l.length), Q (l[i]) (xs[i])
  | [], s, h, _ => ⟨[], s, rfl, h, rfl, fun i h => absurd h (Nat.not_lt_zero _)⟩
  | d :: l, s, h, st => by
    obtain ⟨s1, x, s2, b1, c1, f1, q1, i1⟩ := st l.length d s.g (List.mem_cons_self ..) h
    obtain ⟨xs, s3, t3, i3, l3, q3⟩ := turns_ex I Q l s2 i1 fun n d' g m j => st n d' g (List.mem_cons_of_mem _ m) j
    refine ⟨x :: xs, s3, ?_, i3, by simp [l3], fun i h h' => ?_⟩
    · have b1' : bindT t d { s with env := e0 } = some s1 := b1
      simp only [turns, b1', ofO_some, R.bind_ok, c1, f1, t3]
    · cases i with
      | zero => exact q1
      | succ i => exact q3 i (by simpa using h) (by simpa using h')
/-- .. where nothing is drawn -/
theorem turns_map {f c : S → R D} {t : Tgt} {e0 : List (Option DV)} (h : D → D) : ∀ (l : List D) (s : S),
    (∀ (d : D), d ∈ l → ∃ s1 s2, bindT t d ⟨e0, s.g⟩ = some s1 ∧ c s1 = .ok (.bl true) s1 ∧ f s1 = .ok (h d) s2 ∧ s2.g = s.g) →
    ∃ s', turns f c t e0 l s = .ok (l.map h) s' ∧ s'.g = s.g
  | [], s, _ => ⟨s, rfl, rfl⟩
  | d :: l, s, st => by
    obtain ⟨s1, s2, b1, c1, f1, g1⟩ := st d (List.mem_cons_self ..)
    obtain ⟨s3, t3, g3⟩ := turns_map h l s2 fun d' m => by
      obtain ⟨a, b, q1, q2, q3, q4⟩ := st d' (List.mem_cons_of_mem _ m)
      exact ⟨a, b, by rw [g1]; exact q1, q2, q3, q4.trans g1.symm⟩
    refine ⟨s3, ?_, g3.trans g1⟩
    have b1' : bindT t d { s with env := e0 } = some s1 := b1
    simp only [turns, b1', ofO_some, R.bind_ok, c1, f1, t3, List.map]
theorem lc_map {x c : Ex} {t : Tgt} {own : List Nat} {l : List D} {s : S} (h : D → D) (hl : l.length < SZ)
    (st : ∀ (d : D), d ∈ l → ∃ s1 s2, bindT t d ⟨inner own s.env, s.g⟩ = some s1 ∧ evE gl call c s1 = .ok (.bl true) s1 ∧ evE gl call x s1 = .ok (h d) s2 ∧ s2.g = s.g) :
    lcX (turns (evE gl call x) (evE gl call c) t (inner own s.env) l s) s = .ok (.lst (l.map h)) s := by
  obtain ⟨s', e, g⟩ := turns_map h l s st
  rw [e, lcX_ok, if_pos (by simpa using hl), g]
theorem lc_ex {x c : Ex} {t : Tgt} {own : List Nat} {l : List D} {s : S} (I : Nat → Option GS → Prop) (Q : D → D → Prop) (hl : l.length < SZ) (h0 : I l.length s.g)
    (st : ∀ (n : Nat) (d : D) (g : Option GS), d ∈ l → I (n + 1) g → ∃ s1 v s2, bindT t d ⟨inner own s.env, g⟩ = some s1 ∧ evE gl call c s1 = .ok (.bl true) s1 ∧ evE gl call x s1 = .ok v s2 ∧ Q d v ∧ I n s2.g) :
    ∃ xs g', lcX (turns (evE gl call x) (evE gl call c) t (inner own s.env) l s) s = .ok (.lst xs) ⟨s.env, g'⟩ ∧ I 0 g' ∧ xs.length = l.length ∧ ∀ i (h : i < xs.length) (h' : i < l.length), Q (l[i]) (xs[i]) := by
  obtain ⟨xs, s', e, i, le, q⟩ := turns_ex I Q l s h0 st
  exact ⟨xs, s'.g, by rw [e, lcX_ok, if_pos (by rw [le]; exact hl)], i, le, q⟩
end Dl
namespace Dl
variable {fl : Flds} {gl : String → Option D} {call : String → List D → Option GS → RC}
theorem sq_walk {f : D → S → R Fl} {l : List D} {s : S} {k : S → R Fl} {Q : R Fl → Prop} (I : List D → S → Prop) (h0 : I l s) (st : ∀ d r s, I (d :: r) s → ∃ s', f d s = .ok .nx s' ∧ I r s') (h : ∀ s', I [] s' → Q (k s')) : Q (sq (walk f l s) k) := by
  obtain ⟨s', e, i⟩ := walk_all I l s h0 st
  rw [e]
  exact h s' i
/-- a call that comes back -/
def okC (r : RC) (Q : D → Option GS → Prop) : Prop := ∃ d g, r = .ok d g ∧ Q d g
/-- the first that is told, of n from k on -/
def ff {α : Type} (F : Nat → Option α) : Nat → Nat → Option α
  | _, 0 => none
  | k, n + 1 => match F k with
    | some p => some p
    | none => ff F (k + 1) n
theorem ff_congr {α : Type} {F G : Nat → Option α} : ∀ (n k : Nat), (∀ j, k ≤ j → j < k + n → F j = G j) → ff F k n = ff G k n
  | 0, _, _ => rfl
  | n + 1, k, h => by
    rw [ff, ff, h k (Nat.le_refl _) (by omega), ff_congr n (k + 1) fun j a b => h j (by omega) (by omega)]
theorem ff_none {α : Type} {F : Nat → Option α} : ∀ (n k : Nat), ff F k n = none → ∀ j, k ≤ j → j < k + n → F j = none
  | 0, _, _, j, a, b => by omega
  | n + 1, k, h, j, a, b => by
    rw [ff] at h
    split at h
    · cases h
    · rename_i e
      by_cases q : j = k
      · rw [q]; exact e
      · exact ff_none n (k + 1) h j (by omega) (by omega)
theorem ff_all {α : Type} {F : Nat → Option α} : ∀ (n k : Nat), (∀ j, k ≤ j → j < k + n → F j = none) → ff F k n = none
  | 0, _, _ => rfl
  | n + 1, k, h => by
    rw [ff, h k (Nat.le_refl _) (by omega)]
    exact ff_all n (k + 1) fun j a b => h j (by omega) (by omega)
/-- how a walk ends that is left by an error or a return -/
def Left (p : D) (E : D → S → R Fl) (J : S → Prop) (r : R Fl) : Prop := ∃ s, r = E p s ∧ J s
theorem walk_ff {f : D → S → R Fl} (it : Nat → D) (F : Nat → Option D) (J : S → Prop) (E : D → S → R Fl) (hE : ∀ p s (k : Fl → S → R Fl), (E p s).bind (fun r s => match r with | .nx => k .nx s | .cont => k .cont s | .brk => .ok .nx s | .ret v => .ok (.ret v) s) = E p s) :
    ∀ (n k : Nat) (s : S), J s → (∀ j s, k ≤ j → j < k + n → J s → match F j with | none => ∃ s', f (it j) s = .ok .nx s' ∧ J s' | some p => ∃ s', f (it j) s = E p s' ∧ J s') →
    match ff F k n with | none => ∃ s', walk f ((List.range' k n).map it) s = .ok .nx s' ∧ J s' | some p => ∃ s', walk f ((List.range' k n).map it) s = E p s' ∧ J s'
  | 0, k, s, h, _ => ⟨s, rfl, h⟩
  | n + 1, k, s, h, st => by
    have h1 := st k s (Nat.le_refl _) (by omega) h
    rw [ff]
    cases e : F k with
    | some p =>
      rw [e] at h1
      obtain ⟨s', q, j⟩ := h1
      refine ⟨s', ?_, j⟩
      rw [List.range'_succ, List.map_cons, walk, q]
      have := hE p s' fun r s => match r with | .nx => walk f ((List.range' (k + 1) n).map it) s | .cont => walk f ((List.range' (k + 1) n).map it) s | _ => .stuck
      rw [← this]
      congr 1
    | none =>
      rw [e] at h1
      obtain ⟨s', q, j⟩ := h1
      have := walk_ff it F J E hE n (k + 1) s' j fun j s a b => st j s (by omega) (by omega)
      rw [List.range'_succ, List.map_cons, walk, q]
      exact this
theorem rangeD_eq : ∀ (n k : Nat), rangeD k n = (List.range' k n).map fun j => D.int (j : Nat)
  | 0, _ => rfl
  | n + 1, k => by
    rw [rangeD, List.range'_succ, List.map_cons, ← rangeD_eq n (k + 1)]
    rfl
/-- the item at a place -/
def el (l : List D) (j : Nat) : D := l.getD j .non
theorem el_of {l : List D} {j : Nat} {d : D} (h : l[j]? = some d) : el l j = d := by rw [el, List.getD_eq_getElem?_getD, h]; rfl
theorem el_at {l : List D} {j : Nat} (h : j < l.length) : l[j]? = some (el l j) := by rw [el, List.getD_eq_getElem?_getD, List.getElem?_eq_getElem h]; rfl
theorem enumD_eq (l : List D) : ∀ (r : List D) (k : Nat), l.drop k = r → enumD k r = (List.range' k r.length).map fun j => D.tup [.int (j : Nat), el l j]
  | [], k, _ => rfl
  | d :: r, k, h => by
    have hk : l.drop (k + 1) = r := by rw [← List.tail_drop, h]; rfl
    rw [enumD, List.length_cons, List.range'_succ, List.map_cons, ← enumD_eq l r (k + 1) hk]
    congr 3
    have := congrArg List.head? h
    rw [List.head?_drop] at this
    rw [el, List.getD_eq_getElem?_getD, this]
    rfl
theorem atD_nat (l : List D) (i : Nat) : atD l (i : Int) = l[i]? := by
  unfold atD
  rw [if_pos (Int.natCast_nonneg i), Int.toNat_natCast]
theorem atD_last (l : List D) (h : l ≠ []) : atD l (-1) = l.getLast? := by
  unfold atD
  have : 0 < l.length := List.length_pos_iff.mpr h
  rw [if_neg (by omega), if_pos (by omega), List.getLast?_eq_getElem?]
  congr 1
  omega
mutual
/-- no dict in it -/
def D.cln : D → Bool
  | .tup l => D.clns l
  | .lst l => D.clns l
  | .hnd => false
  | .dct _ _ => false
  | _ => true
def D.clns : List D → Bool
  | [] => true
  | a :: l => D.cln a && D.clns l
end
theorem clns_mem {l : List D} (h : D.clns l = true) : ∀ d ∈ l, D.cln d = true := by
  induction l with
  | nil => intro d m; cases m
  | cons a l ih =>
    rw [D.clns, Bool.and_eq_true] at h
    intro d m
    cases m with
    | head => exact h.1
    | tail _ m => exact ih h.2 d m
theorem clns_of {l : List D} (h : ∀ d ∈ l, D.cln d = true) : D.clns l = true := by
  induction l with
  | nil => rfl
  | cons a l ih =>
    rw [D.clns, Bool.and_eq_true]
    exact ⟨h a (List.mem_cons_self ..), ih fun d m => h d (List.mem_cons_of_mem _ m)⟩
theorem cln_el {l : List D} (h : D.clns l = true) (j : Nat) : (el l j).cln = true := by
  rw [el, List.getD_eq_getElem?_getD]
  cases e : l[j]? with
  | none => rfl
  | some d => exact clns_mem h d (List.mem_of_getElem? e)
theorem cln_ne {d : D} (h : d.cln = true) : d ≠ .hnd := fun e => by subst e; cases h
end Dl
/-! the state of the draws -/
namespace Dl
variable {fl : Flds} {gl : String → Option D} {call : String → List D → Option GS → RC}
def atX (o : Option DV) (g : Option GS) (s : S) : R D := match o, g with
  | some (.im .hnd), some g => .ok (.int (g.at_ : Nat)) s
  | _, _ => .stuck
@[simp] theorem atX_h (c l : List Int) (a : Nat) (s : S) : atX (some (.im .hnd)) (some ⟨c, l, a⟩) s = .ok (.int (a : Nat)) s := (rfl)
@[simp] theorem evE_stAt (i : Nat) (s : S) : evE gl call (.stAt i) s = atX (s.get i) s.g s := (rfl)
def lnX (o : Option DV) (g : Option GS) (s : S) : R D := match o, g with
  | some (.im .hnd), some g => .ok (.int (g.cells.length : Nat)) s
  | _, _ => .stuck
@[simp] theorem lnX_h (c l : List Int) (a : Nat) (s : S) : lnX (some (.im .hnd)) (some ⟨c, l, a⟩) s = .ok (.int (c.length : Nat)) s := (rfl)
@[simp] theorem evE_stLen (i : Nat) (s : S) : evE gl call (.stLen i) s = lnX (s.get i) s.g s := (rfl)
def onH {α : Type} (o : Option DV) (r : R α) : R α := match o with
  | some (.im .hnd) => r
  | _ => .stuck
@[simp] theorem onH_h {α : Type} (r : R α) : onH (some (.im .hnd)) r = r := (rfl)
def ceX (x : D) (g : Option GS) (s : S) : R D := match x, g with
      | .int j, some g => if 0 ≤ j then ofO ((g.cells[j.toNat]?).map .int) s else .stuck
      | _, _ => .stuck
def leX (x : D) (g : Option GS) (s : S) : R D := match x, g with
      | .int j, some g => if 0 ≤ j then ofO ((g.lefts[j.toNat]?).map .int) s else .stuck
      | _, _ => .stuck
theorem ceX_h (c l : List Int) (a j : Nat) (v : Int) (s : S) (h : c[j]? = some v) : ceX (.int j) (some ⟨c, l, a⟩) s = .ok (.int v) s := by
  simp [ceX, h]
theorem leX_h (c l : List Int) (a j : Nat) (v : Int) (s : S) (h : l[j]? = some v) : leX (.int j) (some ⟨c, l, a⟩) s = .ok (.int v) s := by
  simp [leX, h]
@[simp] theorem evE_stCell (i : Nat) (a : Ex) (s : S) : evE gl call (.stCell i a) s = onH (s.get i) ((evE gl call a s).nd fun x s => ceX x s.g s) := (rfl)
@[simp] theorem evE_stLeft (i : Nat) (a : Ex) (s : S) : evE gl call (.stLeft i a) s = onH (s.get i) ((evE gl call a s).nd fun x s => leX x s.g s) := (rfl)
def saX (o : Option DV) (g : Option GS) (d : D) (s : S) : R Fl := match o, g, d with
    | some (.im .hnd), some g, .int j => if 0 ≤ j then .ok .nx { s with g := some ⟨g.cells, g.lefts, j.toNat⟩ } else .stuck
    | _, _, _ => .stuck
theorem saX_h (c l : List Int) (a j : Nat) (e : List (Option DV)) (g : Option GS) : saX (some (.im .hnd)) (some ⟨c, l, a⟩) (.int j) ⟨e, g⟩ = .ok .nx ⟨e, some ⟨c, l, j⟩⟩ := by
  simp [saX]
@[simp] theorem evS_stSetAt (i : Nat) (e : Ex) (s : S) : evS fl gl call (.stSetAt i e) s = (evE gl call e s).nd fun d s => saX (s.get i) s.g d s := (rfl)
def slX (g : Option GS) (x d : D) (s : S) : R Fl := match g, x, d with
      | some g, .int j, .int v => if 0 ≤ j ∧ j.toNat < g.lefts.length then .ok .nx { s with g := some ⟨g.cells, g.lefts.set j.toNat v, g.at_⟩ } else .stuck
      | _, _, _ => .stuck
theorem slX_h (c l : List Int) (a j : Nat) (v : Int) (e : List (Option DV)) (g : Option GS) (h : j < l.length) : slX (some ⟨c, l, a⟩) (.int j) (.int v) ⟨e, g⟩ = .ok .nx ⟨e, some ⟨c, l.set j v, a⟩⟩ := by
  simp [slX, h]
@[simp] theorem evS_stSetLeft (i : Nat) (k e : Ex) (s : S) : evS fl gl call (.stSetLeft i k e) s = (evE gl call e s).nd fun d s => onH (s.get i) ((evE gl call k s).nd fun x s => slX s.g x d s) := (rfl)
def bgX (o : Option DV) (d : D) (g : Option GS) (i : Nat) (s : S) : R Fl := match o, d, g with
      | some (.ml l), .lst r, none => match intz l, intz r with
        | some cs, some ls => if (ls.length = cs.length ∧ 0 < cs.length) ∧ noMd s.env = true then .ok (.ret .hnd) ⟨s.env.set i none, some ⟨cs, ls, 0⟩⟩ else .stuck
        | _, _ => .stuck
      | _, _, _ => .stuck
def ifMd (e : List (Option DV)) (r : R Fl) : R Fl := if noMd e then r else .stuck
theorem ifMd_y (e : List (Option DV)) (r : R Fl) (h : noMd e = true) : ifMd e r = r := if_pos h
theorem ints_map : ∀ l : List Int, intz (l.map .int) = some l
  | [] => rfl
  | a :: l => by rw [List.map_cons, intz, ints_map l]; rfl
theorem bgX_h (cs ls : List Int) (i : Nat) (s : S) (h1 : ls.length = cs.length) (h2 : 0 < cs.length) (h3 : noMd s.env = true) : bgX (some (.ml (cs.map .int))) (.lst (ls.map .int)) none i s = .ok (.ret .hnd) ⟨s.env.set i none, some ⟨cs, ls, 0⟩⟩ := by
  simp [bgX, ints_map, h1, h2, h3]
@[simp] theorem evS_begin (i : Nat) (x : Ex) (s : S) : evS fl gl call (.begin_ i x) s = onM (s.get i) (ifMd s.env ((evE gl call x s).nd fun d s => bgX (s.get i) d s.g i s)) := (rfl)
end Dl
namespace Dl
/-- a turn, then the others -/
def wk (r : R Fl) (k : S → R Fl) (_ : Tg k := ()) : R Fl := r.bind fun r s => match r with
    | .nx => k s
    | .cont => k s
    | .brk => .ok .nx s
    | .ret v => .ok (.ret v) s
@[simp] theorem wk_nx (s : S) (k : S → R Fl) : wk (.ok .nx s) k = k s := (rfl)
@[simp] theorem wk_ret (v : D) (s : S) (k : S → R Fl) : wk (.ok (.ret v) s) k = .ok (.ret v) s := (rfl)
theorem walk_cons (f : D → S → R Fl) (d : D) (l : List D) (s : S) : walk f (d :: l) s = wk (f d s) (walk f l) := (rfl)
end Dl
end
section
set_option Elab.async false
set_option autoImplicit false
set_option linter.all false
set_option maxRecDepth 10000
/-! FA: what is not the law's own; draws. -/
namespace Dl
theorem wid_int {i : Int} (h : i.natAbs < 2 ^ 1800) : (D.int i).wid ≤ 1803 := by
  have h2 : i.natAbs < 2 ^ 1900 := Nat.lt_trans h (Nat.pow_lt_pow_right (by decide) (by decide))
  rw [D.wid, if_pos h2]
  have : i.natAbs.log2 ≤ 1800 := by
    by_cases z : i.natAbs = 0
    · rw [z]; exact Nat.zero_le _
    · exact Nat.le_of_lt ((Nat.log2_lt z).mpr h)
  omega
theorem wid_small {i : Int} (h : i.natAbs < 2 ^ 20) : (D.int i).wid ≤ 23 := by
  have h2 : i.natAbs < 2 ^ 1900 := Nat.lt_trans h (Nat.pow_lt_pow_right (by decide) (by decide))
  rw [D.wid, if_pos h2]
  have : i.natAbs.log2 ≤ 20 := by
    by_cases z : i.natAbs = 0
    · rw [z]; exact Nat.zero_le _
    · exact Nat.le_of_lt ((Nat.log2_lt z).mpr h)
  omega
theorem wids_le {B : Nat} {l : List D} (h : ∀ d ∈ l, d.wid ≤ B) : D.wids l ≤ l.length * (B + 2) := by
  induction l with
  | nil => exact Nat.zero_le _
  | cons a l ih =>
    rw [D.wids, List.length_cons, Nat.succ_mul]
    have := h a (List.mem_cons_self ..)
    have := ih fun d m => h d (List.mem_cons_of_mem _ m)
    omega
theorem deps_le {B : Nat} {l : List D} (h : ∀ d ∈ l, d.dep ≤ B) : D.deps l ≤ B := by
  induction l with
  | nil => exact Nat.zero_le _
  | cons a l ih =>
    rw [D.deps]
    have := h a (List.mem_cons_self ..)
    have := ih fun d m => h d (List.mem_cons_of_mem _ m)
    omega
theorem shw_of {d : D} (h1 : d.wid ≤ 16000000) (h2 : d.dep ≤ 100) : d.shw = true := by
  unfold D.shw
  simp [h1, h2]
theorem ff_some {α : Type} {F : Nat → Option α} {p : α} : ∀ (n k : Nat), ff F k n = some p → ∃ j, k ≤ j ∧ j < k + n ∧ F j = some p
  | 0, _, h => by cases h
  | n + 1, k, h => by
    rw [ff] at h
    split at h
    · rename_i q e
      cases h
      exact ⟨k, Nat.le_refl _, by omega, e⟩
    · obtain ⟨j, a, b, c⟩ := ff_some n (k + 1) h
      exact ⟨j, by omega, by omega, c⟩
theorem mem_el {l : List D} {d : D} (h : d ∈ l) : ∃ j, j < l.length ∧ el l j = d := by
  obtain ⟨j, hj, e⟩ := List.getElem_of_mem h
  exact ⟨j, hj, el_of (by rw [List.getElem?_eq_getElem hj, e])⟩
end Dl
namespace Dl
/-- a source of draws with at most b draws made -/
def GOK (b : Nat) (g : Option GS) : Prop := ∃ cs ls a, g = some ⟨cs, ls, a⟩ ∧ ls.length = cs.length ∧ 0 < cs.length ∧ a ≤ b
theorem GOK.mono {b c : Nat} {g : Option GS} (h : GOK b g) (l : b ≤ c) : GOK c g := by
  obtain ⟨cs, ls, a, e, h1, h2, h3⟩ := h
  exact ⟨cs, ls, a, e, h1, h2, Nat.le_trans h3 l⟩
theorem mulOk_l {a b : Int} (h : a.natAbs < 2 ^ 64) : mulOk a b = true := by
  unfold mulOk
  rw [decide_eq_true h]
  rfl
theorem fdivD_ok (a b : Int) (h : 0 < b) (h2 : b < 2 ^ 900) : fdivD (.int a) (.int b) = some (.int (a / b)) := by
  unfold fdivD
  exact if_pos ⟨h, h2⟩
theorem fdivD_64 (a : Int) : fdivD (.int a) (.int 64) = some (.int (a / 64)) := fdivD_ok a 64 (by decide) (by decide +kernel)
theorem modD_ok (a b : Int) (h : 0 < b) : modD (.int a) (.int b) = some (.int (a % b)) := if_pos h
theorem mulOk_r {a b : Int} (h : b.natAbs < 2 ^ 64) : mulOk a b = true := by
  unfold mulOk
  rw [decide_eq_true h, Bool.or_true]
  rfl
end Dl
namespace Dl
variable {fl : Flds} {gl : String → Option D} {call : String → List D → Option GS → RC}
theorem walk_bool {f : D → S → R Fl} (p : D → Bool) (v : D) (J : S → Prop) : ∀ (l : List D) (s : S), J s →
   (∀ d s, d ∈ l → J s → ∃ s', f d s = .ok (if p d = true then .nx else .ret v) s' ∧ J s') →
   ∃ s', walk f l s = .ok (if l.all p = true then .nx else .ret v) s' ∧ J s'
  | [], s, h, _ => ⟨s, rfl, h⟩
  | d :: l, s, h, st => by
    obtain ⟨s1, e1, h1⟩ := st d s (List.mem_cons_self ..) h
    cases hp : p d with
    | false =>
      rw [hp] at e1
      exact ⟨s1, by rw [walk, e1, List.all_cons, hp]; rfl, h1⟩
    | true =>
      rw [hp] at e1
      obtain ⟨s2, e2, h2⟩ := walk_bool p v J l s1 h1 fun d s m => st d s (List.mem_cons_of_mem _ m)
      exact ⟨s2, by rw [walk, e1, List.all_cons, hp, Bool.true_and]; exact e2, h2⟩
theorem turns_fil {f c : S → R D} {t : Tgt} {e0 : List (Option DV)} (p : D → Bool) (h : D → D) : ∀ (l : List D) (s : S),
    (∀ d, d ∈ l → ∃ s1 s2, bindT t d ⟨e0, s.g⟩ = some s1 ∧ c s1 = .ok (.bl (p d)) s2 ∧ s2.g = s.g ∧ (p d = true → ∃ s3, f s2 = .ok (h d) s3 ∧ s3.g = s.g)) →
    ∃ s', turns f c t e0 l s = .ok ((l.filter p).map h) s' ∧ s'.g = s.g
  | [], s, _ => ⟨s, rfl, rfl⟩
  | d :: l, s, st => by
    obtain ⟨s1, s2, b1, c1, g1, f1⟩ := st d (List.mem_cons_self ..)
    have b1' : bindT t d { s with env := e0 } = some s1 := b1
    cases hp : p d with
    | true =>
      obtain ⟨s3, f1, g3⟩ := f1 hp
      obtain ⟨s4, t4, g4⟩ := turns_fil p h l s3 fun d' m => by
        rw [g3]; exact st d' (List.mem_cons_of_mem _ m)
      refine ⟨s4, ?_, g4.trans g3⟩
      rw [hp] at c1
      rw [List.filter_cons, hp]
      simp only [turns, b1', ofO_some, R.bind_ok, c1, f1, t4, List.map, if_true]
    | false =>
      obtain ⟨s4, t4, g4⟩ := turns_fil p h l s2 fun d' m => by
        rw [g1]; exact st d' (List.mem_cons_of_mem _ m)
      refine ⟨s4, ?_, g4.trans g1⟩
      rw [hp] at c1
      rw [List.filter_cons, hp]
      simp only [turns, b1', ofO_some, R.bind_ok, c1, t4]
      rfl
theorem shp_str (s : String) : (D.str s).shp = true := rfl
theorem eqD_str (a b : String) : eqD (.str a) (.str b) = some (a == b) := by
  simp [eqD, shp_str, D.eqv]
theorem eqD_sn {a b : String} (h : a ≠ b) : eqD (.str a) (.str b) = some false := by
  rw [eqD_str]; simp [h]
end Dl
namespace Dl
variable {fl : Flds} {gl : String → Option D} {call : String → List D → Option GS → RC}
@[simp] theorem evI_iZip (a b : Ex) (s : S) : evI gl call (.iZip a b) s = (evE gl call a s).nd fun x s => (evE gl call b s).nd fun y s => ofO (zip2 x y) s := (rfl)
@[simp] theorem zip2_t (l r : List D) : zip2 (.tup l) (.tup r) = some (zipD l r) := (rfl)
def isX (o : Option DV) (c : String) (s : S) : R D := match o with
    | some (.exc k _) => .ok (.bl (k == c || c == "SayError" || c == "ValueError")) s
    | _ => .stuck
@[simp] theorem evE_isE (i : Nat) (c : String) (s : S) : evE gl call (.isE i c) s = isX (s.get i) c s := (rfl)
@[simp] theorem isX_e (k : String) (fs : List (String × D)) (s : S) : isX (some (.exc k fs)) "SayError" s = .ok (.bl true) s := by simp [isX]
def ct1 (r : RC) (s : S) : R D := match r with
      | .ok v g => .ok v { s with g := g }
      | _ => .stuck
@[simp] theorem ct1_ok (v : D) (g : Option GS) (e : List (Option DV)) (h : Option GS) : ct1 (.ok v g) ⟨e, h⟩ = .ok v ⟨e, g⟩ := (rfl)
def ctX (call : String → List D → Option GS → RC) (f : String) (r : R D) (s : S) : R D := match r with
    | .ok d s1 => ct1 (call f [encOk s.g s1.g d] s.g) s
    | .ex x s1 => ct1 (call f [encEx s.g s1.g x] s.g) s
    | .stuck => .stuck
theorem evE_caught (f : String) (e : Ex) (s : S) : evE gl call (.caught f e) s = ctX call f (evE gl call e ⟨inner [] s.env, s.g⟩) s := by
  rw [evE]
  cases evE gl call e ⟨inner [] s.env, s.g⟩ <;> rfl
@[simp] theorem ctX_ok (f : String) (d : D) (s1 s : S) : ctX call f (.ok d s1) s = ct1 (call f [encOk s.g s1.g d] s.g) s := (rfl)
@[simp] theorem ctX_ex (f : String) (d : Exn) (s1 s : S) : ctX call f (.ex d s1) s = ct1 (call f [encEx s.g s1.g d] s.g) s := (rfl)
end Dl
namespace Dl
variable {fl : Flds} {gl : String → Option D} {call : String → List D → Option GS → RC}
@[simp] theorem wk_ex (e : Exn) (s : S) (k : S → R Fl) : wk (.ex e s) k = .ex e s := (rfl)
@[simp] theorem wk_cont (s : S) (k : S → R Fl) : wk (.ok .cont s) k = k s := (rfl)
@[simp] theorem evE_kix (x : String) (t : List (String × String)) (i : Nat) (s : S) : evE gl call (.kix x t i) s = selD t (s.get i) s := (rfl)
@[simp] theorem selD_str (t : List (String × String)) (k : String) (s : S) : selD t (some (.im (.str k))) s = ofO ((t.lookup k).map .str) s := (rfl)
@[simp] theorem evE_lit2 (a b c d : String) (i : Nat) (s : S) : evE gl call (.lit2 a b c d i) s = if a = c then .stuck else selD [(a, b), (c, d)] (s.get i) s := (rfl)
def kyX (x : D) (s : S) : R D := match x with
    | .dct ks _ => if ks.length < 64 then .ok (.lst ((srt ks).map .int)) s else .stuck
    | _ => .stuck
@[simp] theorem evE_keys (a : Ex) (s : S) : evE gl call (.keys a) s = (evE gl call a s).nd kyX := (rfl)
@[simp] theorem kyX_d (ks : List Int) (vs : List D) (s : S) : kyX (.dct ks vs) s = if ks.length < 64 then .ok (.lst ((srt ks).map .int)) s else .stuck := (rfl)
def dxX (x y : D) (s : S) : R D := match x, y with
    | .dct ks vs, .int k => ofO (dGet ks vs k) s
    | _, _ => .stuck
@[simp] theorem evE_dix (a k : Ex) (s : S) : evE gl call (.dix a k) s = (evE gl call a s).nd fun x s => (evE gl call k s).nd fun y s => dxX x y s := (rfl)
@[simp] theorem dxX_d (ks : List Int) (vs : List D) (k : Int) (s : S) : dxX (.dct ks vs) (.int k) s = ofO (dGet ks vs k) s := (rfl)
def lceX (n : Nat) (env : List (Option DV)) (r : R (List D)) : R D := if n < SZ then lcE env r else .stuck
@[simp] theorem evE_lcX (x : Ex) (t : Tgt) (own : List Nat) (i c : Ex) (s : S) : evE gl call (.lcX x t own i c) s = (evI gl call i s).nd fun l s => lceX l.length s.env (turns (evE gl call x) (evE gl call c) t (inner own s.env) l s) := (rfl)
def dcX (r : R (List D)) (s : S) : R D := if noMd s.env = true then (quiet r).bind fun ds s' => (if ds.length < SZ then (match dOf ds [] [] with
        | some p => .ok (.dct p.1 p.2) { s' with env := s.env }
        | none => .stuck) else .stuck) else .stuck
@[simp] theorem evE_dc (kx vx : Ex) (t : Tgt) (own : List Nat) (i c : Ex) (s : S) : evE gl call (.dc kx vx t own i c) s = (evI gl call i s).nd fun l s => dcX (turns (fun s => (evE gl call kx s).nd fun y s => (evE gl call vx s).nd fun z s => pairR y z s) (evE gl call c) t (inner own s.env) l s) s := (rfl)
@[simp] theorem pairR_i (k : Int) (z : D) (s : S) : pairR (.int k) z s = .ok (.tup [.int k, z]) s := (rfl)
theorem dcX_ok (ds : List D) (s' s : S) (p : List Int × List D) (h0 : noMd s.env = true) (h : ds.length < SZ) (h2 : dOf ds [] [] = some p) : dcX (.ok ds s') s = .ok (.dct p.1 p.2) { s' with env := s.env } := by
  unfold dcX
  rw [if_pos h0]
  show (if _ then _ else _) = _
  rw [if_pos h]
  show (match dOf ds [] [] with | some p => _ | none => _) = _
  rw [h2]
end Dl
namespace Dl.K03
open Dl
theorem shp_int (i : Int) : (D.int i).shp = true := rfl
theorem shp_bl (i : Bool) : (D.bl i).shp = true := rfl
theorem eqD_int (a b : Int) : eqD (.int a) (.int b) = some (decide (a = b)) := by
  simp [eqD, shp_int, D.eqv]
  rw [Bool.eq_iff_iff]
  simp
theorem eqD_bl (a b : Bool) : eqD (.bl a) (.bl b) = some (decide (a = b)) := by
  simp [eqD, shp_bl, D.eqv]
  rw [Bool.eq_iff_iff]
  simp
theorem isTy_tup (d : D) (h : d.cln = true) (h2 : ∀ l, d ≠ .tup l) : isTy .tuple d = some false := by
  cases d with
  | hnd => cases h
  | dct => cases h
  | tup l => exact absurd rfl (h2 l)
  | _ => rfl
theorem small_nat (n : Nat) (h : n ≤ 100000) : small (n : Int) = true := by
  unfold small
  simp
  omega
theorem isTT (l : List D) : isTy .tuple (.tup l) = some true := rfl
/-- an int from lo to hi -/
def fromB (v : D) (lo hi : Int) : Bool := match v with
  | .int i => decide (lo ≤ i) && decide (i ≤ hi)
  | _ => false
theorem is_from_ok (k : Nat) (v : D) (lo hi : Int) (g : Option GS) (h : v.cln = true) : run prog (k + 1) "is_from" [v, .int lo, .int hi] g = .ok (.bl (fromB v lo hi)) g := by
  rw [run_eq fis_from rfl rfl]
  cases v with
  | int i =>
    by_cases h1 : lo ≤ i
    · simp [fis_from, start, isTy, cmp2, leD, fromB, h1]
    · simp [fis_from, start, isTy, cmp2, leD, fromB, h1]
  | hnd => cases h
  | dct => cases h
  | _ => simp [fis_from, start, isTy, cmp2, leD, fromB]
theorem fromB_int {m : D} {a b : Int} (h : fromB m a b = true) : ∃ i, m = .int i ∧ a ≤ i ∧ i ≤ b := by
  unfold fromB at h
  split at h
  · simp only [Bool.and_eq_true, decide_eq_true_eq] at h
    exact ⟨_, rfl, h.1, h.2⟩
  · cases h
theorem fromB_yes {i : Int} {a b : Int} (h1 : a ≤ i) (h2 : i ≤ b) : fromB (.int i) a b = true := by simp [fromB, h1, h2]
theorem like_ok (k : Nat) (x : D) (g : Option GS) (h : x.shw = true) : run prog (k + 1) "_law_like" [x, x] g = .ok (.bl true) g := by
  rw [run_eq f_law_like rfl rfl]
  simp [f_law_like, start, h, lkD, same_refl]
theorem law_mixed_ok (n : Nat) (c k : Int) (g : Option GS) (h0 : 0 ≤ k) (hk : k < 2 ^ 63) : ∃ r : Int, run prog (n + 1) "_law_mixed" [.int c, .int k] g = .ok (.int r) g := by
  have m1 : mulOk 2 k = true := mulOk_l (by decide)
  have m2 : mulOk (2 * k) k = true := mulOk_r (by omega)
  have m3 : mulOk (c % 2147483647) (48271 + 2 * k * k) = true := mulOk_l (by omega)
  have m4 : mulOk 69621 k = true := mulOk_l (by decide)
  have m5 : ∀ x : Int, mulOk x 69621 = true := fun x => mulOk_r (by decide)
  refine ⟨mixed c k, ?_⟩
  rw [run_eq f_law_mixed rfl rfl]
  simp [f_law_mixed, start, blt1, op2, modD, mulD, addD, m1, m2, m3, m4, m5, mixed]
theorem draw_ok (n b : Nat) (g : Option GS) (lim : Int) (hg : GOK b g) (hb : b < 2 ^ 60) (h0 : 0 < lim) (h9 : lim < 2 ^ 900) :
    ∃ (v : Int) (g' : Option GS), run prog (n + 2) "_law_draw" [.hnd, .int lim] g = .ok (.int v) g' ∧ 0 ≤ v ∧ v < lim ∧ GOK (b + 1) g' := by
  obtain ⟨cs, ls, a, rfl, hl, hc, ha⟩ := hg
  obtain ⟨p, hp⟩ : ∃ p : Nat, p = a % cs.length := ⟨_, rfl⟩
  have hp' : (a : Int) % (cs.length : Int) = (p : Nat) := by omega
  have pc : p < cs.length := hp ▸ Nat.mod_lt _ hc
  have hc' : (0 : Int) < cs.length := by omega
  have e1 : ((a : Int) + 1) = ((a + 1 : Nat) : Int) := by omega
  have sx : ∀ e g, saX (some (.im .hnd)) (some ⟨cs, ls, a⟩) (.int ((a : Int) + 1)) ⟨e, g⟩ = .ok .nx ⟨e, some ⟨cs, ls, a + 1⟩⟩ := fun e g => by rw [e1]; exact saX_h ..
  have e3 : cs[p]? = some cs[p] := List.getElem?_eq_getElem pc
  have e4 : ls[p]? = some (ls[p]'(by omega)) := List.getElem?_eq_getElem (by omega)
  rw [run_eq f_law_draw rfl rfl]
  by_cases q : ls[p]'(by omega) > 0
  · refine ⟨ls[p]'(by omega) % lim, some ⟨cs, ls.set p (ls[p]'(by omega) / lim), a + 1⟩, ?_, Int.emod_nonneg _ (by omega), Int.emod_lt_of_pos _ h0, cs, _, _, rfl, by simpa using hl, hc, by omega⟩
    simp only [f_law_draw, start]
    simp [op2, addD, modD_ok _ _ h0, modD_ok _ _ hc', fdivD_ok _ _ h0 h9, blt1, sx, hp', leX_h _ _ _ _ _ _ e4, cmp2, gtD, q, slX_h _ _ _ _ _ _ _ (show p < ls.length by omega)]
  · obtain ⟨r1, q1⟩ := law_mixed_ok n cs[p] a (some ⟨cs, ls, a + 1⟩) (by omega) (by omega)
    obtain ⟨r2, q2⟩ := law_mixed_ok n r1 (40 + a) (some ⟨cs, ls, a + 1⟩) (by omega) (by omega)
    obtain ⟨r3, q3⟩ := law_mixed_ok n r2 (7 + a) (some ⟨cs, ls, a + 1⟩) (by omega) (by omega)
    have m6 : mulOk r2 2147483647 = true := mulOk_r (by decide)
    refine ⟨(r2 * 2147483647 + r3) / 64 % lim, some ⟨cs, ls, a + 1⟩, ?_, Int.emod_nonneg _ (by omega), Int.emod_lt_of_pos _ h0, cs, _, _, rfl, hl, hc, by omega⟩
    simp only [f_law_draw, start]
    simp [op2, addD, modD_ok _ _ h0, modD_ok _ _ hc', fdivD_64, mulD, blt1, sx, hp', leX_h _ _ _ _ _ _ e4, ceX_h _ _ _ _ _ _ e3, cmp2, gtD, q, q1, q2, q3, m6]
theorem eqvs_nil (l : List D) : D.eqvs l [] = l.isEmpty := by cases l <;> rfl
theorem begin_ok (n : Nat) (ns : List Int) (h : ns.length < 1000) : ∃ g, run prog (n + 1) "_law_begin" [.lst (ns.map .int)] none = .ok .hnd g ∧ GOK 0 g := by
  have hs : (D.lst (ns.map .int)).shp = true := by
    have : D.deps (ns.map D.int) ≤ 0 := deps_le fun d m => by
      obtain ⟨i, _, rfl⟩ := List.mem_map.mp m
      exact Nat.le_refl _
    unfold D.shp
    rw [D.dep]
    exact decide_eq_true (by omega)
  have hq : eqD (.lst (ns.map .int)) (.lst []) = some ns.isEmpty := by
    unfold eqD
    rw [hs]
    show some (D.eqv _ _) = _
    rw [D.eqv, eqvs_nil]
    cases ns <;> rfl
  obtain ⟨cs, hcs, hpos, hlen⟩ : ∃ cs : List Int, (if ns.isEmpty then D.lst [.int 0] else .lst (ns.map .int)) = .lst (cs.map .int) ∧ 0 < cs.length ∧ cs.length < 1000 := by
    cases ns with
    | nil => exact ⟨[0], rfl, by decide, by decide⟩
    | cons a l => exact ⟨a :: l, rfl, by simp, h⟩
  refine ⟨some ⟨cs, cs.map fun c => if c ≥ 10 ^ 18 then c else 0, 0⟩, ?_, cs, _, _, rfl, by simp, hpos, Nat.le_refl _⟩
  rw [run_eq f_law_begin rfl rfl]
  have first : evS prog.fl prog.gl (run prog n) (.setL 1 (.ife (.cmp .ne (.bor 0) (.lst [])) (.b1 .list (.bor 0)) (.lst [(.int 0)]))) ⟨start 3 [.lst (ns.map .int)], none⟩ = .ok .nx ⟨[some (.im (.lst (ns.map .int))), some (.ml (cs.map .int)), none], none⟩ := by
    cases he : ns.isEmpty with
    | true =>
      rw [he] at hq hcs
      have : [D.int 0] = cs.map .int := by injection hcs
      simp [start, cmp2, hq, this]
    | false =>
      rw [he] at hq hcs
      have : ns.map D.int = cs.map .int := by injection hcs
      rw [this] at hq ⊢
      simp [start, cmp2, hq, blt1, seqD]
  have lc := lc_map (gl := prog.gl) (call := run prog n) (x := .ife (.cmp .ge (.bor 2) (.bin .pow (.int 10) (.int 18))) (.var 2) (.int 0)) (c := .bl true) (t := .one 2) (own := [2]) (l := cs.map .int) (s := ⟨[some (.im (.lst (ns.map .int))), some (.ml (cs.map .int)), none], none⟩)
    (fun d => match d with | .int c => .int (if c ≥ 10 ^ 18 then c else 0) | d => d) (by rw [List.length_map]; have : SZ = 16777216 := rfl; omega) (by
      intro d m
      obtain ⟨c, _, rfl⟩ := List.mem_map.mp m
      refine ⟨⟨[some (.im (.lst (ns.map .int))), some (.rd (cs.map .int)), some (.im (.int c))], none⟩, ⟨[some (.im (.lst (ns.map .int))), some (.rd (cs.map .int)), some (.im (.int c))], none⟩, rfl, rfl, ?_, rfl⟩
      by_cases z : (10 : Int) ^ 18 ≤ c
      · simp [op2, powD, cmp2, geD, z]
        simp at z
        simp [z]
      · simp [op2, powD, cmp2, geD, z]
        simp at z
        have z' : ¬ (1000000000000000000 : Int) ≤ c := by omega
        simp [z'])
  simp only [f_law_begin, evB_cons, first, sq_nx, evS_begin, get_mk]
  rw [ifMd_y _ _ rfl]
  simp only [List.getElem?_cons_succ, List.getElem?_cons_zero, Option.getD_some, onM_ml, evE_lc, evI_iSeq, evE_bor, get_mk, rdB_ml, nd_ok, seqD, ofO_some]
  rw [lc]
  rw [List.map_map]
  simp only [nd_ok, get_mk, List.getElem?_cons_succ, List.getElem?_cons_zero, Option.getD_some]
  have e : ((fun d : D => match d with | .int c => D.int (if c ≥ 10 ^ 18 then c else 0) | d => d) ∘ D.int) = D.int ∘ fun c => if c ≥ 10 ^ 18 then c else 0 := rfl
  rw [e, ← List.map_map]
  rw [bgX_h _ _ _ _ (by simp) hpos rfl]
  rfl

theorem rangeD_len : ∀ (n : Nat) (k : Int), (rangeD k n).length = n
  | 0, _ => rfl
  | n + 1, k => by rw [rangeD, List.length_cons, rangeD_len n]
theorem law_of_ok (n b : Nat) (l : List D) (g : Option GS) (hg : GOK b g) (hb : b < 2 ^ 59) (h0 : l ≠ [] := by simp) (hl : l.length < 1000000 := by simp) :
    ∃ d g', run prog (n + 3) "_law_of" [.hnd, .lst l] g = .ok d g' ∧ d ∈ l ∧ GOK (b + 1) g' := by
  have h0' : 0 < l.length := List.length_pos_iff.mpr h0
  obtain ⟨v, g', e, v0, v1, hg'⟩ := draw_ok n b g (l.length : Int) hg (by omega) (by omega) (by omega)
  obtain ⟨j, rfl⟩ : ∃ j : Nat, v = j := ⟨v.toNat, by omega⟩
  have hj : j < l.length := by omega
  refine ⟨l[j], g', ?_, List.getElem_mem hj, hg'⟩
  rw [run_eq f_law_of rfl rfl]
  simp [f_law_of, start, blt1, lenD, e, ixD, atD_nat, List.getElem?_eq_getElem hj]
theorem isSS (k : String) : isTy .str (.str k) = some true := rfl
theorem st {fl : Flds} {gl : String → Option D} {call : String → List D → Option GS → RC} {x : St} {l : List St} {s s1 : S} {r : R Fl} (h : evS fl gl call x s = .ok .nx s1) (h2 : evB fl gl call l s1 = r) : evB fl gl call (x :: l) s = r := by
  rw [evB_cons, h, sq_nx, h2]
theorem inD2 (k a b : String) : inD (.str k) (.tup [.str a, .str b]) = some (a == k || b == k) := by
  have : (D.lst [.str a, .str b]).shp = true := rfl
  simp [inD, this, shp_str, anyEqv, D.eqv]
theorem inD3 (x : D) (h : x.shp = true) (a b c : String) : inD x (.tup [.str a, .str b, .str c]) = some (D.eqv (.str a) x || (D.eqv (.str b) x || D.eqv (.str c) x)) := by
  have : (D.lst [.str a, .str b, .str c]).shp = true := rfl
  simp [inD, this, h, anyEqv]
structure Gd (k w : Nat) (d : D) : Prop where
  cl : d.cln = true
  de : d.dep ≤ k
  wi : d.wid ≤ w
theorem Gd.up {k w k' w' : Nat} {d : D} (h : Gd k w d) (hk : k ≤ k' := by decide) (hw : w ≤ w' := by decide) : Gd k' w' d := ⟨h.cl, Nat.le_trans h.de hk, Nat.le_trans h.wi hw⟩
theorem gd_tup {k w : Nat} {l : List D} (n : Nat) (h : ∀ d ∈ l, Gd k w d) (hn : l.length ≤ n) : Gd (k + 1) (n * (w + 2) + 3) (.tup l) := by
  refine ⟨clns_of fun d m => (h d m).cl, ?_, ?_⟩
  · rw [D.dep]
    have := deps_le fun d m => (h d m).de
    omega
  · rw [D.wid]
    have h1 := wids_le fun d m => (h d m).wi
    have h2 := Nat.mul_le_mul_right (w + 2) hn
    omega
theorem gd_lst {k w : Nat} {l : List D} (n : Nat) (h : ∀ d ∈ l, Gd k w d) (hn : l.length ≤ n) : Gd (k + 1) (n * (w + 2) + 3) (.lst l) := by
  refine ⟨clns_of fun d m => (h d m).cl, ?_, ?_⟩
  · rw [D.dep]
    have := deps_le fun d m => (h d m).de
    omega
  · rw [D.wid]
    have h1 := wids_le fun d m => (h d m).wi
    have h2 := Nat.mul_le_mul_right (w + 2) hn
    omega
theorem gd_int {i : Int} (h : i.natAbs < 2 ^ 20) : Gd 0 23 (.int i) := ⟨rfl, Nat.le_refl _, wid_small h⟩
theorem gd_big {i : Int} (h : i.natAbs < 2 ^ 1800) : Gd 0 1803 (.int i) := ⟨rfl, Nat.le_refl _, wid_int h⟩
theorem gd_non : Gd 0 23 .non := ⟨rfl, Nat.le_refl _, by decide⟩
theorem gd_bl (b : Bool) : Gd 0 23 (.bl b) := ⟨rfl, Nat.le_refl _, by cases b <;> decide⟩
theorem gd_str (s : String) (h : s.length ≤ 12) : Gd 0 122 (.str s) := ⟨rfl, Nat.le_refl _, by rw [D.wid]; omega⟩
theorem Gd.shw {k w : Nat} {d : D} (h : Gd k w d) (hk : k ≤ 100 := by decide) (hw : w ≤ 16000000 := by decide) : d.shw = true := shw_of (Nat.le_trans h.wi hw) (Nat.le_trans h.de hk)

@[simp] theorem gl_1 : prog.gl "NAMES" = some (.int 10) := (rfl)
@[simp] theorem gl_2 : prog.gl "GREATEST" = some (.int 1000000000) := (rfl)
@[simp] theorem gl_3 : prog.gl "MOST_PARTS" = some (.int 2000) := (rfl)
@[simp] theorem gl_4 : prog.gl "MOST_DEEP" = some (.int 20) := (rfl)
@[simp] theorem gl_5 : prog.gl "MOST_MODULUS" = some (.int 1000000) := (rfl)
@[simp] theorem fl_1 : prog.fl "BadFormula" = some ["path"] := (rfl)
@[simp] theorem fl_2 : prog.fl "TooGreat" = some ["most"] := (rfl)
end Dl.K03
end
section
set_option Elab.async false
set_option autoImplicit false
set_option linter.all false
set_option maxRecDepth 10000
/-! FB: formulas. -/
namespace Dl.K03
open Dl
structure Tm where
  c : Int
  ps : List (Int × Int)
def pD (ps : List (Int × Int)) : List D := ps.map fun p => .tup [.int p.1, .int p.2]
def Tm.d (t : Tm) : D := .tup [.int t.c, .tup (pD t.ps)]
def cw (w : Bool) : String := if w then "and" else "or"
def qw (w : Bool) : String := if w then "all" else "some"
inductive F where
  | ge (t : Tm)
  | eq (t : Tm)
  | mod (m : Int) (t : Tm)
  | not (f : F)
  | con (w : Bool) (l : List F)
  | qu (w : Bool) (x : Int) (f : F)
  | bad (n : Nat)
def badD (n : Nat) : D := if n = 0 then .non else if n = 1 then .tup [.str "not"] else .tup [.str "or", .lst []]
mutual
def F.d : F → D
  | .ge t => .tup [.str "ge", t.d]
  | .eq t => .tup [.str "eq", t.d]
  | .mod m t => .tup [.str "mod", .int m, t.d]
  | .not f => .tup [.str "not", f.d]
  | .con w l => .tup [.str (cw w), .tup (F.ds l)]
  | .qu w x f => .tup [.str (qw w), .int x, f.d]
  | .bad n => badD n
def F.ds : List F → List D
  | [] => []
  | f :: l => F.d f :: F.ds l
end
mutual
def F.dep : F → Nat
  | .not f => f.dep + 1
  | .con _ l => F.deps l + 1
  | .qu _ _ f => f.dep + 1
  | .ge _ => 1
  | .eq _ => 1
  | .mod _ _ => 1
  | .bad _ => 1
def F.deps : List F → Nat
  | [] => 0
  | f :: l => max (F.dep f) (F.deps l)
end
mutual
def F.size : F → Nat
  | .not f => f.size + 1
  | .con _ l => F.sizes l + 1
  | .qu _ _ f => f.size + 1
  | .ge _ => 1
  | .eq _ => 1
  | .mod _ _ => 1
  | .bad _ => 1
def F.sizes : List F → Nat
  | [] => 0
  | f :: l => F.size f + F.sizes l
end
def pok : Int → List (Int × Int) → Prop
  | _, [] => True
  | last, (n, f) :: l => last < n ∧ n ≤ 9 ∧ f ≠ 0 ∧ -1000000000 ≤ f ∧ f ≤ 1000000000 ∧ pok n l
structure Tm.ok (t : Tm) : Prop where
  lo : -1000000000 ≤ t.c
  hi : t.c ≤ 1000000000
  ps : pok (-1) t.ps
mutual
def F.ok : F → Prop
  | .ge t => t.ok
  | .eq t => t.ok
  | .mod m t => 2 ≤ m ∧ m ≤ 1000000 ∧ t.ok
  | .not f => f.ok
  | .con _ l => F.oks l
  | .qu _ x f => 0 ≤ x ∧ x ≤ 9 ∧ f.ok
  | .bad _ => True
def F.oks : List F → Prop
  | [] => True
  | f :: l => F.ok f ∧ F.oks l
end
/-! no bad part -/
mutual
def F.nb : F → Bool
  | .not f => f.nb
  | .con _ l => F.nbs l
  | .qu _ _ f => f.nb
  | .bad _ => false
  | .ge _ => true
  | .eq _ => true
  | .mod _ _ => true
def F.nbs : List F → Bool
  | [] => true
  | f :: l => F.nb f && F.nbs l
end
theorem ds_map : ∀ l : List F, F.ds l = l.map F.d
  | [] => rfl
  | f :: l => by rw [F.ds, ds_map l]; rfl
theorem ds_len (l : List F) : (F.ds l).length = l.length := by rw [ds_map, List.length_map]
theorem oks_iff : ∀ l : List F, F.oks l ↔ ∀ f ∈ l, f.ok
  | [] => by simp [F.oks]
  | f :: l => by simp [F.oks, oks_iff l]
theorem nbs_iff : ∀ l : List F, F.nbs l = true ↔ ∀ f ∈ l, f.nb = true
  | [] => by simp [F.nbs]
  | f :: l => by simp [F.nbs, nbs_iff l]
theorem deps_mem : ∀ {l : List F} {f : F}, f ∈ l → f.dep ≤ F.deps l
  | a :: l, f, h => by
    rw [F.deps]
    cases h with
    | head => omega
    | tail _ m => have := deps_mem m; omega
theorem sizes_mem : ∀ {l : List F} {f : F}, f ∈ l → f.size ≤ F.sizes l
  | a :: l, f, h => by
    rw [F.sizes]
    cases h with
    | head => omega
    | tail _ m => have := sizes_mem m; omega
mutual
theorem F.ind {P : F → Prop} (ge : ∀ t, P (.ge t)) (eq : ∀ t, P (.eq t)) (mod : ∀ m t, P (.mod m t)) (not : ∀ f, P f → P (.not f))
    (con : ∀ w l, (∀ f ∈ l, P f) → P (.con w l)) (qu : ∀ w x f, P f → P (.qu w x f)) (bad : ∀ n, P (.bad n)) : ∀ f, P f
  | .ge t => ge t
  | .eq t => eq t
  | .mod m t => mod m t
  | .not f => not f (F.ind ge eq mod not con qu bad f)
  | .con w l => con w l (F.inds ge eq mod not con qu bad l)
  | .qu w x f => qu w x f (F.ind ge eq mod not con qu bad f)
  | .bad n => bad n
theorem F.inds {P : F → Prop} (ge : ∀ t, P (.ge t)) (eq : ∀ t, P (.eq t)) (mod : ∀ m t, P (.mod m t)) (not : ∀ f, P f → P (.not f))
    (con : ∀ w l, (∀ f ∈ l, P f) → P (.con w l)) (qu : ∀ w x f, P f → P (.qu w x f)) (bad : ∀ n, P (.bad n)) : ∀ l : List F, ∀ f ∈ l, P f
  | [], f, h => by cases h
  | a :: l, f, h => by
    cases h with
    | head => exact F.ind ge eq mod not con qu bad a
    | tail _ m => exact F.inds ge eq mod not con qu bad l f m
end
theorem dep_pos (f : F) : 1 ≤ f.dep := by cases f <;> simp [F.dep]
theorem size_pos (f : F) : 1 ≤ f.size := by cases f <;> simp [F.size]
theorem cln_pD (ps : List (Int × Int)) : D.clns (pD ps) = true := clns_of fun d m => by
  obtain ⟨p, _, rfl⟩ := List.mem_map.mp m
  rfl
theorem cln_tm (t : Tm) : t.d.cln = true := by simp [Tm.d, D.cln, D.clns, cln_pD]
theorem cln_bad (n : Nat) : (badD n).cln = true := by
  unfold badD
  split
  · rfl
  · split <;> rfl
theorem cln_F (f : F) : f.d.cln = true := by
  induction f using F.ind with
  | ge t => simp [F.d, D.cln, D.clns, cln_tm]
  | eq t => simp [F.d, D.cln, D.clns, cln_tm]
  | mod m t => simp [F.d, D.cln, D.clns, cln_tm]
  | not f h => simp [F.d, D.cln, D.clns, h]
  | con w l h =>
    have : D.clns (F.ds l) = true := clns_of fun d m => by
      rw [ds_map] at m
      obtain ⟨f, mf, rfl⟩ := List.mem_map.mp m
      exact h f mf
    simp [F.d, D.cln, D.clns, this]
  | qu w x f h => simp [F.d, D.cln, D.clns, h]
  | bad n => exact cln_bad n
/-! what the walk over a formula tells -/
inductive WR where
  | ok (n : Nat)
  | gr (m : Int)
  | bad (p : List Int)
def WR.bind (r : WR) (f : Nat → WR) : WR := match r with
  | .ok n => f n
  | .gr m => .gr m
  | .bad p => .bad p
@[simp] theorem WR.bind_ok (n : Nat) (f : Nat → WR) : (WR.ok n).bind f = f n := rfl
@[simp] theorem WR.bind_gr (m : Int) (f : Nat → WR) : (WR.gr m).bind f = .gr m := rfl
@[simp] theorem WR.bind_bad (p : List Int) (f : Nat → WR) : (WR.bad p).bind f = .bad p := rfl
def pt (p : List Int) : D := .tup (p.map .int)
def great (m : Int) : Exn := ⟨"TooGreat", [("most", .int m)]⟩
def badF (p : List Int) : Exn := ⟨"BadFormula", [("path", pt p)]⟩
def WR.rc (r : WR) (g : Option GS) : RC := match r with
  | .ok n => .ok (.int n) g
  | .gr m => .ex (great m) g
  | .bad p => .ex (badF p) g
mutual
def wkF : F → List Int → Nat → Nat → WR
  | .not f, p, d, m => if 20 < d then .gr 20 else if m = 2000 then .gr 2000 else wkF f (p ++ [1]) (d + 1) (m + 1)
  | .con _ l, p, d, m => if 20 < d then .gr 20 else if m = 2000 then .gr 2000 else wkL l p 0 (d + 1) (m + 1)
  | .qu _ _ f, p, d, m => if 20 < d then .gr 20 else if m = 2000 then .gr 2000 else wkF f (p ++ [2]) (d + 1) (m + 1)
  | .bad _, p, d, m => if 20 < d then .gr 20 else if m = 2000 then .gr 2000 else .bad p
  | .ge _, p, d, m => if 20 < d then .gr 20 else if m = 2000 then .gr 2000 else .ok (m + 1)
  | .eq _, p, d, m => if 20 < d then .gr 20 else if m = 2000 then .gr 2000 else .ok (m + 1)
  | .mod _ _, p, d, m => if 20 < d then .gr 20 else if m = 2000 then .gr 2000 else .ok (m + 1)
def wkL : List F → List Int → Nat → Nat → Nat → WR
  | [], _, _, _, m => .ok m
  | f :: l, p, i, d, m => (wkF f (p ++ [1, (i : Int)]) d m).bind fun m => wkL l p (i + 1) d m
end
/-! terms looked at -/
theorem pok_from : ∀ {ps : List (Int × Int)} {last : Int}, -1 ≤ last → pok last ps → ∀ p ∈ ps, 0 ≤ p.1 ∧ p.1 ≤ 9 ∧ -1000000000 ≤ p.2 ∧ p.2 ≤ 1000000000
  | (n, f) :: l, last, h0, h, p, m => by
    obtain ⟨h1, h2, h3, h4, h5, h6⟩ := h
    cases m with
    | head => exact ⟨by show (0 : Int) ≤ n; omega, h2, h4, h5⟩
    | tail _ m => exact pok_from (by omega) h6 p m
theorem pok_len : ∀ {ps : List (Int × Int)} {last : Int}, -1 ≤ last → last ≤ 9 → pok last ps → (ps.length : Int) ≤ 9 - last
  | [], last, h0, h9, h => by simp; omega
  | (n, f) :: l, last, h0, h9, h => by
    obtain ⟨h1, h2, h3, h4, h5, h6⟩ := h
    have := pok_len (by omega) h2 h6
    simp
    omega
theorem is_from_i (k : Nat) (i lo hi : Int) (g : Option GS) (h1 : lo ≤ i) (h2 : i ≤ hi) : run prog (k + 1) "is_from" [.int i, .int lo, .int hi] g = .ok (.bl true) g := by
  rw [is_from_ok k _ _ _ g rfl, fromB_yes h1 h2]
theorem are_pairs_ok (k : Nat) (ps : List (Int × Int)) (g : Option GS) (h : pok (-1) ps) : run prog (k + 2) "are_pairs" [.tup (pD ps)] g = .ok (.bl true) g := by
  have hp := pok_from (by omega) h
  rw [run_eq fare_pairs rfl rfl]
  simp [fare_pairs, start, isTT, seqD]
  obtain ⟨s', e, o, es⟩ := walk_bool (f := turn prog.fl prog.gl (run prog (k + 1)) (.one 1) [.ifs (.or (.not (.isi (.bor 1) .tuple)) (.cmp .ne (.b1 .len (.bor 1)) (.int 2))) [.ret (.bl false)] [],
    .ifs (.or (.not (.call "is_from" [(.ix (.bor 1) (.int 0)), (.int 0), (.bin .sub (.gl "NAMES") (.int 1))])) (.not (.call "is_from" [(.ix (.bor 1) (.int 1)), (.neg (.gl "GREATEST")), (.gl "GREATEST")]))) [.ret (.bl false)] []])
    (fun _ => true) (.bl false) (fun s => ∃ o, s = ⟨[some (.im (.tup (pD ps))), o], g⟩) (pD ps) ⟨[some (.im (.tup (pD ps))), none], g⟩ ⟨_, rfl⟩ (by
    rintro d s m ⟨o, rfl⟩
    obtain ⟨p, mp, rfl⟩ := List.mem_map.mp m
    obtain ⟨h1, h2, h3, h4⟩ := hp p mp
    refine ⟨⟨[some (.im (.tup (pD ps))), some (.im (.tup [.int p.1, .int p.2]))], g⟩, ?_, _, rfl⟩
    have e1 := is_from_i k p.1 0 9 g h1 h2
    have e2 := is_from_i k p.2 (-1000000000) 1000000000 g h3 h4
    simp [isTT, blt1, lenD, cmp2, eqD_int, ixD, atD, op2, subD, e1, e2])
  rw [e, es]
  have : (pD ps).all (fun _ => true) = true := by simp
  simp [this]
end Dl.K03
end
section
set_option Elab.async false
set_option autoImplicit false
set_option linter.all false
set_option maxRecDepth 10000
/-! FC: the walk over a formula. -/
namespace Dl.K03
open Dl
def tmLoop : List St := [.ifs (.or (.cmp .le (.bor 2) (.bor 1)) (.cmp .eq (.bor 3) (.int 0))) [.ret (.bl false)] [],
    .set 1 (.var 2)]
theorem tm_walk (call : String → List D → Option GS → RC) (x : D) (g : Option GS) : ∀ (ps : List (Int × Int)) (last : Int) (o2 o3 : Option DV), pok last ps →
    ∃ s', walk (turn prog.fl prog.gl call (.many [2, 3]) tmLoop) (pD ps) ⟨[some (.im x), some (.im (.int last)), o2, o3], g⟩ = .ok .nx s' ∧ s'.g = g
  | [], last, o2, o3, _ => ⟨_, rfl, rfl⟩
  | (n, f) :: l, last, o2, o3, h => by
    obtain ⟨h1, h2, h3, h4, h5, h6⟩ := h
    obtain ⟨s', e, eg⟩ := tm_walk call x g l n (some (.im (.int n))) (some (.im (.int f))) h6
    refine ⟨s', ?_, eg⟩
    have : pD ((n, f) :: l) = .tup [.int n, .int f] :: pD l := rfl
    rw [this, walk_cons]
    have q : ¬ (n ≤ last) := by omega
    simp [tmLoop, cmp2, leD, q, eqD_int, h3]
    exact e
theorem is_term_ok (k : Nat) (t : Tm) (g : Option GS) (h : t.ok) : run prog (k + 3) "is_term" [t.d] g = .ok (.bl true) g := by
  have e1 := is_from_i (k + 1) t.c (-1000000000) 1000000000 g h.lo h.hi
  have e2 := are_pairs_ok k t.ps g h.ps
  obtain ⟨s', e3, eg⟩ := tm_walk (run prog (k + 2)) t.d g t.ps (-1) none none h.ps
  rw [run_eq fis_term rfl rfl]
  simp only [Tm.d, tmLoop] at e3
  simp [fis_term, start, isTT, Tm.d, blt1, lenD, cmp2, eqD_int, ixD, atD, e1, e2, seqD]
  rw [e3]
  simp [eg]
theorem ix0 (a : D) (l : List D) : ixD (.tup (a :: l)) (.int 0) = some a := rfl
theorem ix1 (a b : D) (l : List D) : ixD (.tup (a :: b :: l)) (.int 1) = some b := rfl
theorem ix2 (a b c : D) (l : List D) : ixD (.tup (a :: b :: c :: l)) (.int 2) = some c := rfl
theorem has_form_ok (k : Nat) (f : F) (g : Option GS) (h : f.ok) : run prog (k + 4) "has_form" [f.d] g = .ok (.bl (match f with | .bad _ => false | _ => true)) g := by
  rw [run_eq fhas_form rfl rfl]
  cases f with
  | ge t => simp [fhas_form, start, F.d, isTT, blt1, lenD, cmp2, eqD_int, ix0, ix1, isTy, inD2, is_term_ok k t g h]
  | eq t => simp [fhas_form, start, F.d, isTT, blt1, lenD, cmp2, eqD_int, ix0, ix1, isTy, inD2, is_term_ok k t g h]
  | mod m t =>
    have e := is_from_i (k + 2) m 2 1000000 g h.1 h.2.1
    simp [fhas_form, start, F.d, isTT, blt1, lenD, cmp2, eqD_int, eqD_str, ix0, ix1, ix2, isTy, inD2, is_term_ok k t g h.2.2, e]
  | not f => simp [fhas_form, start, F.d, isTT, blt1, lenD, cmp2, eqD_int, eqD_str, ix0, ix1, isTy, inD2]
  | con w l => cases w <;> simp [fhas_form, start, F.d, cw, isTT, blt1, lenD, cmp2, eqD_int, eqD_str, ix0, ix1, isTy, inD2]
  | qu w x f =>
    have e := is_from_i (k + 2) x 0 9 g h.1 h.2.1
    cases w <;> simp [fhas_form, start, F.d, qw, isTT, blt1, lenD, cmp2, eqD_int, eqD_str, ix0, ix1, isTy, inD2, e, op2, subD]
  | bad n =>
    simp only [F.d, badD]
    split
    · simp [fhas_form, start, isTy]
    · split
      · simp [fhas_form, start, isTT, blt1, lenD, cmp2, eqD_int, eqD_str, ix0, ix1, isTy, inD2]
      · simp [fhas_form, start, isTT, blt1, lenD, cmp2, eqD_int, eqD_str, ix0, ix1, isTy, inD2]
def kids : F → List F
  | .not f => [f]
  | .con _ l => l
  | .qu _ _ f => [f]
  | _ => []
def plc : F → Nat → List Int
  | .not _, _ => [1]
  | .con _ _, i => [1, (i : Int)]
  | _, _ => [2]
theorem inner_ok (k : Nat) (f : F) (g : Option GS) (h : f.nb = true ∨ (kids f ≠ [])) : run prog (k + 1) "inner" [f.d] g = .ok (.tup (F.ds (kids f))) g := by
  rw [run_eq finner rfl rfl]
  cases f with
  | ge t => simp [finner, start, F.d, ix0, cmp2, inD2, eqD_str, kids, F.ds]
  | eq t => simp [finner, start, F.d, ix0, cmp2, inD2, eqD_str, kids, F.ds]
  | mod m t => simp [finner, start, F.d, ix0, cmp2, inD2, eqD_str, kids, F.ds]
  | not f => simp [finner, start, F.d, ix0, ix1, cmp2, inD2, eqD_str, kids, F.ds]
  | con w l => cases w <;> simp [finner, start, F.d, cw, ix0, ix1, cmp2, inD2, eqD_str, kids]
  | qu w x f => cases w <;> simp [finner, start, F.d, qw, ix0, ix2, cmp2, inD2, eqD_str, kids, F.ds]
  | bad n => simp [F.nb, kids] at h
theorem place_of_ok (k : Nat) (f : F) (i : Nat) (g : Option GS) (h : kids f ≠ []) : run prog (k + 1) "place_of" [f.d, .int (i : Nat)] g = .ok (pt (plc f i)) g := by
  rw [run_eq fplace_of rfl rfl]
  cases f with
  | not f => simp [fplace_of, start, F.d, ix0, cmp2, inD2, eqD_str, plc, pt]
  | con w l => cases w <;> simp [fplace_of, start, F.d, cw, ix0, cmp2, inD2, eqD_str, plc, pt]
  | qu w x f => cases w <;> simp [fplace_of, start, F.d, qw, ix0, cmp2, inD2, eqD_str, plc, pt]
  | _ => simp [kids] at h
theorem addP (p q : List Int) (h : p.length + q.length ≤ 1000) : addD (pt p) (pt q) = some (pt (p ++ q)) := by
  unfold pt addD
  simp only [List.length_map, ← List.map_append]
  exact if_pos (by have : SZ = 16777216 := rfl; omega)
def wkBody : List St := [.set 4 (.call "walked" [(.var 6), (.bin .add (.bor 1) (.call "place_of" [(.var 0), (.var 5)])), (.bin .add (.bor 2) (.int 1)), (.var 4)])]
def WR.fl (r : WR) (e : Nat → List (Option DV)) (e' : List (Option DV)) (g : Option GS) (r' : R Fl) : Prop := match r with
  | .ok n => ∃ s', r' = .ok .nx s' ∧ s'.env = e n ∧ s'.g = g
  | .gr m => ∃ s', r' = .ex (great m) s' ∧ s'.g = g
  | .bad p => ∃ s', r' = .ex (badF p) s' ∧ s'.g = g
def envW (f : F) (p : List Int) (deep met : Nat) (o5 o6 : Option DV) (n : Nat) : List (Option DV) :=
  [some (.im f.d), some (.im (pt p)), some (.im (.int (deep : Nat))), some (.im (.int (met : Nat))), some (.im (.int (n : Nat))), o5, o6]
theorem wk_turn (k : Nat) (f f' : F) (p : List Int) (deep met n i : Nat) (o5 o6 : Option DV) (g : Option GS) (hk : kids f ≠ []) (hp : p.length ≤ 900)
    (h : run prog (k + 1) "walked" [f'.d, pt (p ++ plc f i), .int ((deep + 1 : Nat) : Int), .int (n : Nat)] g = (wkF f' (p ++ plc f i) (deep + 1) n).rc g) :
    turn prog.fl prog.gl (run prog (k + 1)) (.many [5, 6]) wkBody (.tup [.int (i : Nat), f'.d]) ⟨envW f p deep met o5 o6 n, g⟩ =
      match wkF f' (p ++ plc f i) (deep + 1) n with
      | .ok n' => .ok .nx ⟨envW f p deep met (some (.im (.int (i : Nat)))) (some (.im f'.d)) n', g⟩
      | .gr m => .ex (great m) ⟨envW f p deep met (some (.im (.int (i : Nat)))) (some (.im f'.d)) n, g⟩
      | .bad p' => .ex (badF p') ⟨envW f p deep met (some (.im (.int (i : Nat)))) (some (.im f'.d)) n, g⟩ := by
  have e1 := place_of_ok k f i g hk
  have hl : (plc f i).length ≤ 2 := by cases f <;> simp [plc]
  have e2 := addP p (plc f i) (by omega)
  have e3 : addD (.int (deep : Nat)) (.int 1) = some (.int ((deep + 1 : Nat) : Int)) := rfl
  simp only [envW, wkBody]
  simp [e1, op2, e2, e3]
  rw [show ((deep : Int) + 1) = ((deep + 1 : Nat) : Int) from rfl, h]
  cases wkF f' (p ++ plc f i) (deep + 1) n <;> simp [WR.rc]
theorem wk_list (k : Nat) (w : Bool) (l0 : List F) (p : List Int) (deep met : Nat) (g : Option GS) (hk : l0 ≠ []) (hp : p.length ≤ 900) : ∀ (l : List F) (i n : Nat) (o5 o6 : Option DV),
    (∀ f' ∈ l, ∀ (i n : Nat), run prog (k + 1) "walked" [f'.d, pt (p ++ [1, (i : Int)]), .int ((deep + 1 : Nat) : Int), .int (n : Nat)] g = (wkF f' (p ++ [1, (i : Int)]) (deep + 1) n).rc g) →
    match wkL l p i (deep + 1) n with
      | .ok n' => ∃ a5 a6, walk (turn prog.fl prog.gl (run prog (k + 1)) (.many [5, 6]) wkBody) (enumD i (F.ds l)) ⟨envW (.con w l0) p deep met o5 o6 n, g⟩ = .ok .nx ⟨envW (.con w l0) p deep met a5 a6 n', g⟩
      | .gr m => ∃ s', walk (turn prog.fl prog.gl (run prog (k + 1)) (.many [5, 6]) wkBody) (enumD i (F.ds l)) ⟨envW (.con w l0) p deep met o5 o6 n, g⟩ = .ex (great m) s' ∧ s'.g = g
      | .bad p' => ∃ s', walk (turn prog.fl prog.gl (run prog (k + 1)) (.many [5, 6]) wkBody) (enumD i (F.ds l)) ⟨envW (.con w l0) p deep met o5 o6 n, g⟩ = .ex (badF p') s' ∧ s'.g = g
  | [], i, n, o5, o6, h => ⟨o5, o6, rfl⟩
  | f' :: l, i, n, o5, o6, h => by
    have e := wk_turn k (.con w l0) f' p deep met n i o5 o6 g hk hp (h f' (List.mem_cons_self ..) i n)
    have ih := fun n => wk_list k w l0 p deep met g hk hp l (i + 1) n (some (.im (.int (i : Nat)))) (some (.im f'.d)) fun f m => h f (List.mem_cons_of_mem _ m)
    simp only [plc] at e
    rw [wkL, F.ds, enumD, walk_cons]
    cases q : wkF f' (p ++ [1, (i : Int)]) (deep + 1) n with
    | ok n' =>
      rw [q] at e
      have ih := ih n'
      simp only [WR.bind_ok]
      simp only at e
      cases q2 : wkL l p (i + 1) (deep + 1) n' with
      | ok n2 => rw [q2] at ih; obtain ⟨a, b, c⟩ := ih; exact ⟨a, b, by rw [e, wk_nx]; exact c⟩
      | gr m => rw [q2] at ih; obtain ⟨a, b, c⟩ := ih; exact ⟨a, by rw [e, wk_nx]; exact b, c⟩
      | bad m => rw [q2] at ih; obtain ⟨a, b, c⟩ := ih; exact ⟨a, by rw [e, wk_nx]; exact b, c⟩
    | gr m =>
      rw [q] at e
      exact ⟨_, by simp only at e; rw [e]; rfl, rfl⟩
    | bad p' =>
      rw [q] at e
      exact ⟨_, by simp only at e; rw [e]; rfl, rfl⟩
theorem seqT (l : List D) : seqD (.tup l) = some l := rfl
theorem walked_ok (f : F) : ∀ (k : Nat) (p : List Int) (deep met : Nat) (g : Option GS), f.ok → f.dep ≤ k → deep ≤ 21 → p.length ≤ 2 * deep →
    run prog (k + 5) "walked" [f.d, pt p, .int (deep : Nat), .int (met : Nat)] g = (wkF f p deep met).rc g := by
  have hd : ∀ (f : F) (k : Nat) (p : List Int) (deep met : Nat) (g : Option GS), f.ok → run prog (k + 5) "walked" [f.d, pt p, .int (deep : Nat), .int (met : Nat)] g =
     if 20 < deep then .ex (great 20) g else if met = 2000 then .ex (great 2000) g else match f with
       | .bad _ => .ex (badF p) g
       | f => finish (evB prog.fl prog.gl (run prog (k + 4)) [.fors (.many [5, 6]) (.iEnum (.call "inner" [(.var 0)])) wkBody, .ret (.var 4)] ⟨envW f p deep met none none (met + 1), g⟩) := by
    intro f k p deep met g h
    rw [run_eq fwalked rfl rfl]
    have e := has_form_ok k f g h
    by_cases q1 : 20 < deep
    · have q1' : (20 : Int) < deep := by omega
      simp [fwalked, start, cmp2, gtD, q1, q1', great]
    · have q1' : ¬ (20 : Int) < deep := by omega
      by_cases q2 : met = 2000
      · subst q2
        simp [fwalked, start, cmp2, gtD, q1, q1', eqD_int, great]
      · have q2' : ¬ ((met : Int) = 2000) := by omega
        cases f with
        | bad n => simp [fwalked, start, cmp2, gtD, q1, q1', eqD_int, q2, q2', e, badF]
        | _ => simp [fwalked, start, cmp2, gtD, q1, q1', eqD_int, q2, q2', e, op2, addD, envW, wkBody]
  induction f using F.ind with
  | ge t =>
    intro k p deep met g h hk h2 hp
    rw [hd _ k p deep met g h, wkF]
    have e := inner_ok (k + 3) (.ge t) g (Or.inl rfl)
    split
    · rfl
    · split
      · rfl
      · simp [envW, e, kids, F.ds, seqT, enumD, WR.rc]
  | eq t =>
    intro k p deep met g h hk h2 hp
    rw [hd _ k p deep met g h, wkF]
    have e := inner_ok (k + 3) (.eq t) g (Or.inl rfl)
    split
    · rfl
    · split
      · rfl
      · simp [envW, e, kids, F.ds, seqT, enumD, WR.rc]
  | mod m t =>
    intro k p deep met g h hk h2 hp
    rw [hd _ k p deep met g h, wkF]
    have e := inner_ok (k + 3) (.mod m t) g (Or.inl rfl)
    split
    · rfl
    · split
      · rfl
      · simp [envW, e, kids, F.ds, seqT, enumD, WR.rc]
  | bad n =>
    intro k p deep met g h hk h2 hp
    rw [hd _ k p deep met g h, wkF]
    split
    · rfl
    · split
      · rfl
      · rfl
  | not f ih =>
    intro k p deep met g h hk h2 hp
    rw [hd _ k p deep met g h, wkF]
    have e := inner_ok (k + 3) (.not f) g (Or.inr (by simp [kids]))
    split
    · rfl
    · split
      · rfl
      · obtain ⟨j, rfl⟩ : ∃ j, k = j + 1 := ⟨k - 1, by simp [F.dep] at hk; omega⟩
        have t := wk_turn (j + 4) (.not f) f p deep met (met + 1) 0 none none g (by simp [kids]) (by omega) (ih j (p ++ [1]) (deep + 1) (met + 1) g h (by simp [F.dep] at hk; omega) (by omega) (by simp; omega))
        simp only [plc] at t
        simp only [kids, F.ds] at e
        have e' : evI prog.gl (run prog (j + 5)) (.iEnum (.call "inner" [(.var 0)])) ⟨envW (.not f) p deep met none none (met + 1), g⟩ = .ok [.tup [.int ((0 : Nat) : Int), f.d]] ⟨envW (.not f) p deep met none none (met + 1), g⟩ := by
          simp only [envW]
          simp [e, seqT, enumD]
        show finish (evB prog.fl prog.gl (run prog (j + 5)) [.fors (.many [5, 6]) (.iEnum (.call "inner" [(.var 0)])) wkBody, .ret (.var 4)] ⟨envW _ p deep met none none (met + 1), g⟩) = _
        rw [evB_cons, evS_fors, e', nd_ok, walk_cons, t]
        cases q : wkF f (p ++ [1]) (deep + 1) (met + 1) <;> simp [envW, WR.rc]
  | qu w x f ih =>
    intro k p deep met g h hk h2 hp
    rw [hd _ k p deep met g h, wkF]
    have e := inner_ok (k + 3) (.qu w x f) g (Or.inr (by simp [kids]))
    split
    · rfl
    · split
      · rfl
      · obtain ⟨j, rfl⟩ : ∃ j, k = j + 1 := ⟨k - 1, by simp [F.dep] at hk; omega⟩
        have t := wk_turn (j + 4) (.qu w x f) f p deep met (met + 1) 0 none none g (by simp [kids]) (by omega) (ih j (p ++ [2]) (deep + 1) (met + 1) g h.2.2 (by simp [F.dep] at hk; omega) (by omega) (by simp; omega))
        simp only [plc] at t
        simp only [kids, F.ds] at e
        have e' : evI prog.gl (run prog (j + 5)) (.iEnum (.call "inner" [(.var 0)])) ⟨envW (.qu w x f) p deep met none none (met + 1), g⟩ = .ok [.tup [.int ((0 : Nat) : Int), f.d]] ⟨envW (.qu w x f) p deep met none none (met + 1), g⟩ := by
          simp only [envW]
          simp [e, seqT, enumD]
        show finish (evB prog.fl prog.gl (run prog (j + 5)) [.fors (.many [5, 6]) (.iEnum (.call "inner" [(.var 0)])) wkBody, .ret (.var 4)] ⟨envW _ p deep met none none (met + 1), g⟩) = _
        rw [evB_cons, evS_fors, e', nd_ok, walk_cons, t]
        cases q : wkF f (p ++ [2]) (deep + 1) (met + 1) <;> simp [envW, WR.rc]
  | con w l ih =>
    intro k p deep met g h hk h2 hp
    rw [hd _ k p deep met g h, wkF]
    split
    · rfl
    · split
      · rfl
      · obtain ⟨j, rfl⟩ : ∃ j, k = j + 1 := ⟨k - 1, by simp [F.dep] at hk; omega⟩
        have e' : evI prog.gl (run prog (j + 5)) (.iEnum (.call "inner" [(.var 0)])) ⟨envW (.con w l) p deep met none none (met + 1), g⟩ = .ok (enumD 0 (F.ds l)) ⟨envW (.con w l) p deep met none none (met + 1), g⟩ := by
          have e : run prog (j + 5) "inner" [(F.con w l).d] g = .ok (.tup (F.ds l)) g := by
            rw [run_eq finner rfl rfl]
            cases w <;> simp [finner, start, F.d, cw, ix0, ix1, cmp2, inD2, eqD_str, kids]
          simp only [envW]
          simp [e, seqT]
        show finish (evB prog.fl prog.gl (run prog (j + 5)) [.fors (.many [5, 6]) (.iEnum (.call "inner" [(.var 0)])) wkBody, .ret (.var 4)] ⟨envW _ p deep met none none (met + 1), g⟩) = _
        rw [evB_cons, evS_fors, e', nd_ok]
        cases l with
        | nil => simp [F.ds, enumD, envW, wkL, WR.rc]
        | cons a r =>
          have t := wk_list (j + 4) w (a :: r) p deep met g (by simp) (by omega) (a :: r) 0 (met + 1) none none fun f' m i n =>
            ih f' m j (p ++ [1, (i : Int)]) (deep + 1) n g ((oks_iff _).mp h f' m) (by have := deps_mem m; simp only [F.dep] at hk; omega) (by omega) (by simp; omega)
          cases q : wkL (a :: r) p 0 (deep + 1) (met + 1) with
          | ok n' =>
            rw [q] at t
            obtain ⟨a5, a6, t⟩ := t
            rw [t]
            simp [envW, WR.rc]
          | gr m =>
            rw [q] at t
            obtain ⟨s', t, tg⟩ := t
            rw [t]
            simp [WR.rc, tg]
          | bad m =>
            rw [q] at t
            obtain ⟨s', t, tg⟩ := t
            rw [t]
            simp [WR.rc, tg]
end Dl.K03
end
section
set_option Elab.async false
set_option autoImplicit false
set_option linter.all false
set_option maxRecDepth 10000
/-! FD: terms times -1; nots driven inward. -/
namespace Dl
theorem dGet_none : ∀ (ks : List Int) (vs : List D) (k : Int), (∀ a ∈ ks, a ≠ k) → dGet ks vs k = none
  | [], vs, k, h => by cases vs <;> rfl
  | a :: ks, [], k, h => rfl
  | a :: ks, v :: vs, k, h => by
    rw [dGet, if_neg (h a (List.mem_cons_self ..))]
    exact dGet_none ks vs k fun b m => h b (List.mem_cons_of_mem _ m)
theorem turns_mapA {α : Type} {f c : S → R D} {t : Tgt} {e0 : List (Option DV)} (dd h : α → D) : ∀ (l : List α) (s : S),
    (∀ x ∈ l, ∃ s1 s2, bindT t (dd x) ⟨e0, s.g⟩ = some s1 ∧ c s1 = .ok (.bl true) s1 ∧ f s1 = .ok (h x) s2 ∧ s2.g = s.g) →
    ∃ s', turns f c t e0 (l.map dd) s = .ok (l.map h) s' ∧ s'.g = s.g
  | [], s, _ => ⟨s, rfl, rfl⟩
  | d :: l, s, st => by
    obtain ⟨s1, s2, b1, c1, f1, g1⟩ := st d (List.mem_cons_self ..)
    obtain ⟨s3, t3, g3⟩ := turns_mapA dd h l s2 fun d' m => by
      obtain ⟨a, b, q1, q2, q3, q4⟩ := st d' (List.mem_cons_of_mem _ m)
      exact ⟨a, b, by rw [g1]; exact q1, q2, q3, q4.trans g1.symm⟩
    refine ⟨s3, ?_, g3.trans g1⟩
    have b1' : bindT t (dd d) { s with env := e0 } = some s1 := b1
    simp only [turns, b1', ofO_some, R.bind_ok, c1, f1, t3, List.map]
theorem turns_filA {α : Type} {f c : S → R D} {t : Tgt} {e0 : List (Option DV)} (p : α → Bool) (dd h : α → D) : ∀ (l : List α) (s : S),
    (∀ x ∈ l, ∃ s1 s2, bindT t (dd x) ⟨e0, s.g⟩ = some s1 ∧ c s1 = .ok (.bl (p x)) s1 ∧ f s1 = .ok (h x) s2 ∧ s1.g = s.g ∧ s2.g = s.g) →
    ∃ s', turns f c t e0 (l.map dd) s = .ok ((l.filter p).map h) s' ∧ s'.g = s.g
  | [], s, _ => ⟨s, rfl, rfl⟩
  | d :: l, s, st => by
    obtain ⟨s1, s2, b1, c1, f1, g1, g2⟩ := st d (List.mem_cons_self ..)
    have b1' : bindT t (dd d) { s with env := e0 } = some s1 := b1
    cases hp : p d with
    | true =>
      obtain ⟨s3, t3, g3⟩ := turns_filA p dd h l s2 fun d' m => by
        rw [g2]; exact st d' (List.mem_cons_of_mem _ m)
      refine ⟨s3, ?_, g3.trans g2⟩
      rw [hp] at c1
      rw [List.filter_cons, hp]
      simp only [turns, b1', ofO_some, R.bind_ok, c1, f1, t3, List.map, if_true]
    | false =>
      obtain ⟨s3, t3, g3⟩ := turns_filA p dd h l s1 fun d' m => by
        rw [g1]; exact st d' (List.mem_cons_of_mem _ m)
      refine ⟨s3, ?_, g3.trans g1⟩
      rw [hp] at c1
      rw [List.filter_cons, hp]
      simp only [turns, b1', List.map_cons, ofO_some, R.bind_ok, c1, t3]
      rfl
theorem lc_end {ds : List D} {s s' : S} (hl : ds.length < SZ) (g : s'.g = s.g) : lcX (.ok ds s') s = .ok (.lst ds) s := by
  rw [lcX_ok, if_pos hl, g]
end Dl
namespace Dl.K03
open Dl
theorem dOf_asc (h : Int → D) : ∀ (ps : List (Int × Int)) (last : Int) (ks : List Int) (vs : List D), pok last ps → (∀ a ∈ ks, a ≤ last) →
    dOf (ps.map fun p => .tup [.int p.1, h p.2]) ks vs = some (ks ++ ps.map (·.1), vs ++ ps.map fun p => h p.2)
  | [], last, ks, vs, _, _ => by simp [dOf]
  | (n, f) :: l, last, ks, vs, hp, hk => by
    obtain ⟨h1, h2, h3, h4, h5, h6⟩ := hp
    have e : dPut ks vs n (h f) = (ks ++ [n], vs ++ [h f]) := by
      unfold dPut
      rw [dGet_none ks vs n fun a m e => by have := hk a m; omega]
      rfl
    rw [List.map_cons, dOf, e]
    rw [dOf_asc h l n (ks ++ [n]) (vs ++ [h f]) h6 (by
      intro a m
      rw [List.mem_append] at m
      rcases m with m | m
      · have := hk a m; omega
      · simp at m; omega)]
    simp
theorem srt_asc : ∀ (ps : List (Int × Int)) (last : Int), pok last ps → srt (ps.map (·.1)) = ps.map (·.1)
  | [], _, _ => rfl
  | (n, f) :: l, last, hp => by
    obtain ⟨h1, h2, h3, h4, h5, h6⟩ := hp
    rw [List.map_cons, srt, srt_asc l n h6]
    cases l with
    | nil => rfl
    | cons q r =>
      obtain ⟨h7, _⟩ := h6
      rw [List.map_cons, ins, if_pos (by show n ≤ q.1; omega)]
theorem dGet_asc (h : Int → D) : ∀ (ps : List (Int × Int)) (last : Int), pok last ps → ∀ p ∈ ps, dGet (ps.map (·.1)) (ps.map fun p => h p.2) p.1 = some (h p.2) ∧ last < p.1
  | (n, f) :: l, last, hp, p, m => by
    obtain ⟨h1, h2, h3, h4, h5, h6⟩ := hp
    rw [List.map_cons, List.map_cons, dGet]
    cases m with
    | head => exact ⟨if_pos rfl, h1⟩
    | tail _ m =>
      obtain ⟨e, q⟩ := dGet_asc h l n h6 p m
      exact ⟨by rw [if_neg (by show ¬ (n = p.1); omega)]; exact e, by omega⟩
def ngp (ps : List (Int × Int)) : List (Int × Int) := ps.map fun p => (p.1, -p.2)
def ng (t : Tm) (more : Int) : Tm := ⟨more - t.c, ngp t.ps⟩
theorem pok_ng : ∀ {ps : List (Int × Int)} {last : Int}, pok last ps → pok last (ngp ps)
  | [], _, _ => trivial
  | (n, f) :: l, last, hp => by
    obtain ⟨h1, h2, h3, h4, h5, h6⟩ := hp
    exact ⟨h1, h2, by show -f ≠ 0; omega, by show _ ≤ -f; omega, by show -f ≤ _; omega, pok_ng h6⟩
def fitBody : List St := [.set 4 (.dix (.bor 1) (.var 3)),
    .ifs (.not (.chain .le .le (.neg (.gl "GREATEST")) (.bor 4) (.gl "GREATEST"))) [.raise "TooGreat" [(.gl "GREATEST")]] [],
    .ifs (.cmp .ne (.bor 4) (.int 0)) [.app 2 (.tup [(.var 3), (.var 4)])] []]
def ngD' (ps : List (Int × Int)) : D := .dct (ps.map (·.1)) (ps.map fun p => .int (-p.2))
theorem fit_walk (call : String → List D → Option GS → RC) (c : D) (ps : List (Int × Int)) (last : Int) (hp : pok last ps) (h1 : -1 ≤ last) (g : Option GS) : ∀ (r : List (Int × Int)) (acc : List D) (o3 o4 : Option DV), (∀ p ∈ r, p ∈ ps ∧ p.2 ≠ 0) → acc.length + r.length ≤ 1000 →
    ∃ a3 a4, walk (turn prog.fl prog.gl call (.one 3) fitBody) ((r.map (·.1)).map .int) ⟨[some (.im c), some (.im (ngD' ps)), some (.ml acc), o3, o4], g⟩ = .ok .nx ⟨[some (.im c), some (.im (ngD' ps)), some (.ml (acc ++ pD (ngp r))), a3, a4], g⟩ := by
  intro r
  induction r with
  | nil => intro acc o3 o4 _ _; exact ⟨o3, o4, by simp [pD, ngp]⟩
  | cons p r ih =>
    intro acc o3 o4 hr hl
    obtain ⟨m, h0⟩ := hr p (List.mem_cons_self ..)
    have e := (dGet_asc (fun f => .int (-f)) ps last hp p m).1
    obtain ⟨_, _, b1, b2⟩ := pok_from h1 hp p m
    have q1 : -1000000000 ≤ -p.2 := by omega
    have q2 : -p.2 ≤ 1000000000 := by omega
    have q3 : ¬ (-p.2 = 0) := by omega
    simp only [List.length_cons] at hl
    have q4 : acc.length < 16777216 := by omega
    obtain ⟨a3, a4, ih⟩ := ih (acc ++ [.tup [.int p.1, .int (-p.2)]]) (some (.im (.int p.1))) (some (.im (.int (-p.2)))) (fun q m => hr q (List.mem_cons_of_mem _ m)) (by simp; omega)
    refine ⟨a3, a4, ?_⟩
    rw [List.map_cons, List.map_cons, walk_cons]
    simp only [ngD'] at ih ⊢
    simp [fitBody, e, cmp2, leD, b2, q2, eqD_int, h0, SZ, q4]
    simp [fitBody] at ih
    rw [ih]
    simp [pD, ngp]
theorem fitted_ok (n : Nat) (c : Int) (ps : List (Int × Int)) (g : Option GS) (hp : pok (-1) ps) (hc : -1000000000 ≤ c ∧ c ≤ 1000000000) :
    run prog (n + 1) "fitted" [.int c, ngD' ps] g = .ok (Tm.d ⟨c, ngp ps⟩) g := by
  have hl := pok_len (by omega) (by omega) hp
  have h0 : ∀ p ∈ ps, p ∈ ps ∧ p.2 ≠ 0 := by
    have : ∀ (ps : List (Int × Int)) (last : Int), pok last ps → ∀ p ∈ ps, p.2 ≠ 0 := by
      intro ps
      induction ps with
      | nil => intro _ _ p m; cases m
      | cons q l ih =>
        intro last hp p m
        obtain ⟨h1, h2, h3, h4, h5, h6⟩ := hp
        cases m with
        | head => exact h3
        | tail _ m => exact ih _ h6 p m
    exact fun p m => ⟨m, this ps _ hp p m⟩
  obtain ⟨a3, a4, e⟩ := fit_walk (run prog n) (.int c) ps (-1) hp (by omega) g ps [] none none h0 (by simp; omega)
  have e2 := srt_asc ps (-1) hp
  have q : (ps.map (·.1)).length < 64 := by rw [List.length_map]; omega
  rw [run_eq ffitted rfl rfl]
  simp only [ngD', fitBody] at e
  simp [ffitted, start, cmp2, leD, hc.1, hc.2, ngD', e2]
  rw [if_pos (by omega)]
  simp [seqD]
  simp at e
  rw [e]
  simp [blt1, seqD, Tm.d]
theorem scaled_ok (n : Nat) (t : Tm) (g : Option GS) (h : t.ok) : run prog (n + 2) "scaled" [t.d, .int (-1)] g = .ok (ng t 0).d g := by
  have hc := h.lo
  have hc2 := h.hi
  have e1 := fitted_ok n (0 - t.c) t.ps g h.ps ⟨by omega, by omega⟩
  have m1 : ∀ x : Int, mulD (.int x) (.int (-1)) = some (.int (-x)) := fun x => by
    unfold mulD
    simp only
    rw [if_pos (mulOk_r (by decide))]
    congr 2
    omega
  have tn := turns_mapA (f := fun s => (evE prog.gl (run prog (n + 1)) (.var 2) s).nd fun y s => (evE prog.gl (run prog (n + 1)) (.bin .mul (.bor 3) (.bor 1)) s).nd fun z s => pairR y z s) (c := evE prog.gl (run prog (n + 1)) (.bl true)) (t := .many [2, 3]) (e0 := [some (.im t.d), some (.im (.int (-1))), none, none])
    (fun p : Int × Int => D.tup [.int p.1, .int p.2]) (fun p => D.tup [.int p.1, .int (-p.2)]) t.ps ⟨[some (.im t.d), some (.im (.int (-1))), none, none], g⟩ (by
      intro p m
      refine ⟨⟨[some (.im t.d), some (.im (.int (-1))), some (.im (.int p.1)), some (.im (.int p.2))], g⟩, ⟨[some (.im t.d), some (.im (.int (-1))), some (.im (.int p.1)), some (.im (.int p.2))], g⟩, rfl, rfl, ?_, rfl⟩
      simp [op2, m1])
  obtain ⟨s', e2, eg⟩ := tn
  have hd := dOf_asc (fun f => .int (-f)) t.ps (-1) [] [] h.ps (fun a m => by cases m)
  have hl := pok_len (by omega) (by omega) h.ps
  have e3 := dcX_ok (t.ps.map fun p => D.tup [.int p.1, .int (-p.2)]) s' ⟨[some (.im t.d), some (.im (.int (-1))), none, none], g⟩ _ rfl (by rw [List.length_map]; have : SZ = 16777216 := rfl; omega) hd
  have key : evE prog.gl (run prog (n + 1)) (.dc (.var 2) (.bin .mul (.bor 3) (.bor 1)) (.many [2, 3]) [2, 3] (.iSeq (.ix (.bor 0) (.int 1))) (.bl true)) ⟨[some (.im t.d), some (.im (.int (-1))), none, none], g⟩ = .ok (ngD' t.ps) ⟨[some (.im t.d), some (.im (.int (-1))), none, none], g⟩ := by
    have ei : evI prog.gl (run prog (n + 1)) (.iSeq (.ix (.bor 0) (.int 1))) ⟨[some (.im t.d), some (.im (.int (-1))), none, none], g⟩ = .ok (pD t.ps) ⟨[some (.im t.d), some (.im (.int (-1))), none, none], g⟩ := by
      simp [Tm.d, ix1, seqD]
    rw [evE_dc, ei, nd_ok]
    have e2' : turns _ _ _ (inner [2, 3] [some (.im t.d), some (.im (.int (-1))), none, none]) (pD t.ps) _ = _ := e2
    rw [e2', e3, eg]
    simp [ngD']
  have e1' : run prog (n + 1) "fitted" [.int (-t.c), ngD' t.ps] g = .ok (Tm.d ⟨0 - t.c, ngp t.ps⟩) g := by
    rw [← e1, show (0 - t.c) = -t.c from by omega]
  have hb : evE prog.gl (run prog (n + 1)) (.bin .mul (.ix (.bor 0) (.int 0)) (.bor 1)) ⟨[some (.im t.d), some (.im (.int (-1))), none, none], g⟩ = .ok (.int (-t.c)) ⟨[some (.im t.d), some (.im (.int (-1))), none, none], g⟩ := by
    simp [Tm.d, ix0, op2, m1]
  rw [run_eq fscaled rfl rfl]
  simp only [fscaled, start, evB_cons, evS_ret, evE_call, evEs_cons, evEs_nil]
  simp only [List.map, List.length, List.replicate, List.append, List.cons_append, List.nil_append, hb, nd_ok, key, e1', cl_ok, sq_ret, fin_ret]
  simp [hb, key, e1', ng]
theorem moved_ok (n : Nat) (t : Tm) (s : Int) (g : Option GS) : run prog (n + 1) "moved" [t.d, .int s] g = if -1000000000 ≤ t.c + s ∧ t.c + s ≤ 1000000000 then .ok (Tm.d ⟨t.c + s, t.ps⟩) g else .ex (great 1000000000) g := by
  rw [run_eq fmoved rfl rfl]
  by_cases q1 : -1000000000 ≤ t.c + s
  · by_cases q2 : t.c + s ≤ 1000000000
    · simp [fmoved, start, Tm.d, ix0, ix1, op2, addD, cmp2, leD, q1, q2]
    · simp [fmoved, start, Tm.d, ix0, ix1, op2, addD, cmp2, leD, q1, q2, great]
  · simp [fmoved, start, Tm.d, ix0, ix1, op2, addD, cmp2, leD, q1, great]
end Dl.K03
end
section
set_option Elab.async false
set_option autoImplicit false
set_option linter.all false
set_option maxRecDepth 10000
/-! FE: nots driven inward. -/
namespace Dl.K03
open Dl
mutual
/-- the rule -/
def iw : F → Bool → F
  | .ge t, c => if c then .ge (ng t (-1)) else .ge t
  | .eq t, c => if c then .con false [.ge ⟨t.c - 1, t.ps⟩, .ge (ng t (-1))] else .eq t
  | .mod m t, c => if c then .not (.mod m t) else .mod m t
  | .not f, c => iw f (!c)
  | .con w l, c => .con (if c then !w else w) (iws l c)
  | .qu w x f, c => .qu (if c then !w else w) x (iw f c)
  | .bad n, _ => .bad n
def iws : List F → Bool → List F
  | [], _ => []
  | f :: l, c => iw f c :: iws l c
end
def inb (i : Int) : Bool := decide (-1000000000 ≤ i) && decide (i ≤ 1000000000)
mutual
/-- no constant beyond the bound -/
def F.bnd : F → Bool
  | .ge t => inb t.c
  | .eq t => inb t.c
  | .mod _ t => inb t.c
  | .not f => f.bnd
  | .con _ l => F.bnds l
  | .qu _ _ f => f.bnd
  | .bad _ => true
def F.bnds : List F → Bool
  | [] => true
  | f :: l => F.bnd f && F.bnds l
end
theorem iws_map : ∀ (l : List F) (c : Bool), iws l c = l.map fun f => iw f c
  | [], c => rfl
  | f :: l, c => by rw [iws, iws_map l]; rfl
theorem bnds_iff : ∀ l : List F, F.bnds l = true ↔ ∀ f ∈ l, f.bnd = true
  | [] => by simp [F.bnds]
  | f :: l => by simp [F.bnds, bnds_iff l]
theorem inb_iff (i : Int) : inb i = true ↔ -1000000000 ≤ i ∧ i ≤ 1000000000 := by simp [inb]
def BX : Exn := great 1000000000
def drR (f : F) (c : Bool) (g : Option GS) : RC := if (iw f c).bnd = true then .ok (iw f c).d g else .ex BX g
theorem moved_ge (n : Nat) (t : Tm) (g : Option GS) (h : t.ok) (c : Int) : run prog (n + 1) "moved" [Tm.d ⟨c, t.ps⟩, .int (-1)] g = if inb (c - 1) = true then .ok (Tm.d ⟨c - 1, t.ps⟩) g else .ex BX g := by
  rw [moved_ok n ⟨c, t.ps⟩ (-1) g]
  show (if -1000000000 ≤ c + -1 ∧ c + -1 ≤ 1000000000 then RC.ok (Tm.d ⟨c + -1, t.ps⟩) g else _) = _
  rw [show c + -1 = c - 1 from rfl]
  by_cases q : inb (c - 1) = true
  · rw [if_pos q, if_pos ((inb_iff _).mp q)]
  · rw [if_neg q, if_neg fun z => q ((inb_iff _).mpr z)]
    rfl
theorem moved_ng (n : Nat) (t : Tm) (g : Option GS) (h : t.ok) : run prog (n + 1) "moved" [(ng t 0).d, .int (-1)] g = if inb (-1 - t.c) = true then .ok (ng t (-1)).d g else .ex BX g := by
  have e := moved_ge n ⟨t.c, ngp t.ps⟩ g ⟨h.lo, h.hi, pok_ng h.ps⟩ (0 - t.c)
  rw [show (ng t 0).d = Tm.d ⟨0 - t.c, ngp t.ps⟩ from rfl, e]
  rw [show (0 - t.c - 1) = -1 - t.c from by omega]
  rfl
def envI (f : F) (c : Bool) (o2 o3 o4 : D) : List (Option DV) := [some (.im f.d), some (.im (.bl c)), some (.im o2), none, some (.im o4), none]
theorem dr_turns (call : String → List D → Option GS → RC) (c : Bool) (w w' fd : D) (g : Option GS) : ∀ (l : List F) (s : S), s.g = g → (∀ f ∈ l, call "driven_in" [f.d, .bl c] g = drR f c g) →
    if F.bnds (iws l c) = true then ∃ s', turns (evE prog.gl call (.call "driven_in" [(.var 5), (.var 1)])) (evE prog.gl call (.bl true)) (.one 5) [some (.im fd), some (.im (.bl c)), some (.im w), none, some (.im w'), none] (F.ds l) s = .ok (F.ds (iws l c)) s' ∧ s'.g = g
    else ∃ s', turns (evE prog.gl call (.call "driven_in" [(.var 5), (.var 1)])) (evE prog.gl call (.bl true)) (.one 5) [some (.im fd), some (.im (.bl c)), some (.im w), none, some (.im w'), none] (F.ds l) s = .ex BX s' ∧ s'.g = g
  | [], s, hg, _ => ⟨s, rfl, hg⟩
  | f :: l, s, hg, h => by
    obtain ⟨se, sg⟩ := s
    subst hg
    have e := h f (List.mem_cons_self ..)
    simp only at e
    have e1 : evE prog.gl call (.call "driven_in" [(.var 5), (.var 1)]) ⟨[some (.im fd), some (.im (.bl c)), some (.im w), none, some (.im w'), some (.im f.d)], sg⟩ = if (iw f c).bnd = true then .ok (iw f c).d ⟨[some (.im fd), some (.im (.bl c)), some (.im w), none, some (.im w'), some (.im f.d)], sg⟩ else .ex BX ⟨[some (.im fd), some (.im (.bl c)), some (.im w), none, some (.im w'), some (.im f.d)], sg⟩ := by
      simp [e, drR]
      split <;> simp
    have b1 : bindT (.one 5) f.d ⟨[some (.im fd), some (.im (.bl c)), some (.im w), none, some (.im w'), none], sg⟩ = some ⟨[some (.im fd), some (.im (.bl c)), some (.im w), none, some (.im w'), some (.im f.d)], sg⟩ := rfl
    rw [iws, F.bnds, F.ds, F.ds]
    cases q : (iw f c).bnd with
    | false =>
      rw [q] at e1
      rw [if_neg (by simp)]
      refine ⟨⟨[some (.im fd), some (.im (.bl c)), some (.im w), none, some (.im w'), some (.im f.d)], sg⟩, ?_, rfl⟩
      simp only [turns, b1, ofO_some, R.bind_ok, evE_bl, e1]
      rfl
    | true =>
      rw [q] at e1
      have ih := dr_turns call c w w' fd sg l ⟨[some (.im fd), some (.im (.bl c)), some (.im w), none, some (.im w'), some (.im f.d)], sg⟩ rfl fun f m => h f (List.mem_cons_of_mem _ m)
      rw [Bool.true_and]
      split at ih
      · rename_i q2
        rw [if_pos q2]
        obtain ⟨s', e2, g2⟩ := ih
        refine ⟨s', ?_, g2⟩
        simp only [turns, b1, ofO_some, R.bind_ok, evE_bl, e1, if_true]
        rw [e2]
        rfl
      · rename_i q2
        rw [if_neg q2]
        obtain ⟨s', e2, g2⟩ := ih
        refine ⟨s', ?_, g2⟩
        simp only [turns, b1, ofO_some, R.bind_ok, evE_bl, e1, if_true]
        rw [e2]
        rfl
theorem lk_and : List.lookup "and" [("and", "or"), ("or", "and"), ("some", "all"), ("all", "some")] = some "or" := rfl
theorem lk_or : List.lookup "or" [("and", "or"), ("or", "and"), ("some", "all"), ("all", "some")] = some "and" := rfl
theorem lk_some : List.lookup "some" [("and", "or"), ("or", "and"), ("some", "all"), ("all", "some")] = some "all" := rfl
theorem lk_all : List.lookup "all" [("and", "or"), ("or", "and"), ("some", "all"), ("all", "some")] = some "some" := rfl
theorem bnd_ok {f : F} (h : f.ok) : f.bnd = true := by
  induction f using F.ind with
  | ge t => exact (inb_iff _).mpr ⟨h.lo, h.hi⟩
  | eq t => exact (inb_iff _).mpr ⟨h.lo, h.hi⟩
  | mod m t => exact (inb_iff _).mpr ⟨h.2.2.lo, h.2.2.hi⟩
  | not f ih => exact ih h
  | con w l ih => exact (bnds_iff _).mpr fun f m => ih f m ((oks_iff _).mp h f m)
  | qu w x f ih => exact ih h.2.2
  | bad n => rfl
theorem bnd_ng (t : Tm) : (F.ge (ng t (-1))).bnd = inb (-1 - t.c) := rfl
theorem bnd_or (t : Tm) : (F.con false [.ge ⟨t.c - 1, t.ps⟩, .ge (ng t (-1))]).bnd = (inb (t.c - 1) && (inb (-1 - t.c) && true)) := rfl
theorem lcE_ok (ds : List D) (s : S) (env : List (Option DV)) (h : ds.length < SZ) : lcE env (.ok ds s) = .ok (.lst ds) ⟨env, s.g⟩ := if_pos h
theorem lceX_ok (n : Nat) (ds : List D) (s : S) (env : List (Option DV)) (h0 : n < SZ) (h : ds.length < SZ) : lceX n env (.ok ds s) = .ok (.lst ds) ⟨env, s.g⟩ := by
  unfold lceX
  rw [if_pos h0, lcE_ok _ _ _ h]
theorem lceX_ex (n : Nat) (e : Exn) (s : S) (env : List (Option DV)) (h0 : n < SZ) : lceX n env (.ex e s) = .ex e ⟨env, s.g⟩ := by
  unfold lceX
  rw [if_pos h0]
  rfl
theorem driven_in_ok (f : F) : ∀ (k : Nat) (c : Bool) (g : Option GS), f.ok → f.nb = true → f.dep ≤ k → f.size ≤ 100000 → run prog (k + 3) "driven_in" [f.d, .bl c] g = drR f c g := by
  induction f using F.ind with
  | ge t =>
    intro k c g h _ _ _
    rw [run_eq fdriven_in rfl rfl]
    cases c with
    | false => simp [fdriven_in, start, F.d, ix0, ix1, cmp2, eqD_str, drR, iw, bnd_ok (f := .ge t) h]
    | true =>
      have e1 := scaled_ok k t g h
      have e2 := moved_ng (k + 1) t g h
      by_cases q : inb (-1 - t.c) = true
      · rw [if_pos q] at e2
        simp [fdriven_in, start, F.d, ix0, ix1, cmp2, eqD_str, drR, iw, e1, e2, bnd_ng, q]
      · rw [if_neg q] at e2
        simp [fdriven_in, start, F.d, ix0, ix1, cmp2, eqD_str, drR, iw, e1, e2, bnd_ng, q]
  | eq t =>
    intro k c g h _ _ _
    rw [run_eq fdriven_in rfl rfl]
    cases c with
    | false => simp [fdriven_in, start, F.d, ix0, ix1, cmp2, eqD_str, drR, iw, bnd_ok (f := .eq t) h]
    | true =>
      have e0 := moved_ge (k + 1) t g h t.c
      have e1 := scaled_ok k t g h
      have e2 := moved_ng (k + 1) t g h
      rw [show Tm.d ⟨t.c, t.ps⟩ = t.d from rfl] at e0
      by_cases q0 : inb (t.c - 1) = true
      · rw [if_pos q0] at e0
        by_cases q : inb (-1 - t.c) = true
        · rw [if_pos q] at e2
          simp [fdriven_in, start, F.d, F.ds, cw, ix0, ix1, cmp2, eqD_str, drR, iw, e0, e1, e2, bnd_or, q, q0]
        · rw [if_neg q] at e2
          simp [fdriven_in, start, F.d, F.ds, cw, ix0, ix1, cmp2, eqD_str, drR, iw, e0, e1, e2, bnd_or, q, q0]
      · rw [if_neg q0] at e0
        simp [fdriven_in, start, F.d, F.ds, cw, ix0, ix1, cmp2, eqD_str, drR, iw, e0, bnd_or, q0]
  | mod m t =>
    intro k c g h _ _ _
    rw [run_eq fdriven_in rfl rfl]
    have b := bnd_ok (f := .mod m t) h
    have b' : (F.not (.mod m t)).bnd = true := b
    cases c <;> simp [fdriven_in, start, F.d, ix0, ix1, cmp2, eqD_str, drR, iw, b, b']
  | not f ih =>
    intro k c g h hn hk hs
    obtain ⟨j, rfl⟩ : ∃ j, k = j + 1 := ⟨k - 1, by simp [F.dep] at hk; omega⟩
    have e := ih j (!c) g h hn (by simp [F.dep] at hk; omega) (by simp [F.size] at hs; omega)
    rw [run_eq fdriven_in rfl rfl]
    have e' : run prog (j + 1 + 2) "driven_in" [f.d, .bl (!c)] g = drR f (!c) g := e
    simp [fdriven_in, start, F.d, ix0, ix1, cmp2, eqD_str, e']
    simp only [drR, iw]
    by_cases q : (iw f (!c)).bnd = true
    · simp [q]
    · simp [q]
  | bad n =>
    intro k c g h hn
    cases hn
  | qu w x f ih =>
    intro k c g h hn hk hs
    obtain ⟨j, rfl⟩ : ∃ j, k = j + 1 := ⟨k - 1, by simp [F.dep] at hk; omega⟩
    have e' : run prog (j + 1 + 2) "driven_in" [f.d, .bl c] g = drR f c g := ih j c g h.2.2 hn (by simp [F.dep] at hk; omega) (by simp [F.size] at hs; omega)
    rw [run_eq fdriven_in rfl rfl]
    cases c <;> cases w <;> simp [fdriven_in, start, F.d, qw, ix0, ix1, ix2, cmp2, inD2, eqD_str, e', lk_some, lk_all] <;> simp only [drR, iw, F.bnd] <;> split <;> simp [F.d, qw]
  | con w l ih =>
    intro k c g h hn hk hs
    obtain ⟨j, rfl⟩ : ∃ j, k = j + 1 := ⟨k - 1, by simp [F.dep] at hk; omega⟩
    have hl : (F.ds l).length < SZ := by
      have : ∀ l : List F, l.length ≤ F.sizes l := fun l => by
        induction l with
        | nil => exact Nat.le_refl _
        | cons a l ih => rw [F.sizes, List.length_cons]; have := size_pos a; omega
      have := this l
      simp only [F.size] at hs
      rw [ds_len]
      have : SZ = 16777216 := rfl
      omega
    have t := fun w' w'' => dr_turns (run prog (j + 1 + 2)) c w' w'' (F.con w l).d g l ⟨[some (.im (F.con w l).d), some (.im (.bl c)), some (.im w'), none, some (.im w''), none], g⟩ rfl fun f m =>
      ih f m j c g ((oks_iff _).mp h f m) ((nbs_iff _).mp hn f m) (by have := deps_mem m; simp only [F.dep] at hk; omega) (by have := sizes_mem m; simp only [F.size] at hs; omega)
    have hl2 : (F.ds (iws l c)).length < SZ := by rw [ds_len, iws_map, List.length_map, ← ds_len]; exact hl
    rw [run_eq fdriven_in rfl rfl]
    have first : ∀ (o : String), o = (if c then cw (!w) else cw w) → evB prog.fl prog.gl (run prog (j + 1 + 2)) fdriven_in.body ⟨start 6 [(F.con w l).d, .bl c], g⟩ = evB prog.fl prog.gl (run prog (j + 1 + 2)) (fdriven_in.body.drop 6) ⟨[some (.im (F.con w l).d), some (.im (.bl c)), some (.im (.str (cw w))), none, some (.im (.str o)), none], g⟩ := by
      intro o ho
      subst ho
      simp only [fdriven_in, List.drop]
      cases c <;> cases w <;> simp [start, F.d, cw, ix0, ix1, ix2, cmp2, inD2, eqD_str, lk_and, lk_or]
    show finish (evB prog.fl prog.gl (run prog (j + 1 + 2)) fdriven_in.body ⟨start 6 [(F.con w l).d, .bl c], g⟩) = _
    rw [first _ rfl]
    have hi : inD (.str (cw w)) (.tup [.str "and", .str "or"]) = some true := by cases w <;> simp [inD2, cw]
    have ei : ∀ o, evI prog.gl (run prog (j + 1 + 2)) (.iSeq (.ix (.bor 0) (.int 1))) ⟨[some (.im (F.con w l).d), some (.im (.bl c)), some (.im (.str (cw w))), none, some (.im (.str o)), none], g⟩ = .ok (F.ds l) ⟨[some (.im (F.con w l).d), some (.im (.bl c)), some (.im (.str (cw w))), none, some (.im (.str o)), none], g⟩ := by
      intro o
      simp [F.d, ix1, seqD]
    have t := t (.str (cw w)) (.str (if c then cw (!w) else cw w))
    have ho : (if c then cw (!w) else cw w) = cw (if c then !w else w) := by cases c <;> rfl
    generalize (if c then cw (!w) else cw w) = o at t ho ⊢
    have el : evE prog.gl (run prog (j + 1 + 2)) (.lcX (.call "driven_in" [(.var 5), (.var 1)]) (.one 5) [5] (.iSeq (.ix (.bor 0) (.int 1))) (.bl true)) ⟨[some (.im (F.con w l).d), some (.im (.bl c)), some (.im (.str (cw w))), none, some (.im (.str o)), none], g⟩ =
       if F.bnds (iws l c) = true then .ok (.lst (F.ds (iws l c))) ⟨[some (.im (F.con w l).d), some (.im (.bl c)), some (.im (.str (cw w))), none, some (.im (.str o)), none], g⟩ else .ex BX ⟨[some (.im (F.con w l).d), some (.im (.bl c)), some (.im (.str (cw w))), none, some (.im (.str o)), none], g⟩ := by
      rw [evE_lcX, ei, nd_ok]
      have hin : Dl.inner [5] [some (DV.im (F.con w l).d), some (.im (.bl c)), some (.im (.str (cw w))), none, some (.im (.str o)), none] = [some (.im (F.con w l).d), some (.im (.bl c)), some (.im (.str (cw w))), none, some (.im (.str o)), none] := rfl
      simp only [hin]
      split at t
      · rename_i q
        obtain ⟨s', e, eg⟩ := t
        rw [if_pos q, e, lceX_ok _ _ _ _ hl hl2, eg]
      · rename_i q
        obtain ⟨s', e, eg⟩ := t
        rw [if_neg q, e, lceX_ex _ _ _ _ hl, eg]
    simp only [fdriven_in, List.drop]
    simp [cmp2, hi, -evE_lcX, el]
    simp only [drR, iw, F.bnd]
    split <;> simp [blt1, seqD, F.d, ho]
end Dl.K03
end
section
set_option Elab.async false
set_option autoImplicit false
set_option linter.all false
set_option maxRecDepth 10000
/-! FF: what the walk tells; inward formulas. -/
namespace Dl.K03
open Dl
mutual
theorem wk_deep : ∀ (f : F) (p : List Int) (d m : Nat), f.nb = true → d ≤ 21 → m + f.size ≤ 2000 → wkF f p d m = if d + f.dep ≤ 21 then .ok (m + f.size) else .gr 20
  | .ge t, p, d, m, hn, hd, hm => by rw [show (F.ge t).dep = 1 from rfl, show (F.ge t).size = 1 from rfl, wkF]; rw [show (F.ge t).size = 1 from rfl] at hm; by_cases q : 20 < d; (rw [if_pos q, if_neg (by omega)]); (rw [if_neg q, if_neg (by omega), if_pos (by omega)])
  | .eq t, p, d, m, hn, hd, hm => by rw [show (F.eq t).dep = 1 from rfl, show (F.eq t).size = 1 from rfl, wkF]; rw [show (F.eq t).size = 1 from rfl] at hm; by_cases q : 20 < d; (rw [if_pos q, if_neg (by omega)]); (rw [if_neg q, if_neg (by omega), if_pos (by omega)])
  | .mod v t, p, d, m, hn, hd, hm => by rw [show (F.mod v t).dep = 1 from rfl, show (F.mod v t).size = 1 from rfl, wkF]; rw [show (F.mod v t).size = 1 from rfl] at hm; by_cases q : 20 < d; (rw [if_pos q, if_neg (by omega)]); (rw [if_neg q, if_neg (by omega), if_pos (by omega)])
  | .bad n, p, d, m, hn, hd, hm => by cases hn
  | .not f, p, d, m, hn, hd, hm => by
    rw [show (F.not f).dep = f.dep + 1 from rfl, show (F.not f).size = f.size + 1 from rfl, wkF]; rw [show (F.not f).size = f.size + 1 from rfl] at hm
    by_cases q : 20 < d
    · rw [if_pos q, if_neg (by omega)]
    · rw [if_neg q, if_neg (by omega), wk_deep f (p ++ [1]) (d + 1) (m + 1) hn (by omega) (by omega)]
      rw [show d + 1 + f.dep = d + (f.dep + 1) from by omega, show m + 1 + f.size = m + (f.size + 1) from by omega]
  | .qu w x f, p, d, m, hn, hd, hm => by
    rw [show (F.qu w x f).dep = f.dep + 1 from rfl, show (F.qu w x f).size = f.size + 1 from rfl, wkF]; rw [show (F.qu w x f).size = f.size + 1 from rfl] at hm
    by_cases q : 20 < d
    · rw [if_pos q, if_neg (by omega)]
    · rw [if_neg q, if_neg (by omega), wk_deep f (p ++ [2]) (d + 1) (m + 1) hn (by omega) (by omega)]
      rw [show d + 1 + f.dep = d + (f.dep + 1) from by omega, show m + 1 + f.size = m + (f.size + 1) from by omega]
  | .con w l, p, d, m, hn, hd, hm => by
    rw [show (F.con w l).dep = F.deps l + 1 from rfl, show (F.con w l).size = F.sizes l + 1 from rfl, wkF]; rw [show (F.con w l).size = F.sizes l + 1 from rfl] at hm
    by_cases q : 20 < d
    · rw [if_pos q, if_neg (by omega)]
    · rw [if_neg q, if_neg (by omega), wks_deep l p 0 (d + 1) (m + 1) hn (by omega) (by omega)]
      rw [show d + 1 + F.deps l = d + (F.deps l + 1) from by omega, show m + 1 + F.sizes l = m + (F.sizes l + 1) from by omega]
theorem wks_deep : ∀ (l : List F) (p : List Int) (i d m : Nat), F.nbs l = true → d ≤ 21 → m + F.sizes l ≤ 2000 → wkL l p i d m = if d + F.deps l ≤ 21 then .ok (m + F.sizes l) else .gr 20
  | [], p, i, d, m, hn, hd, hm => by
    rw [show F.deps [] = 0 from rfl, show F.sizes [] = 0 from rfl, wkL, if_pos (by omega)]
    rfl
  | f :: l, p, i, d, m, hn, hd, hm => by
    simp only [F.nbs, Bool.and_eq_true] at hn
    rw [show F.deps (f :: l) = max f.dep (F.deps l) from rfl, show F.sizes (f :: l) = f.size + F.sizes l from rfl, wkL]
    rw [show F.sizes (f :: l) = f.size + F.sizes l from rfl] at hm
    rw [wk_deep f (p ++ [1, (i : Int)]) d m hn.1 hd (by omega)]
    by_cases q : d + f.dep ≤ 21
    · rw [if_pos q, WR.bind_ok, wks_deep l p (i + 1) d _ hn.2 hd (by omega)]
      by_cases q2 : d + F.deps l ≤ 21
      · rw [if_pos q2, if_pos (by omega)]
        congr 1
        omega
      · rw [if_neg q2, if_neg (by omega)]
    · rw [if_neg q, if_neg (by omega)]
      rfl
end
mutual
theorem wk_many : ∀ (f : F) (p : List Int) (d m : Nat), f.nb = true → d + f.dep ≤ 21 → m ≤ 2000 → wkF f p d m = if m + f.size ≤ 2000 then .ok (m + f.size) else .gr 2000
  | .ge t, p, d, m, hn, hd, hm => by
    rw [show (F.ge t).size = 1 from rfl, wkF]; rw [show (F.ge t).dep = 1 from rfl] at hd
    rw [if_neg (by omega)]
    by_cases q : m = 2000
    · rw [if_pos q, if_neg (by omega)]
    · rw [if_neg q, if_pos (by omega)]
  | .eq t, p, d, m, hn, hd, hm => by
    rw [show (F.eq t).size = 1 from rfl, wkF]; rw [show (F.eq t).dep = 1 from rfl] at hd
    rw [if_neg (by omega)]
    by_cases q : m = 2000
    · rw [if_pos q, if_neg (by omega)]
    · rw [if_neg q, if_pos (by omega)]
  | .mod v t, p, d, m, hn, hd, hm => by
    rw [show (F.mod v t).size = 1 from rfl, wkF]; rw [show (F.mod v t).dep = 1 from rfl] at hd
    rw [if_neg (by omega)]
    by_cases q : m = 2000
    · rw [if_pos q, if_neg (by omega)]
    · rw [if_neg q, if_pos (by omega)]
  | .bad n, p, d, m, hn, hd, hm => by cases hn
  | .not f, p, d, m, hn, hd, hm => by
    rw [show (F.not f).size = f.size + 1 from rfl, wkF]; rw [show (F.not f).dep = f.dep + 1 from rfl] at hd
    have := size_pos f
    rw [if_neg (by omega)]
    by_cases q : m = 2000
    · rw [if_pos q, if_neg (by omega)]
    · rw [if_neg q, wk_many f (p ++ [1]) (d + 1) (m + 1) hn (by omega) (by omega)]
      rw [show m + 1 + f.size = m + (f.size + 1) from by omega]
  | .qu w x f, p, d, m, hn, hd, hm => by
    rw [show (F.qu w x f).size = f.size + 1 from rfl, wkF]; rw [show (F.qu w x f).dep = f.dep + 1 from rfl] at hd
    have := size_pos f
    rw [if_neg (by omega)]
    by_cases q : m = 2000
    · rw [if_pos q, if_neg (by omega)]
    · rw [if_neg q, wk_many f (p ++ [2]) (d + 1) (m + 1) hn (by omega) (by omega)]
      rw [show m + 1 + f.size = m + (f.size + 1) from by omega]
  | .con w l, p, d, m, hn, hd, hm => by
    rw [show (F.con w l).size = F.sizes l + 1 from rfl, wkF]; rw [show (F.con w l).dep = F.deps l + 1 from rfl] at hd
    rw [if_neg (by omega)]
    by_cases q : m = 2000
    · rw [if_pos q, if_neg (by omega)]
    · rw [if_neg q, wks_many l p 0 (d + 1) (m + 1) hn (by omega) (by omega)]
      rw [show m + 1 + F.sizes l = m + (F.sizes l + 1) from by omega]
theorem wks_many : ∀ (l : List F) (p : List Int) (i d m : Nat), F.nbs l = true → d + F.deps l ≤ 21 → m ≤ 2000 → wkL l p i d m = if m + F.sizes l ≤ 2000 then .ok (m + F.sizes l) else .gr 2000
  | [], p, i, d, m, hn, hd, hm => by
    rw [show F.sizes [] = 0 from rfl, wkL, if_pos (by omega)]
    rfl
  | f :: l, p, i, d, m, hn, hd, hm => by
    simp only [F.nbs, Bool.and_eq_true] at hn
    rw [show F.deps (f :: l) = max f.dep (F.deps l) from rfl] at hd
    rw [show F.sizes (f :: l) = f.size + F.sizes l from rfl, wkL]
    rw [wk_many f (p ++ [1, (i : Int)]) d m hn.1 (by omega) hm]
    by_cases q : m + f.size ≤ 2000
    · rw [if_pos q, WR.bind_ok, wks_many l p (i + 1) d _ hn.2 (by omega) q]
      rw [show m + f.size + F.sizes l = m + (f.size + F.sizes l) from by omega]
    · rw [if_neg q, if_neg (by omega)]
      rfl
end
/-! the rule -/
def drv : F → Bool
  | .not (.mod _ _) => true
  | .not _ => false
  | .con _ l => drvs l
  | .qu _ _ f => drv f
  | .ge _ => true
  | .eq _ => true
  | .mod _ _ => true
  | .bad _ => true
where drvs : List F → Bool
  | [] => true
  | f :: l => drv f && drvs l
theorem drvs_iff : ∀ l : List F, drv.drvs l = true ↔ ∀ f ∈ l, drv f = true
  | [] => by simp [drv.drvs]
  | f :: l => by simp [drv.drvs, drvs_iff l]
theorem iw_drv (f : F) : ∀ c, drv (iw f c) = true := by
  induction f using F.ind with
  | ge t => intro c; cases c <;> rfl
  | eq t => intro c; cases c <;> rfl
  | mod m t => intro c; cases c <;> rfl
  | not f ih => intro c; exact ih _
  | con w l ih =>
    intro c
    rw [iw, drv, drvs_iff, iws_map]
    intro f m
    obtain ⟨f', mf, rfl⟩ := List.mem_map.mp m
    exact ih f' mf c
  | qu w x f ih => intro c; exact ih c
  | bad n => intro c; rfl
theorem iw_id (f : F) : drv f = true → iw f false = f := by
  induction f using F.ind with
  | ge t => intro _; rfl
  | eq t => intro _; rfl
  | mod m t => intro _; rfl
  | not f ih =>
    intro h
    cases f <;> simp [drv] at h
    simp [iw]
  | con w l ih =>
    intro h
    rw [drv, drvs_iff] at h
    rw [iw, iws_map]
    simp
    have : l.map (fun f => iw f false) = l.map id := List.map_congr_left fun f m => ih f m (h f m)
    rw [this, List.map_id]
  | qu w x f ih => intro h; rw [iw, ih h]; rfl
  | bad n => intro _; rfl
theorem iw_nb (f : F) : ∀ c, f.nb = true → (iw f c).nb = true := by
  induction f using F.ind with
  | ge t => intro c _; cases c <;> rfl
  | eq t => intro c _; cases c <;> rfl
  | mod m t => intro c _; cases c <;> rfl
  | not f ih => intro c h; exact ih _ h
  | con w l ih =>
    intro c h
    rw [F.nb, nbs_iff] at h
    rw [iw, F.nb, nbs_iff, iws_map]
    intro f m
    obtain ⟨f', mf, rfl⟩ := List.mem_map.mp m
    exact ih f' mf c (h f' mf)
  | qu w x f ih => intro c h; exact ih c h
  | bad n => intro c h; cases h
mutual
theorem iw_size : ∀ (f : F) (c : Bool), (iw f c).size ≤ 3 * f.size
  | .ge t, c => by cases c <;> simp [iw, F.size]
  | .eq t, c => by cases c <;> simp [iw, F.size, F.sizes]
  | .mod m t, c => by cases c <;> simp [iw, F.size]
  | .not f, c => by
    have := iw_size f (!c)
    simp only [iw, F.size]
    omega
  | .con w l, c => by
    have := iws_size l c
    simp only [iw, F.size]
    omega
  | .qu w x f, c => by
    have := iw_size f c
    simp only [iw, F.size]
    omega
  | .bad n, c => by simp [iw, F.size]
theorem iws_size : ∀ (l : List F) (c : Bool), F.sizes (iws l c) ≤ 3 * F.sizes l
  | [], c => by simp [iws, F.sizes]
  | f :: l, c => by
    have := iw_size f c
    have := iws_size l c
    simp only [iws, F.sizes]
    omega
end
mutual
theorem iw_dep : ∀ (f : F) (c : Bool), (iw f c).dep ≤ f.dep + 1
  | .ge t, c => by cases c <;> simp [iw, F.dep]
  | .eq t, c => by cases c <;> simp [iw, F.dep, F.deps]
  | .mod m t, c => by cases c <;> simp [iw, F.dep]
  | .not f, c => by
    have := iw_dep f (!c)
    simp only [iw, F.dep]
    omega
  | .con w l, c => by
    have := iws_dep l c
    simp only [iw, F.dep]
    omega
  | .qu w x f, c => by
    have := iw_dep f c
    simp only [iw, F.dep]
    omega
  | .bad n, c => by simp [iw, F.dep]
theorem iws_dep : ∀ (l : List F) (c : Bool), F.deps (iws l c) ≤ F.deps l + 1
  | [], c => by simp [iws, F.deps]
  | f :: l, c => by
    have := iw_dep f c
    have := iws_dep l c
    simp only [iws, F.deps]
    omega
end
theorem iw_ok (f : F) : ∀ c, f.ok → (iw f c).bnd = true → (iw f c).ok := by
  have hg : ∀ (t : Tm), t.ok → inb (-1 - t.c) = true → (ng t (-1)).ok := fun t h b => ⟨((inb_iff _).mp b).1, ((inb_iff _).mp b).2, pok_ng h.ps⟩
  induction f using F.ind with
  | ge t =>
    intro c h b
    cases c with
    | false => exact h
    | true => exact hg t h b
  | eq t =>
    intro c h b
    cases c with
    | false => exact h
    | true =>
      have b' : (inb (t.c - 1) && (inb (-1 - t.c) && true)) = true := b
      simp only [Bool.and_eq_true] at b'
      exact ⟨⟨((inb_iff _).mp b'.1).1, ((inb_iff _).mp b'.1).2, h.ps⟩, hg t h b'.2.1, trivial⟩
  | mod m t => intro c h b; cases c <;> exact h
  | not f ih => intro c h b; exact ih _ h b
  | con w l ih =>
    intro c h b
    have h' := (oks_iff l).mp h
    have b' := (bnds_iff _).mp (show F.bnds (iws l c) = true from b)
    rw [iw]
    refine (oks_iff _).mpr ?_
    rw [iws_map] at *
    intro f m
    obtain ⟨f', mf, rfl⟩ := List.mem_map.mp m
    exact ih f' mf c (h' f' mf) (b' _ m)
  | qu w x f ih => intro c h b; exact ⟨h.1, h.2.1, ih c h.2.2 b⟩
  | bad n => intro c h b; trivial
/-! the calls -/
theorem need_formula_ok (f : F) (k : Nat) (g : Option GS) (h : f.ok) (hk : f.dep ≤ k) : run prog (k + 6) "need_formula" [f.d] g = match wkF f [] 1 0 with | .ok _ => .ok f.d g | .gr m => .ex (great m) g | .bad p => .ex (badF p) g := by
  have e := walked_ok f k [] 1 0 g h hk (by omega) (by simp)
  have e' : run prog (k + 5) "walked" [f.d, .tup [], .int 1, .int 0] g = (wkF f [] 1 0).rc g := e
  rw [run_eq fneed_formula rfl rfl]
  cases q : wkF f [] 1 0 <;> rw [q] at e' <;> simp [fneed_formula, start, e', WR.rc]
theorem driven_ok (f : F) : ∀ (k : Nat) (g : Option GS), f.nb = true → f.dep ≤ k → run prog (k + 1) "driven" [f.d] g = .ok (.bl (drv f)) g := by
  have leaf : ∀ (f : F) (k : Nat) (g : Option GS), f.nb = true → kids f = [] → 1 ≤ k → drv f = true → run prog (k + 1) "driven" [f.d] g = .ok (.bl (drv f)) g := by
    intro f k g hn hk h1 hd
    obtain ⟨j, rfl⟩ : ∃ j, k = j + 1 := ⟨k - 1, by omega⟩
    have e := inner_ok j f g (Or.inl hn)
    rw [hk] at e
    rw [run_eq fdriven rfl rfl, hd]
    cases f <;> simp [kids] at hk <;> simp [F.d, F.ds] at e <;> simp [fdriven, start, F.d, ix0, cmp2, eqD_str, e, seqD]
    · subst hk
      simp [F.ds] at e
      rename_i w
      cases w <;> simp [fdriven, start, F.d, F.ds, cw, ix0, cmp2, eqD_str, seqD] at * <;> simp [e, seqD]
    · simp [F.nb] at hn
  induction f using F.ind with
  | ge t => intro k g hn hk; exact leaf _ k g hn rfl (by simpa [F.dep] using hk) rfl
  | eq t => intro k g hn hk; exact leaf _ k g hn rfl (by simpa [F.dep] using hk) rfl
  | mod m t => intro k g hn hk; exact leaf _ k g hn rfl (by simpa [F.dep] using hk) rfl
  | bad n => intro k g hn; cases hn
  | not f ih =>
    intro k g hn hk
    rw [run_eq fdriven rfl rfl]
    cases f with
    | con w l => cases w <;> simp [fdriven, start, F.d, cw, ix0, ix1, cmp2, eqD_str, drv]
    | qu w x l => cases w <;> simp [fdriven, start, F.d, qw, ix0, ix1, cmp2, eqD_str, drv]
    | bad n => cases hn
    | _ => simp [fdriven, start, F.d, ix0, ix1, cmp2, eqD_str, drv]
  | qu w x f ih =>
    intro k g hn hk
    obtain ⟨j, rfl⟩ : ∃ j, k = j + 1 := ⟨k - 1, by simp [F.dep] at hk; omega⟩
    have e := inner_ok j (.qu w x f) g (Or.inl hn)
    have e2 := ih j g hn (by simp [F.dep] at hk; omega)
    simp only [kids, F.ds] at e
    rw [run_eq fdriven rfl rfl, drv]
    cases q : drv f <;> rw [q] at e2 <;> cases w <;> simp [F.d, qw] at e <;> simp [fdriven, start, F.d, qw, ix0, cmp2, eqD_str, e, seqD, walk_cons, e2]
  | con w l ih =>
    intro k g hn hk
    obtain ⟨j, rfl⟩ : ∃ j, k = j + 1 := ⟨k - 1, by simp [F.dep] at hk; omega⟩
    have e := inner_ok j (.con w l) g (Or.inl hn)
    simp only [kids] at e
    have wl : ∀ (l : List F) (o : Option DV), (∀ f ∈ l, run prog (j + 1) "driven" [f.d] g = .ok (.bl (drv f)) g) → ∃ o', walk (turn prog.fl prog.gl (run prog (j + 1)) (.one 1) [.ifs (.not (.call "driven" [(.var 1)])) [.ret (.bl false)] []]) (F.ds l) ⟨[some (.im (F.con w l).d), o], g⟩ = .ok (if drv.drvs l then .nx else .ret (.bl false)) ⟨[some (.im (F.con w l).d), o'], g⟩ := by
      intro l
      generalize (F.con w l).d = fd
      induction l with
      | nil => intro o _; exact ⟨o, rfl⟩
      | cons a r ih =>
        intro o h
        obtain ⟨o', ih⟩ := ih (some (.im a.d)) fun f m => h f (List.mem_cons_of_mem _ m)
        have ea := h a (List.mem_cons_self ..)
        rw [F.ds, walk_cons, drv.drvs]
        cases q : drv a with
        | false => rw [q] at ea; exact ⟨some (.im a.d), by simp [ea]⟩
        | true =>
          rw [q] at ea
          refine ⟨o', ?_⟩
          simp [ea]
          exact ih
    obtain ⟨o', e2⟩ := wl l none fun f m => ih f m j g ((nbs_iff _).mp hn f m) (by have := deps_mem m; simp only [F.dep] at hk; omega)
    rw [run_eq fdriven rfl rfl, drv]
    have c1 : (cw w == "not") = false := by cases w <;> rfl
    simp [F.d] at e e2
    simp [fdriven, start, F.d, ix0, cmp2, eqD_str, c1, e, seqD]
    rw [e2]
    cases q : drv.drvs l <;> simp
end Dl.K03
end
section
set_option Elab.async false
set_option autoImplicit false
set_option linter.all false
set_option maxRecDepth 10000
/-! FG: inward, negated, is_inward; the law's own parts. -/
namespace Dl.K03
open Dl
def nfR (f : F) (g : Option GS) : RC := match wkF f [] 1 0 with | .ok _ => .ok f.d g | .gr m => .ex (great m) g | .bad p => .ex (badF p) g
def inR (f : F) (c : Bool) (g : Option GS) : RC := if (iw f c).bnd = true then nfR (iw f c) g else .ex BX g
theorem good_wk {f : F} (hn : f.nb = true) (hd : f.dep ≤ 20) (hs : f.size ≤ 2000) : wkF f [] 1 0 = .ok (0 + f.size) := by
  rw [wk_deep f [] 1 0 hn (by omega) (by omega), if_pos (by omega)]
theorem inward_ok (f : F) (k : Nat) (g : Option GS) (h : f.ok) (hn : f.nb = true) (hd : f.dep ≤ 20) (hs : f.size ≤ 2000) (hk : f.dep + 1 ≤ k) : run prog (k + 7) "inward" [f.d] g = inR f false g := by
  have e1 := need_formula_ok f k g h (by omega)
  have e2 := driven_in_ok f (k + 3) false g h hn (by omega) (by omega)
  rw [good_wk hn hd hs] at e1
  simp only at e1
  rw [run_eq finward rfl rfl]
  simp only [drR] at e2
  simp only [inR]
  by_cases q : (iw f false).bnd = true
  · rw [if_pos q] at e2 ⊢
    have e3 := need_formula_ok (iw f false) k g (iw_ok f false h q) (Nat.le_trans (iw_dep f false) hk)
    rw [nfR]
    cases r : wkF (iw f false) [] 1 0 <;> rw [r] at e3 <;> simp [finward, start, e1, e2, e3]
  · rw [if_neg q] at e2 ⊢
    simp [finward, start, e1, e2]
theorem negated_ok (f : F) (k : Nat) (g : Option GS) (h : f.ok) (hn : f.nb = true) (hd : f.dep ≤ 20) (hs : f.size ≤ 2000) (hk : f.dep + 1 ≤ k) : run prog (k + 7) "negated" [f.d] g = inR f true g := by
  have e1 := need_formula_ok f k g h (by omega)
  have e2 := driven_in_ok f (k + 3) true g h hn (by omega) (by omega)
  rw [good_wk hn hd hs] at e1
  simp only at e1
  rw [run_eq fnegated rfl rfl]
  simp only [drR] at e2
  simp only [inR]
  by_cases q : (iw f true).bnd = true
  · rw [if_pos q] at e2 ⊢
    have e3 := need_formula_ok (iw f true) k g (iw_ok f true h q) (Nat.le_trans (iw_dep f true) hk)
    rw [nfR]
    cases r : wkF (iw f true) [] 1 0 <;> rw [r] at e3 <;> simp [fnegated, start, e1, e2, e3]
  · rw [if_neg q] at e2 ⊢
    simp [fnegated, start, e1, e2]
theorem is_inward_ok (f : F) (k : Nat) (g : Option GS) (h : f.ok) (hn : f.nb = true) (hd : f.dep ≤ 20) (hs : f.size ≤ 2000) (hk : f.dep ≤ k) : run prog (k + 7) "is_inward" [f.d] g = .ok (.bl (drv f)) g := by
  have e1 := need_formula_ok f k g h (by omega)
  have e2 := driven_ok f (k + 5) g hn (by omega)
  rw [good_wk hn hd hs] at e1
  simp only at e1
  rw [run_eq fis_inward rfl rfl]
  simp [fis_inward, start, e1, e2]
theorem bad_all (f : F) (k : Nat) (g : Option GS) (p : List Int) (h : f.ok) (hk : f.dep ≤ k) (hb : wkF f [] 1 0 = .bad p) :
    run prog (k + 7) "inward" [f.d] g = .ex (badF p) g ∧ run prog (k + 7) "negated" [f.d] g = .ex (badF p) g ∧ run prog (k + 7) "is_inward" [f.d] g = .ex (badF p) g := by
  have e1 := need_formula_ok f k g h hk
  rw [hb] at e1
  simp only at e1
  refine ⟨?_, ?_, ?_⟩
  · rw [run_eq finward rfl rfl]; simp [finward, start, e1]
  · rw [run_eq fnegated rfl rfl]; simp [fnegated, start, e1]
  · rw [run_eq fis_inward rfl rfl]; simp [fis_inward, start, e1]
/-! the law's own -/
def kd (f : F) : List (List Int × F) := match f with
  | .not f => [([1], f)]
  | .con _ l => l.zipIdx.map fun x => ([1, (x.2 : Int)], x.1)
  | .qu _ _ f => [([2], f)]
  | _ => []
def pair (x : List Int × F) : D := .tup [pt x.1, x.2.d]
theorem enumD_zip : ∀ (l : List F) (i : Nat), enumD i (F.ds l) = (l.zipIdx i).map fun x => D.tup [.int (x.2 : Nat), x.1.d]
  | [], i => rfl
  | f :: l, i => by rw [F.ds, enumD, enumD_zip l (i + 1), List.zipIdx_cons, List.map_cons]
theorem law_inside_ok (f : F) (k : Nat) (g : Option GS) (h : f.nb = true) (hs : f.size ≤ 100000) : run prog (k + 1) "_law_inside" [f.d] g = .ok (.lst ((kd f).map pair)) g := by
  rw [run_eq f_law_inside rfl rfl]
  cases f with
  | ge t => simp [f_law_inside, start, F.d, ix0, cmp2, inD2, eqD_str, kd]
  | eq t => simp [f_law_inside, start, F.d, ix0, cmp2, inD2, eqD_str, kd]
  | mod m t => simp [f_law_inside, start, F.d, ix0, cmp2, inD2, eqD_str, kd]
  | not f => simp [f_law_inside, start, F.d, ix0, ix1, cmp2, inD2, eqD_str, kd, pair, pt]
  | qu w x f => cases w <;> simp [f_law_inside, start, F.d, qw, ix0, ix2, cmp2, inD2, eqD_str, kd, pair, pt]
  | bad n => cases h
  | con w l =>
    have hl : l.length < SZ := by
      have : ∀ l : List F, l.length ≤ F.sizes l := fun l => by
        induction l with
        | nil => exact Nat.le_refl _
        | cons a l ih => rw [F.sizes, List.length_cons]; have := size_pos a; omega
      have := this l
      simp only [F.size] at hs
      have : SZ = 16777216 := rfl
      omega
    obtain ⟨s', e, eg⟩ := turns_mapA (f := evE prog.gl (run prog k) (.tup [(.tup [(.int 1), (.var 1)]), (.var 2)])) (c := evE prog.gl (run prog k) (.bl true)) (t := .many [1, 2]) (e0 := [some (.im (F.con w l).d), none, none])
      (fun x : F × Nat => D.tup [.int (x.2 : Nat), x.1.d]) (fun x => pair ([1, (x.2 : Int)], x.1)) (l.zipIdx 0) ⟨[some (.im (F.con w l).d), none, none], g⟩ (by
        intro x m
        refine ⟨⟨[some (.im (F.con w l).d), some (.im (.int (x.2 : Nat))), some (.im x.1.d)], g⟩, ⟨[some (.im (F.con w l).d), some (.im (.int (x.2 : Nat))), some (.im x.1.d)], g⟩, rfl, rfl, ?_, rfl⟩
        simp [pair, pt])
    have key : evE prog.gl (run prog k) (.lc (.tup [(.tup [(.int 1), (.var 1)]), (.var 2)]) (.many [1, 2]) [1, 2] (.iEnum (.ix (.bor 0) (.int 1))) (.bl true)) ⟨[some (.im (F.con w l).d), none, none], g⟩ = .ok (.lst ((kd (.con w l)).map pair)) ⟨[some (.im (F.con w l).d), none, none], g⟩ := by
      have ei : evI prog.gl (run prog k) (.iEnum (.ix (.bor 0) (.int 1))) ⟨[some (.im (F.con w l).d), none, none], g⟩ = .ok ((l.zipIdx 0).map fun x => D.tup [.int (x.2 : Nat), x.1.d]) ⟨[some (.im (F.con w l).d), none, none], g⟩ := by
        rw [← enumD_zip]
        simp [F.d, ix1, seqD]
      have hin : Dl.inner [1, 2] [some (DV.im (F.con w l).d), none, none] = [some (.im (F.con w l).d), none, none] := rfl
      rw [evE_lc, ei, nd_ok]
      simp only [hin]
      rw [e, lc_end (by simpa using hl) eg]
      simp [kd, List.map_map, Function.comp_def]
    have hi : inD (.str (cw w)) (.tup [.str "and", .str "or"]) = some true := by cases w <;> simp [inD2, cw]
    simp only [F.d] at key ⊢
    simp [f_law_inside, start, ix0, cmp2, hi, -evE_lc, key]
/-- the parts, a whole ahead of its parts -/
def partsN : Nat → F → List Int → List (List Int × F)
  | 0, f, q => [(q, f)]
  | n + 1, f, q => (q, f) :: (kd f).flatMap fun x => partsN n x.2 (q ++ x.1)
def parts (f : F) (q : List Int) : List (List Int × F) := partsN f.dep f q
theorem kd_mem {f : F} {x : List Int × F} (h : x ∈ kd f) : x.2.dep < f.dep ∧ x.2.size < f.size ∧ (f.nb = true → x.2.nb = true) ∧ (f.ok → x.2.ok) ∧ x.1.length ≤ 2 := by
  cases f with
  | not f => simp [kd] at h; subst h; exact ⟨by simp [F.dep], by simp [F.size], fun h => h, fun h => h, by simp⟩
  | qu w x f => simp [kd] at h; subst h; exact ⟨by simp [F.dep], by simp [F.size], fun h => h, fun h => h.2.2, by simp⟩
  | con w l =>
    simp only [kd, List.mem_map] at h
    obtain ⟨y, m, rfl⟩ := h
    have m' : y.1 ∈ l := by
      obtain ⟨a, b⟩ := y
      exact (List.mem_zipIdx' m).2 ▸ List.getElem_mem _
    have := deps_mem m'
    have := sizes_mem m'
    refine ⟨by simp only [F.dep]; omega, by simp only [F.size]; omega, fun h => (nbs_iff l).mp h _ m', fun h => (oks_iff l).mp h _ m', by simp⟩
  | _ => simp [kd] at h
theorem partsN_more : ∀ (n : Nat) (f : F) (q : List Int), f.dep ≤ n → partsN n f q = partsN (n + 1) f q
  | 0, f, q, h => by have := dep_pos f; omega
  | n + 1, f, q, h => by
    rw [partsN, partsN]
    congr 1
    have : ∀ l : List (List Int × F), (∀ x ∈ l, x.2.dep ≤ n) → (l.flatMap fun x => partsN n x.2 (q ++ x.1)) = l.flatMap fun x => partsN (n + 1) x.2 (q ++ x.1) := fun l => by
      induction l with
      | nil => intro _; rfl
      | cons a l ih =>
        intro hl
        rw [List.flatMap_cons, List.flatMap_cons, ih fun x m => hl x (List.mem_cons_of_mem _ m), partsN_more n a.2 (q ++ a.1) (hl a (List.mem_cons_self ..))]
    exact this _ fun x m => by have := (kd_mem m).1; omega
theorem partsN_eq (f : F) (q : List Int) : ∀ n, f.dep ≤ n → partsN n f q = parts f q := by
  intro n
  induction n with
  | zero => intro h; have := dep_pos f; omega
  | succ n ih =>
    intro h
    by_cases e : f.dep = n + 1
    · rw [parts, e]
    · rw [← partsN_more n f q (by omega)]
      exact ih (by omega)
theorem parts_eq (f : F) (q : List Int) : parts f q = (q, f) :: (kd f).flatMap fun x => parts x.2 (q ++ x.1) := by
  have hp := dep_pos f
  obtain ⟨n, e⟩ : ∃ n, f.dep = n + 1 := ⟨f.dep - 1, by omega⟩
  rw [parts, e, partsN]
  congr 1
  have : ∀ l : List (List Int × F), (∀ x ∈ l, x.2.dep ≤ n) → (l.flatMap fun x => partsN n x.2 (q ++ x.1)) = l.flatMap fun x => parts x.2 (q ++ x.1) := fun l => by
    induction l with
    | nil => intro _; rfl
    | cons a l ih =>
      intro hl
      rw [List.flatMap_cons, List.flatMap_cons, ih fun x m => hl x (List.mem_cons_of_mem _ m), partsN_eq a.2 (q ++ a.1) n (hl a (List.mem_cons_self ..))]
  exact this _ fun x m => by have := (kd_mem m).1; omega
theorem ind_kd {P : F → Prop} (h : ∀ f, (∀ x ∈ kd f, P x.2) → P f) : ∀ f, P f := by
  have : ∀ n f, f.dep ≤ n → P f := by
    intro n
    induction n with
    | zero => intro f hf; have := dep_pos f; omega
    | succ n ih => intro f hf; exact h f fun x m => ih x.2 (by have := (kd_mem m).1; omega)
  exact fun f => this f.dep f (Nat.le_refl _)
theorem parts_len (f : F) : ∀ q, (parts f q).length = f.size := by
  have zi : ∀ (l : List F) (i : Nat) (q : List Int), (∀ f ∈ l, ∀ q, (parts f q).length = f.size) → (((l.zipIdx i).map fun x => ([1, (x.2 : Int)], x.1)).flatMap fun x => parts x.2 (q ++ x.1)).length = F.sizes l := by
    intro l
    induction l with
    | nil => intro i q _; rfl
    | cons a l ih =>
      intro i q h
      rw [List.zipIdx_cons, List.map_cons, List.flatMap_cons, List.length_append, ih (i + 1) q fun f m => h f (List.mem_cons_of_mem _ m), h a (List.mem_cons_self ..), F.sizes]
  induction f using F.ind with
  | not f ih => intro q; rw [parts_eq]; simp [kd, ih, F.size]
  | qu w x f ih => intro q; rw [parts_eq]; simp [kd, ih, F.size]
  | con w l ih => intro q; rw [parts_eq, List.length_cons, kd, zi l 0 q ih]; rfl
  | _ => intro q; rw [parts_eq]; simp [kd, F.size]
theorem law_parts_ok (f : F) : ∀ (k : Nat) (q : List Int) (g : Option GS), f.nb = true → f.size ≤ 100000 → f.dep ≤ k → q.length + 2 * f.dep ≤ 900 → run prog (k + 1) "_law_parts" [f.d, pt q] g = .ok (.lst ((parts f q).map pair)) g := by
  induction f using ind_kd with
  | h f ih =>
    intro k q g hn hs hk hq
    obtain ⟨j, rfl⟩ : ∃ j, k = j + 1 := ⟨k - 1, by have := dep_pos f; omega⟩
    have e := law_inside_ok f j g hn hs
    have wl : ∀ (l : List (List Int × F)) (acc : List D) (o3 o4 : Option DV), (∀ x ∈ l, x ∈ kd f) → acc.length + (l.flatMap fun x => parts x.2 (q ++ x.1)).length ≤ 100000 →
       ∃ a3 a4, walk (turn prog.fl prog.gl (run prog (j + 1)) (.many [3, 4]) [.set 2 (.bin .add (.bor 2) (.call "_law_parts" [(.var 4), (.bin .add (.bor 1) (.bor 3))]))]) (l.map pair) ⟨[some (.im f.d), some (.im (pt q)), some (.im (.lst acc)), o3, o4], g⟩ = .ok .nx ⟨[some (.im f.d), some (.im (pt q)), some (.im (.lst (acc ++ (l.flatMap fun x => parts x.2 (q ++ x.1)).map pair))), a3, a4], g⟩ := by
      intro l
      induction l with
      | nil => intro acc o3 o4 _ _; exact ⟨o3, o4, by simp⟩
      | cons x l ihl =>
        intro acc o3 o4 hm hl
        have mx := hm x (List.mem_cons_self ..)
        obtain ⟨k1, k2, k3, k4, k5⟩ := kd_mem mx
        have e1 := ih x mx j (q ++ x.1) g (k3 hn) (by omega) (by omega) (by simp; omega)
        have e2 := addP q x.1 (by omega)
        rw [List.flatMap_cons, List.length_append] at hl
        have e3 : addD (.lst acc) (.lst ((parts x.2 (q ++ x.1)).map pair)) = some (.lst (acc ++ (parts x.2 (q ++ x.1)).map pair)) := by
          unfold addD
          exact if_pos (by rw [List.length_map]; have : SZ = 16777216 := rfl; omega)
        obtain ⟨a3, a4, ihl⟩ := ihl (acc ++ (parts x.2 (q ++ x.1)).map pair) (some (.im (pt x.1))) (some (.im x.2.d)) (fun y m => hm y (List.mem_cons_of_mem _ m)) (by rw [List.length_append, List.length_map]; omega)
        refine ⟨a3, a4, ?_⟩
        rw [List.map_cons, walk_cons, pair]
        simp [op2, e1, e2, e3]
        rw [ihl]
        simp
    have hl : ((kd f).flatMap fun x => parts x.2 (q ++ x.1)).length + 1 = f.size := by
      have := parts_len f q
      rw [parts_eq, List.length_cons] at this
      exact this
    obtain ⟨a3, a4, e2⟩ := wl (kd f) [pair (q, f)] none none (fun _ m => m) (by simp only [List.length_cons, List.length_nil]; omega)
    rw [run_eq f_law_parts rfl rfl, parts_eq]
    simp only [pair] at e2
    simp [f_law_parts, start, e, seqD]
    rw [e2]
    simp [pair]
theorem deep_max (f : F) : f.dep = (kd f).foldl (fun a x => max a x.2.dep) 0 + 1 := by
  cases f with
  | con w l =>
    have : ∀ (l : List F) (i a : Nat), ((l.zipIdx i).map fun x => (([1, (x.2 : Int)] : List Int), x.1)).foldl (fun a x => max a x.2.dep) a = max a (F.deps l) := by
      intro l
      induction l with
      | nil => intro i a; simp [F.deps]
      | cons b l ih => intro i a; rw [List.zipIdx_cons, List.map_cons, List.foldl_cons, ih, F.deps]; show max (max a b.dep) (F.deps l) = max a (max b.dep (F.deps l)); omega
    rw [kd, this, F.dep]
    omega
  | _ => simp [F.dep, kd]
theorem law_deep_ok (f : F) : ∀ (k : Nat) (g : Option GS), f.nb = true → f.size ≤ 100000 → f.dep ≤ k → run prog (k + 1) "_law_deep" [f.d] g = .ok (.int (f.dep : Nat)) g := by
  induction f using ind_kd with
  | h f ih =>
    intro k g hn hs hk
    obtain ⟨j, rfl⟩ : ∃ j, k = j + 1 := ⟨k - 1, by have := dep_pos f; omega⟩
    have e := law_inside_ok f j g hn hs
    have wl : ∀ (l : List (List Int × F)) (a : Nat) (o3 o4 : Option DV), (∀ x ∈ l, x ∈ kd f) →
       ∃ a3 a4, walk (turn prog.fl prog.gl (run prog (j + 1)) (.many [2, 3]) [.set 1 (.b2 .max (.var 1) (.call "_law_deep" [(.var 3)]))]) (l.map pair) ⟨[some (.im f.d), some (.im (.int (a : Nat))), o3, o4], g⟩ = .ok .nx ⟨[some (.im f.d), some (.im (.int ((l.foldl (fun a x => max a x.2.dep) a : Nat) : Int))), a3, a4], g⟩ := by
      intro l
      induction l with
      | nil => intro a o3 o4 _; exact ⟨o3, o4, rfl⟩
      | cons x l ihl =>
        intro a o3 o4 hm
        have mx := hm x (List.mem_cons_self ..)
        obtain ⟨k1, k2, k3, k4, k5⟩ := kd_mem mx
        have e1 := ih x mx j g (k3 hn) (by omega) (by omega)
        obtain ⟨mm, hmm⟩ : ∃ mm : Nat, mm = max a x.2.dep := ⟨_, rfl⟩
        have e3 : blt2 .max (.int (a : Nat)) (.int (x.2.dep : Nat)) = some (.int (mm : Nat)) := by
          simp only [blt2]
          congr 2
          split <;> omega
        have hf : (x :: l).foldl (fun a (x : List Int × F) => max a x.2.dep) a = l.foldl (fun a x => max a x.2.dep) mm := by rw [hmm]; rfl
        obtain ⟨a3, a4, ihl⟩ := ihl mm (some (.im (pt x.1))) (some (.im x.2.d)) (fun y m => hm y (List.mem_cons_of_mem _ m))
        refine ⟨a3, a4, ?_⟩
        rw [hf, List.map_cons, walk_cons, pair]
        generalize l.foldl (fun a (x : List Int × F) => max a x.2.dep) mm = r at ihl ⊢
        simp [e1, e3]
        exact ihl
    obtain ⟨a3, a4, e2⟩ := wl (kd f) 0 none none (fun _ m => m)
    rw [run_eq f_law_deep rfl rfl]
    conv => rhs; rw [deep_max f]
    simp at e2
    simp [f_law_deep, start, e, seqD]
    rw [e2]
    simp [op2, addD]
end Dl.K03
end
section
set_option Elab.async false
set_option autoImplicit false
set_option linter.all false
set_option maxRecDepth 10000
/-! FH: a part put in. -/
namespace Dl.K03
open Dl
inductive Sub : F → List Int → F → F → F → Prop
  | here (f x : F) : Sub f [] f x x
  | not {f g x f' : F} {p : List Int} : Sub f p g x f' → Sub (.not f) (1 :: p) g x (.not f')
  | qu {w : Bool} {v : Int} {f g x f' : F} {p : List Int} : Sub f p g x f' → Sub (.qu w v f) (2 :: p) g x (.qu w v f')
  | con {w : Bool} {l : List F} {i : Nat} {g x f' : F} {p : List Int} (h : i < l.length) : Sub l[i] p g x f' → Sub (.con w l) (1 :: (i : Int) :: p) g x (.con w (l.set i f'))
theorem parts_sub (f : F) : ∀ (q r : List Int) (g : F), (r, g) ∈ parts f q → ∃ p, r = q ++ p ∧ ∀ x, ∃ f', Sub f p g x f' := by
  induction f using F.ind with
  | not f ih =>
    intro q r g h
    rw [parts_eq] at h
    simp [kd] at h
    rcases h with ⟨rfl, rfl⟩ | h
    · exact ⟨[], by simp, fun x => ⟨x, .here _ x⟩⟩
    · obtain ⟨p, rfl, hp⟩ := ih _ r g h
      exact ⟨1 :: p, by simp, fun x => let ⟨f', s⟩ := hp x; ⟨_, .not s⟩⟩
  | qu w v f ih =>
    intro q r g h
    rw [parts_eq] at h
    simp [kd] at h
    rcases h with ⟨rfl, rfl⟩ | h
    · exact ⟨[], by simp, fun x => ⟨x, .here _ x⟩⟩
    · obtain ⟨p, rfl, hp⟩ := ih _ r g h
      exact ⟨2 :: p, by simp, fun x => let ⟨f', s⟩ := hp x; ⟨_, .qu s⟩⟩
  | con w l ih =>
    intro q r g h
    rw [parts_eq, List.mem_cons] at h
    rcases h with h | h
    · cases h
      exact ⟨[], by simp, fun x => ⟨x, .here _ x⟩⟩
    · rw [List.mem_flatMap] at h
      obtain ⟨y, my, hy⟩ := h
      simp only [kd, List.mem_map] at my
      obtain ⟨z, mz, rfl⟩ := my
      obtain ⟨a, i⟩ := z
      obtain ⟨hi, ea⟩ := List.mem_zipIdx' mz
      simp only at hy
      obtain ⟨p, rfl, hp⟩ := ih a (ea ▸ List.getElem_mem _) _ r g hy
      refine ⟨1 :: (i : Int) :: p, by simp, fun x => ?_⟩
      obtain ⟨f', s⟩ := hp x
      rw [ea] at s
      exact ⟨_, .con hi s⟩
  | _ =>
    intro q r g h
    rw [parts_eq] at h
    simp [kd] at h
    obtain ⟨rfl, rfl⟩ := h
    exact ⟨[], by simp, fun x => ⟨x, .here _ x⟩⟩
theorem sub_ok {f g x f' : F} {p : List Int} (s : Sub f p g x f') : f.ok → x.ok → f'.ok := by
  induction s with
  | here f x => exact fun _ h => h
  | not s ih => exact ih
  | qu s ih => exact fun h hx => ⟨h.1, h.2.1, ih h.2.2 hx⟩
  | con hi s ih =>
    intro h hx
    have h' := (oks_iff _).mp h
    refine (oks_iff _).mpr fun a m => ?_
    rcases List.mem_or_eq_of_mem_set m with m | rfl
    · exact h' a m
    · exact ih (h' _ (List.getElem_mem _)) hx
theorem sub_nb {f g x f' : F} {p : List Int} (s : Sub f p g x f') : f.nb = true → x.nb = true → f'.nb = true := by
  induction s with
  | here f x => exact fun _ h => h
  | not s ih => exact ih
  | qu s ih => exact ih
  | con hi s ih =>
    intro h hx
    have h' := (nbs_iff _).mp h
    refine (nbs_iff _).mpr fun a m => ?_
    rcases List.mem_or_eq_of_mem_set m with m | rfl
    · exact h' a m
    · exact ih (h' _ (List.getElem_mem _)) hx
theorem deps_set : ∀ (l : List F) (i : Nat) (f : F) (h : i < l.length), f.dep ≤ (l[i]).dep → F.deps (l.set i f) ≤ F.deps l
  | a :: l, 0, f, h, e => by
    simp only [List.set_cons_zero, F.deps]
    have e' : f.dep ≤ a.dep := e
    omega
  | a :: l, i + 1, f, h, e => by
    simp only [List.set_cons_succ, F.deps]
    have := deps_set l i f (by simpa using h) e
    omega
theorem sizes_set : ∀ (l : List F) (i : Nat) (f : F) (h : i < l.length), f.size ≤ (l[i]).size → F.sizes (l.set i f) ≤ F.sizes l
  | a :: l, 0, f, h, e => by
    simp only [List.set_cons_zero, F.sizes]
    have e' : f.size ≤ a.size := e
    omega
  | a :: l, i + 1, f, h, e => by
    simp only [List.set_cons_succ, F.sizes]
    have := sizes_set l i f (by simpa using h) e
    omega
theorem sub_dep {f g x f' : F} {p : List Int} (s : Sub f p g x f') : x.dep = 1 → f'.dep ≤ f.dep := by
  induction s with
  | here f x => exact fun h => by have := dep_pos f; omega
  | not s ih => exact fun h => by have := ih h; simp only [F.dep]; omega
  | qu s ih => exact fun h => by have := ih h; simp only [F.dep]; omega
  | con hi s ih => exact fun h => by have := deps_set _ _ _ hi (ih h); simp only [F.dep]; omega
theorem sub_size {f g x f' : F} {p : List Int} (s : Sub f p g x f') : x.size = 1 → f'.size ≤ f.size := by
  induction s with
  | here f x => exact fun h => by have := size_pos f; omega
  | not s ih => exact fun h => by have := ih h; simp only [F.size]; omega
  | qu s ih => exact fun h => by have := ih h; simp only [F.size]; omega
  | con hi s ih => exact fun h => by have := sizes_set _ _ _ hi (ih h); simp only [F.size]; omega
theorem len_sizes (l : List F) : l.length ≤ F.sizes l := by
  induction l with
  | nil => exact Nat.le_refl _
  | cons a l ih => rw [F.sizes, List.length_cons]; have := size_pos a; omega
theorem sub_path {f g x f' : F} {p : List Int} (s : Sub f p g x f') : p.length ≤ 2 * f.dep ∧ ∀ a ∈ p, 0 ≤ a ∧ a ≤ 2 + f.size := by
  induction s with
  | here f x => exact ⟨by simp, fun a m => by cases m⟩
  | not s ih =>
    refine ⟨by simp only [List.length_cons, F.dep]; omega, fun a m => ?_⟩
    simp only [F.size]
    cases m with
    | head => omega
    | tail _ m => have := ih.2 a m; omega
  | qu s ih =>
    refine ⟨by simp only [List.length_cons, F.dep]; omega, fun a m => ?_⟩
    simp only [F.size]
    cases m with
    | head => omega
    | tail _ m => have := ih.2 a m; omega
  | @con w l i g x f' p hi s ih =>
    have h1 := deps_mem (List.getElem_mem hi)
    have h2 := sizes_mem (List.getElem_mem hi)
    have h3 := len_sizes l
    refine ⟨by simp only [List.length_cons, F.dep]; omega, fun a m => ?_⟩
    simp only [F.size]
    simp only [List.mem_cons] at m
    rcases m with rfl | rfl | m
    · omega
    · omega
    · have := ih.2 a m; omega
theorem wkL_set (q r : List Int) (f' : F) : ∀ (l : List F) (i j d m : Nat), F.nbs l = true → i < l.length → d + F.deps (l.set i f') ≤ 21 → m + F.sizes (l.set i f') ≤ 2000 →
    (∀ m, m + f'.size ≤ 2000 → wkF f' (q ++ [1, ((j + i : Nat) : Int)]) d m = .bad r) → wkL (l.set i f') q j d m = .bad r
  | a :: l, 0, j, d, m, hn, hi, hd, hs, h => by
    simp only [List.set_cons_zero, F.deps, F.sizes] at *
    have h0 := h m (by omega)
    rw [Nat.add_zero] at h0
    rw [wkL, h0]
    rfl
  | a :: l, i + 1, j, d, m, hn, hi, hd, hs, h => by
    simp only [List.set_cons_succ, F.deps, F.sizes, F.nbs, Bool.and_eq_true] at *
    rw [wkL, wk_deep a _ d m hn.1 (by omega) (by omega), if_pos (by omega), WR.bind_ok]
    exact wkL_set q r f' l i (j + 1) d _ hn.2 (by simpa using hi) (by omega) (by omega) fun m hm => by
      rw [show (j + 1 + i) = j + (i + 1) from by omega]
      exact h m hm
theorem sub_bad {f g x f' : F} {p : List Int} (s : Sub f p g x f') : ∀ (n d m : Nat) (q : List Int), x = .bad n → f.nb = true → d + f'.dep ≤ 21 → m + f'.size ≤ 2000 → wkF f' q d m = .bad (q ++ p) := by
  induction s with
  | here f x =>
    intro n d m q hx hn hd hs
    subst hx
    simp only [F.dep, F.size] at hd hs
    rw [wkF, if_neg (by omega), if_neg (by omega), List.append_nil]
  | not s ih =>
    intro n d m q hx hn hd hs
    simp only [F.dep, F.size] at hd hs
    rw [wkF, if_neg (by omega), if_neg (by omega), ih n (d + 1) (m + 1) (q ++ [1]) hx hn (by omega) (by omega)]
    simp
  | qu s ih =>
    intro n d m q hx hn hd hs
    simp only [F.dep, F.size] at hd hs
    rw [wkF, if_neg (by omega), if_neg (by omega), ih n (d + 1) (m + 1) (q ++ [2]) hx hn (by omega) (by omega)]
    simp
  | @con w l i g x f' p hi s ih =>
    intro n d m q hx hn hd hs
    simp only [F.dep, F.size] at hd hs
    have hm : f' ∈ l.set i f' := by
      rw [List.mem_iff_getElem]
      exact ⟨i, by simpa using hi, by simp⟩
    have h1 := deps_mem hm
    have h2 := sizes_mem hm
    rw [wkF, if_neg (by omega), if_neg (by omega)]
    refine wkL_set q _ f' l i 0 (d + 1) (m + 1) hn hi (by omega) (by omega) fun m' hm' => ?_
    rw [ih n (d + 1) m' _ hx ((nbs_iff _).mp hn _ (List.getElem_mem _)) (by omega) hm']
    simp
theorem eq_nil (p : List Int) : eqD (pt p) (.tup []) = some p.isEmpty := by
  have : D.deps (p.map D.int) ≤ 0 := deps_le fun d m => by
    obtain ⟨i, _, rfl⟩ := List.mem_map.mp m
    exact Nat.le_refl _
  have hs : (pt p).shp = true := by
    unfold D.shp pt
    rw [D.dep]
    exact decide_eq_true (by omega)
  unfold eqD
  rw [hs]
  show some (D.eqv (pt p) (.tup [])) = _
  rw [pt, D.eqv, eqvs_nil]
  cases p <;> rfl
theorem pt_0 (a : Int) (p : List Int) : ixD (pt (a :: p)) (.int 0) = some (.int a) := rfl
theorem pt_1 (a b : Int) (p : List Int) : ixD (pt (a :: b :: p)) (.int 1) = some (.int b) := rfl
theorem cut1 (a : Int) (p : List Int) : slD (pt (a :: p)) (some 1) none = some (pt p) := by
  simp only [slD, pt, cut, bnd, List.map_cons, List.length_cons]
  simp
  have : p.length = (p.map D.int).length := by simp
  rw [this, List.take_length]
theorem cut2 (a b : Int) (p : List Int) : slD (pt (a :: b :: p)) (some 2) none = some (pt p) := by
  simp only [slD, pt, cut, bnd, List.map_cons, List.length_cons]
  simp
  have : p.length = (p.map D.int).length := by simp
  rw [this, List.take_length]
theorem sub_put {f g x f' : F} {p : List Int} (s : Sub f p g x f') : ∀ (k : Nat) (gs : Option GS), f.dep ≤ k → f.size ≤ 100000 → run prog (k + 1) "_law_put_at" [f.d, pt p, x.d] gs = .ok f'.d gs := by
  induction s with
  | here f x =>
    intro k gs hk hs
    rw [run_eq f_law_put_at rfl rfl]
    simp [f_law_put_at, start, cmp2, eq_nil]
  | @not f g x f' p s ih =>
    intro k gs hk hs
    obtain ⟨j, rfl⟩ : ∃ j, k = j + 1 := ⟨k - 1, by simp [F.dep] at hk; omega⟩
    have e := ih j gs (by simp [F.dep] at hk; omega) (by simp [F.size] at hs; omega)
    rw [run_eq f_law_put_at rfl rfl]
    have c : ∀ a b : D, slD (.tup [a, b]) none (some 1) = some (.tup [a]) := fun a b => rfl
    simp [f_law_put_at, start, cmp2, eq_nil, F.d, ix0, ix1, inD2, pt_0, partOf, c, cut1, e, op2, addD, SZ]
  | @qu w v f g x f' p s ih =>
    intro k gs hk hs
    obtain ⟨j, rfl⟩ : ∃ j, k = j + 1 := ⟨k - 1, by simp [F.dep] at hk; omega⟩
    have e := ih j gs (by simp [F.dep] at hk; omega) (by simp [F.size] at hs; omega)
    rw [run_eq f_law_put_at rfl rfl]
    have c : ∀ a b d : D, slD (.tup [a, b, d]) none (some 2) = some (.tup [a, b]) := fun a b d => rfl
    cases w <;> simp [f_law_put_at, start, cmp2, eq_nil, F.d, qw, ix0, ix2, inD2, pt_0, partOf, c, cut1, e, op2, addD, SZ]
  | @con w l i g x f' p hi s ih =>
    intro k gs hk hs
    obtain ⟨j, rfl⟩ : ∃ j, k = j + 1 := ⟨k - 1, by simp [F.dep] at hk; omega⟩
    have h1 := deps_mem (List.getElem_mem hi)
    have h2 := sizes_mem (List.getElem_mem hi)
    have e := ih j gs (by simp [F.dep] at hk; omega) (by simp [F.size] at hs; omega)
    have hi' : i < (F.ds l).length := by rw [ds_len]; exact hi
    have e2 : ixD (.lst (F.ds l)) (.int (i : Nat)) = some (l[i]).d := by
      show atD (F.ds l) (i : Int) = _
      rw [atD_nat, ds_map, List.getElem?_map, List.getElem?_eq_getElem hi]
      rfl
    have e3 : setAt (F.ds l) (i : Int) f'.d = some (F.ds (l.set i f')) := by
      unfold setAt
      rw [if_pos (by omega), if_pos (by omega)]
      rw [ds_map, ds_map, List.map_set]
      simp
    have hin : inD (.str (cw w)) (.tup [.str "and", .str "or"]) = some true := by cases w <;> simp [inD2, cw]
    rw [run_eq f_law_put_at rfl rfl]
    simp [f_law_put_at, start, cmp2, eq_nil, F.d, ix0, ix1, hin, pt_1, partOf, cut2, blt1, seqD, e2, e]
    rw [sxS_ok _ e3]
    simp [blt1, seqD, ix0]
end Dl.K03
end
section
set_option Elab.async false
set_option autoImplicit false
set_option linter.all false
set_option maxRecDepth 10000
/-! FI: the law's rule, what is due, what is caught. -/
namespace Dl
variable {fl : Flds} {gl : String → Option D} {call : String → List D → Option GS → RC}
/-- a walk that ends at the first item for which p does not hold -/
theorem walk_boolA {α : Type} {f : D → S → R Fl} (dd : α → D) (p : α → Bool) (v : D) (J : S → Prop) : ∀ (l : List α) (s : S), J s →
   (∀ x s, x ∈ l → J s → ∃ s', f (dd x) s = .ok (if p x = true then .nx else .ret v) s' ∧ J s') →
   ∃ s', walk f (l.map dd) s = .ok (if l.all p = true then .nx else .ret v) s' ∧ J s'
  | [], s, h, _ => ⟨s, rfl, h⟩
  | d :: l, s, h, st => by
    obtain ⟨s1, e1, h1⟩ := st d s (List.mem_cons_self ..) h
    cases hp : p d with
    | false =>
      rw [hp] at e1
      exact ⟨s1, by rw [List.map_cons, walk, e1, List.all_cons, hp]; rfl, h1⟩
    | true =>
      rw [hp] at e1
      obtain ⟨s2, e2, h2⟩ := walk_boolA dd p v J l s1 h1 fun d s m => st d s (List.mem_cons_of_mem _ m)
      exact ⟨s2, by rw [List.map_cons, walk, e1, List.all_cons, hp, Bool.true_and]; exact e2, h2⟩
end Dl
namespace Dl.K03
open Dl
theorem pd_map (ps : List (Int × Int)) : pD ps = ps.map fun p => D.tup [.int p.1, .int p.2] := rfl
theorem law_minus_ok (k : Nat) (t : Tm) (more : Int) (g : Option GS) (h : t.ok) : run prog (k + 1) "_law_minus" [t.d, .int more] g = .ok (ng t more).d g := by
  obtain ⟨s', e, eg⟩ := turns_mapA (f := evE prog.gl (run prog k) (.tup [(.var 2), (.neg (.var 3))])) (c := evE prog.gl (run prog k) (.bl true)) (t := .many [2, 3]) (e0 := [some (.im t.d), some (.im (.int more)), none, none])
      (fun p : Int × Int => D.tup [.int p.1, .int p.2]) (fun p => D.tup [.int p.1, .int (-p.2)]) t.ps ⟨[some (.im t.d), some (.im (.int more)), none, none], g⟩ (by
        intro x m
        refine ⟨⟨[some (.im t.d), some (.im (.int more)), some (.im (.int x.1)), some (.im (.int x.2))], g⟩, ⟨[some (.im t.d), some (.im (.int more)), some (.im (.int x.1)), some (.im (.int x.2))], g⟩, rfl, rfl, ?_, rfl⟩
        simp)
  have hl := pok_len (by omega) (by omega) h.ps
  have key : evE prog.gl (run prog k) (.lc (.tup [(.var 2), (.neg (.var 3))]) (.many [2, 3]) [2, 3] (.iSeq (.ix (.bor 0) (.int 1))) (.bl true)) ⟨[some (.im t.d), some (.im (.int more)), none, none], g⟩ = .ok (.lst (pD (ngp t.ps))) ⟨[some (.im t.d), some (.im (.int more)), none, none], g⟩ := by
    have ei : evI prog.gl (run prog k) (.iSeq (.ix (.bor 0) (.int 1))) ⟨[some (.im t.d), some (.im (.int more)), none, none], g⟩ = .ok (pD t.ps) ⟨[some (.im t.d), some (.im (.int more)), none, none], g⟩ := by
      simp [Tm.d, ix1, seqD]
    have hin : Dl.inner [2, 3] [some (DV.im t.d), some (.im (.int more)), none, none] = [some (.im t.d), some (.im (.int more)), none, none] := rfl
    rw [evE_lc, ei, nd_ok]
    simp only [hin, pd_map]
    rw [e, lc_end (by rw [List.length_map]; have : SZ = 16777216 := rfl; omega) eg]
    simp [ngp]
  rw [run_eq f_law_minus rfl rfl]
  simp only [Tm.d] at key ⊢
  simp [f_law_minus, start, ix0, op2, subD, -evE_lc, key, blt1, seqD, ng]
theorem lk2 (a b c d : String) (k : String) : List.lookup k [(a, b), (c, d)] = if k == a then some b else if k == c then some d else none := by
  simp [List.lookup]
  split <;> simp_all
  split <;> simp_all
theorem law_inward_ok (f : F) : ∀ (k : Nat) (c : Bool) (g : Option GS), f.ok → f.nb = true → f.dep ≤ k → f.size ≤ 100000 → run prog (k + 1) "_law_inward" [f.d, .bl c] g = .ok (iw f c).d g := by
  induction f using F.ind with
  | ge t =>
    intro k c g h _ hk _
    obtain ⟨j, rfl⟩ : ∃ j, k = j + 1 := ⟨k - 1, by simp [F.dep] at hk; omega⟩
    have e := law_minus_ok j t (-1) g h
    rw [run_eq f_law_inward rfl rfl]
    cases c <;> simp [f_law_inward, start, F.d, ix0, ix1, cmp2, inD2, eqD_str, iw, e]
  | eq t =>
    intro k c g h _ hk _
    obtain ⟨j, rfl⟩ : ∃ j, k = j + 1 := ⟨k - 1, by simp [F.dep] at hk; omega⟩
    have e := law_minus_ok j t (-1) g h
    have t0 : ixD t.d (.int 0) = some (.int t.c) := rfl
    have t1 : ixD t.d (.int 1) = some (.tup (pD t.ps)) := rfl
    rw [run_eq f_law_inward rfl rfl]
    cases c <;> simp [f_law_inward, start, F.d, F.ds, cw, ix0, ix1, cmp2, inD2, eqD_str, iw, e, t0, t1, op2, subD]
    simp [Tm.d]
  | mod m t =>
    intro k c g h _ hk _
    rw [run_eq f_law_inward rfl rfl]
    cases c <;> simp [f_law_inward, start, F.d, ix0, ix1, cmp2, inD2, eqD_str, iw]
  | not f ih =>
    intro k c g h hn hk hs
    obtain ⟨j, rfl⟩ : ∃ j, k = j + 1 := ⟨k - 1, by simp [F.dep] at hk; omega⟩
    have e := ih j (!c) g h hn (by simp [F.dep] at hk; omega) (by simp [F.size] at hs; omega)
    rw [run_eq f_law_inward rfl rfl]
    simp [f_law_inward, start, F.d, ix0, ix1, cmp2, eqD_str, e, iw]
  | bad n =>
    intro k c g h hn
    cases hn
  | qu w x f ih =>
    intro k c g h hn hk hs
    obtain ⟨j, rfl⟩ : ∃ j, k = j + 1 := ⟨k - 1, by simp [F.dep] at hk; omega⟩
    have e := ih j c g h.2.2 hn (by simp [F.dep] at hk; omega) (by simp [F.size] at hs; omega)
    rw [run_eq f_law_inward rfl rfl]
    cases c <;> cases w <;> simp [f_law_inward, start, F.d, qw, ix0, ix1, ix2, cmp2, inD2, eqD_str, e, iw, lk2]
  | con w l ih =>
    intro k c g h hn hk hs
    obtain ⟨j, rfl⟩ : ∃ j, k = j + 1 := ⟨k - 1, by simp [F.dep] at hk; omega⟩
    have hl := len_sizes l
    have hl2 : l.length < SZ := by
      simp only [F.size] at hs
      have : SZ = 16777216 := rfl
      omega
    have tn : ∀ o : D, _ := fun o => turns_mapA (f := evE prog.gl (run prog (j + 1)) (.call "_law_inward" [(.var 4), (.var 1)])) (c := evE prog.gl (run prog (j + 1)) (.bl true)) (t := .one 4) (e0 := [some (.im (F.con w l).d), some (.im (.bl c)), some (.im o), none, none])
      F.d (fun f => (iw f c).d) l ⟨[some (.im (F.con w l).d), some (.im (.bl c)), some (.im o), none, none], g⟩ (by
        intro f m
        have e := ih f m j c g ((oks_iff _).mp h f m) ((nbs_iff _).mp hn f m) (by have := deps_mem m; simp only [F.dep] at hk; omega) (by have := sizes_mem m; simp only [F.size] at hs; omega)
        refine ⟨⟨[some (.im (F.con w l).d), some (.im (.bl c)), some (.im o), none, some (.im f.d)], g⟩, ⟨[some (.im (F.con w l).d), some (.im (.bl c)), some (.im o), none, some (.im f.d)], g⟩, rfl, rfl, ?_, rfl⟩
        simp [e])
    have key : ∀ o : D, evE prog.gl (run prog (j + 1)) (.lc (.call "_law_inward" [(.var 4), (.var 1)]) (.one 4) [4] (.iSeq (.ix (.bor 0) (.int 1))) (.bl true)) ⟨[some (.im (F.con w l).d), some (.im (.bl c)), some (.im o), none, none], g⟩ = .ok (.lst (F.ds (iws l c))) ⟨[some (.im (F.con w l).d), some (.im (.bl c)), some (.im o), none, none], g⟩ := by
      intro o
      obtain ⟨s', e, eg⟩ := tn o
      have ei : evI prog.gl (run prog (j + 1)) (.iSeq (.ix (.bor 0) (.int 1))) ⟨[some (.im (F.con w l).d), some (.im (.bl c)), some (.im o), none, none], g⟩ = .ok (l.map F.d) ⟨[some (.im (F.con w l).d), some (.im (.bl c)), some (.im o), none, none], g⟩ := by
        simp [F.d, ix1, seqD, ds_map]
      have hin : Dl.inner [4] [some (DV.im (F.con w l).d), some (.im (.bl c)), some (.im o), none, none] = [some (.im (F.con w l).d), some (.im (.bl c)), some (.im o), none, none] := rfl
      rw [evE_lc, ei, nd_ok]
      simp only [hin]
      rw [e, lc_end (by rw [List.length_map]; exact hl2) eg]
      simp [ds_map, iws_map]
    rw [run_eq f_law_inward rfl rfl]
    simp only [F.d] at key ⊢
    cases c <;> cases w <;> simp only [cw, if_true, Bool.false_eq_true, if_false] at key <;> simp [f_law_inward, start, cw, ix0, ix1, cmp2, inD2, eqD_str, lk2, -evE_lc, key, iw, F.d, blt1, seqD]
/-! what is due -/
def smallF (f : F) : Bool := match f with
  | .ge t => inb t.c
  | .eq t => inb t.c
  | .mod _ t => inb t.c
  | _ => true
def aheadF (f : F) : Bool := match f with
  | .not (.mod _ _) => true
  | .not _ => false
  | _ => true
theorem parts_all (p : F → Bool) (f : F) (q : List Int) : (parts f q).all (fun x => p x.2) = (p f && (kd f).all fun x => (parts x.2 (q ++ x.1)).all fun x => p x.2) := by
  rw [parts_eq, List.all_cons, List.all_flatMap]
theorem kd_all (l : List F) (p : List Int × F → Bool) (P : F → Bool) (h : ∀ f ∈ l, ∀ i, p (i, f) = P f) : ((l.zipIdx).map fun x => (([1, (x.2 : Int)] : List Int), x.1)).all p = l.all P := by
  rw [List.all_map]
  have : ∀ (l : List F) (i : Nat), (∀ f ∈ l, ∀ i, p (i, f) = P f) → (l.zipIdx i).all (p ∘ fun x => (([1, (x.2 : Int)] : List Int), x.1)) = l.all P := by
    intro l
    induction l with
    | nil => intro i _; rfl
    | cons a l ih =>
      intro i h
      rw [List.zipIdx_cons, List.all_cons, List.all_cons, ih (i + 1) fun f m => h f (List.mem_cons_of_mem _ m)]
      show (p _ && _) = _
      rw [h a (List.mem_cons_self ..)]
  exact this l 0 h
theorem bnds_all (l : List F) : F.bnds l = l.all F.bnd := by
  rw [Bool.eq_iff_iff, bnds_iff, List.all_eq_true]
theorem drvs_all (l : List F) : drv.drvs l = l.all drv := by
  rw [Bool.eq_iff_iff, drvs_iff, List.all_eq_true]
theorem parts_bnd (f : F) : ∀ q, (parts f q).all (fun x => smallF x.2) = f.bnd := by
  induction f using F.ind with
  | con w l ih =>
    intro q
    rw [parts_all smallF, F.bnd, bnds_all, kd]
    show (true && _) = _
    rw [Bool.true_and]
    exact kd_all l _ F.bnd fun f m i => ih f m _
  | not f ih =>
    intro q
    rw [parts_all smallF, kd, List.all_cons, ih]
    simp [smallF, F.bnd]
  | qu w x f ih =>
    intro q
    rw [parts_all smallF, kd, List.all_cons, ih]
    simp [smallF, F.bnd]
  | _ => intro q; rw [parts_all smallF]; simp [kd, smallF, F.bnd]
theorem parts_drv (f : F) : ∀ q, (parts f q).all (fun x => aheadF x.2) = drv f := by
  induction f using F.ind with
  | con w l ih =>
    intro q
    rw [parts_all aheadF, drv, drvs_all, kd]
    show (true && _) = _
    rw [Bool.true_and]
    exact kd_all l _ drv fun f m i => ih f m _
  | not f ih =>
    intro q
    rw [parts_all aheadF]
    cases f with
    | mod m t =>
      rw [kd, List.all_cons, ih]
      rfl
    | _ => rfl
  | qu w x f ih =>
    intro q
    rw [parts_all aheadF, kd, List.all_cons, ih]
    simp [aheadF, drv]
  | _ => intro q; rw [parts_all aheadF]; simp [kd, aheadF, drv]
theorem parts_nb {f : F} : ∀ {q : List Int} {x : List Int × F}, f.nb = true → x ∈ parts f q → x.2.nb = true := by
  induction f using ind_kd with
  | h f ih =>
    intro q x hn m
    rw [parts_eq, List.mem_cons] at m
    rcases m with rfl | m
    · exact hn
    · rw [List.mem_flatMap] at m
      obtain ⟨y, my, m⟩ := m
      exact ih y my ((kd_mem my).2.2.1 hn) m
def tell (d : D) : D := .tup [.str "told", d]
def grD (m : Int) : D := .tup [.str "great", .int m, .bl true]
def madeD (f : F) : D := if f.bnd = true then (if f.dep < 21 then tell f.d else grD 20) else grD 1000000000
theorem ixm2 (a b : D) : ixD (.tup [a, b]) (.int (-1)) = some b := rfl
theorem ixm3 (a b c : D) : ixD (.tup [a, b, c]) (.int (-1)) = some c := rfl
theorem inD3s (k a b c : String) : inD (.str k) (.tup [.str a, .str b, .str c]) = some (a == k || (b == k || c == k)) := by
  rw [inD3 _ rfl]
  simp [D.eqv]
theorem abs_gt (i : Int) : gtD (.int (if i < 0 then -i else i)) (.int 1000000000) = some (!inb i) := by
  simp only [gtD, inb]
  congr 1
  rw [Bool.eq_iff_iff]
  simp
  split <;> omega
theorem law_made_ok (f : F) (k : Nat) (g : Option GS) (hn : f.nb = true) (hs : f.size ≤ 100000) (hd : f.dep ≤ 100) (hk : f.dep ≤ k) : run prog (k + 2) "_law_made" [f.d] g = .ok (madeD f) g := by
  have e1 := law_parts_ok f k [] g hn hs hk (by simp; omega)
  have e2 := law_deep_ok f k g hn hs hk
  have e1' : run prog (k + 1) "_law_parts" [f.d, .tup []] g = .ok (.lst ((parts f []).map pair)) g := e1
  obtain ⟨s', e3, o1, o2, es⟩ := walk_boolA (f := turn prog.fl prog.gl (run prog (k + 1)) (.many [1, 2]) [.ifs (.and (.cmp .inn (.ix (.bor 2) (.int 0)) (.tup [(.str "ge"), (.str "eq"), (.str "mod")])) (.cmp .gt (.b1 .abs (.ix (.ix (.bor 2) (.neg (.int 1))) (.int 0))) (.bin .pow (.int 10) (.int 9)))) [.ret (.tup [(.str "great"), (.bin .pow (.int 10) (.int 9)), (.bl true)])] []])
    pair (fun x => smallF x.2) (grD 1000000000) (fun s => ∃ o1 o2, s = ⟨[some (.im f.d), o1, o2], g⟩) (parts f []) ⟨[some (.im f.d), none, none], g⟩ ⟨_, _, rfl⟩ (by
    rintro ⟨p, x⟩ s m ⟨o1, o2, rfl⟩
    have hx := parts_nb hn m
    refine ⟨⟨[some (.im f.d), some (.im (pt p)), some (.im x.d)], g⟩, ?_, _, _, rfl⟩
    have p9 : powD (.int 10) (.int 9) = some (.int 1000000000) := rfl
    have t0 : ∀ t : Tm, ixD t.d (.int 0) = some (.int t.c) := fun t => rfl
    cases x with
    | ge t => by_cases q : inb t.c = true <;> simp [pair, F.d, ix0, ixm2, ixm3, cmp2, inD3s, blt1, t0, abs_gt, op2, p9, smallF, q, grD]
    | eq t => by_cases q : inb t.c = true <;> simp [pair, F.d, ix0, ixm2, ixm3, cmp2, inD3s, blt1, t0, abs_gt, op2, p9, smallF, q, grD]
    | mod v t => by_cases q : inb t.c = true <;> simp [pair, F.d, ix0, ixm2, ixm3, cmp2, inD3s, blt1, t0, abs_gt, op2, p9, smallF, q, grD]
    | not x => simp [pair, F.d, ix0, cmp2, inD3s, smallF]
    | con w l => cases w <;> simp [pair, F.d, cw, ix0, cmp2, inD3s, smallF]
    | qu w v x => cases w <;> simp [pair, F.d, qw, ix0, cmp2, inD3s, smallF]
    | bad n => cases hx)
  rw [parts_bnd] at e3
  rw [run_eq f_law_made rfl rfl]
  simp [f_law_made, start, e1', seqD]
  rw [e3, es]
  rw [madeD]
  by_cases q : f.bnd = true
  · by_cases q2 : f.dep < 21
    · have q2' : (f.dep : Int) < 21 := by omega
      simp [q, e2, cmp2, ltD, q2, q2', tell]
    · have q2' : ¬ (f.dep : Int) < 21 := by omega
      simp [q, e2, cmp2, ltD, q2, q2', grD]
  · simp [q]
theorem law_ahead_ok (f : F) (k : Nat) (g : Option GS) (hn : f.nb = true) (hs : f.size ≤ 100000) (hd : f.dep ≤ 100) (hk : f.dep ≤ k) : run prog (k + 2) "_law_ahead" [f.d] g = .ok (.bl (drv f)) g := by
  have e1 := law_parts_ok f k [] g hn hs hk (by simp; omega)
  have e1' : run prog (k + 1) "_law_parts" [f.d, .tup []] g = .ok (.lst ((parts f []).map pair)) g := e1
  obtain ⟨s', e3, o1, o2, es⟩ := walk_boolA (f := turn prog.fl prog.gl (run prog (k + 1)) (.many [1, 2]) [.ifs (.and (.cmp .eq (.ix (.bor 2) (.int 0)) (.str "not")) (.cmp .ne (.ix (.ix (.bor 2) (.int 1)) (.int 0)) (.str "mod"))) [.ret (.bl false)] []])
    pair (fun x => aheadF x.2) (.bl false) (fun s => ∃ o1 o2, s = ⟨[some (.im f.d), o1, o2], g⟩) (parts f []) ⟨[some (.im f.d), none, none], g⟩ ⟨_, _, rfl⟩ (by
    rintro ⟨p, x⟩ s m ⟨o1, o2, rfl⟩
    have hx := parts_nb hn m
    refine ⟨⟨[some (.im f.d), some (.im (pt p)), some (.im x.d)], g⟩, ?_, _, _, rfl⟩
    cases x with
    | not x =>
      cases x with
      | con w l => cases w <;> simp [pair, F.d, cw, ix0, ix1, cmp2, eqD_str, aheadF]
      | qu w v x => cases w <;> simp [pair, F.d, qw, ix0, ix1, cmp2, eqD_str, aheadF]
      | bad n => cases hx
      | _ => simp [pair, F.d, ix0, ix1, cmp2, eqD_str, aheadF]
    | con w l => cases w <;> simp [pair, F.d, cw, ix0, cmp2, eqD_str, aheadF]
    | qu w v x => cases w <;> simp [pair, F.d, qw, ix0, cmp2, eqD_str, aheadF]
    | bad n => cases hx
    | _ => simp [pair, F.d, ix0, ix1, cmp2, eqD_str, aheadF])
  rw [parts_drv] at e3
  rw [run_eq f_law_ahead rfl rfl]
  simp [f_law_ahead, start, e1', seqD]
  rw [e3, es]
  cases q : drv f <;> simp
theorem run_th (n : Nat) (x : D) (g : Option GS) : run prog (n + 1) "_law_caught" [x] g = finish (evB prog.fl prog.gl (thk (run prog n) x) f_law_caught.body ⟨start 3 [], g⟩) := rfl
theorem thk_0 (n : Nat) (x : D) (g : Option GS) : thk (run prog n) x "()" [] g = decR x g := rfl
theorem caught_ok (n : Nat) (d : D) (g g1 : Option GS) : run prog (n + 1) "_law_caught" [encOk g g1 d] g = .ok (tell d) g1 := by
  rw [run_th]
  simp [f_law_caught, start, thk_0, decR_ok, tell]
theorem caught_gr (n : Nat) (m : Int) (g g1 : Option GS) : run prog (n + 1) "_law_caught" [encEx g g1 (great m)] g = .ok (grD m) g1 := by
  rw [run_th]
  simp [f_law_caught, start, thk_0, decR_ex, evH, takes, noExc, List.lookup, great, grD]
theorem caught_bad (n : Nat) (p : List Int) (g g1 : Option GS) : run prog (n + 1) "_law_caught" [encEx g g1 (badF p)] g = .ok (.tup [.str "formula", pt p, .bl true]) g1 := by
  rw [run_th]
  simp [f_law_caught, start, thk_0, decR_ex, evH, takes, noExc, List.lookup, badF]
end Dl.K03
end
section
set_option Elab.async false
set_option autoImplicit false
set_option linter.all false
set_option maxRecDepth 10000
/-! FJ: drawn formulas. -/
namespace Dl.K03
open Dl
theorem mulD_i {a b : Int} (h : mulOk a b = true) : mulD (.int a) (.int b) = some (.int (a * b)) := if_pos h
theorem addT2 {a b : List D} (h : a.length + b.length ≤ SZ) : addD (.tup a) (.tup b) = some (.tup (a ++ b)) := if_pos h
def names4 : D := .lst [.int 0, .int 1, .int 2, .int 3]
def gdp (n : Int) (ps : List (Int × Int)) : Prop := pok (-1) ps ∧ (∀ p ∈ ps, p.1 < n) ∧ (ps.length : Int) ≤ n
theorem pok_snoc (n f : Int) (h9 : n ≤ 9) (h0 : f ≠ 0) (h1 : -1000000000 ≤ f) (h2 : f ≤ 1000000000) : ∀ (ps : List (Int × Int)) (last : Int), pok last ps → last < n → (∀ p ∈ ps, p.1 < n) → pok last (ps ++ [(n, f)])
  | [], last, _, h, _ => ⟨h, h9, h0, h1, h2, trivial⟩
  | (m, e) :: l, last, hp, h, hm => by
    obtain ⟨q1, q2, q3, q4, q5, q6⟩ := hp
    exact ⟨q1, q2, q3, q4, q5, pok_snoc n f h9 h0 h1 h2 l m q6 (hm _ (List.mem_cons_self ..)) fun p m => hm p (List.mem_cons_of_mem _ m)⟩
def tBody : List St := [.set 6 (.bin .sub (.call "_law_draw" [(.var 0), (.bin .add (.bin .mul (.int 2) (.bor 2)) (.int 1))]) (.bor 2)),
    .ifs (.cmp .ne (.bor 6) (.int 0)) [.set 4 (.bin .add (.bor 4) (.tup [(.tup [(.var 5), (.var 6)])]))] []]
def envT (ps : List (Int × Int)) (o5 o6 : Option DV) : List (Option DV) := [some (.im .hnd), some (.im names4), some (.im (.int 2)), some (.im (.int 6)), some (.im (.tup (pD ps))), o5, o6]
theorem t_step (n b : Nat) (i : Int) (ps : List (Int × Int)) (o5 o6 : Option DV) (g : Option GS) (hg : GOK b g) (hb : b < 2 ^ 59) (hp : gdp i ps) (h0 : 0 ≤ i) (h9 : i ≤ 9) :
    ∃ ps' o5' o6' g', turn prog.fl prog.gl (run prog (n + 2)) (.one 5) tBody (.int i) ⟨envT ps o5 o6, g⟩ = .ok .nx ⟨envT ps' o5' o6', g'⟩ ∧ gdp (i + 1) ps' ∧ GOK (b + 1) g' := by
  obtain ⟨v, g1, e, v0, v1, hg1⟩ := draw_ok n b g 5 hg (by omega) (by omega) (by omega)
  have m1 : mulOk 2 2 = true := mulOk_l (by decide)
  by_cases q : v - 2 = 0
  · refine ⟨ps, some (.im (.int i)), some (.im (.int (v - 2))), g1, ?_, ⟨hp.1, fun p m => by have := hp.2.1 p m; omega, by have := hp.2.2; omega⟩, hg1⟩
    simp [tBody, envT, op2, mulD, m1, addD, subD, e, cmp2, eqD_int, q]
  · refine ⟨ps ++ [(i, v - 2)], some (.im (.int i)), some (.im (.int (v - 2))), g1, ?_, ⟨pok_snoc i (v - 2) h9 q (by omega) (by omega) ps (-1) hp.1 (by omega) hp.2.1, ?_, ?_⟩, hg1⟩
    · have hl : (pD ps).length + 1 ≤ SZ := by
        have := hp.2.2
        have : SZ = 16777216 := rfl
        rw [pD, List.length_map]
        omega
      have ha : addD (.tup (pD ps)) (.tup [.tup [.int i, .int (v - 2)]]) = some (.tup (pD (ps ++ [(i, v - 2)]))) := by
        rw [addT2 (by simpa using hl)]
        simp [pD]
      have s5 : subD (.int v) (.int 2) = some (.int (v - 2)) := rfl
      have m5 : mulD (.int 2) (.int 2) = some (.int 4) := mulD_i m1
      have a5 : addD (.int 4) (.int 1) = some (.int 5) := rfl
      simp [tBody, envT, op2, m5, a5, s5, e, cmp2, eqD_int, q, ha]
    · intro p m
      rw [List.mem_append] at m
      rcases m with m | m
      · have := hp.2.1 p m; omega
      · have : p = (i, v - 2) := by simpa using m
        rw [this]
        show i < i + 1
        omega
    · have := hp.2.2
      simp
      omega
theorem law_term_ok (n b : Nat) (g : Option GS) (hg : GOK b g) (hb : b < 2 ^ 58) : ∃ (t : Tm) (g' : Option GS), run prog (n + 3) "_law_term" [.hnd, names4, .int 2, .int 6] g = .ok t.d g' ∧ t.ok ∧ GOK (b + 5) g' := by
  obtain ⟨p1, a5, a6, g1, e1, h1, hg1⟩ := t_step n b 0 [] none none g hg (by omega) ⟨trivial, fun p m => (by cases m), by simp⟩ (by omega) (by omega)
  obtain ⟨p2, b5, b6, g2, e2, h2, hg2⟩ := t_step n _ 1 p1 a5 a6 g1 hg1 (by omega) h1 (by omega) (by omega)
  obtain ⟨p3, c5, c6, g3, e3, h3, hg3⟩ := t_step n _ 2 p2 b5 b6 g2 hg2 (by omega) h2 (by omega) (by omega)
  obtain ⟨p4, d5, d6, g4, e4, h4, hg4⟩ := t_step n _ 3 p3 c5 c6 g3 hg3 (by omega) h3 (by omega) (by omega)
  obtain ⟨v, g5, e5, v0, v1, hg5⟩ := draw_ok n _ g4 13 hg4 (by omega) (by omega) (by omega)
  refine ⟨⟨v - 6, p4⟩, g5, ?_, ⟨by show _ ≤ v - 6; omega, by show v - 6 ≤ _; omega, h4.1⟩, hg5⟩
  rw [run_eq f_law_term rfl rfl]
  have w : walk (turn prog.fl prog.gl (run prog (n + 2)) (.one 5) tBody) [.int 0, .int 1, .int 2, .int 3] ⟨envT [] none none, g⟩ = .ok .nx ⟨envT p4 d5 d6, g4⟩ := by
    rw [walk_cons, e1, wk_nx, walk_cons, e2, wk_nx, walk_cons, e3, wk_nx, walk_cons, e4, wk_nx, walk_nil]
  simp only [envT, tBody, names4] at w
  have m1 : mulOk 2 6 = true := mulOk_l (by decide)
  simp [f_law_term, start, names4, seqD]
  have w' := w
  rw [show pD [] = [] from rfl] at w'
  rw [w']
  simp [op2, mulD, m1, addD, e5, subD, Tm.d]
theorem law_atom_ok (n b : Nat) (g : Option GS) (hg : GOK b g) (hb : b < 2 ^ 57) : ∃ (f : F) (g' : Option GS), run prog (n + 4) "_law_atom" [.hnd, names4, .int 2, .int 6] g = .ok f.d g' ∧ f.ok ∧ f.nb = true ∧ f.dep = 1 ∧ f.size = 1 ∧ GOK (b + 7) g' := by
  obtain ⟨v, g1, e1, v0, v1, hg1⟩ := draw_ok (n + 1) b g 6 hg (by omega) (by omega) (by omega)
  obtain ⟨t, g2, e2, ht, hg2⟩ := law_term_ok n _ g1 hg1 (by omega)
  obtain ⟨w, g3, e3, w0, w1, hg3⟩ := draw_ok (n + 1) _ g2 3 hg2 (by omega) (by omega) (by omega)
  rw [run_eq f_law_atom rfl rfl]
  by_cases q : v < 3
  · refine ⟨.ge t, g2, ?_, ht, rfl, rfl, rfl, hg2.mono (by omega)⟩
    simp [f_law_atom, start, e1, e2, cmp2, ltD, q, F.d]
  · by_cases q2 : v = 3
    · refine ⟨.eq t, g2, ?_, ht, rfl, rfl, rfl, hg2.mono (by omega)⟩
      subst q2
      simp [f_law_atom, start, e1, e2, cmp2, ltD, eqD_int, F.d]
    · refine ⟨.mod (2 + w) t, g3, ?_, ⟨by omega, by omega, ht⟩, rfl, rfl, rfl, hg3.mono (by omega)⟩
      simp [f_law_atom, start, e1, e2, cmp2, ltD, q, eqD_int, q2, e3, op2, addD, F.d]
structure Dn (k s : Nat) (f : F) : Prop where
  ok : f.ok
  nb : f.nb = true
  de : f.dep ≤ k
  si : f.size ≤ s
theorem Dn.up {k s k' s' : Nat} {f : F} (h : Dn k s f) (hk : k ≤ k') (hs : s ≤ s') : Dn k' s' f := ⟨h.ok, h.nb, Nat.le_trans h.de hk, Nat.le_trans h.si hs⟩
theorem pick2 (a b : D) (v : Int) (h0 : 0 ≤ v) (h1 : v < 2) : ixD (.lst [a, b]) (.int v) = some (if v = 0 then a else b) := by
  have : v = 0 ∨ v = 1 := by omega
  rcases this with rfl | rfl <;> rfl
theorem law_plain_ok (m : Nat) : ∀ (n k b : Nat) (g : Option GS), 1 ≤ n → n ≤ m → n ≤ k → GOK b g → b + 14 * n < 2 ^ 50 → n ≤ 100 → ∃ (f : F) (g' : Option GS), run prog (k + 4) "_law_plain" [.hnd, names4, .int (n : Nat), .int 2, .int 6] g = .ok f.d g' ∧ Dn (2 * n) (4 * n - 2) f ∧ GOK (b + (14 * n - 4)) g' := by
  induction m with
  | zero => intro n k b g h1 h2; omega
  | succ m ih =>
    intro n k b g h1 h2 hk hg hb h100
    obtain ⟨j, rfl⟩ : ∃ j, k = j + 1 := ⟨k - 1, by omega⟩
    have atomCase : ∀ (b : Nat) (g : Option GS), GOK b g → b < 2 ^ 51 → ∃ (f : F) (s' : S), evB prog.fl prog.gl (run prog (j + 4)) [.set 5 (.call "_law_atom" [(.var 0), (.var 1), (.var 3), (.var 4)]),
       .ret (.ife (.cmp .eq (.call "_law_draw" [(.var 0), (.int 3)]) (.int 0)) (.tup [(.str "not"), (.var 5)]) (.var 5))] ⟨[some (.im .hnd), some (.im names4), some (.im (.int (n : Nat))), some (.im (.int 2)), some (.im (.int 6)), none, none, none, none, none], g⟩ = .ok (.ret f.d) s' ∧ Dn (2 * n) (4 * n - 2) f ∧ GOK (b + 8) s'.g := by
      intro b g hg hb
      obtain ⟨f, g1, e1, f1, f2, f3, f4, hg1⟩ := law_atom_ok j b g hg (by omega)
      obtain ⟨v, g2, e2, v0, v1, hg2⟩ := draw_ok (j + 2) _ g1 3 hg1 (by omega) (by omega) (by omega)
      by_cases q : v = 0
      · refine ⟨.not f, ⟨[some (.im .hnd), some (.im names4), some (.im (.int (n : Nat))), some (.im (.int 2)), some (.im (.int 6)), some (.im f.d), none, none, none, none], g2⟩, ?_, ⟨f1, f2, by simp only [F.dep]; omega, by simp only [F.size]; omega⟩, hg2⟩
        simp [e1, e2, cmp2, eqD_int, q, F.d]
      · refine ⟨f, ⟨[some (.im .hnd), some (.im names4), some (.im (.int (n : Nat))), some (.im (.int 2)), some (.im (.int 6)), some (.im f.d), none, none, none, none], g2⟩, ?_, ⟨f1, f2, by omega, by omega⟩, hg2⟩
        simp [e1, e2, cmp2, eqD_int, q]
    rw [run_eq f_law_plain rfl rfl]
    by_cases q1 : (n : Int) < 2
    · obtain ⟨f, s1, e, hf, hg1⟩ := atomCase b g hg (by omega)
      refine ⟨f, s1.g, ?_, hf, hg1.mono (by omega)⟩
      have hc : evE prog.gl (run prog (j + 4)) (.or (.cmp .lt (.bor 2) (.int 2)) (.cmp .eq (.call "_law_draw" [(.var 0), (.int 4)]) (.int 0))) ⟨start 10 [.hnd, names4, .int (n : Nat), .int 2, .int 6], g⟩ = .ok (.bl true) ⟨start 10 [.hnd, names4, .int (n : Nat), .int 2, .int 6], g⟩ := by
        simp [start, cmp2, ltD, q1]
      simp only [f_law_plain]
      rw [evB_cons, evS_ifs, hc, br_t, show start 10 [.hnd, names4, .int (n : Nat), .int 2, .int 6] = [some (.im .hnd), some (.im names4), some (.im (.int (n : Nat))), some (.im (.int 2)), some (.im (.int 6)), none, none, none, none, none] from rfl, e, sq_ret, fin_ret]
    · obtain ⟨v, g1, e1, v0, v1, hg1⟩ := draw_ok (j + 2) b g 4 hg (by omega) (by omega) (by omega)
      by_cases q2 : v = 0
      · obtain ⟨f, s2, e, hf, hg2⟩ := atomCase _ g1 hg1 (by omega)
        refine ⟨f, s2.g, ?_, hf, hg2.mono (by omega)⟩
        have hc : evE prog.gl (run prog (j + 4)) (.or (.cmp .lt (.bor 2) (.int 2)) (.cmp .eq (.call "_law_draw" [(.var 0), (.int 4)]) (.int 0))) ⟨start 10 [.hnd, names4, .int (n : Nat), .int 2, .int 6], g⟩ = .ok (.bl true) ⟨start 10 [.hnd, names4, .int (n : Nat), .int 2, .int 6], g1⟩ := by
          simp [start, cmp2, ltD, q1, e1, eqD_int, q2]
        simp only [f_law_plain]
        rw [evB_cons, evS_ifs, hc, br_t, show start 10 [.hnd, names4, .int (n : Nat), .int 2, .int 6] = [some (.im .hnd), some (.im names4), some (.im (.int (n : Nat))), some (.im (.int 2)), some (.im (.int 6)), none, none, none, none, none] from rfl, e, sq_ret, fin_ret]
      · obtain ⟨w, g2, e2, w0, w1, hg2⟩ := draw_ok (j + 2) _ g1 ((n : Int) - 1) hg1 (by omega) (by omega) (by omega)
        obtain ⟨a, ha⟩ : ∃ a : Nat, (a : Int) = 1 + w := ⟨(1 + w).toNat, by omega⟩
        obtain ⟨c, hc⟩ : ∃ c : Nat, (c : Int) = n - (1 + w) := ⟨((n : Int) - (1 + w)).toNat, by omega⟩
        obtain ⟨f1, g3, e3, hf1, hg3⟩ := ih a j _ g2 (by omega) (by omega) (by omega) hg2 (by omega) (by omega)
        obtain ⟨f2, g4, e4, hf2, hg4⟩ := ih c j _ g3 (by omega) (by omega) (by omega) hg3 (by omega) (by omega)
        obtain ⟨x, g5, e5, x0, x1, hg5⟩ := draw_ok (j + 2) _ g4 2 hg4 (by omega) (by omega) (by omega)
        obtain ⟨y, g6, e6, y0, y1, hg6⟩ := draw_ok (j + 2) _ g5 5 hg5 (by omega) (by omega) (by omega)
        have hp := pick2 (.str "and") (.str "or") x x0 x1
        obtain ⟨wd, hwd⟩ : ∃ wd : Bool, (if x = 0 then D.str "and" else D.str "or") = .str (cw wd) := by
          by_cases z : x = 0
          · exact ⟨true, by rw [if_pos z]; rfl⟩
          · exact ⟨false, by rw [if_neg z]; rfl⟩
        rw [hwd] at hp
        rw [ha] at e3
        rw [hc] at e4
        have d1 := hf1.de
        have d2 := hf2.de
        have s1 := hf1.si
        have s2 := hf2.si
        have hcon : Dn (2 * n - 1) (4 * n - 3) (.con wd [f1, f2]) := ⟨⟨hf1.ok, hf2.ok, trivial⟩, by simp [F.nb, F.nbs, hf1.nb, hf2.nb], by simp only [F.dep, F.deps]; omega, by simp only [F.size, F.sizes]; omega⟩
        have de := hcon.de
        have ds := hcon.si
        have en : (n : Int) - 1 = (n : Int) - 1 := rfl
        by_cases z : y = 0
        · refine ⟨.not (.con wd [f1, f2]), g6, ?_, ⟨hcon.ok, hcon.nb, by simp only [F.dep] at de ⊢; omega, by simp only [F.size] at ds ⊢; omega⟩, hg6.mono (by omega)⟩
          simp [f_law_plain, start, cmp2, ltD, q1, e1, eqD_int, q2, op2, addD, subD, e2, e3, e4, e5, hp, e6, z, F.d, F.ds]
        · refine ⟨.con wd [f1, f2], g6, ?_, hcon.up (by omega) (by omega), hg6.mono (by omega)⟩
          simp [f_law_plain, start, cmp2, ltD, q1, e1, eqD_int, q2, op2, addD, subD, e2, e3, e4, e5, hp, e6, z, F.d, F.ds]
end Dl.K03
end
section
set_option Elab.async false
set_option autoImplicit false
set_option linter.all false
set_option maxRecDepth 10000
/-! FK: drawn formulas with somes and alls; the formula of the law. -/
namespace Dl.K03
open Dl
def sz : Nat → Nat
  | 0 => 10
  | d + 1 => 3 * sz d + 1
def bu : Nat → Nat
  | 0 => 60
  | d + 1 => 3 * bu d + 60
theorem small_i {i : Int} (h1 : 0 ≤ i) (h2 : i ≤ 1000) : small i = true := by
  unfold small
  simp
  omega
theorem sz_pos (d : Nat) : 10 ≤ sz d := by
  induction d with
  | zero => exact Nat.le_refl _
  | succ d ih => rw [sz]; omega
theorem bu_pos (d : Nat) : 60 ≤ bu d := by
  cases d with
  | zero => exact Nat.le_refl _
  | succ d => rw [bu]; omega
def envB (d : Nat) (v : Int) (o5 : Option DV) (fs : List F) (o7 : Option DV) : List (Option DV) := [some (.im .hnd), some (.im names4), some (.im (.int (d : Nat))), some (.im (.int 3)), some (.im (.int v)), o5, some (.im (.tup (F.ds fs))), o7]
theorem sizes_le {s : Nat} : ∀ {l : List F}, (∀ f ∈ l, f.size ≤ s) → F.sizes l ≤ l.length * s
  | [], _ => by simp [F.sizes]
  | f :: l, h => by
    rw [F.sizes, List.length_cons, Nat.succ_mul]
    have := h f (List.mem_cons_self ..)
    have := sizes_le fun g m => h g (List.mem_cons_of_mem f m)
    omega
theorem deps_leF {s : Nat} : ∀ {l : List F}, (∀ f ∈ l, f.dep ≤ s) → F.deps l ≤ s
  | [], _ => by simp [F.deps]
  | f :: l, h => by
    rw [F.deps]
    have := h f (List.mem_cons_self ..)
    have := deps_leF fun g m => h g (List.mem_cons_of_mem f m)
    omega
theorem qw_of (x : Int) : ∃ w : Bool, (if x = 0 then D.str "some" else D.str "all") = .str (qw w) := by
  by_cases z : x = 0
  · exact ⟨false, by rw [if_pos z]; rfl⟩
  · exact ⟨true, by rw [if_neg z]; rfl⟩
theorem cw_of (x : Int) : ∃ w : Bool, (if x = 0 then D.str "and" else D.str "or") = .str (cw w) := by
  by_cases z : x = 0
  · exact ⟨true, by rw [if_pos z]; rfl⟩
  · exact ⟨false, by rw [if_neg z]; rfl⟩
theorem law_bound_ok (d : Nat) : ∀ (k b : Nat) (g : Option GS), d ≤ k → d ≤ 3 → GOK b g → b + bu d < 2 ^ 50 → ∃ (f : F) (g' : Option GS), run prog (k + 8) "_law_bound" [.hnd, names4, .int (d : Nat), .int 3] g = .ok f.d g' ∧ Dn (6 + d) (sz d) f ∧ GOK (b + bu d) g' := by
  induction d with
  | zero =>
    intro k b g hk h3 hg hb
    obtain ⟨v, g1, e1, v0, v1, hg1⟩ := draw_ok (k + 5) b g 7 hg (by simp only [bu] at hb; omega) (by omega) (by omega)
    obtain ⟨f, g2, e2, hf, hg2⟩ := law_plain_ok 3 3 (k + 3) _ g1 (by omega) (by omega) (by omega) hg1 (by simp only [bu] at hb; omega) (by omega)
    refine ⟨f, g2, ?_, hf.up (by omega) (by simp [sz]), hg2.mono (by simp only [bu]; omega)⟩
    have e2' : run prog (k + 7) "_law_plain" [.hnd, names4, .int 3, .int 2, .int 6] g1 = .ok f.d g2 := e2
    rw [run_eq f_law_bound rfl rfl]
    simp [f_law_bound, start, e1, cmp2, eqD_int, e2']
  | succ d ih =>
    intro k b g hk h3 hg hb
    obtain ⟨j, rfl⟩ : ∃ j, k = j + 1 := ⟨k - 1, by omega⟩
    have hz := sz_pos d
    have hu := bu_pos d
    simp only [bu] at hb ⊢
    obtain ⟨v, g1, e1, v0, v1, hg1⟩ := draw_ok (j + 6) b g 7 hg (by omega) (by omega) (by omega)
    have dz : ¬ (((d + 1 : Nat) : Int) = 0) := by omega
    have ds : subD (.int ((d + 1 : Nat) : Int)) (.int 1) = some (.int (d : Nat)) := by
      show some (D.int (((d + 1 : Nat) : Int) - 1)) = _
      congr 2
      omega
    rw [run_eq f_law_bound rfl rfl]
    generalize hN : ((d + 1 : Nat) : Int) = N at dz ds ⊢
    by_cases q0 : v = 0
    · obtain ⟨f, g2, e2, hf, hg2⟩ := law_plain_ok 3 3 (j + 4) _ g1 (by omega) (by omega) (by omega) hg1 (by omega) (by omega)
      refine ⟨f, g2, ?_, hf.up (by omega) (by simp only [sz]; omega), hg2.mono (by omega)⟩
      have e2' : run prog (j + 1 + 7) "_law_plain" [.hnd, names4, .int 3, .int 2, .int 6] g1 = .ok f.d g2 := e2
      simp [f_law_bound, start, e1, cmp2, eqD_int, q0, dz, e2']
    · by_cases q1 : v = 1
      · obtain ⟨f, g2, e2, hf, hg2⟩ := ih j _ g1 (by omega) (by omega) hg1 (by omega)
        have d1 := hf.de
        have s1 := hf.si
        refine ⟨.not f, g2, ?_, ⟨hf.ok, hf.nb, by simp only [F.dep]; omega, by simp only [F.size, sz]; omega⟩, hg2.mono (by omega)⟩
        simp [f_law_bound, start, e1, cmp2, eqD_int, q1, dz, op2, ds, e2, F.d]
      · by_cases q5 : v < 5
        · obtain ⟨x, g2, e2, x0, x1, hg2⟩ := draw_ok (j + 6) _ g1 2 hg1 (by omega) (by omega) (by omega)
          obtain ⟨nm, g3, e3, hm, hg3⟩ := law_of_ok (j + 5) _ [.int 0, .int 1, .int 2, .int 3] g2 hg2 (by omega)
          obtain ⟨f, g4, e4, hf, hg4⟩ := ih j _ g3 (by omega) (by omega) hg3 (by omega)
          have hp := pick2 (.str "some") (.str "all") x x0 x1
          obtain ⟨w, hw⟩ := qw_of x
          rw [hw] at hp
          obtain ⟨i, rfl, i0, i3⟩ : ∃ i : Int, nm = .int i ∧ 0 ≤ i ∧ i ≤ 3 := by
            simp at hm
            rcases hm with rfl | rfl | rfl | rfl
            · exact ⟨0, rfl, by omega, by omega⟩
            · exact ⟨1, rfl, by omega, by omega⟩
            · exact ⟨2, rfl, by omega, by omega⟩
            · exact ⟨3, rfl, by omega, by omega⟩
          have d1 := hf.de
          have s1 := hf.si
          refine ⟨.qu w i f, g4, ?_, ⟨⟨i0, by omega, hf.ok⟩, hf.nb, by simp only [F.dep]; omega, by simp only [F.size, sz]; omega⟩, hg4.mono (by omega)⟩
          have e3' : run prog (j + 1 + 7) "_law_of" [.hnd, names4] g2 = .ok (.int i) g3 := e3
          simp [f_law_bound, start, e1, cmp2, eqD_int, q0, q1, dz, op2, ds, ltD, q5, e2, hp, e3', e4, F.d]
        · obtain ⟨x, g2, e2, x0, x1, hg2⟩ := draw_ok (j + 6) _ g1 4 hg1 (by omega) (by omega) (by omega)
          have hp := pick2 (.str "and") (.str "or") (v - 5) (by omega) (by omega)
          obtain ⟨w, hw⟩ := cw_of (v - 5)
          rw [hw] at hp
          have loop : ∀ (l : List D) (fs : List F) (o7 : Option DV) (b : Nat) (g : Option GS), GOK b g → b + l.length * bu d < 2 ^ 50 → fs.length + l.length ≤ 3 → (∀ f ∈ fs, Dn (6 + d) (sz d) f) →
              ∃ fs' a7 g', walk (turn prog.fl prog.gl (run prog (j + 1 + 7)) (.one 7) [.set 6 (.bin .add (.bor 6) (.tup [(.call "_law_bound" [(.var 0), (.var 1), (.bin .sub (.bor 2) (.int 1)), (.var 3)])]))]) l ⟨[some (.im .hnd), some (.im names4), some (.im (.int N)), some (.im (.int 3)), some (.im (.int v)), none, some (.im (.tup (F.ds fs))), o7], g⟩ = .ok .nx ⟨[some (.im .hnd), some (.im names4), some (.im (.int N)), some (.im (.int 3)), some (.im (.int v)), none, some (.im (.tup (F.ds fs'))), a7], g'⟩ ∧ GOK (b + l.length * bu d) g' ∧ fs'.length ≤ 3 ∧ (∀ f ∈ fs', Dn (6 + d) (sz d) f) := by
            intro l
            induction l with
            | nil => intro fs o7 b g hg hb hl hf; exact ⟨fs, o7, g, rfl, hg.mono (by omega), by simpa using hl, hf⟩
            | cons y l ihl =>
              intro fs o7 b g hg hb hl hf
              rw [List.length_cons, Nat.succ_mul] at hb
              obtain ⟨f, g2, e2, hf2, hg2⟩ := ih j b g (by omega) (by omega) hg (by omega)
              simp only [List.length_cons] at hl
              obtain ⟨fs', a7, g3, e3, h1, h2, h3⟩ := ihl (fs ++ [f]) (some (.im y)) _ g2 hg2 (by omega) (by rw [List.length_append]; simp; omega) (by
                intro a m
                rw [List.mem_append] at m
                rcases m with m | m
                · exact hf a m
                · simp at m; subst m; exact hf2)
              refine ⟨fs', a7, g3, ?_, h1.mono (by rw [List.length_cons, Nat.succ_mul]; omega), h2, h3⟩
              have ea : addD (.tup (F.ds fs)) (.tup [f.d]) = some (.tup (F.ds (fs ++ [f]))) := by
                rw [addT2 (by rw [ds_len]; have : SZ = 16777216 := rfl; simp; omega)]
                simp [ds_map]
              rw [walk_cons]
              simp [op2, ds, e2, ea]
              exact e3
          obtain ⟨fs, a7, g3, e3, hg3, hl, hfs⟩ := loop (rangeD 0 x.toNat) [] none _ g2 hg2 (by
            rw [rangeD_len]
            have h3' : x.toNat ≤ 3 := by omega
            have := Nat.mul_le_mul_right (bu d) h3'
            omega) (by rw [rangeD_len]; simp; omega) (fun f m => by cases m)
          rw [rangeD_len] at hg3
          have hb3 : x.toNat * bu d ≤ 3 * bu d := Nat.mul_le_mul_right _ (by omega)
          have d1 := deps_leF fun f m => (hfs f m).de
          have s1 := sizes_le fun f m => (hfs f m).si
          have s2 : fs.length * sz d ≤ 3 * sz d := Nat.mul_le_mul_right _ hl
          refine ⟨.con w fs, g3, ?_, ⟨(oks_iff _).mpr fun f m => (hfs f m).ok, (nbs_iff _).mpr fun f m => (hfs f m).nb, by simp only [F.dep]; omega, by simp only [F.size, sz]; omega⟩, hg3.mono (by omega)⟩
          simp [f_law_bound, start, e1, cmp2, eqD_int, q0, q1, dz, ltD, q5, e2, small_i x0 (show x ≤ 1000 by omega)]
          have e3' := e3
          rw [show F.ds [] = [] from rfl] at e3'
          rw [e3']
          simp [op2, subD, hp, F.d]
end Dl.K03
end
section
set_option Elab.async false
set_option autoImplicit false
set_option linter.all false
set_option maxRecDepth 10000
/-! FL: the formula of the law. -/
namespace Dl.K03
open Dl
def isAt (f : F) : Bool := match f with
  | .ge _ => true
  | .eq _ => true
  | .mod _ _ => true
  | _ => false
theorem dep_pD (ps : List (Int × Int)) : D.deps (pD ps) ≤ 1 := deps_le fun d m => by
  obtain ⟨p, _, rfl⟩ := List.mem_map.mp m
  simp [D.dep, D.deps]
theorem dep_tm (t : Tm) : t.d.dep ≤ 3 := by
  have := dep_pD t.ps
  simp only [Tm.d, D.dep, D.deps]
  omega
theorem dep_d (f : F) : f.d.dep ≤ 2 * f.dep + 2 := by
  induction f using F.ind with
  | ge t => have := dep_tm t; simp only [F.d, D.dep, D.deps, F.dep]; omega
  | eq t => have := dep_tm t; simp only [F.d, D.dep, D.deps, F.dep]; omega
  | mod m t => have := dep_tm t; simp only [F.d, D.dep, D.deps, F.dep]; omega
  | not f ih => simp only [F.d, D.dep, D.deps, F.dep]; omega
  | qu w x f ih => simp only [F.d, D.dep, D.deps, F.dep]; omega
  | con w l ih =>
    have : D.deps (F.ds l) ≤ 2 * F.deps l + 2 := deps_le fun d m => by
      rw [ds_map] at m
      obtain ⟨f, mf, rfl⟩ := List.mem_map.mp m
      have := ih f mf
      have := deps_mem mf
      omega
    simp only [F.d, D.dep, D.deps, F.dep]
    omega
  | bad n =>
    simp only [F.d, badD, F.dep]
    split
    · simp [D.dep]
    · split <;> simp [D.dep, D.deps]
theorem dep_pt (p : List Int) : (pt p).dep ≤ 1 := by
  have : D.deps (p.map D.int) ≤ 0 := deps_le fun d m => by
    obtain ⟨i, _, rfl⟩ := List.mem_map.mp m
    exact Nat.le_refl _
  simp only [pt, D.dep]
  omega
theorem parts_mem {f : F} : ∀ {q : List Int} {x : List Int × F}, x ∈ parts f q → x.2.dep ≤ f.dep ∧ x.2.size ≤ f.size ∧ (f.ok → x.2.ok) := by
  induction f using ind_kd with
  | h f ih =>
    intro q x m
    rw [parts_eq, List.mem_cons] at m
    rcases m with rfl | m
    · exact ⟨Nat.le_refl _, Nat.le_refl _, fun h => h⟩
    · rw [List.mem_flatMap] at m
      obtain ⟨y, my, m⟩ := m
      obtain ⟨a, b, c⟩ := ih y my m
      obtain ⟨d, e, _, o, _⟩ := kd_mem my
      exact ⟨by omega, by omega, fun h => c (o h)⟩
def envF (f : F) (o2 o3 o4 o5 o6 : Option DV) : List (Option DV) := [some (.im .hnd), some (.im f.d), o2, o3, o4, o5, o6]
theorem fm_rows (k : Nat) (f : F) (g : Option GS) (hf : Dn 20 400 f) (hk : 20 ≤ k) :
    evS prog.fl prog.gl (run prog (k + 8)) (.setL 2 (.lc (.tup [(.var 3), (.var 4)]) (.many [3, 4]) [3, 4] (.iSeq (.call "_law_parts" [(.var 1), (.tup [])])) (.cmp .inn (.ix (.bor 4) (.int 0)) (.tup [(.str "ge"), (.str "eq"), (.str "mod")])))) ⟨envF f none none none none none, g⟩ =
      .ok .nx ⟨envF f (some (.ml (((parts f []).filter fun x => isAt x.2).map pair))) none none none none, g⟩ := by
  have hs := hf.si
  have hd := hf.de
  have e1 := law_parts_ok f (k + 7) [] g hf.nb (by omega) (by omega) (by simp; omega)
  have e1' : run prog (k + 8) "_law_parts" [f.d, .tup []] g = .ok (.lst ((parts f []).map pair)) g := e1
  obtain ⟨s', e, eg⟩ := turns_filA (f := evE prog.gl (run prog (k + 8)) (.tup [(.var 3), (.var 4)])) (c := evE prog.gl (run prog (k + 8)) (.cmp .inn (.ix (.bor 4) (.int 0)) (.tup [(.str "ge"), (.str "eq"), (.str "mod")]))) (t := .many [3, 4]) (e0 := envF f none none none none none)
    (fun x : List Int × F => isAt x.2) pair pair (parts f []) ⟨envF f none none none none none, g⟩ (by
      rintro ⟨p, x⟩ m
      have hx := parts_nb hf.nb m
      refine ⟨⟨envF f none (some (.im (pt p))) (some (.im x.d)) none none, g⟩, ⟨envF f none (some (.im (pt p))) (some (.im x.d)) none none, g⟩, rfl, ?_, ?_, rfl, rfl⟩
      · cases x with
        | con w l => cases w <;> simp [envF, F.d, cw, ix0, cmp2, inD3s, isAt]
        | qu w v x => cases w <;> simp [envF, F.d, qw, ix0, cmp2, inD3s, isAt]
        | bad n => cases hx
        | _ => simp [envF, F.d, ix0, cmp2, inD3s, isAt]
      · simp [envF, pair])
  have ei : evI prog.gl (run prog (k + 8)) (.iSeq (.call "_law_parts" [(.var 1), (.tup [])])) ⟨envF f none none none none none, g⟩ = .ok ((parts f []).map pair) ⟨envF f none none none none none, g⟩ := by
    simp [envF, e1', seqD]
  have hin : Dl.inner [3, 4] (envF f none none none none none) = envF f none none none none none := rfl
  have hl : (((parts f []).filter fun x => isAt x.2).map pair).length < SZ := by
    rw [List.length_map]
    have := List.length_filter_le (fun x : List Int × F => isAt x.2) (parts f [])
    rw [parts_len] at this
    have : SZ = 16777216 := rfl
    omega
  rw [evS_setL, evE_lc, ei, nd_ok]
  simp only [hin]
  rw [e, lc_end hl eg]
  simp [envF]
theorem eq_rows (l : List (List Int × F)) (h : ∀ x ∈ l, x.2.dep ≤ 20) : eqD (.lst (l.map pair)) (.lst []) = some l.isEmpty := by
  have : D.deps (l.map pair) ≤ 43 := deps_le fun d m => by
    obtain ⟨x, mx, rfl⟩ := List.mem_map.mp m
    have h1 := dep_pt x.1
    have h2 := dep_d x.2
    have h3 := h x mx
    simp only [pair, D.dep, D.deps]
    omega
  have hs : (D.lst (l.map pair)).shp = true := by
    unfold D.shp
    rw [D.dep]
    exact decide_eq_true (by omega)
  unfold eqD
  rw [hs]
  show some (D.eqv (.lst (l.map pair)) (.lst [])) = _
  rw [D.eqv, eqvs_nil]
  cases l <;> rfl
def newAt (f : F) (c : Int) : F := match f with
  | .ge t => .ge ⟨c, t.ps⟩
  | .eq t => .eq ⟨c, t.ps⟩
  | .mod m t => .mod m ⟨c, t.ps⟩
  | f => f
theorem newAt_ok {f : F} {c : Int} (h : isAt f = true) (ho : f.ok) (c1 : -1000000000 ≤ c) (c2 : c ≤ 1000000000) : (newAt f c).ok ∧ (newAt f c).nb = true ∧ (newAt f c).dep = 1 ∧ (newAt f c).size = 1 := by
  cases f with
  | ge t => exact ⟨⟨c1, c2, ho.ps⟩, rfl, rfl, rfl⟩
  | eq t => exact ⟨⟨c1, c2, ho.ps⟩, rfl, rfl, rfl⟩
  | mod m t => exact ⟨⟨ho.1, ho.2.1, ⟨c1, c2, ho.2.2.ps⟩⟩, rfl, rfl, rfl⟩
  | _ => cases h
theorem fm_put (k b : Nat) (f : F) (g : Option GS) (hf : Dn 9 283 f) (hk : 20 ≤ k) (hg : GOK b g) (hb : b < 2 ^ 50) :
    ∃ f' o2 o3 o4 o5 g', evS prog.fl prog.gl (run prog (k + 8)) (.ifs (.and (.cmp .ne (.bor 2) (.lst [])) (.cmp .eq (.call "_law_draw" [(.var 0), (.int 3)]) (.int 0))) [.unp [3, 4] (.call "_law_of" [(.var 0), (.var 2)]),
    .set 5 (.call "_law_of" [(.var 0), (.lst [(.bin .pow (.int 10) (.int 9)), (.neg (.bin .pow (.int 10) (.int 9))), (.bin .sub (.bin .pow (.int 10) (.int 9)) (.int 1)), (.bin .sub (.int 1) (.bin .pow (.int 10) (.int 9)))])]),
    .set 1 (.call "_law_put_at" [(.var 1), (.var 3), (.bin .add (.sl (.bor 4) .non (.neg (.int 1))) (.tup [(.tup [(.var 5), (.ix (.ix (.bor 4) (.neg (.int 1))) (.int 1))])]))])] []) ⟨envF f (some (.ml (((parts f []).filter fun x => isAt x.2).map pair))) none none none none, g⟩ =
      .ok .nx ⟨envF f' o2 o3 o4 o5 none, g'⟩ ∧ Dn 9 283 f' ∧ GOK (b + 3) g' := by
  have hd := hf.de
  have hs := hf.si
  have eqr := eq_rows ((parts f []).filter fun x => isAt x.2) fun x m => by
    have := (parts_mem (List.mem_filter.mp m).1).1
    omega
  have hrl : ((parts f []).filter fun x => isAt x.2).length ≤ 283 := by
    have := List.length_filter_le (fun x : List Int × F => isAt x.2) (parts f [])
    rw [parts_len] at this
    omega
  have hmem : ∀ x ∈ (parts f []).filter fun x => isAt x.2, x ∈ parts f [] ∧ isAt x.2 = true := fun x m => List.mem_filter.mp m
  generalize ((parts f []).filter fun x => isAt x.2) = rows at eqr hrl hmem ⊢
  cases hr : rows.isEmpty with
  | true =>
    rw [hr] at eqr
    refine ⟨f, some (.ml (rows.map pair)), none, none, none, g, ?_, hf, hg.mono (by omega)⟩
    simp [envF, cmp2, eqr]
  | false =>
    rw [hr] at eqr
    have hne : rows ≠ [] := fun e => by rw [e] at hr; cases hr
    obtain ⟨v, g1, e1, v0, v1, hg1⟩ := draw_ok (k + 6) b g 3 hg (by omega) (by omega) (by omega)
    by_cases q : v = 0
    · obtain ⟨x, g2, e2, mx, hg2⟩ := law_of_ok (k + 5) _ (rows.map pair) g1 hg1 (by omega) (by simpa using hne) (by rw [List.length_map]; omega)
      obtain ⟨⟨p, y⟩, my, rfl⟩ := List.mem_map.mp mx
      obtain ⟨m1, hat⟩ := hmem _ my
      obtain ⟨c, g3, e3, mc, hg3⟩ := law_of_ok (k + 5) _ [.int 1000000000, .int (-1000000000), .int 999999999, .int (-999999999)] g2 hg2 (by omega)
      obtain ⟨c, rfl, c1, c2⟩ : ∃ i : Int, c = .int i ∧ -1000000000 ≤ i ∧ i ≤ 1000000000 := by
        simp at mc
        rcases mc with rfl | rfl | rfl | rfl
        · exact ⟨_, rfl, by omega, by omega⟩
        · exact ⟨_, rfl, by omega, by omega⟩
        · exact ⟨_, rfl, by omega, by omega⟩
        · exact ⟨_, rfl, by omega, by omega⟩
      obtain ⟨p', e4, hsub⟩ := parts_sub f [] p y m1
      rw [List.nil_append] at e4
      subst e4
      obtain ⟨f', sb⟩ := hsub (newAt y c)
      obtain ⟨n1, n2, n3, n4⟩ := newAt_ok hat ((parts_mem m1).2.2 hf.ok) c1 c2
      have e5 := sub_put sb (k + 7) g3 (by omega) (by omega)
      refine ⟨f', some (.im (.lst (rows.map pair))), some (.im (pt p)), some (.im y.d), some (.im (.int c)), g3, ?_, ⟨sub_ok sb hf.ok n1, sub_nb sb hf.nb n2, Nat.le_trans (sub_dep sb n3) hd, Nat.le_trans (sub_size sb n4) hs⟩, hg3.mono (by omega)⟩
      have p9 : powD (.int 10) (.int 9) = some (.int 1000000000) := rfl
      have sa : subD (.int 1000000000) (.int 1) = some (.int 999999999) := rfl
      have sb' : subD (.int 1) (.int 1000000000) = some (.int (-999999999)) := rfl
      have c2' : ∀ a b : D, slD (.tup [a, b]) none (some (-1)) = some (.tup [a]) := fun a b => rfl
      have c3' : ∀ a b d : D, slD (.tup [a, b, d]) none (some (-1)) = some (.tup [a, b]) := fun a b d => rfl
      have t1 : ∀ t : Tm, ixD t.d (.int 1) = some (.tup (pD t.ps)) := fun t => rfl
      have bt : ∀ (e : List (Option DV)) (g : Option GS), bindT (.many [3, 4]) (pair (p, y)) ⟨e, g⟩ = some ⟨(e.set 3 (some (.im (pt p)))).set 4 (some (.im y.d)), g⟩ := fun e g => rfl
      have ha : ∀ y' : D, evE prog.gl (run prog (k + 8)) (.bin .add (.sl (.bor 4) .non (.neg (.int 1))) (.tup [(.tup [(.var 5), (.ix (.ix (.bor 4) (.neg (.int 1))) (.int 1))])])) ⟨[some (.im .hnd), some (.im f.d), some (.im (.lst (rows.map pair))), some (.im (pt p)), some (.im y.d), some (.im (.int c)), none], g3⟩ = .ok (newAt y c).d ⟨[some (.im .hnd), some (.im f.d), some (.im (.lst (rows.map pair))), some (.im (pt p)), some (.im y.d), some (.im (.int c)), none], g3⟩ := by
        intro _
        cases y with
        | ge t => simp [F.d, partOf, c2', ixm2, ix1, op2, addD, SZ, newAt, Tm.d]
        | eq t => simp [F.d, partOf, c2', ixm2, ix1, op2, addD, SZ, newAt, Tm.d]
        | mod m t => simp [F.d, partOf, c3', ixm3, ix1, op2, addD, SZ, newAt, Tm.d]
        | _ => cases hat
      have ha := ha .non
      rw [evS_ifs]
      have hc : evE prog.gl (run prog (k + 8)) (.and (.cmp .ne (.bor 2) (.lst [])) (.cmp .eq (.call "_law_draw" [(.var 0), (.int 3)]) (.int 0))) ⟨envF f (some (.ml (rows.map pair))) none none none none, g⟩ = .ok (.bl true) ⟨envF f (some (.ml (rows.map pair))) none none none none, g1⟩ := by
        simp [envF, cmp2, eqr, e1, eqD_int, q]
      rw [hc, br_t]
      refine st (s1 := ⟨[some (.im .hnd), some (.im f.d), some (.im (.lst (rows.map pair))), some (.im (pt p)), some (.im y.d), none, none], g2⟩) ?_ (st (s1 := ⟨[some (.im .hnd), some (.im f.d), some (.im (.lst (rows.map pair))), some (.im (pt p)), some (.im y.d), some (.im (.int c)), none], g3⟩) ?_ ?_)
      · simp [envF, e2, bt]
      · simp [op2, p9, sa, sb', e3]
      · have ev : ∀ e, evEs prog.gl (run prog (k + 8)) [e] ⟨[some (.im .hnd), some (.im f.d), some (.im (.lst (rows.map pair))), some (.im (pt p)), some (.im y.d), some (.im (.int c)), none], g3⟩ = (evE prog.gl (run prog (k + 8)) e ⟨[some (.im .hnd), some (.im f.d), some (.im (.lst (rows.map pair))), some (.im (pt p)), some (.im y.d), some (.im (.int c)), none], g3⟩).nd fun d s => .ok [d] s := fun e => rfl
        rw [evB_cons, evS_set, evE_call, evEs_cons]
        simp only [evE_var, get_mk, List.getElem?_cons_succ, List.getElem?_cons_zero, Option.getD_some, rdV_im, nd_ok, evEs_cons, ha, evEs_nil]
        rw [e5]
        simp [envF]
    · refine ⟨f, some (.ml (rows.map pair)), none, none, none, g1, ?_, hf, hg1.mono (by omega)⟩
      simp [envF, cmp2, eqr, e1, eqD_int, q]
end Dl.K03
end
section
set_option Elab.async false
set_option autoImplicit false
set_option linter.all false
set_option maxRecDepth 10000
/-! FM: the formula of the law, drawn. -/
namespace Dl.K03
open Dl
theorem fm_deep (k b : Nat) (f : F) (o2 o3 o4 o5 : Option DV) (g : Option GS) (hf : Dn 9 283 f) (hk : 20 ≤ k) (hg : GOK b g) (hb : b < 2 ^ 50) :
    ∃ f' o6 g', evS prog.fl prog.gl (run prog (k + 8)) (.ifs (.cmp .eq (.call "_law_draw" [(.var 0), (.int 3)]) (.int 0)) [.fors (.one 6) (.iRng (.bin .sub (.int 20) (.call "_law_deep" [(.var 1)]))) [.set 1 (.tup [(.call "_law_of" [(.var 0), (.lst [(.str "and"), (.str "or")])]), (.tup [(.var 1)])])]] []) ⟨envF f o2 o3 o4 o5 none, g⟩ =
      .ok .nx ⟨envF f' o2 o3 o4 o5 o6, g'⟩ ∧ Dn 20 400 f' ∧ GOK (b + 21) g' := by
  have hd := hf.de
  have hs := hf.si
  obtain ⟨v, g1, e1, v0, v1, hg1⟩ := draw_ok (k + 6) b g 3 hg (by omega) (by omega) (by omega)
  by_cases q : v = 0
  · have e2 := law_deep_ok f (k + 7) g1 hf.nb (by omega) (by omega)
    have hN : ∃ N : Nat, (N : Int) = 20 - (f.dep : Int) ∧ N ≤ 20 := ⟨20 - f.dep, by omega, by omega⟩
    obtain ⟨N, hN, hN2⟩ := hN
    have sN : subD (.int 20) (.int (f.dep : Nat)) = some (.int (N : Nat)) := by rw [hN]; rfl
    have loop : ∀ (l : List D) (f : F) (o6 : Option DV) (b : Nat) (g : Option GS), GOK b g → b + l.length < 2 ^ 51 → f.dep + l.length ≤ 20 → Dn 20 (400 - l.length) f → l.length ≤ 20 →
        ∃ f' a6 g', walk (turn prog.fl prog.gl (run prog (k + 8)) (.one 6) [.set 1 (.tup [(.call "_law_of" [(.var 0), (.lst [(.str "and"), (.str "or")])]), (.tup [(.var 1)])])]) l ⟨[some (.im .hnd), some (.im f.d), o2, o3, o4, o5, o6], g⟩ = .ok .nx ⟨[some (.im .hnd), some (.im f'.d), o2, o3, o4, o5, a6], g'⟩ ∧ GOK (b + l.length) g' ∧ Dn 20 400 f' := by
      intro l
      induction l with
      | nil => intro f o6 b g hg hb hl hf _; exact ⟨f, o6, g, rfl, hg.mono (by omega), hf.up (by omega) (by omega)⟩
      | cons y l ihl =>
        intro f o6 b g hg hb hl hf h20
        rw [List.length_cons] at hb hl hf h20
        obtain ⟨x, g2, e2, mx, hg2⟩ := law_of_ok (k + 5) b [.str "and", .str "or"] g hg (by omega)
        obtain ⟨w, rfl⟩ : ∃ w, x = .str (cw w) := by
          simp at mx
          rcases mx with rfl | rfl
          · exact ⟨true, rfl⟩
          · exact ⟨false, rfl⟩
        have h1 := hf.si
        have h2 := hf.de
        obtain ⟨f', a6, g3, e3, q1, q2⟩ := ihl (.con w [f]) (some (.im y)) _ g2 hg2 (by omega) (by simp only [F.dep, F.deps]; omega) ⟨⟨hf.ok, trivial⟩, by simp [F.nb, F.nbs, hf.nb], by simp only [F.dep, F.deps]; omega, by simp only [F.size, F.sizes]; omega⟩ (by omega)
        refine ⟨f', a6, g3, ?_, q1.mono (by rw [List.length_cons]; omega), q2⟩
        rw [walk_cons]
        simp [e2]
        simp [F.d, F.ds] at e3
        exact e3
    obtain ⟨f', a6, g3, e3, q1, q2⟩ := loop (rangeD 0 N) f none _ g1 hg1 (by rw [rangeD_len]; omega) (by rw [rangeD_len]; omega) (hf.up (by omega) (by rw [rangeD_len]; omega)) (by rw [rangeD_len]; omega)
    rw [rangeD_len] at q1
    refine ⟨f', a6, g3, ?_, q2, q1.mono (by omega)⟩
    have sm : small (N : Int) = true := small_i (by omega) (by omega)
    simp [envF, e1, cmp2, eqD_int, q, op2, e2, sN, sm]
    rw [e3]
    simp
  · refine ⟨f, none, g1, ?_, hf.up (by omega) (by omega), hg1.mono (by omega)⟩
    simp [envF, e1, cmp2, eqD_int, q]
theorem law_formula_ok (k b : Nat) (g : Option GS) (hk : 20 ≤ k) (hg : GOK b g) (hb : b < 2 ^ 49) : ∃ (f : F) (g' : Option GS), run prog (k + 9) "_law_formula" [.hnd] g = .ok f.d g' ∧ Dn 20 400 f ∧ GOK (b + 6000) g' := by
  obtain ⟨f, g1, e1, hf, hg1⟩ := law_bound_ok 3 k b g (by omega) (by omega) hg (by have : bu 3 = 60 * 27 + 60 * 9 + 60 * 3 + 60 := rfl; omega)
  have z : sz 3 = 283 := rfl
  have u : bu 3 = 2400 := rfl
  rw [z] at hf
  rw [u] at hg1
  have e2 := fm_rows k f g1 (hf.up (by omega) (by omega)) (by omega)
  obtain ⟨f2, o2, o3, o4, o5, g2, e3, hf2, hg2⟩ := fm_put k _ f g1 hf (by omega) hg1 (by omega)
  obtain ⟨f3, o6, g3, e4, hf3, hg3⟩ := fm_deep k _ f2 o2 o3 o4 o5 g2 hf2 (by omega) hg2 (by omega)
  refine ⟨f3, g3, ?_, hf3, hg3.mono (by omega)⟩
  have e1' : run prog (k + 8) "_law_bound" [.hnd, .lst [.int 0, .int 1, .int 2, .int 3], .int 3, .int 3] g = .ok f.d g1 := e1
  have e0 : evB prog.fl prog.gl (run prog (k + 8)) f_law_formula.body ⟨start 7 [.hnd], g⟩ = .ok (.ret f3.d) ⟨envF f3 o2 o3 o4 o5 o6, g3⟩ := by
    simp only [f_law_formula]
    refine st (s1 := ⟨envF f none none none none none, g1⟩) ?_ (st (s1 := ⟨envF f (some (.ml (((parts f []).filter fun x => isAt x.2).map pair))) none none none none, g1⟩) ?_ (st (s1 := ⟨envF f2 o2 o3 o4 o5 none, g2⟩) ?_ (st (s1 := ⟨envF f3 o2 o3 o4 o5 o6, g3⟩) ?_ ?_)))
    · simp [start, e1', envF]
    · exact e2
    · exact e3
    · exact e4
    · simp [envF]
  rw [run_eq f_law_formula rfl rfl]
  show finish (evB prog.fl prog.gl (run prog (k + 8)) f_law_formula.body ⟨start 7 [.hnd], g⟩) = _
  rw [e0, fin_ret]
end Dl.K03
end
section
set_option Elab.async false
set_option autoImplicit false
set_option linter.all false
set_option maxRecDepth 10000
/-! FN: one turn of the law; many parts. -/
namespace Dl.K03
open Dl
theorem wid_40 {i : Int} (h : i.natAbs < 2 ^ 40) : (D.int i).wid ≤ 43 := by
  have h2 : i.natAbs < 2 ^ 1900 := Nat.lt_trans h (Nat.pow_lt_pow_right (by decide) (by decide))
  rw [D.wid, if_pos h2]
  have : i.natAbs.log2 ≤ 40 := by
    by_cases z : i.natAbs = 0
    · rw [z]; exact Nat.zero_le _
    · exact Nat.le_of_lt ((Nat.log2_lt z).mpr h)
  omega
theorem wid_tup (l : List D) : (D.tup l).wid = D.wids l + 3 := by rw [D.wid]
theorem wid_str (x : String) : (D.str x).wid = 10 * x.length + 2 := by rw [D.wid]
theorem wid_tm {t : Tm} (h : t.ok) : t.d.wid ≤ 1003 := by
  have hl := pok_len (by omega) (by omega) h.ps
  have hp := pok_from (by omega) h.ps
  have h1 : D.wids (pD t.ps) ≤ (pD t.ps).length * (93 + 2) := wids_le fun d m => by
    obtain ⟨p, mp, rfl⟩ := List.mem_map.mp m
    obtain ⟨a, b, c, e⟩ := hp p mp
    have w1 := wid_40 (i := p.1) (by omega)
    have w2 := wid_40 (i := p.2) (by omega)
    simp only [D.wid, D.wids] at w1 w2 ⊢
    omega
  have h2 : (pD t.ps).length ≤ 10 := by rw [pD, List.length_map]; omega
  have h3 := Nat.mul_le_mul_right (93 + 2) h2
  have lo := h.lo
  have hi := h.hi
  have w1 := wid_40 (i := t.c) (by omega)
  simp only [Tm.d, D.wid, D.wids] at w1 ⊢
  omega
theorem len_cw (w : Bool) : (cw w).length ≤ 3 := by cases w <;> decide
theorem len_qw (w : Bool) : (qw w).length ≤ 4 := by cases w <;> decide
theorem wid_d (f : F) : f.ok → f.d.wid + 2 ≤ 2000 * f.size := by
  induction f using F.ind with
  | ge t =>
    intro h
    have := wid_tm (show t.ok from h)
    have : ("ge" : String).length = 2 := rfl
    simp only [F.d, D.wid, D.wids, F.size]
    omega
  | eq t =>
    intro h
    have := wid_tm (show t.ok from h)
    have : ("eq" : String).length = 2 := rfl
    simp only [F.d, D.wid, D.wids, F.size]
    omega
  | mod m t =>
    intro h
    have := wid_tm h.2.2
    have h1 := h.1
    have h2 := h.2.1
    have w1 := wid_40 (i := m) (by omega)
    have : ("mod" : String).length = 3 := rfl
    simp only [F.d, F.size, wid_tup, D.wids, wid_str]
    omega
  | not f ih =>
    intro h
    have := ih h
    have : ("not" : String).length = 3 := rfl
    simp only [F.d, D.wid, D.wids, F.size]
    omega
  | qu w x f ih =>
    intro h
    have := ih h.2.2
    have h1 := h.1
    have h2 := h.2.1
    have w1 := wid_40 (i := x) (by omega)
    have := len_qw w
    simp only [F.d, F.size, wid_tup, D.wids, wid_str]
    omega
  | con w l ih =>
    intro h
    have hs : ∀ l : List F, (∀ f ∈ l, f.d.wid + 2 ≤ 2000 * f.size) → D.wids (F.ds l) ≤ 2000 * F.sizes l := by
      intro l
      induction l with
      | nil => intro _; simp [F.ds, D.wids]
      | cons a l ih =>
        intro h
        have := h a (List.mem_cons_self ..)
        have := ih fun f m => h f (List.mem_cons_of_mem _ m)
        simp only [F.ds, D.wids, F.sizes]
        omega
    have := hs l fun f m => ih f m ((oks_iff l).mp h f m)
    have := len_cw w
    simp only [F.d, D.wid, D.wids, F.size]
    omega
  | bad n =>
    intro _
    simp only [F.d, badD, F.size]
    have : ("not" : String).length = 3 := rfl
    have : ("or" : String).length = 2 := rfl
    split
    · simp [D.wid]
    · split <;> simp only [D.wid, D.wids] <;> omega
theorem shw_tell {f : F} (h : f.ok) (hd : f.dep ≤ 22) (hs : f.size ≤ 2000) : (tell f.d).shw = true := by
  have h1 := wid_d f h
  have h2 := dep_d f
  have : ("told" : String).length = 4 := rfl
  refine shw_of ?_ ?_
  · simp only [tell, D.wid, D.wids]; omega
  · simp only [tell, D.dep, D.deps]; omega
theorem shw_two {f : F} (h : f.ok) (hd : f.dep ≤ 22) (hs : f.size ≤ 2000) : (D.lst [.bl true, f.d]).shw = true := by
  have h1 := wid_d f h
  have h2 := dep_d f
  refine shw_of ?_ ?_
  · simp only [D.wid, D.wids]; omega
  · simp only [D.dep, D.deps]; omega
theorem shw_made {f : F} (h : f.bnd = true → f.ok) (hd : f.dep ≤ 22) (hs : f.size ≤ 2000) : (madeD f).shw = true := by
  rw [madeD]
  split
  · rename_i q
    split
    · exact shw_tell (h q) hd hs
    · decide +kernel
  · decide +kernel
/-- what is caught from inward, from negated -/
def gotR (f : F) (g : Option GS) : RC := .ok (madeD f) g
theorem caught_in (k : Nat) (f : F) (c : Bool) (g : Option GS) (r : R D) (e : List (Option DV)) (hf : Dn 20 600 f) (h : cl (inR f c g) ⟨e, g⟩ = r) : ctX (run prog (k + 1)) "_law_caught" r ⟨e, g⟩ = .ok (madeD (iw f c)) ⟨e, g⟩ := by
  subst h
  have hs := hf.si
  have hd := hf.de
  have s1 := iw_size f c
  have d1 := iw_dep f c
  have hw := wk_deep (iw f c) [] 1 0 (iw_nb f c hf.nb) (by omega) (by omega)
  rw [inR, madeD]
  by_cases q : (iw f c).bnd = true
  · rw [if_pos q, if_pos q, nfR, hw]
    by_cases q2 : (iw f c).dep < 21
    · rw [if_pos (by omega), if_pos q2]
      simp only [cl_ok, ctX_ok]
      rw [caught_ok]
      rfl
    · rw [if_neg (by omega), if_neg q2]
      simp only [cl_ex, ctX_ex]
      rw [caught_gr]
      rfl
  · rw [if_neg q, if_neg q]
    simp only [cl_ex, ctX_ex, BX]
    rw [caught_gr]
    rfl
/-! many parts -/
def t31 : Tm := ⟨3, [(1, 1)]⟩
def mF (n : Nat) : F := .con true (List.replicate n (.eq t31))
theorem mem_rep {α : Type} {a b : α} {n : Nat} (h : b ∈ List.replicate n a) : b = a := List.eq_of_mem_replicate h
theorem t31_ok : t31.ok := ⟨by decide, by decide, by decide, by decide, by decide, by decide, by decide, trivial⟩
theorem mF_ok (n : Nat) : (mF n).ok ∧ (mF n).nb = true ∧ (mF n).dep ≤ 2 ∧ (mF n).size = n + 1 := by
  refine ⟨(oks_iff _).mpr fun f m => by rw [mem_rep m]; exact t31_ok, (nbs_iff _).mpr fun f m => by rw [mem_rep m]; rfl, ?_, ?_⟩
  · have := deps_leF (s := 1) (l := List.replicate n (F.eq t31)) fun f m => by rw [mem_rep m]; exact Nat.le_refl _
    simp only [mF, F.dep]
    omega
  · have : ∀ n, F.sizes (List.replicate n (F.eq t31)) = n := fun n => by
      induction n with
      | zero => rfl
      | succ n ih => rw [List.replicate_succ, F.sizes, ih]; simp [F.size]; omega
    simp only [mF, F.size, this]
def e31 : F := .con false [.ge ⟨2, [(1, 1)]⟩, .ge ⟨-4, [(1, -1)]⟩]
theorem iw_mF (n : Nat) : iw (mF n) true = .con false (List.replicate n e31) := by
  rw [mF, iw, iws_map, List.map_replicate]
  rfl
theorem im_ok (n : Nat) (h : n ≤ 1000) : (iw (mF n) true).bnd = true ∧ (iw (mF n) true).dep ≤ 3 ∧ (iw (mF n) true).size = 3 * n + 1 := by
  rw [iw_mF]
  refine ⟨(bnds_iff _).mpr fun f m => by rw [mem_rep m]; rfl, ?_, ?_⟩
  · have := deps_leF (s := 2) (l := List.replicate n e31) fun f m => by rw [mem_rep m]; exact Nat.le_refl _
    simp only [F.dep]
    omega
  · have : ∀ n, F.sizes (List.replicate n e31) = 3 * n := fun n => by
      induction n with
      | zero => rfl
      | succ n ih => rw [List.replicate_succ, F.sizes, ih]; simp [e31, F.size, F.sizes]; omega
    simp only [F.size, this]
def mDue (n : Nat) : D := if n < 667 then tell (iw (mF n) true).d else grD 2000
theorem mDue_shw (n : Nat) (h : n ≤ 1000) : (mDue n).shw = true := by
  obtain ⟨h1, h2, h3⟩ := im_ok n h
  rw [mDue]
  split
  · exact shw_tell (iw_ok _ _ (mF_ok n).1 h1) (by omega) (by omega)
  · decide +kernel
theorem caught_many (k n : Nat) (g : Option GS) (r : R D) (e : List (Option DV)) (hn : n ≤ 1000) (h : cl (inR (mF n) true g) ⟨e, g⟩ = r) : ctX (run prog (k + 1)) "_law_caught" r ⟨e, g⟩ = .ok (mDue n) ⟨e, g⟩ := by
  subst h
  obtain ⟨h1, h2, h3⟩ := im_ok n hn
  have hw := wk_many (iw (mF n) true) [] 1 0 (iw_nb _ _ (mF_ok n).2.1) (by omega) (by omega)
  rw [inR, if_pos h1, nfR, hw, mDue]
  by_cases q : n < 667
  · rw [if_pos (by omega), if_pos q]
    simp only [cl_ok, ctX_ok]
    rw [caught_ok]
    rfl
  · rw [if_neg (by omega), if_neg q]
    simp only [cl_ex, ctX_ex]
    rw [caught_gr]
    rfl
end Dl.K03
end
section
set_option Elab.async false
set_option autoImplicit false
set_option linter.all false
set_option maxRecDepth 10000
/-! FO: many parts; one turn of the law. -/
namespace Dl.K03
open Dl
theorem rep_rep {α : Type} (a : α) : ∀ n : Nat, rep n [a] = List.replicate n a
  | 0 => rfl
  | n + 1 => by rw [rep, rep_rep a n]; rfl
theorem mulT (d : D) (n : Nat) (h1 : 2 ≤ n) (h2 : n ≤ 1000) : mulD (.tup [d]) (.int (n : Nat)) = some (.tup (List.replicate n d)) := by
  unfold mulD
  have q : ¬ (([d] : List D) = [] ∨ (n : Int) = 1) := by
    intro z
    rcases z with z | z
    · cases z
    · omega
  simp only [q, if_false]
  rw [if_pos ⟨by omega, by omega, by simp⟩, rep_rep]
  simp
theorem mF_d (n : Nat) : (mF n).d = .tup [.str "and", .tup (List.replicate n (.tup [.str "eq", .tup [.int 3, .tup [.tup [.int 1, .int 1]]]]))] := by
  rw [mF, F.d, ds_map, List.map_replicate]
  rfl
theorem many_ok (b : Nat) (g : Option GS) (hg : GOK b g) (hb : b < 2 ^ 50) : ∃ g', run prog 40 "_law_many_parts" [.hnd] g = .ok (.bl true) g' := by
  obtain ⟨v, g1, e1, v0, v1, hg1⟩ := draw_ok 37 b g 4 hg (by omega) (by omega) (by omega)
  simp only [Nat.reduceAdd] at e1
  rw [show (40 : Nat) = 39 + 1 from rfl, run_eq f_law_many_parts rfl rfl]
  by_cases q : 0 < v
  · exact ⟨g1, by simp [f_law_many_parts, start, e1, cmp2, gtD, q]⟩
  · obtain ⟨w, g2, e2, w0, w1, hg2⟩ := draw_ok 37 _ g1 4 hg1 (by omega) (by omega) (by omega)
    simp only [Nat.reduceAdd] at e2
    obtain ⟨n, hn⟩ : ∃ n : Nat, (n : Int) = 665 + w := ⟨(665 + w).toNat, by omega⟩
    have hn1 : n ≤ 668 := by omega
    have hn2 : 665 ≤ n := by omega
    obtain ⟨o1, o2, o3, o4⟩ := mF_ok n
    have em := mulT (.tup [.str "eq", .tup [.int 3, .tup [.tup [.int 1, .int 1]]]]) n (by omega) (by omega)
    have ed := mF_d n
    have ei : ∀ g, run prog 39 "_law_inward" [(mF n).d, .bl true] g = .ok (iw (mF n) true).d g := fun g => law_inward_ok (mF n) 38 true g o1 o2 (by omega) (by omega)
    have a1 : ∀ g, run prog 39 "negated" [(mF n).d] g = inR (mF n) true g := fun g => negated_ok (mF n) 32 g o1 o2 (by omega) (by omega) (by omega)
    have a2 : ∀ g, run prog 39 "inward" [.tup [.str "not", (mF n).d]] g = inR (mF n) true g := fun g =>
      inward_ok (.not (mF n)) 32 g o1 o2 (by simp only [F.dep]; omega) (by simp only [F.size]; omega) (by simp only [F.dep]; omega)
    have c1 := fun g r e h => caught_many 38 n g r e (by omega) h
    simp only [Nat.reduceAdd] at c1
    have hk : ∀ g, run prog 39 "_law_like" [mDue n, mDue n] g = .ok (.bl true) g := fun g => like_ok 38 _ g (mDue_shw n (by omega))
    have hd : ∀ o : Option DV, evS prog.fl prog.gl (run prog 39) (.set 3 (.ife (.cmp .lt (.bor 1) (.int 667)) (.tup [(.str "told"), (.call "_law_inward" [(.var 2), (.bl true)])]) (.tup [(.str "great"), (.int 2000), (.bl true)]))) ⟨[some (.im .hnd), some (.im (.int (n : Nat))), some (.im (mF n).d), none], g2⟩ = .ok .nx ⟨[some (.im .hnd), some (.im (.int (n : Nat))), some (.im (mF n).d), some (.im (mDue n))], g2⟩ := by
      intro _
      by_cases z : n < 667
      · have z' : (n : Int) < 667 := by omega
        simp [cmp2, ltD, z', ei, mDue, z, tell]
      · have z' : ¬ (n : Int) < 667 := by omega
        simp [cmp2, ltD, z', mDue, z, grD]
    have hd := hd none
    refine ⟨g2, ?_⟩
    have e0 : evB prog.fl prog.gl (run prog 39) f_law_many_parts.body ⟨start 4 [.hnd], g⟩ = .ok (.ret (.bl true)) ⟨[some (.im .hnd), some (.im (.int (n : Nat))), some (.im (mF n).d), some (.im (mDue n))], g2⟩ := by
      simp only [f_law_many_parts]
      refine st (s1 := ⟨[some (.im .hnd), none, none, none], g1⟩) ?_ (st (s1 := ⟨[some (.im .hnd), some (.im (.int (n : Nat))), none, none], g2⟩) ?_ (st (s1 := ⟨[some (.im .hnd), some (.im (.int (n : Nat))), some (.im (mF n).d), none], g2⟩) ?_ (st (s1 := ⟨[some (.im .hnd), some (.im (.int (n : Nat))), some (.im (mF n).d), some (.im (mDue n))], g2⟩) ?_ ?_)))
      · simp [start, e1, cmp2, gtD, q]
      · simp [e2, op2, addD, hn]
      · rw [ed]
        simp [op2, em]
      · exact hd
      · have k1 : ∀ e, ctX (run prog 39) "_law_caught" (cl (inR (mF n) true g2) ⟨e, g2⟩) ⟨[some (.im .hnd), some (.im (.int (n : Nat))), some (.im (mF n).d), some (.im (mDue n))], g2⟩ = .ok (mDue n) ⟨[some (.im .hnd), some (.im (.int (n : Nat))), some (.im (mF n).d), some (.im (mDue n))], g2⟩ := by
          intro e
          have := caught_many 38 n g2 _ [some (.im .hnd), some (.im (.int (n : Nat))), some (.im (mF n).d), some (.im (mDue n))] (by omega) rfl
          rw [← this]
          cases inR (mF n) true g2 <;> rfl
        simp [evE_caught, Dl.inner, veil, a1, a2, k1, hk]
    show finish (evB prog.fl prog.gl (run prog 39) f_law_many_parts.body ⟨start 4 [.hnd], g⟩) = _
    rw [e0, fin_ret]
def envL (ns : List Int) (f : F) (o3 o4 o5 o6 o7 o8 : Option DV) : List (Option DV) := [some (.im (.lst (ns.map .int))), some (.im .hnd), some (.im f.d), o3, o4, o5, o6, o7, o8]
def lBody : List St := [.set 4 (.call "_law_made" [(.call "_law_inward" [(.var 2), (.var 3)])]),
    .set 5 (.caught "_law_caught" (.ife (.var 3) (.call "negated" [(.var 2)]) (.call "inward" [(.var 2)]))),
    .ifs (.not (.call "_law_like" [(.var 5), (.var 4)])) [.ret (.bl false)] [],
    .ifs (.and (.cmp .eq (.ix (.bor 5) (.int 0)) (.str "told")) (.not (.call "_law_like" [(.lst [(.call "is_inward" [(.ix (.bor 5) (.int 1))]), (.call "inward" [(.ix (.bor 5) (.int 1))])]), (.lst [(.bl true), (.ix (.bor 5) (.int 1))])]))) [.ret (.bl false)] []]
theorem l_turn (ns : List Int) (f : F) (c : Bool) (o3 o4 o5 : Option DV) (g : Option GS) (hf : Dn 20 400 f) :
    ∃ o3' o4' o5', turn prog.fl prog.gl (run prog 40) (.one 3) lBody (.bl c) ⟨envL ns f o3 o4 o5 none none none, g⟩ = .ok .nx ⟨envL ns f o3' o4' o5' none none none, g⟩ := by
  have hs := hf.si
  have hd := hf.de
  have s1 := iw_size f c
  have d1 := iw_dep f c
  have nb := iw_nb f c hf.nb
  have a1 : run prog 40 "_law_inward" [f.d, .bl c] g = .ok (iw f c).d g := law_inward_ok f 39 c g hf.ok hf.nb (by omega) (by omega)
  have a2 : run prog 40 "_law_made" [(iw f c).d] g = .ok (madeD (iw f c)) g := law_made_ok (iw f c) 38 g nb (by omega) (by omega) (by omega)
  have a3 : run prog 40 "inward" [f.d] g = inR f false g := inward_ok f 33 g hf.ok hf.nb (by omega) (by omega) (by omega)
  have a4 : run prog 40 "negated" [f.d] g = inR f true g := negated_ok f 33 g hf.ok hf.nb (by omega) (by omega) (by omega)
  have hk : run prog 40 "_law_like" [madeD (iw f c), madeD (iw f c)] g = .ok (.bl true) g := like_ok 39 _ g (shw_made (iw_ok f c hf.ok) (by omega) (by omega))
  have k1 : ∀ e e', ctX (run prog 40) "_law_caught" (cl (inR f c g) ⟨e, g⟩) ⟨e', g⟩ = .ok (madeD (iw f c)) ⟨e', g⟩ := by
    intro e e'
    have := caught_in 39 f c g _ e' (hf.up (by omega) (by omega)) rfl
    rw [← this]
    cases inR f c g <;> rfl
  refine ⟨some (.im (.bl c)), some (.im (madeD (iw f c))), some (.im (madeD (iw f c))), ?_⟩
  have e5 : evB prog.fl prog.gl (run prog 40) lBody ⟨envL ns f (some (.im (.bl c))) o4 o5 none none none, g⟩ = .ok .nx ⟨envL ns f (some (.im (.bl c))) (some (.im (madeD (iw f c)))) (some (.im (madeD (iw f c)))) none none none, g⟩ := by
    simp only [lBody]
    refine st (s1 := ⟨envL ns f (some (.im (.bl c))) (some (.im (madeD (iw f c)))) o5 none none none, g⟩) ?_ (st (s1 := ⟨envL ns f (some (.im (.bl c))) (some (.im (madeD (iw f c)))) (some (.im (madeD (iw f c)))) none none none, g⟩) ?_ (st (s1 := ⟨envL ns f (some (.im (.bl c))) (some (.im (madeD (iw f c)))) (some (.im (madeD (iw f c)))) none none none, g⟩) ?_ ?_))
    · simp [envL, a1, a2]
    · cases c <;> simp [envL, evE_caught, Dl.inner, veil, a3, a4, k1]
    · simp [envL, hk]
    · rw [madeD]
      by_cases q : (iw f c).bnd = true
      · rw [if_pos q]
        by_cases q2 : (iw f c).dep < 21
        · rw [if_pos q2]
          have ok := iw_ok f c hf.ok q
          have dv := iw_drv f c
          have b1 : run prog 40 "is_inward" [(iw f c).d] g = .ok (.bl (drv (iw f c))) g := is_inward_ok (iw f c) 33 g ok nb (by omega) (by omega) (by omega)
          have b2 : run prog 40 "inward" [(iw f c).d] g = inR (iw f c) false g := inward_ok (iw f c) 33 g ok nb (by omega) (by omega) (by omega)
          have b3 : inR (iw f c) false g = .ok (iw f c).d g := by
            rw [inR, iw_id _ dv, if_pos q, nfR, good_wk nb (by omega) (by omega)]
          rw [b3] at b2
          rw [dv] at b1
          have hk2 : run prog 40 "_law_like" [.lst [.bl true, (iw f c).d], .lst [.bl true, (iw f c).d]] g = .ok (.bl true) g := like_ok 39 _ g (shw_two ok (by omega) (by omega))
          simp [envL, tell, ix0, ix1, cmp2, eqD_str, b1, b2, hk2]
        · rw [if_neg q2]
          simp [envL, grD, ix0, cmp2, eqD_str]
      · rw [if_neg q]
        simp [envL, grD, ix0, cmp2, eqD_str]
  show turn _ _ _ _ _ _ ⟨[_, _, _, _, _, _, _, _, _], _⟩ = _
  rw [turn_one]
  exact e5
end Dl.K03
end
section
set_option Elab.async false
set_option autoImplicit false
set_option linter.all false
set_option maxRecDepth 10000
/-! PL_k03: k03, the plain law. -/
namespace Dl.K03
open Dl
def LEV : Nat := 40
theorem ixp0 (x : List Int × F) : ixD (pair x) (.int 0) = some (pt x.1) := rfl
theorem gd_pt {p : List Int} (h1 : p.length ≤ 40) (h2 : ∀ a ∈ p, 0 ≤ a ∧ a ≤ 402) : Gd 1 1003 (pt p) := gd_tup 40 (fun d m => by
  obtain ⟨a, ma, rfl⟩ := List.mem_map.mp m
  have := h2 a ma
  exact gd_int (i := a) (by omega)) (by rw [List.length_map]; exact h1)
theorem law_ok (ns : List Int) (h : ns.length ≤ 63) : ∃ g, run prog (LEV + 1) "law" [.lst (ns.map D.int)] none = .ok (.bl true) g := by
  obtain ⟨g0, e0, h0⟩ := begin_ok 39 ns (by omega)
  obtain ⟨f, g1, e1, hf, h1⟩ := law_formula_ok 31 0 g0 (by omega) h0 (by omega)
  have hs := hf.si
  have hd := hf.de
  obtain ⟨a3, a4, a5, t1⟩ := l_turn ns f false none none none g1 hf
  obtain ⟨b3, b4, b5, t2⟩ := l_turn ns f true a3 a4 a5 g1 hf
  have i1 : run prog 40 "is_inward" [f.d] g1 = .ok (.bl (drv f)) g1 := is_inward_ok f 33 g1 hf.ok hf.nb (by omega) (by omega) (by omega)
  have i2 : run prog 40 "_law_ahead" [f.d] g1 = .ok (.bl (drv f)) g1 := law_ahead_ok f 38 g1 hf.nb (by omega) (by omega) (by omega)
  have i3 : run prog 40 "_law_like" [.bl (drv f), .bl (drv f)] g1 = .ok (.bl true) g1 := like_ok 39 _ g1 (by cases drv f <;> decide +kernel)
  have p1 : run prog 40 "_law_parts" [f.d, .tup []] g1 = .ok (.lst ((parts f []).map pair)) g1 := law_parts_ok f 39 [] g1 hf.nb (by omega) (by omega) (by simp; omega)
  have pl := parts_len f []
  have sp := size_pos f
  obtain ⟨x, g2, e2, mx, h2⟩ := law_of_ok 37 _ ((parts f []).map pair) g1 h1 (by omega) (by
    intro e
    have := congrArg List.length e
    rw [List.length_map, pl] at this
    simp at this
    omega) (by rw [List.length_map, pl]; omega)
  obtain ⟨⟨p, y⟩, my, rfl⟩ := List.mem_map.mp mx
  obtain ⟨p', hp, hsub⟩ := parts_sub f [] p y my
  rw [List.nil_append] at hp
  subst hp
  obtain ⟨x, g3, e3, mx3, h3⟩ := law_of_ok 37 _ [.non, .tup [.str "not"], .tup [.str "or", .lst []]] g2 h2 (by omega)
  obtain ⟨n, rfl⟩ : ∃ n : Nat, x = (F.bad n).d := by
    simp at mx3
    rcases mx3 with rfl | rfl | rfl
    · exact ⟨0, rfl⟩
    · exact ⟨1, rfl⟩
    · exact ⟨2, rfl⟩
  obtain ⟨v, sb⟩ := hsub (.bad n)
  have vd := sub_dep sb rfl
  have vs := sub_size sb rfl
  have vo := sub_ok sb hf.ok trivial
  have vb := sub_bad sb n 1 0 [] rfl hf.nb (by omega) (by omega)
  rw [List.nil_append] at vb
  obtain ⟨q1, q2⟩ := sub_path sb
  have e4 : run prog 40 "_law_put_at" [f.d, pt p, (F.bad n).d] g3 = .ok v.d g3 := sub_put sb 39 g3 (by omega) (by omega)
  obtain ⟨r1, r2, r3⟩ := bad_all v 33 g3 p vo (by omega) vb
  have cb : run prog 40 "_law_caught" [encEx g3 g3 (badF p)] g3 = .ok (.tup [.str "formula", pt p, .bl true]) g3 := caught_bad 39 p g3 g3
  obtain ⟨g4, e5⟩ := many_ok _ g3 h3 (by omega)
  have gp := gd_pt (p := p) (by omega) (fun a m => by have := q2 a m; omega)
  have gx : Gd 2 3018 (.tup [.str "formula", pt p, .bl true]) := (gd_tup (k := 1) (w := 1003) 3 (fun d m => by
      simp at m
      rcases m with rfl | rfl | rfl
      · exact (gd_str _ (by decide)).up
      · exact gp
      · exact (gd_bl _).up) (by simp)).up
  have hsw : (D.lst [.tup [.str "formula", pt p, .bl true], .tup [.str "formula", pt p, .bl true], .tup [.str "formula", pt p, .bl true]]).shw = true := (gd_lst (k := 2) (w := 3018) 3 (fun d m => by
      simp at m
      subst m
      exact gx) (by simp)).shw
  have hk : run prog 40 "_law_like" [_, _] g3 = .ok (.bl true) g3 := like_ok 39 _ g3 hsw
  have m3 : mulD (.lst [.tup [.str "formula", pt p, .bl true]]) (.int 3) = some (.lst [.tup [.str "formula", pt p, .bl true], .tup [.str "formula", pt p, .bl true], .tup [.str "formula", pt p, .bl true]]) := by
    unfold mulD
    show (if _ then _ else _) = _
    rw [if_pos ⟨by omega, by omega, by simp [SZ]⟩]
    rfl
  have e2' : run prog 40 "_law_of" [.hnd, .lst ((parts f []).map pair)] g1 = .ok (pair (p, y)) g2 := e2
  have e3' : run prog 40 "_law_of" [.hnd, .lst [.non, .tup [.str "not"], .tup [.str "or", .lst []]]] g2 = .ok (F.bad n).d g3 := e3
  refine ⟨g4, ?_⟩
  have b : evB prog.fl prog.gl (run prog 40) flaw.body ⟨start 9 [.lst (ns.map D.int)], none⟩ = .ok (.ret (.bl true)) ⟨envL ns f b3 b4 b5 (some (.im (pt p))) (some (.im v.d)) (some (.im (.lst [.tup [.str "formula", pt p, .bl true], .tup [.str "formula", pt p, .bl true], .tup [.str "formula", pt p, .bl true]]))), g4⟩ := by
    simp only [flaw]
    refine st (s1 := ⟨[some (.im (.lst (ns.map .int))), some (.im .hnd), none, none, none, none, none, none, none], g0⟩) ?_
      (st (s1 := ⟨envL ns f none none none none none none, g1⟩) ?_
      (st (s1 := ⟨envL ns f b3 b4 b5 none none none, g1⟩) ?_
      (st (s1 := ⟨envL ns f b3 b4 b5 none none none, g1⟩) ?_
      (st (s1 := ⟨envL ns f b3 b4 b5 (some (.im (pt p))) none none, g2⟩) ?_
      (st (s1 := ⟨envL ns f b3 b4 b5 (some (.im (pt p))) (some (.im v.d)) none, g3⟩) ?_
      (st (s1 := ⟨envL ns f b3 b4 b5 (some (.im (pt p))) (some (.im v.d)) (some (.ml [.tup [.str "formula", pt p, .bl true]])), g3⟩) ?_
      (st (s1 := ⟨envL ns f b3 b4 b5 (some (.im (pt p))) (some (.im v.d)) (some (.ml [.tup [.str "formula", pt p, .bl true], .tup [.str "formula", pt p, .bl true]])), g3⟩) ?_
      (st (s1 := ⟨envL ns f b3 b4 b5 (some (.im (pt p))) (some (.im v.d)) (some (.ml [.tup [.str "formula", pt p, .bl true], .tup [.str "formula", pt p, .bl true], .tup [.str "formula", pt p, .bl true]])), g3⟩) ?_ ?_))))))))
    · simp [start, e0]
    · have e1' : run prog 40 "_law_formula" [.hnd] g0 = .ok f.d g1 := e1
      simp [envL, e1']
    · have w : walk (turn prog.fl prog.gl (run prog 40) (.one 3) lBody) [.bl false, .bl true] ⟨envL ns f none none none none none none, g1⟩ = .ok .nx ⟨envL ns f b3 b4 b5 none none none, g1⟩ := by
        rw [walk_cons, t1, wk_nx, walk_cons, t2, wk_nx, walk_nil]
      rw [evS_fors]
      exact w
    · simp [envL, i1, i2, i3]
    · simp [envL, p1, e2', ixp0]
    · simp [envL, e3', e4]
    · simp [envL, evE_caught, Dl.inner, veil, r1, cb]
    · simp [envL, evE_caught, Dl.inner, veil, r2, cb, SZ]
    · simp [envL, evE_caught, Dl.inner, veil, r3, cb, SZ]
    · simp [envL, op2, m3, hk, e5]
  rw [show LEV + 1 = 40 + 1 from rfl, run_eq flaw rfl rfl]
  show finish (evB prog.fl prog.gl (run prog 40) flaw.body ⟨start 9 [.lst (ns.map D.int)], none⟩) = _
  rw [b, fin_ret]
theorem plain : ∀ ns : List Int, ns.length ≤ 63 → ∃ g, run prog (LEV + 1) "law" [.lst (ns.map D.int)] none = .ok (.bl true) g := law_ok
end Dl.K03
end
set_option Elab.async false
set_option Elab.async false
set_option linter.all false
set_option maxRecDepth 100000
set_option maxHeartbeats 0
namespace HdT
open PySem PySem.Spec PyProof.Rows L2
def top (i : Nat) : Stmt := PySem.Challenge.pw_wholesay_k03_nots_driven_inward.main.body.getD i (.Pass ⟨0, 0, 0, 0⟩)
def ini (i : Nat) : Stmt := match top i with
  | .ClassDef _ _ _ b _ _ _ _ _ _ _ => b.getD 0 (.Pass ⟨0, 0, 0, 0⟩)
  | s => s
def d7 : He.DefD := ⟨("is_from", none), "is_from", "is_from", defArgs (top 7), defBody (top 7), defScope (top 7), [], []⟩
def d8 : He.DefD := ⟨("are_pairs", none), "are_pairs", "are_pairs", defArgs (top 8), defBody (top 8), defScope (top 8), [], []⟩
def d9 : He.DefD := ⟨("is_term", none), "is_term", "is_term", defArgs (top 9), defBody (top 9), defScope (top 9), [], []⟩
def d10 : He.DefD := ⟨("fitted", none), "fitted", "fitted", defArgs (top 10), defBody (top 10), defScope (top 10), [], []⟩
def d11 : He.DefD := ⟨("scaled", none), "scaled", "scaled", defArgs (top 11), defBody (top 11), defScope (top 11), [], []⟩
def d12 : He.DefD := ⟨("moved", none), "moved", "moved", defArgs (top 12), defBody (top 12), defScope (top 12), [], []⟩
def d17 : He.DefD := ⟨("has_form", none), "has_form", "has_form", defArgs (top 17), defBody (top 17), defScope (top 17), [], []⟩
def d18 : He.DefD := ⟨("inner", none), "inner", "inner", defArgs (top 18), defBody (top 18), defScope (top 18), [], []⟩
def d19 : He.DefD := ⟨("place_of", none), "place_of", "place_of", defArgs (top 19), defBody (top 19), defScope (top 19), [], []⟩
def d20 : He.DefD := ⟨("walked", none), "walked", "walked", defArgs (top 20), defBody (top 20), defScope (top 20), [], []⟩
def d21 : He.DefD := ⟨("need_formula", none), "need_formula", "need_formula", defArgs (top 21), defBody (top 21), defScope (top 21), [], []⟩
def d24 : He.DefD := ⟨("driven_in", none), "driven_in", "driven_in", defArgs (top 24), defBody (top 24), defScope (top 24), [], []⟩
def d25 : He.DefD := ⟨("inward", none), "inward", "inward", defArgs (top 25), defBody (top 25), defScope (top 25), [], []⟩
def d26 : He.DefD := ⟨("negated", none), "negated", "negated", defArgs (top 26), defBody (top 26), defScope (top 26), [], []⟩
def d27 : He.DefD := ⟨("driven", none), "driven", "driven", defArgs (top 27), defBody (top 27), defScope (top 27), [], []⟩
def d28 : He.DefD := ⟨("is_inward", none), "is_inward", "is_inward", defArgs (top 28), defBody (top 28), defScope (top 28), [], []⟩
def d30 : He.DefD := ⟨("_law_mixed", none), "_law_mixed", "_law_mixed", defArgs (top 30), defBody (top 30), defScope (top 30), [], []⟩
def d31 : He.DefD := ⟨("_law_begin", none), "_law_begin", "_law_begin", defArgs (top 31), defBody (top 31), defScope (top 31), [], []⟩
def d32 : He.DefD := ⟨("_law_draw", none), "_law_draw", "_law_draw", defArgs (top 32), defBody (top 32), defScope (top 32), [], []⟩
def d33 : He.DefD := ⟨("_law_of", none), "_law_of", "_law_of", defArgs (top 33), defBody (top 33), defScope (top 33), [], []⟩
def d34 : He.DefD := ⟨("_law_term", none), "_law_term", "_law_term", defArgs (top 34), defBody (top 34), defScope (top 34), [], []⟩
def d35 : He.DefD := ⟨("_law_atom", none), "_law_atom", "_law_atom", defArgs (top 35), defBody (top 35), defScope (top 35), [], []⟩
def d36 : He.DefD := ⟨("_law_plain", none), "_law_plain", "_law_plain", defArgs (top 36), defBody (top 36), defScope (top 36), [], []⟩
def d37 : He.DefD := ⟨("_law_like", none), "_law_like", "_law_like", defArgs (top 37), defBody (top 37), defScope (top 37), [], []⟩
def d38 : He.DefD := ⟨("_law_inside", none), "_law_inside", "_law_inside", defArgs (top 38), defBody (top 38), defScope (top 38), [], []⟩
def d39 : He.DefD := ⟨("_law_parts", none), "_law_parts", "_law_parts", defArgs (top 39), defBody (top 39), defScope (top 39), [], []⟩
def d40 : He.DefD := ⟨("_law_deep", none), "_law_deep", "_law_deep", defArgs (top 40), defBody (top 40), defScope (top 40), [], []⟩
def d41 : He.DefD := ⟨("_law_put_at", none), "_law_put_at", "_law_put_at", defArgs (top 41), defBody (top 41), defScope (top 41), [], []⟩
def d42 : He.DefD := ⟨("_law_bound", none), "_law_bound", "_law_bound", defArgs (top 42), defBody (top 42), defScope (top 42), [], []⟩
def d43 : He.DefD := ⟨("_law_minus", none), "_law_minus", "_law_minus", defArgs (top 43), defBody (top 43), defScope (top 43), [], []⟩
def d44 : He.DefD := ⟨("_law_inward", none), "_law_inward", "_law_inward", defArgs (top 44), defBody (top 44), defScope (top 44), [], []⟩
def d45 : He.DefD := ⟨("_law_caught", none), "_law_caught", "_law_caught", defArgs (top 45), defBody (top 45), defScope (top 45), [], []⟩
def d46 : He.DefD := ⟨("_law_made", none), "_law_made", "_law_made", defArgs (top 46), defBody (top 46), defScope (top 46), [], []⟩
def d47 : He.DefD := ⟨("_law_ahead", none), "_law_ahead", "_law_ahead", defArgs (top 47), defBody (top 47), defScope (top 47), [], []⟩
def d48 : He.DefD := ⟨("_law_formula", none), "_law_formula", "_law_formula", defArgs (top 48), defBody (top 48), defScope (top 48), [], []⟩
def d49 : He.DefD := ⟨("_law_many_parts", none), "_law_many_parts", "_law_many_parts", defArgs (top 49), defBody (top 49), defScope (top 49), [], []⟩
def d50 : He.DefD := ⟨("law", none), "law", "law", defArgs (top 50), defBody (top 50), defScope (top 50), [], []⟩
def d2 : He.DefD := ⟨("BadFormula", some "__init__"), "__init__", "BadFormula.__init__", defArgs (ini 2), defBody (ini 2), defScope (ini 2), [], []⟩
def d3 : He.DefD := ⟨("TooGreat", some "__init__"), "__init__", "TooGreat.__init__", defArgs (ini 3), defBody (ini 3), defScope (ini 3), [], []⟩
def T : Ds.Txt := { fnL := Dl.K03.fnL, ds := [(Dl.K03.nis_from, d7), (Dl.K03.nare_pairs, d8), (Dl.K03.nis_term, d9), (Dl.K03.nfitted, d10), (Dl.K03.nscaled, d11), (Dl.K03.nmoved, d12), (Dl.K03.nhas_form, d17), (Dl.K03.ninner, d18), (Dl.K03.nplace_of, d19), (Dl.K03.nwalked, d20), (Dl.K03.nneed_formula, d21), (Dl.K03.ndriven_in, d24), (Dl.K03.ninward, d25), (Dl.K03.nnegated, d26), (Dl.K03.ndriven, d27), (Dl.K03.nis_inward, d28), (Dl.K03.n_law_mixed, d30), (Dl.K03.n_law_begin, d31), (Dl.K03.n_law_draw, d32), (Dl.K03.n_law_of, d33), (Dl.K03.n_law_term, d34), (Dl.K03.n_law_atom, d35), (Dl.K03.n_law_plain, d36), (Dl.K03.n_law_like, d37), (Dl.K03.n_law_inside, d38), (Dl.K03.n_law_parts, d39), (Dl.K03.n_law_deep, d40), (Dl.K03.n_law_put_at, d41), (Dl.K03.n_law_bound, d42), (Dl.K03.n_law_minus, d43), (Dl.K03.n_law_inward, d44), (Dl.K03.n_law_caught, d45), (Dl.K03.n_law_made, d46), (Dl.K03.n_law_ahead, d47), (Dl.K03.n_law_formula, d48), (Dl.K03.n_law_many_parts, d49), (Dl.K03.nlaw, d50)], cls := Dl.K03.cls, is := [(d2, "self", "path", "not a formula"), (d3, "self", "most", "greater than the bound")], sup := "SayError", nms := ["SayError", "BadFormula", "TooGreat"], flds := ["path", "most"], bn := ["int", "bool", "tuple", "list", "str", "len", "range", "enumerate", "isinstance", "repr", "max", "min", "sum", "sorted", "abs", "zip", "reversed"], zis := Dl.K03.zis, tups := Dl.K03.tups, ths := Dl.K03.ths, dks := Dl.K03.dks }
def loose : List PySem.Str := (["SayError", "BadFormula", "TooGreat", "NAMES", "GREATEST", "is_from", "are_pairs", "is_term", "fitted", "scaled", "moved", "MOST_PARTS", "MOST_DEEP", "MOST_MODULUS", "has_form", "inner", "place_of", "walked", "need_formula", "CONTRARY", "driven_in", "inward", "negated", "driven", "is_inward", "_law_mixed", "_law_begin", "_law_draw", "_law_of", "_law_term"] : List PySem.Str) ++ (["_law_atom", "_law_plain", "_law_like", "_law_inside", "_law_parts", "_law_deep", "_law_put_at", "_law_bound", "_law_minus", "_law_inward", "_law_caught", "_law_made", "_law_ahead", "_law_formula", "_law_many_parts"] : List PySem.Str)
abbrev R : PySem.W.OpenRow := PySem.W.OpenLaw.row PySem.Challenge.rw_wholesay_k03_nots_driven_inward
abbrev hk : PySem.W.Hook := Ds.hookQ 6 T.fa T.fn T.ex T.tabl
def ob (s : PySem.W.SharedT) : Ds.AlQ := Ds.obsQ 6 T.fa T.fn T.ex T.tabl (HandSHeadRun.getT s)
theorem ob_eq (s : PySem.W.SharedT) : ob s = hk.obs s.abs := Ds.obsQ_eq (HandSHeadRun.getT_eq s)
theorem runF (w : World) : HandSHeadRun.RunEq R (PySem.W.view R.prog [50]) hk ob 6000 loose (w.withFollow "special-get-raises" false) := by
  intro os
  kernel_rfl
theorem runT (w : World) : HandSHeadRun.RunEq R (PySem.W.view R.prog [50]) hk ob 6000 loose (w.withFollow "special-get-raises" true) := by
  intro os
  kernel_rfl
theorem run (w : World) : HandSHeadRun.RunEq R (PySem.W.view R.prog [50]) hk ob 6000 loose w := by
  have e := World.withFollow_self w "special-get-raises"
  cases hb : w.params.followText "special-get-raises" <;> rw [hb] at e <;> rw [← e]
  · exact runF w
  · exact runT w
theorem okT : T.ok = true := by kernel_rfl
theorem hb : Ds.Txt.bD T.fnL T.ds := ⟨fun _ _ _ _ _ _ us hl => match us, hl with | [_, _, _], _ => rfl, fun _ _ _ _ _ _ us hl => match us, hl with | [_], _ => rfl, fun _ _ _ _ _ _ us hl => match us, hl with | [_], _ => rfl, fun _ _ _ _ _ _ us hl => match us, hl with | [_, _], _ => rfl, fun _ _ _ _ _ _ us hl => match us, hl with | [_, _], _ => rfl, fun _ _ _ _ _ _ us hl => match us, hl with | [_, _], _ => rfl, fun _ _ _ _ _ _ us hl => match us, hl with | [_], _ => rfl, fun _ _ _ _ _ _ us hl => match us, hl with | [_], _ => rfl, fun _ _ _ _ _ _ us hl => match us, hl with | [_, _], _ => rfl, fun _ _ _ _ _ _ us hl => match us, hl with | [_, _, _, _], _ => rfl, fun _ _ _ _ _ _ us hl => match us, hl with | [_], _ => rfl, fun _ _ _ _ _ _ us hl => match us, hl with | [_, _], _ => rfl, fun _ _ _ _ _ _ us hl => match us, hl with | [_], _ => rfl, fun _ _ _ _ _ _ us hl => match us, hl with | [_], _ => rfl, fun _ _ _ _ _ _ us hl => match us, hl with | [_], _ => rfl, fun _ _ _ _ _ _ us hl => match us, hl with | [_], _ => rfl, fun _ _ _ _ _ _ us hl => match us, hl with | [_, _], _ => rfl, fun _ _ _ _ _ _ us hl => match us, hl with | [_], _ => rfl, fun _ _ _ _ _ _ us hl => match us, hl with | [_, _], _ => rfl, fun _ _ _ _ _ _ us hl => match us, hl with | [_, _], _ => rfl, fun _ _ _ _ _ _ us hl => match us, hl with | [_, _, _, _], _ => rfl, fun _ _ _ _ _ _ us hl => match us, hl with | [_, _, _, _], _ => rfl, fun _ _ _ _ _ _ us hl => match us, hl with | [_, _, _, _, _], _ => rfl, fun _ _ _ _ _ _ us hl => match us, hl with | [_, _], _ => rfl, fun _ _ _ _ _ _ us hl => match us, hl with | [_], _ => rfl, fun _ _ _ _ _ _ us hl => match us, hl with | [_, _], _ => rfl, fun _ _ _ _ _ _ us hl => match us, hl with | [_], _ => rfl, fun _ _ _ _ _ _ us hl => match us, hl with | [_, _, _], _ => rfl, fun _ _ _ _ _ _ us hl => match us, hl with | [_, _, _, _], _ => rfl, fun _ _ _ _ _ _ us hl => match us, hl with | [_, _], _ => rfl, fun _ _ _ _ _ _ us hl => match us, hl with | [_, _], _ => rfl, fun _ _ _ _ _ _ us hl => match us, hl with | [_], _ => rfl, fun _ _ _ _ _ _ us hl => match us, hl with | [_], _ => rfl, fun _ _ _ _ _ _ us hl => match us, hl with | [_], _ => rfl, fun _ _ _ _ _ _ us hl => match us, hl with | [_], _ => rfl, fun _ _ _ _ _ _ us hl => match us, hl with | [_], _ => rfl, fun _ _ _ _ _ _ us hl => match us, hl with | [_], _ => rfl, trivial⟩
theorem hi : Ds.Txt.bI T.is := ⟨fun _ _ _ _ _ _ us hl => match us, hl with | [_, _], _ => rfl, fun _ _ _ _ _ _ us hl => match us, hl with | [_, _], _ => rfl, trivial⟩
end HdT
open PySem PySem.W PySem.Calls PyProof.Rows
theorem PySem.Challenge.cw_wholesay_k03_nots_driven_inward_holds : PySem.Challenge.rw_wholesay_k03_nots_driven_inward.Holds := by
  w_on; o_law
  refine HandSHeadRun.head_any (r := OpenLaw.row PySem.Challenge.rw_wholesay_k03_nots_driven_inward) (q := view (OpenLaw.row PySem.Challenge.rw_wholesay_k03_nots_driven_inward).prog [50]) (H := HdT.hk) (ob := HdT.ob) (M := 6000) (loose := HdT.loose) (d := HandSHeadRun.topDef (OpenLaw.row PySem.Challenge.rw_wholesay_k03_nots_driven_inward).prog 50) (kwd := []) HdT.ob_eq
    (by kernel_rfl) (fun s => by kernel_rfl) HdT.run (by kernel_rfl) (by kernel_rfl) (by kernel_rfl) (by rfl) (by first | assumption | decide +kernel) (by decide +kernel) ⟨rfl, rfl, rfl, rfl, rfl, by decide +kernel⟩ ?hw ?hc
  case hw => w_witness2
  case hc =>
    refine Ds.walk_law (l := PySem.Challenge.rw_wholesay_k03_nots_driven_inward) (P := HdT.T.P) (m := 63) (n := Dl.K03.LEV) rfl (by decide) (by kernel_rfl) (Ds.Room.down Ds.room_caller (by decide)) Dl.K03.plain ?F
    intro w mg fa h Y G hmg0
    have hmg : mg ("law" : PySem.Str) = some (.ref fa) := by
      have e : (HandSHeadRun.topDef (OpenLaw.row PySem.Challenge.rw_wholesay_k03_nots_driven_inward).prog 50).name = ("law" : PySem.Str) := by kernel_rfl
      rw [← e]
      exact hmg0
    exact Ds.Txt.law_text Y G hmg HdT.okT HdT.hb HdT.hi (F := Dl.K03.flaw) rfl rfl rfl
