import PyProof.Rows.All
import Wide.All
import OpenK.AllK
import Wide.FinOn
import KE.KStateDown
import Lean
import HandS.Base
import HandS.Call
import HandS.Ends
import HandS.More
import HandS.Words
import HandS.WordsExc
import HandS.Defaults
import HandS.Head0
import HandS.Head1
import HandS.Head2
import HandS.HeadEnd
import HandS.HeadHook1
import HandS.HeadHook2
import PyProof.TableCode
import PySem.Str
import HandS.ForExc
import HandS.Iter
import HandS.Comp
import HandS.Dict
import HandS.TupAny
import HandS.TupMul
import HandS.Wide
import KE.DataEq
import KE.DataCmp
import KE.LtData
import HandS.IsInst
import KE.SortData
import HandS.Style
import KE.KEqDict
import PyProof.NeKinds
import HandS.Text
import HandS.ExcIs
import HandS.ExcField
import HandS.ExcInit
import KE.GoesEnum
import KE.GoesZip
import HandS.Walk
import HandS.Zip
import HandS.Conv
import HandS.NoneIn
import HandS.Rev
import HandS.SetKeys
import HandS.OwnEq
import KE.KRevSl
import HandS.Strs
import HandS.SetFor
import HandS.Small
import HandS.ExcOwn
import HandS.TryMany
import HandS.Nested
import KE.KExcSuper
import HandS.Codes
import PySem.Challenge.RW_hourcards_k00_webs_judged
set_option Elab.async false
set_option linter.all false
set_option maxRecDepth 100000
set_option maxHeartbeats 0
set_option autoImplicit false
set_option autoImplicit false
/-! The core: values, expressions, statements, and what they do. Plain Lean: no program, no model in sight. -/
namespace Ev
open PySem (Str)

/-! ### values -/
inductive D where
  | non | bl (b : Bool) | int (i : Int) | str (x : Str)
  | tup (xs : List D) | lst (xs : List D)
  | dct (kvs : List (D × D))
  | obj (c : Nat) (fs : List (Nat × D))
  | ref (k : Nat)
  deriving Inhabited
/-- what may change: a slot's own thing, or a thing of the store -/
inductive Cell where
  | lst (xs : List D) | dct (kvs : List (D × D)) | obj (c : Nat) (fs : List (Nat × D))
  deriving Inhabited
def Cell.toD : Cell → D
  | .lst xs => .lst xs | .dct kvs => .dct kvs | .obj c fs => .obj c fs

mutual
def eqB : D → D → Bool
  | .non, .non => true
  | .bl a, .bl b => a == b
  | .bl a, .int j => (if a then 1 else 0) == j
  | .int i, .bl b => i == (if b then 1 else 0)
  | .int i, .int j => i == j
  | .str x, .str y => x == y
  | .lst xs, .lst ys => eqBs xs ys
  | .tup xs, .tup ys => eqBs xs ys
  | _, _ => false
def eqBs : List D → List D → Bool
  | [], [] => true
  | x :: xs, y :: ys => eqB x y && eqBs xs ys
  | _, _ => false
end
mutual
def ltB : D → D → Bool
  | .bl a, .bl b => !a && b
  | .int i, .int j => decide (i < j)
  | .str x, .str y => decide (x.cps.toList < y.cps.toList)
  | .lst xs, .lst ys => ltBs xs ys
  | .tup xs, .tup ys => ltBs xs ys
  | _, _ => false
def ltBs : List D → List D → Bool
  | [], [] => false
  | [], _ :: _ => true
  | _ :: _, [] => false
  | x :: xs, y :: ys => if eqB x y then ltBs xs ys else ltB x y
end
mutual
/-- comparable place by place -/
def alk : D → D → Bool
  | .non, .non => true
  | .bl _, .bl _ => true
  | .int _, .int _ => true
  | .str _, .str _ => true
  | .lst xs, .lst ys => alks xs ys
  | .tup xs, .tup ys => alks xs ys
  | _, _ => false
def alks : List D → List D → Bool
  | x :: xs, y :: ys => alk x y && alks xs ys
  | _, _ => true
end
mutual
/-- plain data, not too deep -/
def D.fin : Nat → D → Bool
  | _, .non | _, .bl _ | _, .int _ | _, .str _ => true
  | 0, _ => false
  | n + 1, .tup xs => D.fins n xs
  | n + 1, .lst xs => D.fins n xs
  | _, _ => false
def D.fins : Nat → List D → Bool
  | _, [] => true
  | n, x :: xs => D.fin n x && D.fins n xs
end
mutual
/-- all refs are below n -/
def D.blw (n : Nat) : D → Bool
  | .ref k => decide (k < n)
  | .tup xs | .lst xs => D.blws n xs
  | .dct kvs => D.blwk n kvs
  | .obj _ fs => D.blwf n fs
  | _ => true
def D.blws (n : Nat) : List D → Bool
  | [] => true
  | x :: xs => x.blw n && D.blws n xs
def D.blwk (n : Nat) : List (D × D) → Bool
  | [] => true
  | (k, x) :: xs => k.blw n && x.blw n && D.blwk n xs
def D.blwf (n : Nat) : List (Nat × D) → Bool
  | [] => true
  | (_, x) :: xs => x.blw n && D.blwf n xs
end
def Cell.blw (n : Nat) : Cell → Bool
  | .lst xs => D.blws n xs
  | .dct kvs => D.blwk n kvs
  | .obj _ fs => D.blwf n fs

/-! ### the language -/
inductive Op where | add | sub | mul | fdiv | mod | pow
  deriving DecidableEq
inductive Cm where | eq | ne | lt | le | gt | ge | inn | nin | isN | notN
  deriving DecidableEq
inductive Bi where
  | len | abs | int | tuple | list | sum | min1 | max1 | min2 | max2 | all | any | sorted | set | str | divmod
  | sset
  deriving DecidableEq
inductive Bm where | get | count | index | split | join | strip
  deriving DecidableEq
inductive Mm where | append | extend | pop | popAt | reverse | clear | insert | remove
  deriving DecidableEq
inductive Ty where | int | bool | str | tuple | list | dict | cls (c : Nat)
  deriving DecidableEq
/-- what an except suite gives: isinstance of the caught error for all of these classes (none: ValueError), or its field -/
inductive HE where | is (ks : List (Option Nat)) | fld (f : Nat)
  deriving DecidableEq
inductive Ck where | plain | trunc | pure | eqo (ds : List Nat)
  deriving DecidableEq
mutual
inductive Tg where
  | v (i : Nat) | tup (ts : Tgs)
inductive Tgs where
  | nil | cons (t : Tg) (ts : Tgs)
end
mutual
inductive Ex where
  | v (i : Nat) | con (g : Nat)
  | int (i : Int) | str (x : Str) | bl (b : Bool) | non
  | bin (op : Op) (a b : Ex) | neg (a : Ex) | not (a : Ex)
  | and (es : Exs) | or (es : Exs) | ife (t a b : Ex)
  | cmp (c : Cm) (a b : Ex) | chain (c c' : Cm) (a b d : Ex)
  | tup (es : Exs) | lst (es : Exs) | dct (ks vs : Exs)
  | new (e : Ex)
  | idx (a i : Ex) | sl (a lo hi : Ex) | rev (a : Ex) | srt (a : Ex) | lns (a : Ex)      -- a part left out: non; a[::-1]
  | attr (a : Ex) (f : Nat)
  | call (q : Ck) (f : Nat) (es : Exs) | mk (c : Nat) (es : Exs) | mkN (c : Nat) (es : Exs) | meth (q : Ck) (c : Nat) (o : Ex) (m : Nat) (es : Exs)
  | bi (b : Bi) (es : Exs) | bm (m : Bm) (o : Ex) (es : Exs) | mm (m : Mm) (o : Ex) (es : Exs)
  | ext (o e : Ex)
  | sdef (o k : Ex)                                        -- o.setdefault(k, []): a list of the store
  | rg (t : Bool) (a b : Ex)                               -- tuple(range(a, b)), list(..); range(b): a the 0
  | rg3 (a b c : Ex)
  | isi (e : Ex) (ts : List Ty)
  | lc (elt : Ex) (tg : Tg) (it : It) (ifs : Exs) (own : List Nat)
  | bad
inductive Exs where
  | nil | cons (e : Ex) (es : Exs)
inductive It where
  | val (e : Ex) | rng1 (e : Ex) | rng2 (a b : Ex) | enum (e : Ex) (n : Int) | zip (a b : Ex) | rev (e : Ex) | revr (e : Ex) | items (e : Ex) | vals (e : Ex)
  | keys (i : Nat)                                         -- a dict's keys, in a comprehension
end
mutual
inductive St where
  | asg (t : Tg) (e : Ex)
  | asgO (i : Nat) (e : Ex)        -- a slot's own new thing
  | asgF (o : Ex) (f : Nat) (e : Ex) | asgI (o i e : Ex)
  | aug (i : Nat) (op : Op) (e : Ex) | augF (o : Ex) (f : Nat) (op : Op) (e : Ex) | augI (o i : Ex) (op : Op) (e : Ex)
  | ex (e : Ex)
  | ife (c : Ex) (a b : Sts)
  | whl (n : Nat) (c : Ex) (a : Sts) (kl : List Nat)
  | for (tg : Tg) (it : It) (a : Sts) (kl : List Nat)
  | ret (e : Ex) | retN
  | brk | cnt | pass
  | rais (c : Nat) (es : Exs)
  | tryx (a : Sts) (hs : Hds)
  | bad
inductive Sts where
  | nil | cons (s : St) (ss : Sts)
inductive Hds where
  | nil | cons (c : Nat) (bd : Option (Nat × Nat × HE)) (a : Sts) (hs : Hds)
end

def Ex.isNon : Ex → Bool
  | .non => true
  | _ => false
/-- a display of constants -/
def cDk : Ex → Option D
  | .int i => some (.int i)
  | .str x => some (.str x)
  | _ => none
def cDv : Ex → Option D
  | .int i => some (.int i)
  | .str x => some (.str x)
  | .bl b => some (.bl b)
  | .non => some .non
  | _ => none
def Exs.isNil : Exs → Bool
  | .nil => true
  | _ => false
/-! ### the state -/
inductive LV where
  | d (x : D) | own (c : Cell)
structure S where
  loc : List (Option LV)
  cel : List Cell
structure Exc where
  c : Nat
  fs : List (Nat × D)
inductive Res (α : Type) where
  | ok (a : α) (s : S) | exc (e : Exc) (s : S) | stk
abbrev M (α : Type) := S → Res α
def M.bind {α β : Type} (m : M α) (f : α → M β) : M β := fun s => match m s with
  | .ok a s' => f a s'
  | .exc e s' => .exc e s'
  | .stk => .stk
def M.pure {α : Type} (a : α) : M α := fun s => .ok a s
def stk {α : Type} : M α := fun _ => .stk
def M.of {α : Type} : Option α → M α
  | some a => M.pure a
  | none => stk
/-- a def's end: what it returns, the store -/
inductive FRes where
  | ok (r : D) (c : List Cell) | exc (e : Exc) (c : List Cell) | stk
abbrev FT := Nat → List D → List Cell → FRes
structure Tab where
  con : List D
  ncls : Nat
  isf : Nat → Nat → Bool
  isa : Nat → Bool
  meth : Nat → Nat → Option Nat
  ini : Nat → Option Nat
  sub : Nat → Nat → Bool
  exf : Nat → Option (List Nat)

/-! ### data -/
def keyGet {α : Type} (k : D) : List (D × α) → Option α
  | [] => none
  | (k', x) :: r => if eqB k' k then some x else keyGet k r
def keyPut {α : Type} (k : D) (x : α) (l : List (D × α)) : List (D × α) := if (l.any fun q => eqB q.1 k) = true then l.map (fun q => if eqB q.1 k = true then (q.1, x) else q) else l ++ [(k, x)]
def fldPut {α : Type} (k : Nat) (x : α) : List (Nat × α) → List (Nat × α)
  | [] => [(k, x)]
  | (k', y) :: r => if k' = k then (k', x) :: r else (k', y) :: fldPut k x r
def D.len : D → Option Nat
  | .tup xs | .lst xs => some xs.length
  | _ => none
def D.items : D → Option (List D)
  | .tup xs | .lst xs => some xs
  | _ => none
def ixN (n : Nat) (i : Int) : Option Nat := if 0 ≤ i then (if i < n then some i.toNat else none) else if -(n : Int) ≤ i then some (i + n).toNat else none
def pickI {α : Type} (xs : List α) (i : Int) : Option α := (ixN xs.length i).bind fun j => xs[j]?
def clipI (n : Nat) (i : Int) : Nat := if 0 ≤ i then min i.toNat n else (i + n).toNat
def cutI {α : Type} (xs : List α) (lo hi : Option Int) : List α :=
  let a := match lo with | none => 0 | some i => clipI xs.length i
  let b := match hi with | none => xs.length | some i => clipI xs.length i
  (xs.drop a).take (b - a)
def D.ints : List D → Option (List Int)
  | [] => some []
  | .int i :: r => (D.ints r).map (i :: ·)
  | _ => none
def D.bls : List D → Option (List Bool)
  | [] => some []
  | .bl i :: r => (D.bls r).map (i :: ·)
  | _ => none
def big : Int := 2 ^ 62
def sml (i : Int) : Bool := decide (-big ≤ i) && decide (i < big)
def line : Nat := 16777216
/-- lo, lo + 1, .. ahead of hi -/
def rangeL (lo hi : Int) : List Int := (List.range (hi - lo).toNat).map fun (j : Nat) => lo + (j : Int)
/-- lo, lo + st, .. ahead of hi, 0 < st -/
def rangeS (lo hi st : Int) : List Int := (List.range ((hi - lo + st - 1) / st).toNat).map fun (j : Nat) => lo + (j : Int) * st
def nonB (x : D) : Bool := match x with | .non => true | _ => false
def allAlk (xs : List D) : Bool := xs.all fun x => !nonB x && xs.all fun y => alk x y
/-- all tuples with an item, or none a tuple -/
def srtOk (xs : List D) : Bool := (xs.all fun x => match x with | .tup (_ :: _) => true | _ => false) || (xs.all fun x => match x with | .tup _ | .non => false | _ => true)
def sortD (xs : List D) : List D := xs.mergeSort fun a b => !ltB b a
def minI (x : Int) (xs : List Int) : Int := xs.foldl (fun a y => if y < a then y else a) x
def maxI (x : Int) (xs : List Int) : Int := xs.foldl (fun a y => if a < y then y else a) x
/-- the members of a set of ints, in order -/
def insU (k : Int) : List Int → List Int
  | [] => [k]
  | x :: xs => if k < x then k :: x :: xs else if k = x then x :: xs else x :: insU k xs
def usort : List Int → List Int
  | [] => []
  | x :: xs => insU x (usort xs)
def srtF : D → Option D
  | .tup xs => match D.ints xs with
    | some is => if is.length < 60 then some (.lst ((usort is).map .int)) else none
    | none => none
  | _ => none
/-- len(set(x)), x a list of unlike ints -/
def lnsF : D → Option D
  | .lst xs => match D.ints xs with
    | some is => if is.length ≤ 4000 ∧ is.Nodup then some (.int is.length) else none
    | none => none
  | _ => none
def nodupD : List D → List D
  | [] => []
  | x :: xs => if xs.any (fun y => eqB y x) then nodupD xs else x :: nodupD xs

def binF : Op → D → D → Option D
  | .add, .int a, .int b => some (.int (a + b))
  | .sub, .int a, .int b => some (.int (a - b))
  | .sub, .bl a, .int b => some (.int ((if a = true then 1 else 0) - b))
  | .mul, .int a, .int b => if a.natAbs < 2 ^ 64 ∨ b.natAbs < 2 ^ 64 ∨ a.natAbs.log2 + b.natAbs.log2 < 1000000 then some (.int (a * b)) else none
  | .fdiv, .int a, .int b => if 0 < b ∧ b.natAbs.log2 < 9000 then some (.int (a / b)) else none
  | .mod, .int a, .int b => if 0 < b then some (.int (a % b)) else none
  | .pow, .int a, .int b => if 0 ≤ b ∧ b ≤ 1000 ∧ a.natAbs < 2 ^ 64 then some (.int (a ^ b.toNat)) else none
  | .add, .str a, .str b => if a.cps.size + b.cps.size ≤ line then some (.str (a ++ b)) else none
  | .add, .tup a, .tup b => if a.length + b.length ≤ line then some (.tup (a ++ b)) else none
  | .add, .lst a, .lst b => if a.length + b.length ≤ line then some (.lst (a ++ b)) else none
  | .mul, .tup (x :: a'), .int b => let a := x :: a'; if 1 ≤ b ∧ b ≤ 1000 ∧ a.length ≤ 1000 then some (.tup (List.replicate b.toNat a).flatten) else none
  | _, _, _ => none
def negF : D → Option D
  | .int i => some (.int (-i))
  | _ => none
def dep : Nat := 60
def isDcI : D → D → Bool
  | .dct _, .int _ => true
  | _, _ => false
def eqF (x y : D) : Option Bool := if x.fin dep && y.fin dep || isDcI x y then some (eqB x y) else none
def ltF (x y : D) : Option Bool := if x.fin dep && y.fin dep && alk x y && !nonB x then some (ltB x y) else none
def inF (x c : D) : Option Bool := match c with
  | .lst ys | .tup ys => if x.fin dep && D.fins dep ys then some (ys.any fun y => eqB y x) else none
  | _ => none
def cmpF : Cm → D → D → Option Bool
  | .eq, x, y => eqF x y
  | .ne, x, y => (eqF x y).map (!·)
  | .lt, x, y => ltF x y
  | .gt, x, y => ltF y x
  | .le, x, y => (ltF y x).map (!·)
  | .ge, x, y => (ltF x y).map (!·)
  | .inn, x, y => inF x y
  | .nin, x, y => (inF x y).map (!·)
  | .isN, x, .non => some (nonB x)
  | .notN, x, .non => some (!nonB x)
  | .isN, .bl a, .bl b => some (decide (a = b))
  | .notN, .bl a, .bl b => some (!decide (a = b))
  | _, _, _ => none
/-- keys that are tuples of ints: a mark at the end tells it -/
def isTd : List (D × D) → Bool
  | [] => false
  | (.non, _) :: _ => true
  | _ :: r => isTd r
/-- a tuple of ints, that may be a key -/
def intK : List D → Bool
  | [.int _] => true
  | .int _ :: r => intK r
  | _ => false
def isTup : D → Bool
  | .tup xs => intK xs
  | _ => false
def keyInsT {α : Type} (k : D) (x : α) : List (D × α) → List (D × α)
  | [] => []
  | (.non, z) :: r => (k, x) :: (.non, z) :: r
  | q :: r => q :: keyInsT k x r
def keyPutT {α : Type} (k : D) (x : α) (l : List (D × α)) : List (D × α) := if (l.any fun q => eqB q.1 k) = true then l.map (fun q => if eqB q.1 k = true then (q.1, x) else q) else keyInsT k x l
def keysT : List (D × D) → List D
  | [] => []
  | (.non, _) :: _ => []
  | (k, _) :: r => k :: keysT r
def isKey : D → Bool
  | .int _ | .str _ => true
  | _ => false
/-- k is a key for the dict kvs -/
def keyFor (k : D) (kvs : List (D × D)) : Bool := (isKey k && !isTd kvs) || (isTup k && isTd kvs)
def idxF : D → D → Option D
  | .lst xs, .int i | .tup xs, .int i => pickI xs i
  | .str x, .int i => if x.cps.size ≤ line then (pickI x.cps.toList i).map fun c => .str ⟨#[c]⟩ else none
  | .dct kvs, k => if keyFor k kvs = true then keyGet k kvs else none
  | _, _ => none
/-- n: the part is left out -/
def partF : Bool → D → Option (Option Int)
  | true, .non => some none
  | false, .int i => some (some i)
  | _, _ => none
def slF (a b : Option Int) (x : D) : Option D := match x with
  | .lst xs => some (.lst (cutI xs a b))
  | .tup xs => some (.tup (cutI xs a b))
  | .str x => if x.cps.size ≤ line then some (.str ⟨(cutI x.cps.toList a b).toArray⟩) else none
  | _ => none
def revF : D → Option D
  | .lst xs => some (.lst xs.reverse)
  | .tup xs => some (.tup xs.reverse)
  | _ => none
def isTy (sub : Nat → Nat → Bool) : D → Ty → Bool
  | .int _, .int | .bl _, .int | .bl _, .bool | .str _, .str | .tup _, .tuple | .lst _, .list | .dct _, .dict => true
  | .obj c _, .cls c' => sub c c'
  | _, _ => false
def biF : Bi → List D → Option D
  | .len, [.str x] => if x.cps.size ≤ line then some (.int x.cps.size) else none
  | .len, [x] => x.len.map fun n => .int n
  | .abs, [.int i] => some (.int (if i < 0 then -i else i))
  | .int, [.int i] => some (.int i)
  | .int, [.bl b] => some (.int (if b then 1 else 0))
  | .tuple, [.lst xs] => some (.tup xs)
  | .tuple, [.tup xs] => some (.tup xs)
  | .list, [.lst xs] => some (.lst xs)
  | .list, [.tup xs] => some (.lst xs)
  | .sum, [.lst xs] => (D.ints xs).map fun is => .int is.sum
  | .all, [.lst xs] => (D.bls xs).map fun bs => .bl (bs.all id)
  | .any, [.lst xs] => (D.bls xs).map fun bs => .bl (bs.any id)
  | .min1, [.lst (.int x :: xs)] => (D.ints xs).map fun is => .int (minI x is)
  | .max1, [.lst (.int x :: xs)] => (D.ints xs).map fun is => .int (maxI x is)
  | .min2, [.int a, .int b] => some (.int (if b < a then b else a))
  | .max2, [.int a, .int b] => some (.int (if b > a then b else a))
  | .divmod, [.int a, .int b] => if 0 < b ∧ b < 1073741824 then some (.tup [.int (a / b), .int (a % b)]) else none
  | .sorted, [.lst xs] => if D.fins dep xs && allAlk xs && srtOk xs && decide (xs.length ≤ line) then some (.lst (sortD xs)) else none
  | .sorted, [.tup xs] => if D.fins dep xs && allAlk xs && srtOk xs && decide (xs.length ≤ line) then some (.lst (sortD xs)) else none
  | .sset, [.tup xs] => if D.fins dep xs && allAlk xs then some (.lst (sortD (nodupD xs))) else none
  | _, _ => none

/-! ### running -/
inductive PV where
  | d (x : D) | own (i : Nat)
def S.loc1 (s : S) (i : Nat) : Option LV := (s.loc[i]?).bind id
/-- what a value holds now -/
def PV.val (s : S) : PV → Option D
  | .d (.ref k) => (s.cel[k]?).map Cell.toD
  | .d x => some x
  | .own i => match s.loc1 i with
    | some (.own c) => some c.toD
    | some (.d (.ref _)) => none
    | some (.d x) => some x
    | none => none
/-- a place that may change -/
inductive Lo where
  | sl (i : Nat) | id (k : Nat)
def PV.lo : PV → Option Lo
  | .d (.ref k) => some (.id k)
  | .own i => some (.sl i)
  | _ => none
def S.get (s : S) : Lo → Option Cell
  | .sl i => match s.loc1 i with
    | some (.own c) => some c
    | _ => none
  | .id k => s.cel[k]?
def S.put (s : S) (c : Cell) : Lo → S
  | .sl i => { s with loc := s.loc.set i (some (.own c)) }
  | .id k => { s with cel := s.cel.set k c }
/-- what is to be stored: a slot's own thing is data from now on -/
def PV.store : PV → M D
  | .d x => M.pure x
  | .own i => fun s => match s.loc1 i with
    | some (.own c) => .ok c.toD { s with loc := s.loc.set i (some (.d c.toD)) }
    | some (.d x) => .ok x s
    | none => .stk
def varM (i : Nat) : M PV := fun s => match s.loc1 i with
  | some (.d x) => .ok (.d x) s
  | some (.own _) => .ok (.own i) s
  | none => .stk
def two (ma mb : M PV) (f : D → D → Option D) : M PV := M.bind ma fun a => M.bind mb fun b => fun s => match a.val s, b.val s with
  | some x, some y => (match f x y with
    | some z => .ok (.d z) s
    | none => .stk)
  | _, _ => .stk
def one (ma : M PV) (f : D → Option D) : M PV := M.bind ma fun a => fun s => match a.val s with
  | some x => (match f x with
    | some z => .ok (.d z) s
    | none => .stk)
  | none => .stk
def toB (pv : PV) : M Bool := match pv with
  | .d (.bl b) => M.pure b
  | _ => stk
def valsOf (s : S) : List PV → Option (List D)
  | [] => some []
  | a :: r => match a.val s with
    | some x => (valsOf s r).map (x :: ·)
    | none => none
def biM (b : Bi) (xs : List PV) : M PV := fun s => match valsOf s xs with
  | some ds => (match biF b ds with
    | some z => .ok (.d z) s
    | none => .stk)
  | none => .stk
/-- a dict -/
def dctM (pv : PV) : M Unit := fun s => match pv.val s with
  | some (.dct _) => .ok () s
  | _ => .stk
/-- data without a place that may change -/
def flatD : D → Bool
  | .non | .bl _ | .int _ | .str _ => true
  | _ => false
/-- a list -/
def lisM (pv : PV) : M Unit := fun s => match pv.val s with
  | some (.lst _) => .ok () s
  | _ => .stk
def bmM : Bm → PV → M Unit
  | .get, pv => dctM pv
  | .index, pv => lisM pv
  | .count, pv => lisM pv
  | _, _ => stk
def getM (pv : PV) (as : List D) : M D := fun s => match pv.val s, as with
  | some (.dct kvs), [k, z] => if keyFor k kvs then .ok ((keyGet k kvs).getD z) s else .stk
  | _, _ => .stk
/-- list.index(x), x in the list -/
def indM (pv : PV) (as : List D) : M D := fun s => match pv.val s, as with
  | some (.lst ts), [x] => if x.fin dep && D.fins dep ts && decide (ts.length ≤ line) then (match ts.findIdx? (fun y => eqB y x) with
    | some n => .ok (.int n) s
    | none => .stk) else .stk
  | _, _ => .stk
/-- list.count(x) -/
def cntM (pv : PV) (as : List D) : M D := fun s => match pv.val s, as with
  | some (.lst ts), [x] => if x.fin dep && D.fins dep ts && decide (ts.length ≤ line) then .ok (.int (ts.countP fun y => eqB y x)) s else .stk
  | _, _ => .stk
def dgetM : Bm → PV → List D → M D
  | .get, pv, as => getM pv as
  | .index, pv, as => indM pv as
  | .count, pv, as => cntM pv as
  | _, _, _ => stk
def partM (n : Bool) (l : PV) : M (Option Int) := match l with
  | .d y => M.of (partF n y)
  | _ => stk
def slM (x : PV) (a b : Option Int) : M PV := fun s => match x.val s with
  | some z => (match slF a b z with
    | some z => .ok (.d z) s
    | none => .stk)
  | none => .stk
def fldF (G : Tab) (f : Nat) : D → Option D
  | .obj c fs => if c < G.ncls ∧ G.isf c f = true then fs.lookup f else none
  | _ => none
def isaTs (G : Tab) (ts : List Ty) : Bool := ts.all fun t => match t with | .cls k => G.isa k | _ => true
def isiF (G : Tab) (ts : List Ty) (x : D) : Option D := if isaTs G ts = true then (match x with
  | .obj c fs => if c < G.ncls ∧ G.isa c = true then some (.bl (ts.any (isTy G.sub (.obj c fs)))) else none
  | .ref _ => none
  | .dct kvs => if isTd kvs = true then none else some (.bl (ts.any (isTy G.sub (.dct kvs))))
  | x => some (.bl (ts.any (isTy G.sub x)))) else none
/-- the second comparison of a chain -/
def chain2 (c' : Cm) (y : PV) (mz : M PV) : M PV := M.bind mz fun z => fun s => match y.val s, z.val s with
  | some y, some z => (match cmpF c' y z with
    | some k => .ok (.d (.bl k)) s
    | none => .stk)
  | _, _ => .stk
def chainM (c c' : Cm) (x y : PV) (mz : M PV) : M PV := fun s => match x.val s, y.val s with
  | some x', some y' => (match cmpF c x' y' with
    | some true => chain2 c' y mz s
    | some false => .ok (.d (.bl false)) s
    | none => .stk)
  | _, _ => .stk
/-- a thing of the store that is given back is read as data -/
def snap (n : Nat) (c : List Cell) : D → D
  | .ref k => if k < n then .ref k else match c[k]? with
    | some x => x.toD
    | none => .ref k
  | x => x
def Exc.blw (n : Nat) (e : Exc) : Bool := D.blwf n e.fs
/-- how a call ends: plain: as it is; trunc: the store is cut to what it was; pure: in a store of its own -/
def endC (q : Ck) (c0 : List Cell) (r : FRes) (s : S) : Res D := match q, r with
  | .plain, .ok x c => .ok x { s with cel := c }
  | .plain, .exc e c => .exc e { s with cel := c }
  | .trunc, .ok x c => let y := snap c0.length c x
    if y.blw c0.length && (c.take c0.length).all (Cell.blw c0.length) then .ok y { s with cel := c.take c0.length } else .stk
  | .trunc, .exc e c => if e.blw c0.length && (c.take c0.length).all (Cell.blw c0.length) then .exc e { s with cel := c.take c0.length } else .stk
  | .pure, .ok x c => let y := snap 0 c x
    if y.blw 0 then .ok y s else .stk
  | .pure, .exc e _ => if e.blw 0 then .exc e s else .stk
  | .eqo _, _ => .stk
  | _, .stk => .stk
/-- two objects of one class, or the second one of a class at hand -/
def sameC (ds : List Nat) : List D → Bool
  | [.obj c _, .obj c' _] => c == c' || ds.contains c'
  | _ => false
def doCall (q : Ck) (r : List D → List Cell → FRes) (as : List D) : M D := fun s => match q with
  | .pure => if D.blws 0 as then endC .pure [] (r as []) s else .stk
  | .eqo ds => if sameC ds as then endC .plain s.cel (r as s.cel) s else .stk
  | q => endC q s.cel (r as s.cel) s
/-- a new object that never changes again -/
def mkObj (F : FT) (c f : Nat) (as : List D) : M D := fun s => if D.blws 0 as then (match F f (.ref 0 :: as) [.obj c []] with
    | .ok .non (.obj c' fs :: _) => if D.blwf 0 fs then .ok (.obj c' fs) s else .stk
    | .exc e _ => if e.blw 0 then .exc e s else .stk
    | _ => .stk) else .stk
/-- a new object of the store -/
def mkNew (G : Tab) (F : FT) (c : Nat) (as : List D) : M D := fun s => match G.ini c with
  | none => .stk
  | some f => match F f (.ref s.cel.length :: as) (s.cel ++ [.obj c []]) with
    | .ok .non c' => .ok (.ref s.cel.length) { s with cel := c' }
    | .exc e c' => .exc e { s with cel := c' }
    | _ => .stk
/-- the class of the object at hand -/
def clsOf (s : S) : D → Option Nat
  | .obj c _ => some c
  | .ref k => match s.cel[k]? with
    | some (.obj c _) => some c
    | _ => none
  | _ => none
def mmF : Mm → Cell → List D → Option (D × Cell)
  | .append, .lst ts, [x] => if ts.length < line then some (.non, .lst (ts ++ [x])) else none
  | .pop, .lst ts, [] => (ts.getLast?).map fun t => (t, .lst ts.dropLast)
  | .popAt, .lst ts, [.int i] => if sml i then (ixN ts.length i).bind fun j => (ts[j]?).map fun t => (t, .lst (ts.eraseIdx j)) else none
  | .reverse, .lst ts, [] => some (.non, .lst ts.reverse)
  | .extend, .lst ts, [.lst zs] => if ts.length + zs.length ≤ line then some (.non, .lst (ts ++ zs)) else none
  | .clear, .lst _, [] => some (.non, .lst [])
  | _, _, _ => none
/-- a list that may change -/
def lstM (pv : PV) : M Unit := fun s => match pv.lo with
  | some l => (match s.get l with
    | some (.lst _) => .ok () s
    | _ => .stk)
  | none => .stk
def doMm (m : Mm) (pv : PV) (as : List D) : M D := fun s => match pv.lo with
  | some l => (match s.get l with
    | some c => (match mmF m c as with
      | some (x, c') => .ok x (s.put c' l)
      | none => .stk)
    | none => .stk)
  | none => .stk
/-- list.extend(e): e's items, read now -/
def doExt (pv : PV) (a : PV) : M D := fun s => match pv.lo, a.val s with
  | some l, some x => (match s.get l, x.items with
    | some (.lst ts), some xs => if ts.length + xs.length ≤ line then .ok .non (s.put (.lst (ts ++ xs)) l) else .stk
    | _, _ => .stk)
  | _, _ => .stk
def sdefM (pv k : PV) : M PV := fun s => match pv.lo, k with
  | some l, .d k => (match s.get l with
    | some (.dct kvs) => if isKey k && !isTd kvs && decide (kvs.length < line) then (match keyGet k kvs with
        | some x => .ok (.d x) s
        | none => .ok (.d (.ref s.cel.length)) (({ s with cel := s.cel ++ [.lst []] } : S).put (.dct (kvs ++ [(k, .ref s.cel.length)])) l)) else .stk
    | _ => .stk)
  | _, _ => .stk
def wipe (vs : List Nat) (s : S) : S := { s with loc := vs.foldl (fun l i => l.set i none) s.loc }
mutual
def bindT : Tg → D → S → Option S
  | .v i, x, s => some { s with loc := s.loc.set i (some (.d x)) }
  | .tup ts, .tup xs, s => bindTs ts xs s
  | .tup ts, .lst xs, s => bindTs ts xs s
  | _, _, _ => none
def bindTs : Tgs → List D → S → Option S
  | .nil, [], s => some s
  | .cons t ts, x :: xs, s => (bindT t x s).bind (bindTs ts xs)
  | _, _, _ => none
end
/-- what is walked: data, or a list of the store as it stands -/
inductive Wk where
  | xs (l : List D) | rf (k : Nat) (n : Nat)
def walk (pv : PV) : M Wk := match pv with
  | .d (.ref k) => fun s => (match s.cel[k]? with
    | some (.lst xs) => .ok (.rf k xs.length) s
    | _ => .stk)
  | pv => M.bind pv.store fun x => M.of (x.items.map .xs)
/-- data that is walked -/
def walkD (pv : PV) : M (List D) := match pv with
  | .d (.ref _) => stk
  | pv => M.bind pv.store fun x => M.of x.items
/-- a dict's keys -/
def keysD (kvs : List (D × D)) : List D := if isTd kvs = true then keysT kvs else kvs.map (·.1)
def keysM (i : Nat) : M (List D) := fun s => match s.loc1 i with
  | some (.own (.dct kvs)) => .ok (keysD kvs) { s with loc := s.loc.set i (some (.d (.dct kvs))) }
  | some (.d (.dct kvs)) => .ok (keysD kvs) s
  | _ => .stk
/-- the ends of a range -/
def rngF : PV → PV → Option (Int × Int)
  | .d (.int a), .d (.int b) => if sml a && sml b then some (a, b) else none
  | _, _ => none
def enumFrom (n : Int) : List D → List D
  | [] => []
  | x :: xs => .tup [.int n, x] :: enumFrom (n + 1) xs
def zipL : List D → List D → List D
  | x :: xs, y :: ys => .tup [x, y] :: zipL xs ys
  | _, _ => []
/-- two lists or two tuples, side by side -/
def zipF : D → D → Option (List D)
  | .lst xs, .lst ys => some (zipL xs ys)
  | .tup xs, .tup ys => some (zipL xs ys)
  | .tup xs, .lst ys => some (zipL xs ys)
  | _, _ => none
def walkS (pv : PV) : M D := match pv with
  | .d (.ref _) => stk
  | pv => pv.store

/-! ### flows -/
inductive Flow where
  | next | ret (t : D) | brk | cont
def loopF (bd : D → M Flow) (kl : List Nat) : List D → M Flow
  | [] => fun s => .ok .next (wipe kl s)
  | x :: xs => fun s => match bd x s with
    | .ok .next s' | .ok .cont s' => loopF bd kl xs (wipe kl s')
    | .ok .brk s' => .ok .next (wipe kl s')
    | .ok (.ret t) s' => .ok (.ret t) s'
    | .exc e s' => .exc e s'
    | .stk => .stk
/-- over the list k of the store, n long, from its place i on -/
def loopR (bd : D → M Flow) (kl : List Nat) (k n : Nat) : Nat → Nat → M Flow
  | i, 0 => fun s => match s.cel[k]? with
    | some (.lst xs) => if xs.length = n ∧ i = n then .ok .next (wipe kl s) else .stk
    | _ => .stk
  | i, m + 1 => fun s => match s.cel[k]? with
    | some (.lst xs) => if xs.length = n then (match xs[i]? with
      | some x => (match bd x s with
        | .ok .next s' | .ok .cont s' => loopR bd kl k n (i + 1) m (wipe kl s')
        | .ok .brk s' => .ok .next (wipe kl s')
        | .ok (.ret t) s' => .ok (.ret t) s'
        | .exc e s' => .exc e s'
        | .stk => .stk)
      | none => .stk) else .stk
    | _ => .stk
def loopW (c : M Bool) (bd : M Flow) (kl : List Nat) : Nat → M Flow
  | 0 => stk
  | n + 1 => fun s => match c s with
    | .ok true s1 => (match bd s1 with
      | .ok .next s' | .ok .cont s' => loopW c bd kl n (wipe kl s')
      | .ok .brk s' => .ok .next (wipe kl s')
      | .ok (.ret t) s' => .ok (.ret t) s'
      | .exc e s' => .exc e s'
      | .stk => .stk)
    | .ok false s1 => .ok .next s1
    | .exc e s' => .exc e s'
    | .stk => .stk
/-- a comprehension's turns: the items so far -/
def loopC (tg : Tg) (tt : M Bool) (el : M D) (own : List Nat) : List D → List D → M (List D)
  | acc, [] => M.pure acc
  | acc, x :: xs => fun s => match bindT tg x (wipe own s) with
    | none => .stk
    | some s1 => match tt s1 with
      | .ok true s2 => (match el s2 with
        | .ok t s3 => if acc.length < line then loopC tg tt el own (acc ++ [t]) xs s3 else .stk
        | _ => .stk)
      | .ok false s2 => loopC tg tt el own acc xs s2
      | _ => .stk
/-- a comprehension's end: its own names are as they were; a thing of one's own is forgotten -/
def LV.dat : Option LV → Option LV
  | some (.d x) => some (.d x)
  | _ => none
def unown (own : List Nat) (l0 : List (Option LV)) (s : S) : S := { s with loc := own.foldl (fun l i => l.set i (LV.dat ((l0[i]?).getD none))) s.loc }
def lcM (own : List Nat) (m : M (List D)) : M (List D) := fun s => match m s with
  | .ok ts s' => .ok ts (unown own s.loc s')
  | _ => .stk

/-! ### the evaluator -/
section
variable (G : Tab) (F : FT)
/-- data as a thing -/
def thaw : PV → Option Cell
  | .d (.lst xs) => some (.lst xs)
  | .d (.dct kvs) => some (.dct kvs)
  | _ => none
def dispD : Exs → Exs → List (D × D) → Option (List (D × D))
  | .nil, .nil, acc => some acc
  | .cons k ks, .cons v vs, acc => match cDk k, cDv v with
    | some a, some b => dispD ks vs (keyPut a b acc)
    | _, _ => none
  | _, _, _ => none
/-- {} with tuples as keys -/
def isMark : Exs → Exs → Bool
  | .cons .non .nil, .cons .non .nil => true
  | _, _ => false
/-- a new thing of the store -/
def newM (x : PV) : M PV := fun s => match thaw x with
  | some c => .ok (.d (.ref s.cel.length)) { s with cel := s.cel ++ [c] }
  | none => .stk
/-- an object of the class c without a field m -/
def insM (c m : Nat) (x : D) : M Unit := fun s => match x with
  | .obj c' fs => if c' = c ∧ fs.lookup m = none then .ok () s else .stk
  | .ref k => (match s.cel[k]? with
    | some (.obj c' fs) => if c' = c ∧ fs.lookup m = none then .ok () s else .stk
    | _ => .stk)
  | _ => .stk
def rgF (t : Bool) (q : Int × Int) : Option D := if q.2 - q.1 ≤ line then some (if t then .tup ((rangeL q.1 q.2).map .int) else .lst ((rangeL q.1 q.2).map .int)) else none
def rg3F : PV → PV → PV → Option D
  | .d (.int a), .d (.int b), .d (.int c) => if 0 ≤ a ∧ a ≤ 1000 ∧ 0 ≤ b ∧ b ≤ 1000 ∧ 0 < c ∧ c ≤ 1000 then some (.tup ((rangeS a b c).map .int)) else none
  | _, _, _ => none
mutual
def evX : Ex → M PV
  | .v i => varM i
  | .con g => M.of ((G.con[g]?).map .d)
  | .int i => M.pure (.d (.int i))
  | .str x => M.pure (.d (.str x))
  | .bl b => M.pure (.d (.bl b))
  | .non => M.pure (.d .non)
  | .bin op a b => two (evX a) (evX b) (binF op)
  | .neg a => one (evX a) negF
  | .not a => M.bind (evX a) fun x => M.bind (toB x) fun b => M.pure (.d (.bl !b))
  | .and es => evAnd es
  | .or es => evOr es
  | .ife t a b => M.bind (evX t) fun x => M.bind (toB x) fun c => if c then evX a else evX b
  | .cmp c a b => two (evX a) (evX b) fun x y => (cmpF c x y).map .bl
  | .chain c c' a b e => M.bind (evX a) fun x => M.bind (evX b) fun y => chainM c c' x y (evX e)
  | .tup es => M.bind (evDs es) fun xs => if xs.length ≤ line then M.pure (.d (.tup xs)) else stk
  | .lst es => M.bind (evDs es) fun xs => if xs.length ≤ line then M.pure (.d (.lst xs)) else stk
  | .dct ks vs => if isMark ks vs = true then M.pure (.d (.dct [(.non, .non)])) else M.of ((dispD ks vs []).map fun l => .d (.dct l))
  | .new e => M.bind (evX e) newM
  | .idx a i => two (evX a) (evX i) idxF
  | .sl a lo hi => M.bind (evX a) fun x => M.bind (evX lo) fun l => M.bind (partM lo.isNon l) fun i => M.bind (evX hi) fun h => M.bind (partM hi.isNon h) fun j => slM x i j
  | .rev a => one (evX a) revF
  | .srt a => one (evX a) srtF
  | .lns a => one (evX a) lnsF
  | .attr a f => one (evX a) (fldF G f)
  | .call q f es => M.bind (evDs es) fun as => M.bind (doCall q (F f) as) fun x => M.pure (.d x)
  | .mk c es => M.bind (M.of (G.ini c)) fun f => M.bind (evDs es) fun as => M.bind (mkObj F c f as) fun x => M.pure (.d x)
  | .mkN c es => M.bind (evDs es) fun as => M.bind (mkNew G F c as) fun x => M.pure (.d x)
  | .meth q c o m es => M.bind (M.of (G.meth c m)) fun f => M.bind (evX o) fun x => M.bind x.store fun x => M.bind (insM c m x) fun _ => M.bind (evDs es) fun as => M.bind (doCall q (F f) (x :: as)) fun x => M.pure (.d x)
  | .bi b es => M.bind (evPs es) fun xs => biM b xs
  | .bm m o es => M.bind (evX o) fun x => M.bind (bmM m x) fun _ => M.bind (evDs es) fun as => M.bind (dgetM m x as) fun y => M.pure (.d y)
  | .mm m o es => M.bind (evX o) fun x => M.bind (lstM x) fun _ => M.bind (evDs es) fun as => M.bind (doMm m x as) fun y => M.pure (.d y)
  | .ext o e => M.bind (evX o) fun x => M.bind (lstM x) fun _ => M.bind (evX e) fun a => M.bind (doExt x a) fun y => M.pure (.d y)
  | .bad => stk
  | .sdef o k => M.bind (evX o) fun x => M.bind (dctM x) fun _ => M.bind (evX k) fun k => sdefM x k
  | .rg t a b => M.bind (evX a) fun x => M.bind (evX b) fun y => M.of (((rngF x y).bind (rgF t)).map .d)
  | .rg3 a b c => M.bind (evX a) fun x => M.bind (evX b) fun y => M.bind (evX c) fun z => M.of ((rg3F x y z).map .d)
  | .isi e ts => one (evX e) (isiF G ts)
  | .lc elt tg it ifs own => M.bind (evIt it) fun xs => M.bind (lcM own (loopC tg (evQs ifs) (M.bind (evX elt) PV.store) own [] xs)) fun ts => M.pure (.d (.lst ts))
def evDs : Exs → M (List D)
  | .nil => M.pure []
  | .cons e es => M.bind (evX e) fun x => M.bind x.store fun d => M.bind (evDs es) fun r => M.pure (d :: r)
def evPs : Exs → M (List PV)
  | .nil => M.pure []
  | .cons e es => M.bind (evX e) fun x => M.bind (evPs es) fun r => M.pure (x :: r)
def evAnd : Exs → M PV
  | .nil => stk
  | .cons e es => if es.isNil then evX e else M.bind (evX e) fun x => M.bind (toB x) fun c => if c then evAnd es else M.pure (.d (.bl false))
def evOr : Exs → M PV
  | .nil => stk
  | .cons e es => if es.isNil then evX e else M.bind (evX e) fun x => M.bind (toB x) fun c => if c then M.pure (.d (.bl true)) else evOr es
/-- a clause's tests -/
def evQs : Exs → M Bool
  | .nil => M.pure true
  | .cons e es => M.bind (evX e) fun x => M.bind (toB x) fun b => if b then evQs es else M.pure false
/-- data that is walked -/
def evIt : It → M (List D)
  | .val e => M.bind (evX e) walkD
  | .rng1 e => M.bind (evX e) fun x => M.of ((rngF (.d (.int 0)) x).map fun q => (rangeL q.1 q.2).map .int)
  | .rng2 a b => M.bind (evX a) fun x => M.bind (evX b) fun y => M.of ((rngF x y).map fun q => (rangeL q.1 q.2).map .int)
  | .enum e n => M.bind (evX e) fun x => M.bind (walkD x) fun xs => M.pure (enumFrom n xs)
  | .zip a b => M.bind (evX a) fun x => M.bind (evX b) fun y => M.bind (walkS x) fun xs => M.bind (walkS y) fun ys => M.of (zipF xs ys)
  | .rev e => M.bind (evX e) fun x => M.bind (walkD x) fun xs => M.pure xs.reverse
  | .revr e => M.bind (evX e) fun x => M.of ((rngF (.d (.int 0)) x).map fun q => (rangeL q.1 q.2).reverse.map .int)
  | .items _ => stk
  | .vals _ => stk
  | .keys i => keysM i
end
/-- a new thing for a slot -/
def asgOM (i : Nat) (x : PV) : M Flow := fun s => match thaw x with
  | some c => if i < s.loc.length then .ok .next { s with loc := s.loc.set i (some (.own c)) } else .stk
  | none => .stk
def asgFM (G : Tab) (x : PV) (f : Nat) (t : D) : M Flow := fun s => match x.lo with
  | some l => (match s.get l with
    | some (.obj c fs) => if (c < G.ncls ∧ G.isf c f = true) ∧ fs.length < 1000 then .ok .next (s.put (.obj c (fldPut f t fs)) l) else .stk
    | _ => .stk)
  | none => .stk
def asgIM (x y : PV) (t : D) : M Flow := fun s => match x.lo, y.val s with
  | some l, some y => (match s.get l, y with
    | some (.lst ts), .int j => (match ixN ts.length j with
      | some n => .ok .next (s.put (.lst (ts.set n t)) l)
      | none => .stk)
    | _, _ => .stk)
  | _, _ => .stk
/-- d[y] = t -/
def asgDM (x y : PV) (t : D) : M Flow := fun s => match x.lo, y.val s with
  | some l, some y => (match s.get l with
    | some (.dct kvs) => if keyFor y kvs && decide (kvs.length < line) then .ok .next (s.put (.dct (if isTd kvs = true then keyPutT y t kvs else keyPut y t kvs)) l) else .stk
    | _ => .stk)
  | _, _ => .stk
def dctAt (x : PV) (s : S) : Bool := match x.lo with
  | some l => (match s.get l with
    | some (.dct _) => true
    | _ => false)
  | none => false
def asgXM (x y : PV) (t : D) : M Flow := fun s => if dctAt x s = true then asgDM x y t s else asgIM x y t s
def augV (i : Nat) : M D := fun s => match s.loc1 i with
  | some (.d (.ref _)) => .stk
  | some (.d x) => .ok x s
  | _ => .stk
def augI : Op → D → PV → Option D
  | .add, .int a, .d (.int b) => some (.int (a + b))
  | .sub, .int a, .d (.int b) => some (.int (a - b))
  | _, _, _ => none
def augB (i : Nat) (op : Op) (x : D) (y : PV) : M Flow := fun s => match augI op x y with
  | some z => .ok .next { s with loc := s.loc.set i (some (.d z)) }
  | none => .stk
def augFV (G : Tab) (x : PV) (f : Nat) : M D := fun s => match x.val s with
  | some ox => (match fldF G f ox with
    | some (.int a) => .ok (.int a) s
    | _ => .stk)
  | none => .stk
def augIV (x n : PV) : M D := fun s => match x.val s, n with
  | some (.lst ts), .d (.int i) => (match pickI ts i with
    | some (.int a) => .ok (.int a) s
    | _ => .stk)
  | _, _ => .stk
def augOp (op : Op) (a : D) (y : PV) : M D := match y with
  | .d y => M.of (binF op a y)
  | _ => stk
def bindM (t : Tg) (x : D) : M Flow := fun s => match bindT t x s with
  | some s' => .ok .next s'
  | none => .stk
def turnM (tg : Tg) (bd : M Flow) (x : D) : M Flow := fun s => match bindT tg x s with
  | some s1 => bd s1
  | none => .stk
def loopA (bd : D → M Flow) (kl : List Nat) : Wk → M Flow
  | .xs l => loopF bd kl l
  | .rf k n => loopR bd kl k n 0 n
def raisM (G : Tab) (c : Nat) (ds : List D) : M Flow := fun s => match G.exf c with
  | some fs => if fs.length = ds.length then .exc ⟨c, fs.zip ds⟩ s else .stk
  | none => .stk
/-- a suite that raises nothing -/
def noX (m : M Flow) : M Flow := fun s => match m s with
  | .exc _ _ => .stk
  | r => r
def HE.ev (G : Tab) (e : Exc) : HE → Option D
  | .is ks => if e.fs.isEmpty then some (.bl (ks.all fun k => match k with | some k => G.sub e.c k | none => true)) else none
  | .fld f => match G.exf e.c with
    | some fs => if f ∈ fs then e.fs.lookup f else none
    | none => none
/-- except K as N[i]: N[j] = h -/
def hdE (G : Tab) (e : Exc) (q : Nat × Nat × HE) : M Flow := fun s => match q.2.2.ev G e with
  | some d => if q.1 < s.loc.length then .ok .next { s with loc := (s.loc.set q.1 none).set q.2.1 (some (.d d)) } else .stk
  | none => .stk
def isKeysI : It → Bool
  | .keys _ => true
  | _ => false
def isLoop : It → Option Ex
  | .val e => some e
  | _ => none
mutual
def evS : St → M Flow
  | .asg t e => M.bind (evX G F e) fun x => M.bind x.store fun y => bindM t y
  | .asgO i e => M.bind (evX G F e) fun x => asgOM i x
  | .asgF o f e => M.bind (evX G F e) fun t => M.bind t.store fun t => M.bind (evX G F o) fun x => asgFM G x f t
  | .asgI o i e => M.bind (evX G F e) fun t => M.bind t.store fun t => M.bind (evX G F o) fun x => M.bind (evX G F i) fun y => asgXM x y t
  | .aug i op e => M.bind (augV i) fun x => M.bind (evX G F e) fun y => augB i op x y
  | .augF o f op e => M.bind (evX G F o) fun x => M.bind (augFV G x f) fun a => M.bind (evX G F e) fun y => M.bind (augOp op a y) fun z => asgFM G x f z
  | .augI o i op e => M.bind (evX G F o) fun x => M.bind (evX G F i) fun n => M.bind (augIV x n) fun a => M.bind (evX G F e) fun y => M.bind (augOp op a y) fun z => asgIM x n z
  | .ex e => M.bind (evX G F e) fun _ => M.pure .next
  | .ife c a b => M.bind (evX G F c) fun x => M.bind (toB x) fun k => if k then evSs a else evSs b
  | .whl n c a kl => loopW (M.bind (evX G F c) toB) (evSs a) kl n
  | .for tg it a kl => match isLoop it with
    | some e => M.bind (evX G F e) fun x => M.bind (walk x) fun wk => loopA (turnM tg (evSs a)) kl wk
    | none => if isKeysI it = true then M.bind (evIt G F it) fun l => noX (loopF (turnM tg (evSs a)) kl l) else M.bind (evIt G F it) fun l => loopF (turnM tg (evSs a)) kl l
  | .ret e => M.bind (evX G F e) fun x => M.bind x.store fun y => M.pure (.ret y)
  | .retN => M.pure (.ret .non)
  | .brk => M.pure .brk
  | .cnt => M.pure .cont
  | .pass => M.pure .next
  | .rais c es => M.bind (evDs G F es) fun ds => raisM G c ds
  | .tryx a hs => fun s => match evSs a s with
    | .exc e s' => evHs hs e s'
    | r => r
  | .bad => stk
def evSs : Sts → M Flow
  | .nil => M.pure .next
  | .cons s ss => fun st => match evS s st with
    | .ok .next st' => evSs ss st'
    | r => r
def evHs : Hds → Exc → M Flow
  | .nil, e => fun s => .exc e s
  | .cons c bd a hs, e => if (G.exf e.c).isSome then (if G.sub e.c c then (match bd with
      | none => noX (evSs a)
      | some q => hdE G e q) else evHs hs e) else stk
end
end
/-! ### defs -/
structure Def where
  np : Nat
  n : Nat
  body : Sts
def finish : Res Flow → FRes
  | .ok .next s => .ok .non s.cel
  | .ok (.ret t) s => .ok t s.cel
  | .exc e s => .exc e s.cel
  | _ => .stk
def runDef (G : Tab) (F : FT) (d : Def) (ts : List D) (c : List Cell) : FRes :=
  if ts.length = d.np then finish (evSs G F d.body { loc := ts.map (fun x => some (.d x)) ++ List.replicate (d.n - d.np) none, cel := c }) else .stk
/-- the program, so many calls deep -/
def run (G : Tab) (P : List Def) : Nat → FT
  | 0 => fun _ _ _ => .stk
  | k + 1 => fun f ts c => match P[f]? with
    | some d => runDef G (run G P k) d ts c
    | none => .stk
end Ev

set_option autoImplicit false
set_option linter.all false
/-! How the core's state lies in the heap. -/
namespace Ev
open PySem L2
/-- where the classes stand, how the fields are called -/
structure Nms where
  K : PySem.W.Frag
  cl : Nat → Addr
  nm : Nat → Str
variable {N : Nms}
/-- what a lock leaves out of account -/
def core : HO → HO
  | .frz _ (.dK kvs) => .dK kvs
  | .frz _ (.dT kvs) => .dT kvs
  | o => o
/-- a locked thing -/
def lkd : HO → Prop
  | .frz _ _ => True
  | _ => False
def Sm (B B' : Hp) : Prop := ∀ a o, B a = some o → ∃ o', B' a = some o' ∧ core o' = core o ∧ (lkd o → o' = o)
/-- up to locks -/
def Sw (B B' : Hp) : Prop := ∀ a o, B a = some o → ∃ o', B' a = some o' ∧ core o' = core o
theorem Sm.sw {B B' : Hp} (h : Sm B B') : Sw B B' := fun a o e => let ⟨o', e', c, _⟩ := h a o e; ⟨o', e', c⟩
theorem Sm.refl (B : Hp) : Sm B B := fun _ _ h => ⟨_, h, rfl, fun _ => rfl⟩
theorem Sm.trans {A B C : Hp} (h : Sm A B) (k : Sm B C) : Sm A C := fun a o e => by
  obtain ⟨o1, e1, c1, l1⟩ := h a o e
  obtain ⟨o2, e2, c2, l2⟩ := k a o1 e1
  exact ⟨o2, e2, c2.trans c1, fun z => by
    have q := l1 z
    rw [l2 (by rw [q]; exact z), q]⟩
theorem Sm.of {A B : Hp} (h : Same A B) : Sm A B := fun a o e => ⟨o, h a o e, rfl, fun _ => rfl⟩
theorem core_lst {o : HO} {xs : List V} (h : core o = .lst xs) : o = .lst xs := by
  cases o <;> simp_all [core]
  rename_i u; cases u <;> simp_all [core]
theorem core_tup {o : HO} {xs : List V} (h : core o = .tup xs) : o = .tup xs := by
  cases o <;> simp_all [core]
  rename_i u; cases u <;> simp_all [core]
theorem core_ins {o : HO} {C dx : Addr} {fs : List (Str × V)} (h : core o = .ins C dx fs) : o = .ins C dx fs := by
  cases o <;> simp_all [core]
  rename_i u; cases u <;> simp_all [core]
theorem core_frzl {o : HO} {ob : Obj} {xs : List V} (h : core o = .frz ob (.lst xs)) : o = .frz ob (.lst xs) := by
  cases o <;> simp_all [core]
  rename_i u; cases u <;> simp_all [core]
theorem core_frzt {o : HO} {ob : Obj} {xs : List V} (h : core o = .frz ob (.tup xs)) : o = .frz ob (.tup xs) := by
  cases o <;> simp_all [core]
  rename_i u; cases u <;> simp_all [core]
theorem core_dK {o : HO} {kvs : List (Key × V)} (h : core o = .dK kvs) : o = .dK kvs ∨ ∃ ob, o = .frz ob (.dK kvs) := by
  cases o <;> simp_all [core]
  rename_i u; cases u <;> simp_all [core]
theorem core_dT {o : HO} {kvs : List (List Key × V)} (h : core o = .dT kvs) : o = .dT kvs ∨ ∃ ob, o = .frz ob (.dT kvs) := by
  cases o <;> simp_all [core]
  rename_i u; cases u <;> simp_all [core]
theorem SqL.sw {K : PySem.W.Frag} {B B' : Hp} {a : Addr} {xs : List V} (k : Sw B B') (h : SqL K B a xs) : SqL K B' a xs := by
  rcases h with (h | ⟨o, h⟩) | h
  · obtain ⟨o', e, c⟩ := k _ _ h
    exact .inl (.inl (by rw [e, core_lst c]))
  · obtain ⟨o', e, c⟩ := k _ _ h
    exact .inl (.inr ⟨o, by rw [e, core_frzl c]⟩)
  · exact .inr h
theorem SqT.sw {K : PySem.W.Frag} {B B' : Hp} {a : Addr} {xs : List V} (k : Sw B B') (h : SqT K B a xs) : SqT K B' a xs := by
  rcases h with (h | ⟨o, h⟩) | h
  · obtain ⟨o', e, c⟩ := k _ _ h
    exact .inl (.inl (by rw [e, core_tup c]))
  · obtain ⟨o', e, c⟩ := k _ _ h
    exact .inl (.inr ⟨o, by rw [e, core_frzt c]⟩)
  · exact .inr h
theorem Rd.swK {B B' : Hp} {a : Addr} {kvs : List (Key × V)} (k : Sw B B') (h : Rd B a (.dK kvs)) : Rd B' a (.dK kvs) := by
  rcases h with h | ⟨o, h⟩
  · obtain ⟨o', e, c⟩ := k _ _ h
    rcases core_dK c with c | ⟨ob, c⟩
    · exact .inl (by rw [e, c])
    · exact .inr ⟨ob, by rw [e, c]⟩
  · obtain ⟨o', e, c⟩ := k _ _ h
    rcases core_dK c with c | ⟨ob, c⟩
    · exact .inl (by rw [e, c])
    · exact .inr ⟨ob, by rw [e, c]⟩
theorem Rd.swT {B B' : Hp} {a : Addr} {kvs : List (List Key × V)} (k : Sw B B') (h : Rd B a (.dT kvs)) : Rd B' a (.dT kvs) := by
  rcases h with h | ⟨o, h⟩
  · obtain ⟨o', e, c⟩ := k _ _ h
    rcases core_dT c with c | ⟨ob, c⟩
    · exact .inl (by rw [e, c])
    · exact .inr ⟨ob, by rw [e, c]⟩
  · obtain ⟨o', e, c⟩ := k _ _ h
    rcases core_dT c with c | ⟨ob, c⟩
    · exact .inl (by rw [e, c])
    · exact .inr ⟨ob, by rw [e, c]⟩
theorem SqL.sm {K : PySem.W.Frag} {B B' : Hp} {a : Addr} {xs : List V} (k : Sm B B') (h : SqL K B a xs) : SqL K B' a xs := SqL.sw k.sw h
theorem SqT.sm {K : PySem.W.Frag} {B B' : Hp} {a : Addr} {xs : List V} (k : Sm B B') (h : SqT K B a xs) : SqT K B' a xs := SqT.sw k.sw h
theorem Rd.smK {B B' : Hp} {a : Addr} {kvs : List (Key × V)} (k : Sm B B') (h : Rd B a (.dK kvs)) : Rd B' a (.dK kvs) := Rd.swK k.sw h
theorem Rd.smT {B B' : Hp} {a : Addr} {kvs : List (List Key × V)} (k : Sm B B') (h : Rd B a (.dT kvs)) : Rd B' a (.dT kvs) := Rd.swT k.sw h
/-- a key as data -/
def kD : Key → D
  | .inl i => .int i
  | .inr x => .str x
def TrkT (B : Hp) (a : Addr) (xs : List V) (ds : List D) : Prop := intK ds = true → B a = some (.tup xs)
theorem TrkT.sw {B B' : Hp} {a : Addr} {xs : List V} {ds : List D} (k : Sw B B') (h : TrkT B a xs ds) : TrkT B' a xs ds := fun e => by
  obtain ⟨o', e, c⟩ := k _ _ (h e)
  rw [e, core_tup c]
/-! ### data in the heap: n: how many things of the store there are; ad: where they stand; B: what never changes -/
mutual
inductive RepD (N : Nms) (n : Nat) (ad : Nat → Addr) (B : Hp) : V → D → Prop
  | non : RepD N n ad B .non .non
  | bl (b : Bool) : RepD N n ad B (.bl b) (.bl b)
  | int (i : Int) : RepD N n ad B (.int i) (.int i)
  | str (x : Str) : RepD N n ad B (.str x) (.str x)
  | tup {a : Addr} {xs : List V} {ds : List D} : SqT N.K B a xs → TrkT B a xs ds → RepDs N n ad B xs ds → RepD N n ad B (.ref a) (.tup ds)
  | lst {a : Addr} {xs : List V} {ds : List D} : SqL N.K B a xs → RepDs N n ad B xs ds → RepD N n ad B (.ref a) (.lst ds)
  | obj {a dx : Addr} {c : Nat} {fv : List (Str × V)} {fs : List (Nat × D)} : B a = some (.ins (N.cl c) dx fv) → RepFs N n ad B fv fs → RepD N n ad B (.ref a) (.obj c fs)
  | dK {a : Addr} {kvs : List (Key × V)} {ds : List (D × D)} : Rd B a (.dK kvs) → RepKs N n ad B kvs ds → RepD N n ad B (.ref a) (.dct ds)
  | dT {a : Addr} {kvs : List (List Key × V)} {ds : List (D × D)} : Rd B a (.dT kvs) → RepTs N n ad B kvs ds → RepD N n ad B (.ref a) (.dct ds)
  | ref {k : Nat} : k < n → RepD N n ad B (.ref (ad k)) (.ref k)
inductive RepDs (N : Nms) (n : Nat) (ad : Nat → Addr) (B : Hp) : List V → List D → Prop
  | nil : RepDs N n ad B [] []
  | cons {v : V} {vs : List V} {d : D} {ds : List D} : RepD N n ad B v d → RepDs N n ad B vs ds → RepDs N n ad B (v :: vs) (d :: ds)
inductive RepFs (N : Nms) (n : Nat) (ad : Nat → Addr) (B : Hp) : List (Str × V) → List (Nat × D) → Prop
  | nil : RepFs N n ad B [] []
  | cons {v : V} {fv : List (Str × V)} {f : Nat} {d : D} {fs : List (Nat × D)} : RepD N n ad B v d → RepFs N n ad B fv fs → RepFs N n ad B ((N.nm f, v) :: fv) ((f, d) :: fs)
inductive RepKs (N : Nms) (n : Nat) (ad : Nat → Addr) (B : Hp) : List (Key × V) → List (D × D) → Prop
  | nil : RepKs N n ad B [] []
  | cons {k : Key} {v : V} {kvs : List (Key × V)} {d : D} {ds : List (D × D)} : RepD N n ad B v d → RepKs N n ad B kvs ds → RepKs N n ad B ((k, v) :: kvs) ((kD k, d) :: ds)
/-- keys that are tuples of ints; the mark stands at the end -/
inductive RepTs (N : Nms) (n : Nat) (ad : Nat → Addr) (B : Hp) : List (List Key × V) → List (D × D) → Prop
  | nil : RepTs N n ad B [] [(.non, .non)]
  | cons {k : List Int} {v : V} {kvs : List (List Key × V)} {d : D} {ds : List (D × D)} : intK (k.map .int) = true → RepD N n ad B v d → RepTs N n ad B kvs ds → RepTs N n ad B ((k.map .inl, v) :: kvs) ((.tup (k.map .int), d) :: ds)
end
section
variable {n n' : Nat} {ad ad' : Nat → Addr} {B B' : Hp}
mutual
theorem RepD.monoW (hn : n ≤ n') (ha : ∀ k, k < n → ad' k = ad k) (k : Sw B B') : ∀ (d : D) {v : V}, RepD N n ad B v d → RepD N n' ad' B' v d
  | .non, _, h => by cases h; exact .non
  | .bl b, _, h => by cases h; exact .bl b
  | .int b, _, h => by cases h; exact .int b
  | .str b, _, h => by cases h; exact .str b
  | .tup ds, _, h => by cases h with | tup s q r => exact .tup (SqT.sw k s) (q.sw k) (RepDs.monoW hn ha k ds r)
  | .lst ds, _, h => by cases h with | lst s r => exact .lst (SqL.sw k s) (RepDs.monoW hn ha k ds r)
  | .obj c fs, _, h => by
    cases h with
    | obj s r =>
      obtain ⟨o', e, c⟩ := k _ _ s
      exact .obj (by rw [e, core_ins c]) (RepFs.monoW hn ha k fs r)
  | .dct ds, _, h => by cases h with | dK s r => exact .dK (Rd.swK k s) (RepKs.monoW hn ha k ds r) | dT s r => exact .dT (Rd.swT k s) (RepTs.monoW hn ha k ds r)
  | .ref j, _, h => by cases h with | ref hj => rw [← ha j hj]; exact .ref (Nat.lt_of_lt_of_le hj hn)
theorem RepDs.monoW (hn : n ≤ n') (ha : ∀ k, k < n → ad' k = ad k) (k : Sw B B') : ∀ (ds : List D) {vs : List V}, RepDs N n ad B vs ds → RepDs N n' ad' B' vs ds
  | [], _, h => by cases h; exact .nil
  | d :: ds, _, h => by cases h with | cons a b => exact .cons (RepD.monoW hn ha k d a) (RepDs.monoW hn ha k ds b)
theorem RepFs.monoW (hn : n ≤ n') (ha : ∀ k, k < n → ad' k = ad k) (k : Sw B B') : ∀ (fs : List (Nat × D)) {fv : List (Str × V)}, RepFs N n ad B fv fs → RepFs N n' ad' B' fv fs
  | [], _, h => by cases h; exact .nil
  | (_, d) :: fs, _, h => by cases h with | cons a b => exact .cons (RepD.monoW hn ha k d a) (RepFs.monoW hn ha k fs b)
theorem RepKs.monoW (hn : n ≤ n') (ha : ∀ k, k < n → ad' k = ad k) (k : Sw B B') : ∀ (fs : List (D × D)) {fv : List (Key × V)}, RepKs N n ad B fv fs → RepKs N n' ad' B' fv fs
  | [], _, h => by cases h; exact .nil
  | (_, d) :: fs, _, h => by cases h with | cons a b => exact .cons (RepD.monoW hn ha k d a) (RepKs.monoW hn ha k fs b)
theorem RepTs.monoW (hn : n ≤ n') (ha : ∀ k, k < n → ad' k = ad k) (k : Sw B B') : ∀ (fs : List (D × D)) {fv : List (List Key × V)}, RepTs N n ad B fv fs → RepTs N n' ad' B' fv fs
  | [], _, h => by cases h
  | (_, d) :: fs, _, h => by cases h with | nil => exact .nil | cons z a b => exact .cons z (RepD.monoW hn ha k d a) (RepTs.monoW hn ha k fs b)
end
theorem RepD.mono (hn : n ≤ n') (ha : ∀ k, k < n → ad' k = ad k) (k : Sm B B') (d : D) {v : V} (h : RepD N n ad B v d) : RepD N n' ad' B' v d := RepD.monoW hn ha k.sw d h
theorem RepDs.mono (hn : n ≤ n') (ha : ∀ k, k < n → ad' k = ad k) (k : Sm B B') (ds : List D) {vs : List V} (h : RepDs N n ad B vs ds) : RepDs N n' ad' B' vs ds := RepDs.monoW hn ha k.sw ds h
theorem RepFs.mono (hn : n ≤ n') (ha : ∀ k, k < n → ad' k = ad k) (k : Sm B B') (fs : List (Nat × D)) {fv : List (Str × V)} (h : RepFs N n ad B fv fs) : RepFs N n' ad' B' fv fs := RepFs.monoW hn ha k.sw fs h
theorem RepKs.mono (hn : n ≤ n') (ha : ∀ k, k < n → ad' k = ad k) (k : Sm B B') (fs : List (D × D)) {fv : List (Key × V)} (h : RepKs N n ad B fv fs) : RepKs N n' ad' B' fv fs := RepKs.monoW hn ha k.sw fs h
theorem RepTs.mono (hn : n ≤ n') (ha : ∀ k, k < n → ad' k = ad k) (k : Sm B B') (fs : List (D × D)) {fv : List (List Key × V)} (h : RepTs N n ad B fv fs) : RepTs N n' ad' B' fv fs := RepTs.monoW hn ha k.sw fs h
mutual
/-- where all refs are below m, no more of the store is asked -/
theorem RepD.blw {m : Nat} : ∀ (d : D) {v : V}, d.blw m = true → RepD N n ad B v d → RepD N m ad B v d
  | .non, _, _, h => by cases h; exact .non
  | .bl b, _, _, h => by cases h; exact .bl b
  | .int b, _, _, h => by cases h; exact .int b
  | .str b, _, _, h => by cases h; exact .str b
  | .tup ds, _, w, h => by cases h with | tup s q r => exact .tup s q (RepDs.blw ds (by simpa [D.blw] using w) r)
  | .lst ds, _, w, h => by cases h with | lst s r => exact .lst s (RepDs.blw ds (by simpa [D.blw] using w) r)
  | .obj c fs, _, w, h => by cases h with | obj s r => exact .obj s (RepFs.blw fs (by simpa [D.blw] using w) r)
  | .dct ds, _, w, h => by cases h with | dK s r => exact .dK s (RepKs.blw ds (by simpa [D.blw] using w) r) | dT s r => exact .dT s (RepTs.blw ds (by simpa [D.blw] using w) r)
  | .ref j, _, w, h => by cases h with | ref hj => exact .ref (by simpa [D.blw] using w)
theorem RepDs.blw {m : Nat} : ∀ (ds : List D) {vs : List V}, D.blws m ds = true → RepDs N n ad B vs ds → RepDs N m ad B vs ds
  | [], _, _, h => by cases h; exact .nil
  | d :: ds, _, w, h => by
    simp only [D.blws, Bool.and_eq_true] at w
    cases h with | cons a b => exact .cons (RepD.blw d w.1 a) (RepDs.blw ds w.2 b)
theorem RepFs.blw {m : Nat} : ∀ (fs : List (Nat × D)) {fv : List (Str × V)}, D.blwf m fs = true → RepFs N n ad B fv fs → RepFs N m ad B fv fs
  | [], _, _, h => by cases h; exact .nil
  | (_, d) :: fs, _, w, h => by
    simp only [D.blwf, Bool.and_eq_true] at w
    cases h with | cons a b => exact .cons (RepD.blw d w.1 a) (RepFs.blw fs w.2 b)
theorem RepKs.blw {m : Nat} : ∀ (fs : List (D × D)) {fv : List (Key × V)}, D.blwk m fs = true → RepKs N n ad B fv fs → RepKs N m ad B fv fs
  | [], _, _, h => by cases h; exact .nil
  | (_, d) :: fs, _, w, h => by
    simp only [D.blwk, Bool.and_eq_true] at w
    cases h with | cons a b => exact .cons (RepD.blw d w.1.2 a) (RepKs.blw fs w.2 b)
theorem RepTs.blw {m : Nat} : ∀ (fs : List (D × D)) {fv : List (List Key × V)}, D.blwk m fs = true → RepTs N n ad B fv fs → RepTs N m ad B fv fs
  | [], _, _, h => by cases h
  | (_, d) :: fs, _, w, h => by
    simp only [D.blwk, Bool.and_eq_true] at w
    cases h with | nil => exact .nil | cons z a b => exact .cons z (RepD.blw d w.1.2 a) (RepTs.blw fs w.2 b)
end
mutual
/-- where there is no ref, ad does not matter -/
theorem RepD.pure {m : Nat} {ad2 : Nat → Addr} : ∀ (d : D) {v : V}, d.blw 0 = true → RepD N n ad B v d → RepD N m ad2 B v d
  | .non, _, _, h => by cases h; exact .non
  | .bl b, _, _, h => by cases h; exact .bl b
  | .int b, _, _, h => by cases h; exact .int b
  | .str b, _, _, h => by cases h; exact .str b
  | .tup ds, _, w, h => by cases h with | tup s q r => exact .tup s q (RepDs.pure ds (by simpa [D.blw] using w) r)
  | .lst ds, _, w, h => by cases h with | lst s r => exact .lst s (RepDs.pure ds (by simpa [D.blw] using w) r)
  | .obj c fs, _, w, h => by cases h with | obj s r => exact .obj s (RepFs.pure fs (by simpa [D.blw] using w) r)
  | .dct ds, _, w, h => by cases h with | dK s r => exact .dK s (RepKs.pure ds (by simpa [D.blw] using w) r) | dT s r => exact .dT s (RepTs.pure ds (by simpa [D.blw] using w) r)
  | .ref j, _, w, h => by simp [D.blw] at w
theorem RepDs.pure {m : Nat} {ad2 : Nat → Addr} : ∀ (ds : List D) {vs : List V}, D.blws 0 ds = true → RepDs N n ad B vs ds → RepDs N m ad2 B vs ds
  | [], _, _, h => by cases h; exact .nil
  | d :: ds, _, w, h => by
    simp only [D.blws, Bool.and_eq_true] at w
    cases h with | cons a b => exact .cons (RepD.pure d w.1 a) (RepDs.pure ds w.2 b)
theorem RepFs.pure {m : Nat} {ad2 : Nat → Addr} : ∀ (fs : List (Nat × D)) {fv : List (Str × V)}, D.blwf 0 fs = true → RepFs N n ad B fv fs → RepFs N m ad2 B fv fs
  | [], _, _, h => by cases h; exact .nil
  | (_, d) :: fs, _, w, h => by
    simp only [D.blwf, Bool.and_eq_true] at w
    cases h with | cons a b => exact .cons (RepD.pure d w.1 a) (RepFs.pure fs w.2 b)
theorem RepKs.pure {m : Nat} {ad2 : Nat → Addr} : ∀ (fs : List (D × D)) {fv : List (Key × V)}, D.blwk 0 fs = true → RepKs N n ad B fv fs → RepKs N m ad2 B fv fs
  | [], _, _, h => by cases h; exact .nil
  | (_, d) :: fs, _, w, h => by
    simp only [D.blwk, Bool.and_eq_true] at w
    cases h with | cons a b => exact .cons (RepD.pure d w.1.2 a) (RepKs.pure fs w.2 b)
theorem RepTs.pure {m : Nat} {ad2 : Nat → Addr} : ∀ (fs : List (D × D)) {fv : List (List Key × V)}, D.blwk 0 fs = true → RepTs N n ad B fv fs → RepTs N m ad2 B fv fs
  | [], _, _, h => by cases h
  | (_, d) :: fs, _, w, h => by
    simp only [D.blwk, Bool.and_eq_true] at w
    cases h with | nil => exact .nil | cons z a b => exact .cons z (RepD.pure d w.1.2 a) (RepTs.pure fs w.2 b)
end
theorem RepDs.length : ∀ {vs : List V} {ds : List D}, RepDs N n ad B vs ds → vs.length = ds.length
  | _, _, .nil => rfl
  | _, _, .cons _ b => by simp [RepDs.length b]
theorem RepDs.get : ∀ {vs : List V} {ds : List D} {i : Nat} {d : D}, RepDs N n ad B vs ds → ds[i]? = some d → ∃ v, vs[i]? = some v ∧ RepD N n ad B v d
  | _, _, _, _, .nil, e => by simp at e
  | _, _, 0, d, .cons a _, e => by simp at e; subst e; exact ⟨_, rfl, a⟩
  | _, _, i + 1, d, .cons _ b, e => by
    obtain ⟨v, h1, h2⟩ := RepDs.get (i := i) b (by simpa using e)
    exact ⟨v, by simpa using h1, h2⟩
theorem RepDs.getV : ∀ {vs : List V} {ds : List D} {i : Nat} {v : V}, RepDs N n ad B vs ds → vs[i]? = some v → ∃ d, ds[i]? = some d ∧ RepD N n ad B v d
  | _, _, _, _, .nil, e => by simp at e
  | _, _, 0, d, .cons a _, e => by simp at e; subst e; exact ⟨_, rfl, a⟩
  | _, _, i + 1, d, .cons _ b, e => by
    obtain ⟨v, h1, h2⟩ := RepDs.getV (i := i) b (by simpa using e)
    exact ⟨v, by simpa using h1, h2⟩
theorem RepDs.set {v : V} {d : D} (h : RepD N n ad B v d) : ∀ {vs : List V} {ds : List D} (i : Nat), RepDs N n ad B vs ds → RepDs N n ad B (vs.set i v) (ds.set i d)
  | _, _, _, .nil => .nil
  | _, _, 0, .cons _ b => .cons h b
  | _, _, i + 1, .cons a b => .cons a (RepDs.set h i b)
theorem RepDs.append : ∀ {vs ws : List V} {ds es : List D}, RepDs N n ad B vs ds → RepDs N n ad B ws es → RepDs N n ad B (vs ++ ws) (ds ++ es)
  | _, _, _, _, .nil, s => s
  | _, _, _, _, .cons a b, s => .cons a (RepDs.append b s)
theorem RepDs.take : ∀ {vs : List V} {ds : List D} (m : Nat), RepDs N n ad B vs ds → RepDs N n ad B (vs.take m) (ds.take m)
  | _, _, 0, _ => .nil
  | _, _, _ + 1, .nil => .nil
  | _, _, m + 1, .cons a b => .cons a (RepDs.take m b)
theorem RepDs.drop : ∀ {vs : List V} {ds : List D} (m : Nat), RepDs N n ad B vs ds → RepDs N n ad B (vs.drop m) (ds.drop m)
  | _, _, 0, h => h
  | _, _, _ + 1, .nil => .nil
  | _, _, m + 1, .cons _ b => RepDs.drop m b
theorem RepDs.rev : ∀ {vs : List V} {ds : List D}, RepDs N n ad B vs ds → RepDs N n ad B vs.reverse ds.reverse
  | _, _, .nil => .nil
  | _, _, .cons a b => by
    rw [List.reverse_cons, List.reverse_cons]
    exact (RepDs.rev b).append (.cons a .nil)
theorem RepDs.ints : ∀ (is : List Int), RepDs N n ad B (is.map .int) (is.map .int)
  | [] => .nil
  | i :: is => .cons (.int i) (RepDs.ints is)
theorem RepDs.rep {vs : List V} {ds : List D} (r : RepDs N n ad B vs ds) : ∀ m : Nat, RepDs N n ad B (List.replicate m vs).flatten (List.replicate m ds).flatten
  | 0 => by simpa using RepDs.nil
  | m + 1 => by
    rw [List.replicate_succ, List.replicate_succ, List.flatten_cons, List.flatten_cons]
    exact r.append (RepDs.rep r m)
theorem RepFs.lookup (inj : ∀ f g, N.nm f = N.nm g → f = g) : ∀ {fv : List (Str × V)} {fs : List (Nat × D)} {f : Nat} {d : D}, RepFs N n ad B fv fs → fs.lookup f = some d → ∃ v, fv.lookup (N.nm f) = some v ∧ RepD N n ad B v d
  | _, _, _, _, .nil, e => by simp at e
  | _, _, f, d, .cons (f := g) a b, e => by
    rw [List.lookup_cons] at e ⊢
    by_cases h : f = g
    · subst h; simp at e ⊢; subst e; exact a
    · have h1 : (f == g) = false := by simpa using h
      have h2 : (N.nm f == N.nm g) = false := by simpa using fun q => h (inj _ _ q)
      rw [h1] at e
      rw [h2]
      exact RepFs.lookup inj b e
end

/-! ### masks -/
open Classical in
noncomputable def msk (H : Hp) (M : Addr → Prop) : Hp := fun a => if M a then none else H a
section
variable {H H' : Hp} {M M' : Addr → Prop}
theorem msk_le : Same (msk H M) H := fun a o h => by
  unfold msk at h
  split at h
  · cases h
  · exact h
theorem msk_of {a : Addr} (h : ¬ M a) : msk H M a = H a := if_neg h
theorem msk_get {a : Addr} {o : HO} (h : msk H M a = some o) : H a = some o ∧ ¬ M a := by
  unfold msk at h
  split at h
  · cases h
  · exact ⟨h, ‹_›⟩
theorem msk_sm (k : ∀ a o, H a = some o → ¬ M a → (∃ o', H' a = some o' ∧ core o' = core o ∧ (lkd o → o' = o)) ∧ ¬ M' a) : Sm (msk H M) (msk H' M') := fun a o h => by
  obtain ⟨h1, h2⟩ := msk_get h
  obtain ⟨⟨o', e, c, l⟩, h3⟩ := k a o h1 h2
  exact ⟨o', by rw [msk_of h3]; exact e, c, l⟩
theorem msk_same (k : Same H H') : Same (msk H M) (msk H' M) := fun a o h => by
  obtain ⟨h1, h2⟩ := msk_get h
  rw [msk_of h2]
  exact k a o h1
end

/-! ### the state -/
def adr (ad : Nat → Addr) (σ : L2.St) : Lo → Option Addr
  | .sl i => match σ[i]? with
    | some (some (.ref a)) => some a
    | _ => none
  | .id k => some (ad k)
/-- what may change, and what is held aside -/
def Mk (ad : Nat → Addr) (σ : L2.St) (s : S) (F : Addr → Prop) : Addr → Prop := fun a => F a ∨ ∃ l c, s.get l = some c ∧ adr ad σ l = some a
def CelOk (N : Nms) (n : Nat) (ad : Nat → Addr) (B H : Hp) (a : Addr) : Cell → Prop
  | .lst ds => ∃ xs, H a = some (.lst xs) ∧ RepDs N n ad B xs ds
  | .obj c fs => ∃ dx fv, H a = some (.ins (N.cl c) dx fv) ∧ RepFs N n ad B fv fs
  | .dct ds => (∃ kvs, H a = some (.dK kvs) ∧ RepKs N n ad B kvs ds) ∨ ∃ kvs, H a = some (.dT kvs) ∧ RepTs N n ad B kvs ds
structure Rel (N : Nms) (ad : Nat → Addr) (σ : L2.St) (H : Hp) (s : S) (F : Addr → Prop) : Prop where
  len : σ.length = s.loc.length
  dat : ∀ (i : Nat) (x : D), s.loc[i]? = some (some (LV.d x)) → ∃ v, σ[i]? = some (some v) ∧ RepD N s.cel.length ad (msk H (Mk ad σ s F)) v x
  own : ∀ l c, s.get l = some c → ∃ a, adr ad σ l = some a ∧ CelOk N s.cel.length ad (msk H (Mk ad σ s F)) H a c
  inj : ∀ l l' c c' a, s.get l = some c → s.get l' = some c' → adr ad σ l = some a → adr ad σ l' = some a → l = l'
  frn : ∀ a, F a → (∃ o, H a = some o) ∧ ∀ l c, s.get l = some c → adr ad σ l ≠ some a
  nt : ∀ (a : Addr) (ys : List V), F a → H a ≠ some (HO.tup ys)
structure Post (ad : Nat → Addr) (σ : L2.St) (H : Hp) (s : S) (ad' : Nat → Addr) (σ' : L2.St) (H' : Hp) (s' : S) (F : Addr → Prop) : Prop where
  agr : ∀ k, k < s.cel.length → ad' k = ad k
  len : s.cel.length ≤ s'.cel.length
  ll : s'.loc.length = s.loc.length
  sm : Sm (msk H (Mk ad σ s F)) (msk H' (Mk ad' σ' s' F))
  frn : ∀ a, F a → H' a = H a
theorem CelOk.monoW {n n' : Nat} {ad ad' : Nat → Addr} {B B' H H' : Hp} {a : Addr} (hn : n ≤ n') (ha : ∀ k, k < n → ad' k = ad k) (k : Sw B B') (e : H' a = H a) : ∀ (c : Cell), CelOk N n ad B H a c → CelOk N n' ad' B' H' a c
  | .lst ds, ⟨xs, h, r⟩ => ⟨xs, e.trans h, r.monoW hn ha k⟩
  | .obj c fs, ⟨dx, fv, h, r⟩ => ⟨dx, fv, e.trans h, r.monoW hn ha k⟩
  | .dct ds, .inl ⟨kvs, h, r⟩ => .inl ⟨kvs, e.trans h, r.monoW hn ha k⟩
  | .dct ds, .inr ⟨kvs, h, r⟩ => .inr ⟨kvs, e.trans h, r.monoW hn ha k⟩
theorem CelOk.mono {n n' : Nat} {ad ad' : Nat → Addr} {B B' H H' : Hp} {a : Addr} (hn : n ≤ n') (ha : ∀ k, k < n → ad' k = ad k) (k : Sm B B') (e : H' a = H a) (c : Cell) (h : CelOk N n ad B H a c) : CelOk N n' ad' B' H' a c := CelOk.monoW hn ha k.sw e c h
theorem CelOk.blw {n m : Nat} {ad : Nat → Addr} {B H : Hp} {a : Addr} : ∀ (c : Cell), c.blw m = true → CelOk N n ad B H a c → CelOk N m ad B H a c
  | .lst ds, w, ⟨xs, h, r⟩ => ⟨xs, h, r.blw _ w⟩
  | .obj c fs, w, ⟨dx, fv, h, r⟩ => ⟨dx, fv, h, r.blw _ w⟩
  | .dct ds, w, .inl ⟨kvs, h, r⟩ => .inl ⟨kvs, h, r.blw _ w⟩
  | .dct ds, w, .inr ⟨kvs, h, r⟩ => .inr ⟨kvs, h, r.blw _ w⟩
theorem CelOk.some {n : Nat} {ad : Nat → Addr} {B H : Hp} {a : Addr} : ∀ (c : Cell), CelOk N n ad B H a c → ∃ o, H a = some o
  | .lst ds, ⟨xs, h, r⟩ => ⟨_, h⟩
  | .obj c fs, ⟨dx, fv, h, r⟩ => ⟨_, h⟩
  | .dct ds, .inl ⟨kvs, h, r⟩ => ⟨_, h⟩
  | .dct ds, .inr ⟨kvs, h, r⟩ => ⟨_, h⟩
/-- a thing that is read as data where it stands -/
theorem CelOk.toD {n : Nat} {ad : Nat → Addr} {B B' H : Hp} {a : Addr} (k : Sm B B') (e : B' a = H a) : ∀ (c : Cell), CelOk N n ad B H a c → RepD N n ad B' (.ref a) c.toD
  | .lst ds, ⟨xs, h, r⟩ => .lst (SqL.of (e.trans h)) (r.mono (Nat.le_refl _) (fun _ _ => rfl) k)
  | .obj c fs, ⟨dx, fv, h, r⟩ => .obj (e.trans h) (r.mono (Nat.le_refl _) (fun _ _ => rfl) k)
  | .dct ds, .inl ⟨kvs, h, r⟩ => .dK (.inl (e.trans h)) (r.mono (Nat.le_refl _) (fun _ _ => rfl) k)
  | .dct ds, .inr ⟨kvs, h, r⟩ => .dT (.inl (e.trans h)) (r.mono (Nat.le_refl _) (fun _ _ => rfl) k)
theorem celOk_nt {n : Nat} {ad : Nat → Addr} {B H : Hp} {a : Addr} : ∀ (c : Cell), CelOk N n ad B H a c → ∀ ys : List V, H a ≠ some (HO.tup ys)
  | .lst ds, ⟨xs, h, r⟩, ys => by rw [h]; exact fun z => nomatch z
  | .obj c fs, ⟨dx, fv, h, r⟩, ys => by rw [h]; exact fun z => nomatch z
  | .dct ds, .inl ⟨kvs, h, r⟩, ys => by rw [h]; exact fun z => nomatch z
  | .dct ds, .inr ⟨kvs, h, r⟩, ys => by rw [h]; exact fun z => nomatch z
section
variable {ad ad' ad2 : Nat → Addr} {σ σ' σ2 : L2.St} {H H' H2 : Hp} {s s' s2 : S} {F : Addr → Prop}
theorem Post.refl : Post ad σ H s ad σ H s F := ⟨fun _ _ => rfl, Nat.le_refl _, rfl, Sm.refl _, fun _ _ => rfl⟩
theorem Post.trans (P : Post ad σ H s ad' σ' H' s' F) (Q : Post ad' σ' H' s' ad2 σ2 H2 s2 F) : Post ad σ H s ad2 σ2 H2 s2 F where
  agr := fun k h => (Q.agr k (Nat.lt_of_lt_of_le h P.len)).trans (P.agr k h)
  len := Nat.le_trans P.len Q.len
  ll := Q.ll.trans P.ll
  sm := P.sm.trans Q.sm
  frn := fun a h => (Q.frn a h).trans (P.frn a h)
theorem Post.rep (P : Post ad σ H s ad' σ' H' s' F) {v : V} {d : D} (r : RepD N s.cel.length ad (msk H (Mk ad σ s F)) v d) : RepD N s'.cel.length ad' (msk H' (Mk ad' σ' s' F)) v d := r.mono P.len P.agr P.sm
theorem Post.reps (P : Post ad σ H s ad' σ' H' s' F) {v : List V} {d : List D} (r : RepDs N s.cel.length ad (msk H (Mk ad σ s F)) v d) : RepDs N s'.cel.length ad' (msk H' (Mk ad' σ' s' F)) v d := r.mono P.len P.agr P.sm
/-- the heap grows -/
theorem Rel.grow (R : Rel N ad σ H s F) (k : Same H H') : Rel N ad σ H' s F where
  len := R.len
  dat := fun i x h => by
    obtain ⟨v, h1, h2⟩ := R.dat i x h
    exact ⟨v, h1, h2.mono (Nat.le_refl _) (fun _ _ => rfl) (.of (msk_same k))⟩
  own := fun l c h => by
    obtain ⟨a, h1, h2⟩ := R.own l c h
    obtain ⟨o, ho⟩ := h2.some
    exact ⟨a, h1, h2.mono (Nat.le_refl _) (fun _ _ => rfl) (.of (msk_same k)) ((k _ _ ho).trans ho.symm)⟩
  inj := R.inj
  frn := fun a h => by
    obtain ⟨⟨o, ho⟩, h2⟩ := R.frn a h
    exact ⟨⟨o, k _ _ ho⟩, h2⟩
  nt := fun a ys h e => by
    obtain ⟨⟨o, ho⟩, h2⟩ := R.frn a h
    have q := k _ _ ho
    rw [e] at q; cases q
    exact R.nt a ys h ho
theorem Post.grow (R : Rel N ad σ H s F) (k : Same H H') : Post ad σ H s ad σ H' s F :=
  ⟨fun _ _ => rfl, Nat.le_refl _, rfl, .of (msk_same k), fun a h => by
    obtain ⟨⟨o, ho⟩, _⟩ := R.frn a h
    rw [ho]; exact k _ _ ho⟩
theorem Rel.masked (R : Rel N ad σ H s F) {a : Addr} (h : Mk ad σ s F a) : ∃ o, H a = some o := by
  rcases h with h | ⟨l, c, h1, h2⟩
  · exact (R.frn a h).1
  · obtain ⟨b, e, ok⟩ := R.own l c h1
    rw [h2] at e; cases e
    exact ok.some
theorem Rel.maskedT (R : Rel N ad σ H s F) {a : Addr} (h : Mk ad σ s F a) (ys : List V) : H a ≠ some (.tup ys) := by
  rcases h with h | ⟨l, c, h1, h2⟩
  · exact R.nt a ys h
  · obtain ⟨b, e, ok⟩ := R.own l c h1
    rw [h2] at e; cases e
    exact celOk_nt c ok ys
theorem loc1_some {i : Nat} {x : LV} : s.loc1 i = some x ↔ s.loc[i]? = some (some x) := by
  unfold S.loc1
  cases h : s.loc[i]? with
  | none => simp
  | some o => cases o <;> simp
theorem get_sl {i : Nat} {c : Cell} : s.get (.sl i) = some c ↔ s.loc[i]? = some (some (LV.own c)) := by
  rw [← loc1_some]
  unfold S.get
  simp only
  cases h : s.loc1 i with
  | none => simp
  | some o => cases o <;> simp
theorem get_id {k : Nat} {c : Cell} : s.get (.id k) = some c ↔ s.cel[k]? = some c := Iff.rfl
end
end Ev

set_option autoImplicit false
set_option linter.all false
/-! What the core's steps do to the relation. -/
namespace Ev
open PySem L2
variable {N : Nms}
section
variable {ad ad' ad2 : Nat → Addr} {σ σ' σ2 : L2.St} {H H' H2 : Hp} {s s' s2 : S} {F F' : Addr → Prop}
def FAdd (F : Addr → Prop) (p : Addr) : Addr → Prop := fun a => F a ∨ a = p
theorem Mk.sub (h : ∀ l c, s'.get l = some c → ∃ c', s.get l = some c' ∧ adr ad' σ' l = adr ad σ l) {a : Addr} (m : Mk ad' σ' s' F a) : Mk ad σ s F a := by
  rcases m with m | ⟨l, c, h1, h2⟩
  · exact .inl m
  · obtain ⟨c', q1, q2⟩ := h l c h1
    exact .inr ⟨l, c', q1, q2 ▸ h2⟩
theorem sm_sub {M M' : Addr → Prop} (h : ∀ a, M' a → M a) : Sm (msk H M) (msk H M') := msk_sm fun a o e n => ⟨⟨o, e, rfl, fun _ => rfl⟩, fun m => n (h a m)⟩
theorem get_set_loc {i : Nat} {x : Option LV} {l : Lo} {c : Cell} (h : ({ s with loc := s.loc.set i x } : S).get l = some c) (hx : ∀ c, x ≠ some (.own c)) : s.get l = some c ∧ l ≠ .sl i := by
  cases l with
  | sl j =>
    rw [get_sl] at h
    by_cases hj : i = j
    · subst hj
      have h : (s.loc.set i x)[i]? = _ := h
      rw [List.getElem?_set, if_pos rfl] at h
      split at h
      · exact absurd (Option.some.inj h) (hx c)
      · cases h
    · simp only [List.getElem?_set, hj, if_false] at h
      exact ⟨get_sl.mpr h, fun e => hj (by cases e; rfl)⟩
  | id k => exact ⟨h, fun e => by cases e⟩
theorem adr_sl {i : Nat} {a : Addr} : adr ad σ (.sl i) = some a ↔ σ[i]? = some (some (.ref a)) := by
  show (match σ[i]? with
    | some (some (.ref a)) => some a
    | _ => none) = some a ↔ _
  constructor
  · intro h
    split at h
    · rename_i b e; rw [e]; cases h; rfl
    · cases h
  · intro h; rw [h]
theorem adr_set {i : Nat} {x : Option V} {l : Lo} (h : l ≠ .sl i) : adr ad (σ.set i x) l = adr ad σ l := by
  cases l with
  | sl j =>
    have hj : i ≠ j := fun e => h (by rw [e])
    simp only [adr, List.getElem?_set, hj, if_false]
  | id k => rfl
/-- a slot holds data from now on, or nothing -/
theorem Rel.setLoc (R : Rel N ad σ H s F) (i : Nat) (x : Option LV) (v : Option V) (hx : ∀ c, x ≠ some (.own c)) (r : ∀ d, x = some (.d d) → ∃ w, v = some w ∧ RepD N s.cel.length ad (msk H (Mk ad σ s F)) w d) :
    Rel N ad (σ.set i v) H { s with loc := s.loc.set i x } F ∧ Post ad σ H s ad (σ.set i v) H { s with loc := s.loc.set i x } F := by
  have sub : ∀ a, Mk ad (σ.set i v) { s with loc := s.loc.set i x } F a → Mk ad σ s F a := fun a => Mk.sub fun l c h => by
    obtain ⟨h1, h2⟩ := get_set_loc h hx
    exact ⟨c, h1, adr_set h2⟩
  have sm := sm_sub (H := H) sub
  refine ⟨⟨?_, ?_, ?_, ?_, ?_, R.nt⟩, ⟨fun _ _ => rfl, Nat.le_refl _, by simp, sm, fun _ _ => rfl⟩⟩
  · show (σ.set i v).length = (s.loc.set i x).length
    rw [List.length_set, List.length_set, R.len]
  · intro j y h
    have h : (s.loc.set i x)[j]? = some (some (LV.d y)) := h
    show ∃ w, (σ.set i v)[j]? = some (some w) ∧ _
    by_cases hj : i = j
    · subst hj
      rw [List.getElem?_set] at h ⊢
      simp only [if_true] at h ⊢
      by_cases hl : i < s.loc.length
      · rw [if_pos hl] at h
        have h := Option.some.inj h
        obtain ⟨w, e, rw'⟩ := r y h
        rw [if_pos (by rw [R.len]; exact hl)]
        exact ⟨w, by rw [e], rw'.mono (Nat.le_refl _) (fun _ _ => rfl) sm⟩
      · rw [if_neg hl] at h; cases h
    · rw [List.getElem?_set, if_neg hj] at h ⊢
      obtain ⟨w, e, rw'⟩ := R.dat j y h
      exact ⟨w, e, rw'.mono (Nat.le_refl _) (fun _ _ => rfl) sm⟩
  · intro l c h
    obtain ⟨h1, h2⟩ := get_set_loc h hx
    obtain ⟨a, e, ok⟩ := R.own l c h1
    exact ⟨a, (adr_set h2).trans e, ok.mono (Nat.le_refl _) (fun _ _ => rfl) sm rfl⟩
  · intro l l' c c' a h h' e e'
    obtain ⟨h1, h2⟩ := get_set_loc h hx
    obtain ⟨h1', h2'⟩ := get_set_loc h' hx
    exact R.inj l l' c c' a h1 h1' ((adr_set h2).symm.trans e) ((adr_set h2').symm.trans e')
  · intro a h
    refine ⟨(R.frn a h).1, fun l c h' e => ?_⟩
    obtain ⟨h1, h2⟩ := get_set_loc h' hx
    exact (R.frn a h).2 l c h1 ((adr_set h2).symm.trans e)
theorem Rel.setD (R : Rel N ad σ H s F) (i : Nat) {v : V} {d : D} (r : RepD N s.cel.length ad (msk H (Mk ad σ s F)) v d) :
    Rel N ad (σ.set i (some v)) H { s with loc := s.loc.set i (some (.d d)) } F ∧ Post ad σ H s ad (σ.set i (some v)) H { s with loc := s.loc.set i (some (.d d)) } F :=
  R.setLoc i _ _ (fun c e => by cases e) fun d' e => by cases e; exact ⟨v, rfl, r⟩
/-- a slot is forgotten, the model's is what it is -/
theorem Rel.unset (R : Rel N ad σ H s F) (i : Nat) (v : Option V) : Rel N ad (σ.set i v) H { s with loc := s.loc.set i none } F ∧ Post ad σ H s ad (σ.set i v) H { s with loc := s.loc.set i none } F :=
  R.setLoc i _ _ (fun c e => by cases e) fun d' e => by cases e
theorem set_same {α : Type} : ∀ {l : List α} {i : Nat} {x : α}, l[i]? = some x → l.set i x = l
  | [], _, _, h => by simp at h
  | y :: l, 0, x, h => by simp at h; simp [h]
  | y :: l, i + 1, x, h => by
    have := set_same (l := l) (i := i) (x := x) (by simpa using h)
    simp [this]
theorem Rel.forget (R : Rel N ad σ H s F) (i : Nat) : Rel N ad σ H { s with loc := s.loc.set i none } F ∧ Post ad σ H s ad σ H { s with loc := s.loc.set i none } F := by
  by_cases h : i < σ.length
  · have e : σ.set i σ[i] = σ := set_same (List.getElem?_eq_getElem h)
    have := R.unset i σ[i]
    rwa [e] at this
  · have e : σ.set i none = σ := List.set_eq_of_length_le (by omega)
    have := R.unset i none
    rwa [e] at this
theorem Rel.wipe (kl : List Nat) : ∀ {s : S}, Rel N ad σ H s F → Rel N ad σ H (wipe kl s) F ∧ Post ad σ H s ad σ H (wipe kl s) F := by
  induction kl with
  | nil => intro s R; exact ⟨R, Post.refl⟩
  | cons i kl ih =>
    intro s R
    obtain ⟨R1, P1⟩ := R.forget i
    obtain ⟨R2, P2⟩ := ih R1
    exact ⟨R2, P1.trans P2⟩
/-- what is held aside is let go -/
theorem Rel.dropF (R : Rel N ad σ H s F') (h : ∀ a, F a → F' a) : Rel N ad σ H s F ∧ Sm (msk H (Mk ad σ s F')) (msk H (Mk ad σ s F)) := by
  have sm : Sm (msk H (Mk ad σ s F')) (msk H (Mk ad σ s F)) := sm_sub fun a m => m.imp (h a) id
  refine ⟨⟨R.len, fun i x e => ?_, fun l c e => ?_, R.inj, fun a e => R.frn a (h a e), fun a ys e => R.nt a ys (h a e)⟩, sm⟩
  · obtain ⟨v, h1, h2⟩ := R.dat i x e
    exact ⟨v, h1, h2.mono (Nat.le_refl _) (fun _ _ => rfl) sm⟩
  · obtain ⟨a, h1, h2⟩ := R.own l c e
    exact ⟨a, h1, h2.mono (Nat.le_refl _) (fun _ _ => rfl) sm rfl⟩
/-- a new object is held aside -/
theorem Rel.addF (R : Rel N ad σ H s F) {p : Addr} {o : HO} (hp : H p = none) (ho : ∀ ys, o ≠ .tup ys := by intro _ z; cases z) : Rel N ad σ (upd H p o) s (FAdd F p) ∧ Sm (msk H (Mk ad σ s F)) (msk (upd H p o) (Mk ad σ s (FAdd F p))) := by
  have hH : Same H (upd H p o) := fun b u e => by rw [upd_ne (ne_of_none e hp)]; exact e
  have sm : Sm (msk H (Mk ad σ s F)) (msk (upd H p o) (Mk ad σ s (FAdd F p))) := msk_sm fun a u e n => ⟨⟨u, hH a u e, rfl, fun _ => rfl⟩, fun m => by
    rcases m with (m | m) | m
    · exact n (.inl m)
    · exact ne_of_none e hp m
    · exact n (.inr m)⟩
  refine ⟨⟨R.len, fun i x e => ?_, fun l c e => ?_, R.inj, fun a e => ?_, fun a ys e z => ?_⟩, sm⟩
  · obtain ⟨v, h1, h2⟩ := R.dat i x e
    exact ⟨v, h1, h2.mono (Nat.le_refl _) (fun _ _ => rfl) sm⟩
  · obtain ⟨a, h1, h2⟩ := R.own l c e
    obtain ⟨u, hu⟩ := h2.some
    exact ⟨a, h1, h2.mono (Nat.le_refl _) (fun _ _ => rfl) sm (by rw [hH _ _ hu, hu])⟩
  · rcases e with e | rfl
    · obtain ⟨⟨u, hu⟩, h2⟩ := R.frn a e
      exact ⟨⟨u, hH _ _ hu⟩, h2⟩
    · refine ⟨⟨o, upd_same⟩, fun l c e z => ?_⟩
      obtain ⟨u, hu⟩ := R.masked (.inr ⟨l, c, e, z⟩)
      rw [hp] at hu; cases hu
  · rcases e with e | rfl
    · obtain ⟨⟨u, hu⟩, h2⟩ := R.frn a e
      rw [hH _ _ hu] at z; cases z
      exact R.nt a ys e hu
    · rw [upd_same] at z; cases z; exact ho _ rfl
theorem get_put_self {c c0 : Cell} {l : Lo} (h : s.get l = some c0) : (s.put c l).get l = some c := by
  cases l with
  | sl i =>
    rw [get_sl] at h ⊢
    show (s.loc.set i (some (.own c)))[i]? = _
    rw [List.getElem?_set]
    have := (List.getElem?_eq_some_iff.mp h).1
    simp [this]
  | id k =>
    have h : s.cel[k]? = some c0 := h
    show (s.cel.set k c)[k]? = some c
    rw [List.getElem?_set]
    have := (List.getElem?_eq_some_iff.mp h).1
    simp [this]
theorem get_put_ne {c : Cell} {l l' : Lo} (h : l' ≠ l) : (s.put c l).get l' = s.get l' := by
  cases l with
  | sl i =>
    cases l' with
    | sl j =>
      have hj : i ≠ j := fun e => h (by rw [e])
      unfold S.put S.get S.loc1
      simp only [List.getElem?_set, hj, if_false]
    | id k => rfl
  | id k =>
    cases l' with
    | sl j => rfl
    | id m =>
      have hj : k ≠ m := fun e => h (by rw [e])
      show (s.cel.set k c)[m]? = s.cel[m]?
      rw [List.getElem?_set, if_neg hj]
theorem put_cel {c : Cell} {l : Lo} : (s.put c l).cel.length = s.cel.length := by
  cases l with
  | sl i => rfl
  | id k => exact List.length_set
/-- a write -/
theorem Rel.put (R : Rel N ad σ H s F) {l : Lo} {c0 c : Cell} {a : Addr} {o : HO} (hl : s.get l = some c0) (ha : adr ad σ l = some a) (ok : CelOk N s.cel.length ad (msk H (Mk ad σ s F)) (upd H a o) a c) :
    Rel N ad σ (upd H a o) (s.put c l) F ∧ Post ad σ H s ad σ (upd H a o) (s.put c l) F := by
  have hM : ∀ b, Mk ad σ (s.put c l) F b ↔ Mk ad σ s F b := fun b => by
    constructor
    · rintro (m | ⟨l', c', h1, h2⟩)
      · exact .inl m
      · by_cases e : l' = l
        · subst e; exact .inr ⟨l', c0, hl, h2⟩
        · rw [get_put_ne e] at h1; exact .inr ⟨l', c', h1, h2⟩
    · rintro (m | ⟨l', c', h1, h2⟩)
      · exact .inl m
      · by_cases e : l' = l
        · subst e; exact .inr ⟨l', c, get_put_self hl, h2⟩
        · exact .inr ⟨l', c', by rw [get_put_ne e]; exact h1, h2⟩
  have hma : Mk ad σ s F a := .inr ⟨l, c0, hl, ha⟩
  have sm : Sm (msk H (Mk ad σ s F)) (msk (upd H a o) (Mk ad σ (s.put c l) F)) := msk_sm fun b u e n => by
    refine ⟨⟨u, ?_, rfl, fun _ => rfl⟩, fun m => n ((hM b).mp m)⟩
    rw [upd_ne (fun z => n (by rw [z]; exact hma))]; exact e
  have hn := put_cel (s := s) (c := c) (l := l)
  refine ⟨⟨?_, ?_, ?_, ?_, ?_, fun b ys hb z => ?_⟩, ⟨fun _ _ => rfl, Nat.le_of_eq hn.symm, ?_, sm, fun b hb => ?_⟩⟩
  · rw [R.len]
    cases l with
    | sl i => exact List.length_set.symm
    | id k => rfl
  · intro i x h
    have h' : s.loc[i]? = some (some (LV.d x)) := by
      cases l with
      | sl j =>
        have h : (s.loc.set j (some (.own c)))[i]? = _ := h
        rw [List.getElem?_set] at h
        by_cases hj : j = i
        · simp only [hj, if_true] at h
          split at h
          · have := Option.some.inj (Option.some.inj h); cases this
          · cases h
        · rw [if_neg hj] at h; exact h
      | id k => exact h
    obtain ⟨v, h1, h2⟩ := R.dat i x h'
    exact ⟨v, h1, h2.mono (Nat.le_of_eq hn.symm) (fun _ _ => rfl) sm⟩
  · intro l' c' h
    by_cases e : l' = l
    · subst e
      rw [get_put_self hl] at h; cases h
      exact ⟨a, ha, ok.mono (Nat.le_of_eq hn.symm) (fun _ _ => rfl) sm rfl⟩
    · rw [get_put_ne e] at h
      obtain ⟨b, h1, h2⟩ := R.own l' c' h
      refine ⟨b, h1, h2.mono (Nat.le_of_eq hn.symm) (fun _ _ => rfl) sm (upd_ne fun z => ?_)⟩
      subst z
      exact e (R.inj _ _ _ _ _ h hl h1 ha)
  · intro l1 l2 c1 c2 b h1 h2 e1 e2
    have q : ∀ l' c', (s.put c l).get l' = some c' → ∃ c'', s.get l' = some c'' := fun l' c' h => by
      by_cases e : l' = l
      · subst e; exact ⟨_, hl⟩
      · rw [get_put_ne e] at h; exact ⟨_, h⟩
    obtain ⟨d1, q1⟩ := q l1 c1 h1
    obtain ⟨d2, q2⟩ := q l2 c2 h2
    exact R.inj _ _ _ _ _ q1 q2 e1 e2
  · intro b hb
    obtain ⟨⟨u, hu⟩, h2⟩ := R.frn b hb
    have hne : b ≠ a := fun z => h2 l c0 hl (by rw [z]; exact ha)
    refine ⟨⟨u, by rw [upd_ne hne]; exact hu⟩, fun l' c' h e => ?_⟩
    by_cases el : l' = l
    · subst el; exact h2 l' c0 hl e
    · rw [get_put_ne el] at h; exact h2 l' c' h e
  · have hne : b ≠ a := fun z => (R.frn b hb).2 l c0 hl (by rw [z]; exact ha)
    rw [upd_ne hne] at z
    exact R.nt b ys hb z
  · cases l with
    | sl i => exact List.length_set
    | id k => rfl
  · exact upd_ne fun z => (R.frn b hb).2 l c0 hl (by rw [z]; exact ha)
/-- a slot's own thing is data from now on -/
theorem Rel.freeze (R : Rel N ad σ H s F) {i : Nat} {c : Cell} (hl : s.get (.sl i) = some c) : ∃ a, σ[i]? = some (some (.ref a)) ∧
    RepD N s.cel.length ad (msk H (Mk ad σ { s with loc := s.loc.set i (some (.d c.toD)) } F)) (.ref a) c.toD ∧ Rel N ad σ H { s with loc := s.loc.set i (some (.d c.toD)) } F ∧ Post ad σ H s ad σ H { s with loc := s.loc.set i (some (.d c.toD)) } F := by
  obtain ⟨a, ha, ok⟩ := R.own _ _ hl
  have hσ : σ[i]? = some (some (.ref a)) := adr_sl.mp ha
  obtain ⟨R1, P1⟩ := R.forget i
  have nm : ¬ Mk ad σ { s with loc := s.loc.set i none } F a := by
    rintro (m | ⟨l, c', h1, h2⟩)
    · exact (R.frn a m).2 _ _ hl ha
    · obtain ⟨q1, q2⟩ := get_set_loc h1 (fun c e => by cases e)
      exact q2 (R.inj _ _ _ _ _ q1 hl h2 ha)
  have rd : RepD N s.cel.length ad (msk H (Mk ad σ { s with loc := s.loc.set i none } F)) (.ref a) c.toD := ok.toD P1.sm (msk_of nm)
  have e : σ.set i (some (.ref a)) = σ := set_same hσ
  have := R1.setD i rd
  have e2 : ((s.loc.set i none).set i (some (LV.d c.toD))) = s.loc.set i (some (.d c.toD)) := List.set_set ..
  simp only [e, e2] at this
  obtain ⟨R2, P2⟩ := this
  exact ⟨a, hσ, P2.rep rd, R2, P1.trans P2⟩
/-- a dict is locked, let loose again -/
def isDk : HO → Bool
  | .dK _ | .dT _ => true
  | _ => false
theorem core_frz {od : Obj} {u : HO} (h : isDk u = true) : core (.frz od u) = core u := by
  cases u <;> first | rfl | exact nomatch h
theorem sw_chg {M : Addr → Prop} {d : Addr} {u o : HO} (hd : H d = some o) (hc : core u = core o) : Sw (msk H M) (msk (upd H d u) M) := fun a o' h => by
  obtain ⟨h1, h2⟩ := msk_get h
  rw [msk_of h2]
  by_cases e : a = d
  · rw [e] at h1 ⊢
    rw [hd] at h1; cases h1
    exact ⟨u, upd_same, hc⟩
  · exact ⟨o', by rw [upd_ne e]; exact h1, rfl⟩
theorem Rel.chg (R : Rel N ad σ H s F) {d : Addr} {u o : HO} (hd : H d = some o) (hc : core u = core o) (nm : ¬ Mk ad σ s F d) : Rel N ad σ (upd H d u) s F := by
  have k : Sw (msk H (Mk ad σ s F)) (msk (upd H d u) (Mk ad σ s F)) := fun a o' h => by
    obtain ⟨h1, h2⟩ := msk_get h
    rw [msk_of h2]
    by_cases e : a = d
    · rw [e] at h1 ⊢
      rw [hd] at h1; cases h1
      exact ⟨u, upd_same, hc⟩
    · exact ⟨o', by rw [upd_ne e]; exact h1, rfl⟩
  refine ⟨R.len, fun i x h => ?_, fun l c h => ?_, R.inj, fun a h => ?_, fun a ys h z => ?_⟩
  · obtain ⟨v, h1, h2⟩ := R.dat i x h
    exact ⟨v, h1, h2.monoW (Nat.le_refl _) (fun _ _ => rfl) k⟩
  · obtain ⟨a, h1, h2⟩ := R.own l c h
    exact ⟨a, h1, h2.monoW (Nat.le_refl _) (fun _ _ => rfl) k (upd_ne fun e => nm (.inr ⟨l, c, h, by rw [← e]; exact h1⟩))⟩
  · obtain ⟨⟨w, hw⟩, h2⟩ := R.frn a h
    exact ⟨⟨w, by rw [upd_ne fun e => nm (.inl (by rw [← e]; exact h))]; exact hw⟩, h2⟩
  · rw [upd_ne fun e => nm (.inl (by rw [← e]; exact h))] at z
    exact R.nt a ys h z
theorem sm_lock {M : Addr → Prop} {d : Addr} {u : HO} {od : Obj} (hd : H d = some u) (h : isDk u = true) : Sm (msk H M) (msk (upd H d (.frz od u)) M) := fun a o e => by
  obtain ⟨h1, h2⟩ := msk_get e
  rw [msk_of h2]
  by_cases z : a = d
  · rw [z] at h1 ⊢
    rw [hd] at h1; cases h1
    exact ⟨_, upd_same, core_frz h, fun q => by cases u <;> first | exact q.elim | exact nomatch h⟩
  · exact ⟨o, by rw [upd_ne z]; exact h1, rfl, fun _ => rfl⟩
/-- behind a lock -/
theorem sm_unlock {M M' : Addr → Prop} {H1 : Hp} {d : Addr} {u : HO} {od : Obj} (hd : H d = some u) (k : Sm (msk (upd H d (.frz od u)) M) (msk H1 M')) (nm : ¬ M' d) : Sm (msk H M) (msk (upd H1 d u) M') := fun a o e => by
  obtain ⟨h1, h2⟩ := msk_get e
  by_cases z : a = d
  · rw [z] at h1 ⊢
    rw [hd] at h1; cases h1
    exact ⟨u, by rw [msk_of nm]; exact upd_same, rfl, fun _ => rfl⟩
  · obtain ⟨o', q1, q2, q3⟩ := k a o (by rw [msk_of h2, upd_ne z]; exact h1)
    obtain ⟨q4, q5⟩ := msk_get q1
    exact ⟨o', by rw [msk_of q5, upd_ne z]; exact q4, q2, q3⟩
end
end Ev

set_option autoImplicit false
set_option linter.all false
/-! New things; what a run guarantees. -/
namespace Ev
open PySem L2
variable {N : Nms}
section
variable {ad ad' ad0 ad2 : Nat → Addr} {σ σ' σ0 σ2 : L2.St} {H H' H0 H2 : Hp} {s s' s0 s2 : S} {F F' : Addr → Prop} {p : Addr}
/-- behind a run that made the new object p -/
structure PostN (ad : Nat → Addr) (σ : L2.St) (H : Hp) (s : S) (ad' : Nat → Addr) (σ' : L2.St) (H' : Hp) (s' : S) (F : Addr → Prop) (p : Addr) : Prop where
  agr : ∀ k, k < s.cel.length → ad' k = ad k
  len : s.cel.length ≤ s'.cel.length
  ll : s'.loc.length = s.loc.length
  sm : Sm (msk H (Mk ad σ s F)) (msk H' (Mk ad' σ' s' (FAdd F p)))
  frn : ∀ a, F a → H' a = H a
  new : ¬ F p
theorem Post.newP (P : Post ad σ H s ad' σ' H' s' F) (R : Rel N ad' σ' H' s' F) {o : HO} (hp : H' p = none) (ho : ∀ ys, o ≠ .tup ys := by intro _ z; cases z) : PostN ad σ H s ad' σ' (upd H' p o) s' F p :=
  ⟨P.agr, P.len, P.ll, P.sm.trans (R.addF hp ho).2, fun a h => by
    obtain ⟨⟨u, hu⟩, _⟩ := R.frn a h
    rw [upd_ne (ne_of_none hu hp)]; exact P.frn a h, fun h => by
    obtain ⟨⟨u, hu⟩, _⟩ := R.frn p h
    rw [hp] at hu; cases hu⟩
theorem Post.toN (P : Post ad σ H s ad0 σ0 H0 s0 F) (Q : PostN ad0 σ0 H0 s0 ad' σ' H' s' F p) : PostN ad σ H s ad' σ' H' s' F p :=
  ⟨fun k h => (Q.agr k (Nat.lt_of_lt_of_le h P.len)).trans (P.agr k h), Nat.le_trans P.len Q.len, Q.ll.trans P.ll, P.sm.trans Q.sm, fun a h => (Q.frn a h).trans (P.frn a h), Q.new⟩
/-- the new object is data -/
theorem Rel.take (P : PostN ad σ H s ad' σ' H' s' F p) (R : Rel N ad' σ' H' s' (FAdd F p)) : Rel N ad' σ' H' s' F ∧ Post ad σ H s ad' σ' H' s' F ∧ Sm (msk H' (Mk ad' σ' s' (FAdd F p))) (msk H' (Mk ad' σ' s' F)) ∧ ¬ Mk ad' σ' s' F p := by
  obtain ⟨R1, sm⟩ := R.dropF (F := F) fun a h => .inl h
  refine ⟨R1, ⟨P.agr, P.len, P.ll, P.sm.trans sm, P.frn⟩, sm, ?_⟩
  rintro (m | ⟨l, c, h1, h2⟩)
  · exact P.new m
  · exact (R.frn p (.inr rfl)).2 l c h1 h2
theorem get_set_own {i : Nat} {c : Cell} {l : Lo} {c' : Cell} (h : ({ s with loc := s.loc.set i (some (.own c)) } : S).get l = some c') (hl : l ≠ .sl i) : s.get l = some c' := by
  cases l with
  | sl j =>
    have hj : i ≠ j := fun e => hl (by rw [e])
    rw [get_sl] at h ⊢
    have h : (s.loc.set i (some (.own c)))[j]? = _ := h
    rw [List.getElem?_set, if_neg hj] at h
    exact h
  | id k => exact h
theorem get_set_own' {i : Nat} {c : Cell} (h : i < s.loc.length) : ({ s with loc := s.loc.set i (some (.own c)) } : S).get (.sl i) = some c := by
  rw [get_sl]
  show (s.loc.set i (some (.own c)))[i]? = _
  rw [List.getElem?_set, if_pos rfl, if_pos h]
/-- the new object is a slot's own -/
theorem Rel.setOwn (P : PostN ad σ H s ad' σ' H' s' F p) (R : Rel N ad' σ' H' s' (FAdd F p)) {i : Nat} {c : Cell} (hi : i < s'.loc.length) (ok : CelOk N s'.cel.length ad' (msk H' (Mk ad' σ' s' (FAdd F p))) H' p c) :
    Rel N ad' (σ'.set i (some (.ref p))) H' { s' with loc := s'.loc.set i (some (.own c)) } F ∧ Post ad σ H s ad' (σ'.set i (some (.ref p))) H' { s' with loc := s'.loc.set i (some (.own c)) } F := by
  have hiσ : i < σ'.length := by rw [R.len]; exact hi
  have ai : adr ad' (σ'.set i (some (.ref p))) (.sl i) = some p := by
    rw [adr_sl, List.getElem?_set, if_pos rfl, if_pos hiσ]
  have old : ∀ l c', l ≠ .sl i → ({ s' with loc := s'.loc.set i (some (.own c)) } : S).get l = some c' → s'.get l = some c' ∧ adr ad' (σ'.set i (some (.ref p))) l = adr ad' σ' l := fun l c' hl h => ⟨get_set_own h hl, adr_set hl⟩
  have sm : Sm (msk H' (Mk ad' σ' s' (FAdd F p))) (msk H' (Mk ad' (σ'.set i (some (.ref p))) { s' with loc := s'.loc.set i (some (.own c)) } F)) := sm_sub fun a m => by
    rcases m with m | ⟨l, c', h1, h2⟩
    · exact .inl (.inl m)
    · by_cases hl : l = .sl i
      · subst hl
        rw [ai] at h2; cases h2
        exact .inl (.inr rfl)
      · obtain ⟨q1, q2⟩ := old l c' hl h1
        exact .inr ⟨l, c', q1, q2 ▸ h2⟩
  have apart : ∀ l c', s'.get l = some c' → adr ad' σ' l ≠ some p := (R.frn p (.inr rfl)).2
  refine ⟨⟨?_, ?_, ?_, ?_, ?_, fun a ys h => R.nt a ys (.inl h)⟩, ⟨P.agr, P.len, ?_, P.sm.trans sm, P.frn⟩⟩
  · show (σ'.set i _).length = (s'.loc.set i _).length
    rw [List.length_set, List.length_set, R.len]
  · intro j y h
    have h : (s'.loc.set i (some (LV.own c)))[j]? = some (some (LV.d y)) := h
    show ∃ w, (σ'.set i _)[j]? = some (some w) ∧ _
    rw [List.getElem?_set] at h ⊢
    by_cases hj : i = j
    · subst hj
      simp only [if_true] at h
      rw [if_pos hi] at h
      have := Option.some.inj (Option.some.inj h); cases this
    · rw [if_neg hj] at h ⊢
      obtain ⟨w, e, rw'⟩ := R.dat j y h
      exact ⟨w, e, rw'.mono (Nat.le_refl _) (fun _ _ => rfl) sm⟩
  · intro l c' h
    by_cases hl : l = .sl i
    · subst hl
      rw [get_set_own' hi] at h; cases h
      exact ⟨p, ai, ok.mono (Nat.le_refl _) (fun _ _ => rfl) sm rfl⟩
    · obtain ⟨q1, q2⟩ := old l c' hl h
      obtain ⟨a, e, k⟩ := R.own l c' q1
      exact ⟨a, q2.trans e, k.mono (Nat.le_refl _) (fun _ _ => rfl) sm rfl⟩
  · intro l l' c1 c2 a h h' e e'
    by_cases hl : l = .sl i
    · by_cases hl' : l' = .sl i
      · rw [hl, hl']
      · subst hl
        rw [ai] at e; cases e
        obtain ⟨q1, q2⟩ := old l' c2 hl' h'
        exact absurd (q2.symm.trans e') (apart l' c2 q1)
    · obtain ⟨q1, q2⟩ := old l c1 hl h
      by_cases hl' : l' = .sl i
      · subst hl'
        rw [ai] at e'; cases e'
        exact absurd (q2.symm.trans e) (apart l c1 q1)
      · obtain ⟨q1', q2'⟩ := old l' c2 hl' h'
        exact R.inj l l' c1 c2 a q1 q1' (q2.symm.trans e) (q2'.symm.trans e')
  · intro a h
    obtain ⟨h1, h2⟩ := R.frn a (.inl h)
    refine ⟨h1, fun l c' h' e => ?_⟩
    by_cases hl : l = .sl i
    · subst hl
      rw [ai] at e; cases e
      exact P.new h
    · obtain ⟨q1, q2⟩ := old l c' hl h'
      exact h2 l c' q1 (q2.symm.trans e)
  · show (s'.loc.set i _).length = _
    rw [List.length_set]; exact P.ll
/-- the new object is a thing of the store -/
theorem Rel.alloc (P : PostN ad σ H s ad' σ' H' s' F p) (R : Rel N ad' σ' H' s' (FAdd F p)) {c : Cell} (ok : CelOk N s'.cel.length ad' (msk H' (Mk ad' σ' s' (FAdd F p))) H' p c) :
    ∃ ad2 : Nat → Addr, ad2 s'.cel.length = p ∧ Rel N ad2 σ' H' { s' with cel := s'.cel ++ [c] } F ∧ Post ad σ H s ad2 σ' H' { s' with cel := s'.cel ++ [c] } F ∧ (∀ k, k < s'.cel.length → ad2 k = ad' k) ∧
      Sm (msk H' (Mk ad' σ' s' (FAdd F p))) (msk H' (Mk ad2 σ' { s' with cel := s'.cel ++ [c] } F)) := by
  let ad2 : Nat → Addr := fun k => if k = s'.cel.length then p else ad' k
  have a0 : ad2 s'.cel.length = p := if_pos rfl
  have a1 : ∀ k, k < s'.cel.length → ad2 k = ad' k := fun k h => if_neg (Nat.ne_of_lt h)
  have gn : ({ s' with cel := s'.cel ++ [c] } : S).get (.id s'.cel.length) = some c := by
    show (s'.cel ++ [c])[s'.cel.length]? = some c
    simp
  have old : ∀ l c', l ≠ .id s'.cel.length → ({ s' with cel := s'.cel ++ [c] } : S).get l = some c' → s'.get l = some c' ∧ adr ad2 σ' l = adr ad' σ' l := fun l c' hl h => by
    cases l with
    | sl j => exact ⟨h, rfl⟩
    | id k =>
      have h : (s'.cel ++ [c])[k]? = some c' := h
      have hk : k < s'.cel.length := by
        have := (List.getElem?_eq_some_iff.mp h).1
        rw [List.length_append] at this
        have : k ≠ s'.cel.length := fun e => hl (by rw [e])
        simp at *
        omega
      rw [List.getElem?_append_left hk] at h
      exact ⟨h, congrArg some (a1 k hk)⟩
  have apart : ∀ l c', s'.get l = some c' → adr ad' σ' l ≠ some p := (R.frn p (.inr rfl)).2
  have ai : adr ad2 σ' (.id s'.cel.length) = some p := congrArg some a0
  have sm : Sm (msk H' (Mk ad' σ' s' (FAdd F p))) (msk H' (Mk ad2 σ' { s' with cel := s'.cel ++ [c] } F)) := sm_sub fun a m => by
    rcases m with m | ⟨l, c', h1, h2⟩
    · exact .inl (.inl m)
    · by_cases hl : l = .id s'.cel.length
      · subst hl
        rw [ai] at h2; cases h2
        exact .inl (.inr rfl)
      · obtain ⟨q1, q2⟩ := old l c' hl h1
        exact .inr ⟨l, c', q1, q2 ▸ h2⟩
  have le : s'.cel.length ≤ (s'.cel ++ [c]).length := by simp
  refine ⟨ad2, a0, ⟨R.len, ?_, ?_, ?_, ?_, fun a ys h => R.nt a ys (.inl h)⟩, ⟨fun k h => (a1 k (Nat.lt_of_lt_of_le h P.len)).trans (P.agr k h), Nat.le_trans P.len le, P.ll, P.sm.trans sm, P.frn⟩, a1, sm⟩
  · intro j y h
    obtain ⟨w, e, rw'⟩ := R.dat j y h
    exact ⟨w, e, rw'.mono le a1 sm⟩
  · intro l c' h
    by_cases hl : l = .id s'.cel.length
    · subst hl
      rw [gn] at h; cases h
      exact ⟨p, ai, ok.mono le a1 sm rfl⟩
    · obtain ⟨q1, q2⟩ := old l c' hl h
      obtain ⟨a, e, k⟩ := R.own l c' q1
      exact ⟨a, q2.trans e, k.mono le a1 sm rfl⟩
  · intro l l' c1 c2 a h h' e e'
    by_cases hl : l = .id s'.cel.length
    · by_cases hl' : l' = .id s'.cel.length
      · rw [hl, hl']
      · subst hl
        rw [ai] at e; cases e
        obtain ⟨q1, q2⟩ := old l' c2 hl' h'
        exact absurd (q2.symm.trans e') (apart l' c2 q1)
    · obtain ⟨q1, q2⟩ := old l c1 hl h
      by_cases hl' : l' = .id s'.cel.length
      · subst hl'
        rw [ai] at e'; cases e'
        exact absurd (q2.symm.trans e) (apart l c1 q1)
      · obtain ⟨q1', q2'⟩ := old l' c2 hl' h'
        exact R.inj l l' c1 c2 a q1 q1' (q2.symm.trans e) (q2'.symm.trans e')
  · intro a h
    obtain ⟨h1, h2⟩ := R.frn a (.inl h)
    refine ⟨h1, fun l c' h' e => ?_⟩
    by_cases hl : l = .id s'.cel.length
    · subst hl
      rw [ai] at e; cases e
      exact P.new h
    · obtain ⟨q1, q2⟩ := old l c' hl h'
      exact h2 l c' q1 (q2.symm.trans e)
end
/-! ### what a run guarantees -/
/-- an exception as the core tells it -/
def RepE (N : Nms) (n : Nat) (ad : Nat → Addr) (B H : Hp) (e : Exc) (cls : Value) (d : Option Addr) : Prop :=
  cls = .ref (N.cl e.c) ∧ (e.fs = [] ∧ d = none ∨ e.fs ≠ [] ∧ ∃ dd fv, d = some dd ∧ H dd = some (.xd fv) ∧ RepFs N n ad B fv e.fs)
def Gar {α : Type} (N : Nms) (W : WX) (ad : Nat → Addr) (σ : L2.St) (H : Hp) (s : S) (F : Addr → Prop) (r : Res α) (K : α → S → (Nat → Addr) → Hp → Prop) : Prop := match r with
  | .ok a s' => ∀ ad' H', Rel N ad' σ H' s' F → Post ad σ H s ad' σ H' s' F → K a s' ad' H'
  | .exc e s' => ∀ cls d ad' H', Rel N ad' σ H' s' F → Post ad σ H s ad' σ H' s' F → RepE N s'.cel.length ad' (msk H' (Mk ad' σ s' F)) H' e cls d → W cls d σ H'
  | .stk => False
section
variable {W : WX} {ad ad' ad0 : Nat → Addr} {σ : L2.St} {H H' H0 : Hp} {s s' s0 : S} {F : Addr → Prop} {α β : Type}
theorem Gar.from {r : Res α} {K : α → S → (Nat → Addr) → Hp → Prop} (P : Post ad0 σ H0 s0 ad σ H s F) (h : Gar N W ad0 σ H0 s0 F r K) : Gar N W ad σ H s F r K := by
  cases r with
  | ok a s' => exact fun ad' H' R' P' => h ad' H' R' (P.trans P')
  | exc e s' => exact fun cls d ad' H' R' P' => h cls d ad' H' R' (P.trans P')
  | stk => exact h
theorem Gar.mono {r : Res α} {K K' : α → S → (Nat → Addr) → Hp → Prop} (h : Gar N W ad σ H s F r K) (i : ∀ a s' ad' H', Rel N ad' σ H' s' F → Post ad σ H s ad' σ H' s' F → K a s' ad' H' → K' a s' ad' H') : Gar N W ad σ H s F r K' := by
  cases r with
  | ok a s' => exact fun ad' H' R' P' => i _ _ _ _ R' P' (h ad' H' R' P')
  | exc e s' => exact h
  | stk => exact h
theorem Gar.bind {m : M α} {f : α → M β} {K : β → S → (Nat → Addr) → Hp → Prop} (h : Gar N W ad σ H s F (M.bind m f s) K) :
    Gar N W ad σ H s F (m s) fun a s' ad' H' => Gar N W ad' σ H' s' F (f a s') K := by
  unfold M.bind at h
  cases hm : m s with
  | ok a s' => rw [hm] at h; exact fun ad' H' R' P' => h.from P'
  | exc e s' => rw [hm] at h; exact h
  | stk => rw [hm] at h; exact h
end
/-- a value -/
def RepPV (N : Nms) (ad : Nat → Addr) (σ : L2.St) (H : Hp) (s : S) (F : Addr → Prop) (v : V) : PV → Prop
  | .d x => RepD N s.cel.length ad (msk H (Mk ad σ s F)) v x
  | .own i => σ[i]? = some (some v)
theorem RepPV.post {ad ad' : Nat → Addr} {σ : L2.St} {H H' : Hp} {s s' : S} {F : Addr → Prop} {v : V} (P : Post ad σ H s ad' σ H' s' F) : ∀ {pv : PV}, RepPV N ad σ H s F v pv → RepPV N ad' σ H' s' F v pv
  | .d x, r => P.rep r
  | .own i, r => r
/-- the readings of runs -/
def tX (N : Nms) (W : WX) (m : M PV) : TE := fun σ H Q => ∃ ad s F, Rel N ad σ H s F ∧ Gar N W ad σ H s F (m s) fun pv s' ad' H' => ∀ v, RepPV N ad' σ H' s' F v pv → Q v H'
def tD (N : Nms) (W : WX) (m : M D) : TE := fun σ H Q => ∃ ad s F, Rel N ad σ H s F ∧ Gar N W ad σ H s F (m s) fun x s' ad' H' => ∀ v, RepD N s'.cel.length ad' (msk H' (Mk ad' σ s' F)) v x → Q v H'
def tT (N : Nms) (W : WX) (m : M Bool) : TT := fun σ H Q => ∃ ad s F, Rel N ad σ H s F ∧ Gar N W ad σ H s F (m s) fun b s' ad' H' => Q b H'
def tAs (N : Nms) (W : WX) (m : M (List D)) : TA := fun σ H Q => ∃ ad s F, Rel N ad σ H s F ∧ Gar N W ad σ H s F (m s) fun xs s' ad' H' => ∀ vs, RepDs N s'.cel.length ad' (msk H' (Mk ad' σ s' F)) vs xs → Q vs H'
inductive RepPs (N : Nms) (ad : Nat → Addr) (σ : L2.St) (H : Hp) (s : S) (F : Addr → Prop) : List V → List PV → Prop
  | nil : RepPs N ad σ H s F [] []
  | cons {v : V} {vs : List V} {x : PV} {xs : List PV} : RepPV N ad σ H s F v x → RepPs N ad σ H s F vs xs → RepPs N ad σ H s F (v :: vs) (x :: xs)
def tPs (N : Nms) (W : WX) (m : M (List PV)) : TA := fun σ H Q => ∃ ad s F, Rel N ad σ H s F ∧ Gar N W ad σ H s F (m s) fun xs s' ad' H' => ∀ vs, RepPs N ad' σ H' s' F vs xs → Q vs H'
theorem pe_imp {X : Cx} {e : Expr} {t t' : TE} (h : PE X e t) (i : ∀ σ H Q, t' σ H Q → t σ H Q) : PE X e t' := ⟨fun pins s σ H Q I hw => h.run pins s σ H Q I (i _ _ _ hw)⟩
theorem pt_imp {X : Cx} {e : Expr} {t t' : TT} (h : PT X e t) (i : ∀ σ H Q, t' σ H Q → t σ H Q) : PT X e t' := ⟨fun pins s σ H Q I hw => h.run pins s σ H Q I (i _ _ _ hw)⟩
theorem pa_imp {X : Cx} {e : List Expr} {t t' : TA} (h : PA X e t) (i : ∀ σ H Q, t' σ H Q → t σ H Q) : PA X e t' := ⟨fun pos pins s σ H Q I hw => h.run pos pins s σ H Q I (i _ _ _ hw)⟩
theorem ps_imp {X : Cx} {e : Stmt} {t t' : TS} (h : PS X e t) (i : ∀ D σ H, t' D σ H → t D σ H) : PS X e t' := ⟨fun pins s σ H Q I hw => h.run pins s σ H Q I (i _ _ _ hw)⟩
theorem pss_imp {X : Cx} {e : List Stmt} {t t' : TS} (h : PSs X e t) (i : ∀ D σ H, t' D σ H → t D σ H) : PSs X e t' := ⟨fun pins s σ H Q I hw => h.run pins s σ H Q I (i _ _ _ hw)⟩
/-- an object that is read: it stands in H, its parts among what never changes -/
inductive RepW (N : Nms) (n : Nat) (ad : Nat → Addr) (B H : Hp) : V → D → Prop
  | d {v : V} {x : D} : RepD N n ad B v x → RepW N n ad B H v x
  | c {a : Addr} {c : Cell} : CelOk N n ad B H a c → RepW N n ad B H (.ref a) c.toD
section
variable {ad : Nat → Addr} {σ : L2.St} {H : Hp} {s : S} {F : Addr → Prop}
theorem RepPV.val (R : Rel N ad σ H s F) {v : V} {pv : PV} {x : D} (r : RepPV N ad σ H s F v pv) (h : pv.val s = some x) : RepW N s.cel.length ad (msk H (Mk ad σ s F)) H v x := by
  cases pv with
  | d y =>
    cases y with
    | ref k =>
      have h : (s.cel[k]?).map Cell.toD = some x := h
      cases hc : s.cel[k]? with
      | none => rw [hc] at h; cases h
      | some c =>
        rw [hc] at h; cases h
        obtain ⟨a, e, ok⟩ := R.own (.id k) c hc
        have r : RepD N s.cel.length ad (msk H (Mk ad σ s F)) v (.ref k) := r
        cases r
        have e : some (ad k) = some a := e
        cases e
        exact .c ok
    | _ => cases h; exact .d r
  | own i =>
    have r : σ[i]? = some (some v) := r
    have h : (match s.loc1 i with
      | some (.own c) => some c.toD
      | some (.d (.ref _)) => none
      | some (.d x) => some x
      | none => none) = some x := h
    cases hc : s.loc1 i with
    | none => rw [hc] at h; cases h
    | some lv =>
      rw [hc] at h
      cases lv with
      | own c =>
        cases h
        obtain ⟨a, e, ok⟩ := R.own (.sl i) c (get_sl.mpr (loc1_some.mp hc))
        rw [adr_sl, r] at e; cases e
        exact .c ok
      | d y =>
        have q := R.dat i y (loc1_some.mp hc)
        obtain ⟨w, e, rd⟩ := q
        rw [r] at e; cases e
        cases y with
        | ref k => cases h
        | _ => cases h; exact .d rd
end
end Ev

set_option autoImplicit false
set_option linter.all false
set_option maxRecDepth 100000
/-! Data of the core as the library's data: ==, <, in. -/
namespace Ev
open PySem L2
variable {N : Nms}
mutual
def D.py : D → PyData
  | .bl b => .bool b
  | .int i => .int i
  | .str x => .str x
  | .tup xs => .tuple (D.pys xs)
  | .lst xs => .list (D.pys xs)
  | _ => .none
def D.pys : List D → List PyData
  | [] => []
  | x :: xs => x.py :: D.pys xs
end
mutual
theorem fin_plain : ∀ (n : Nat) (d : D), d.fin n = true → d.py.plain = true ∧ d.py.depth ≤ n
  | _, .non, _ => ⟨rfl, Nat.zero_le _⟩
  | _, .bl _, _ => ⟨rfl, Nat.zero_le _⟩
  | _, .int _, _ => ⟨rfl, Nat.zero_le _⟩
  | _, .str _, _ => ⟨rfl, Nat.zero_le _⟩
  | 0, .tup _, h => by simp [D.fin] at h
  | 0, .lst _, h => by simp [D.fin] at h
  | n + 1, .tup xs, h => by
    have q := fins_plain n xs (by simpa [D.fin] using h)
    exact ⟨by simpa [D.py, PyData.plain] using q.1, by simp only [D.py, PyData.depth]; omega⟩
  | n + 1, .lst xs, h => by
    have q := fins_plain n xs (by simpa [D.fin] using h)
    exact ⟨by simpa [D.py, PyData.plain] using q.1, by simp only [D.py, PyData.depth]; omega⟩
  | 0, .dct _, h => by simp [D.fin] at h
  | 0, .obj _ _, h => by simp [D.fin] at h
  | 0, .ref _, h => by simp [D.fin] at h
  | n + 1, .dct _, h => by simp [D.fin] at h
  | n + 1, .obj _ _, h => by simp [D.fin] at h
  | n + 1, .ref _, h => by simp [D.fin] at h
theorem fins_plain : ∀ (n : Nat) (ds : List D), D.fins n ds = true → PyData.plainAll (D.pys ds) = true ∧ PyData.depthAll (D.pys ds) ≤ n
  | _, [], _ => ⟨rfl, by simp [D.pys, PyData.depthAll]⟩
  | n, d :: ds, h => by
    simp only [D.fins, Bool.and_eq_true] at h
    have p := fin_plain n d h.1
    have q := fins_plain n ds h.2
    exact ⟨by simp [D.pys, PyData.plainAll, p.1, q.1], by simp only [D.pys, PyData.depthAll]; omega⟩
end
mutual
theorem RepD.reads {X : Cx} {pins : List (Addr × Obj)} {σ : L2.St} {H : Hp} {s : Shared} {m : Nat} {ad : Nat → Addr} (hK : X.K = N.K) (I : Inv X pins σ H s) : ∀ (n : Nat) (d : D) {v : V} {u : Value}, d.fin n = true → RepD N m ad H v d → RelV v u → ∃ as, Reads s.heap u d.py as
  | _, .non, _, _, _, h, r => by cases h; cases r; exact ⟨_, Reads.none⟩
  | _, .bl b, _, _, _, h, r => by cases h; cases r; exact ⟨_, Reads.bool b⟩
  | _, .int i, _, _, _, h, r => by cases h; obtain ⟨t, rfl⟩ := r; exact ⟨_, Reads.int i t⟩
  | _, .str x, _, _, _, h, r => by cases h; obtain ⟨t, rfl⟩ := r; exact ⟨_, Reads.str x t⟩
  | 0, .tup _, _, _, f, _, _ => by simp [D.fin] at f
  | 0, .lst _, _, _, f, _, _ => by simp [D.fin] at f
  | n + 1, .tup ds, _, _, f, h, r => by
    cases h with
    | tup hs hq ha =>
      cases r
      rw [← hK] at hs
      obtain ⟨its, rv, ⟨o, ho, hc, m, hd⟩, _⟩ := I.tuple hs
      obtain ⟨as, hr⟩ := RepDs.reads hK I n ds (by simpa [D.fin] using f) ha rv
      exact ⟨_, Reads.tuple ho hc hd (by simpa using hr)⟩
  | n + 1, .lst ds, _, _, f, h, r => by
    cases h with
    | lst hs ha =>
      cases r
      rw [← hK] at hs
      obtain ⟨its, rv, ⟨o, m, ho, hc, _, hd⟩, _⟩ := I.list hs
      obtain ⟨as, hr⟩ := RepDs.reads hK I n ds (by simpa [D.fin] using f) ha rv
      exact ⟨_, Reads.list ho hc hd (by simpa using hr)⟩
  | n, .dct _, _, _, f, h, _ => by cases n <;> simp [D.fin] at f
  | n, .obj _ _, _, _, f, h, _ => by cases n <;> simp [D.fin] at f
  | n, .ref _, _, _, f, h, _ => by cases n <;> simp [D.fin] at f
theorem RepDs.reads {X : Cx} {pins : List (Addr × Obj)} {σ : L2.St} {H : Hp} {s : Shared} {m : Nat} {ad : Nat → Addr} (hK : X.K = N.K) (I : Inv X pins σ H s) : ∀ (n : Nat) (ds : List D) {vs : List V} {us : List Value}, D.fins n ds = true → RepDs N m ad H vs ds → Vals vs us → ∃ as, ReadsAll s.heap us (D.pys ds) as
  | _, [], _, _, _, h, r => by cases h; cases r; exact ⟨_, ReadsAll.nil⟩
  | n, d :: ds, _, _, f, h, r => by
    simp only [D.fins, Bool.and_eq_true] at f
    cases h with
    | cons h1 h2 =>
      cases r with
      | cons r1 r2 =>
        obtain ⟨as, q1⟩ := RepD.reads hK I n d f.1 h1 r1
        obtain ⟨bs, q2⟩ := RepDs.reads hK I n ds f.2 h2 r2
        exact ⟨_, ReadsAll.cons q1 q2⟩
end
mutual
theorem eqB_py : ∀ (n m : Nat) (x y : D), x.fin n = true → y.fin m = true → eqB x y = PyData.eqv x.py y.py
  | n, m, .non, y, _, h => by cases y <;> first | rfl | (cases m <;> simp [D.fin] at h)
  | n, m, .bl a, y, _, h => by cases y <;> first | rfl | (cases m <;> simp [D.fin] at h) | simp [eqB, D.py, PyData.eqv]
  | n, m, .int a, y, _, h => by cases y <;> first | rfl | (cases m <;> simp [D.fin] at h) | simp [eqB, D.py, PyData.eqv]
  | n, m, .str a, y, _, h => by cases y <;> first | rfl | (cases m <;> simp [D.fin] at h) | simp [eqB, D.py, PyData.eqv]
  | 0, _, .tup _, _, h, _ => by simp [D.fin] at h
  | 0, _, .lst _, _, h, _ => by simp [D.fin] at h
  | n + 1, m, .tup xs, y, hx, h => by
    cases y with
    | tup ys =>
      cases m with
      | zero => simp [D.fin] at h
      | succ m =>
        simp only [eqB, D.py, PyData.eqv]
        exact eqBs_py n m xs ys (by simpa [D.fin] using hx) (by simpa [D.fin] using h)
    | _ => first | rfl | (cases m <;> simp [D.fin] at h) | simp [eqB, D.py, PyData.eqv]
  | n + 1, m, .lst xs, y, hx, h => by
    cases y with
    | lst ys =>
      cases m with
      | zero => simp [D.fin] at h
      | succ m =>
        simp only [eqB, D.py, PyData.eqv]
        exact eqBs_py n m xs ys (by simpa [D.fin] using hx) (by simpa [D.fin] using h)
    | _ => first | rfl | (cases m <;> simp [D.fin] at h) | simp [eqB, D.py, PyData.eqv]
  | n, _, .dct _, _, h, _ => by cases n <;> simp [D.fin] at h
  | n, _, .obj _ _, _, h, _ => by cases n <;> simp [D.fin] at h
  | n, _, .ref _, _, h, _ => by cases n <;> simp [D.fin] at h
theorem eqBs_py : ∀ (n m : Nat) (xs ys : List D), D.fins n xs = true → D.fins m ys = true → eqBs xs ys = PyData.eqvAll (D.pys xs) (D.pys ys)
  | _, _, [], [], _, _ => rfl
  | _, _, [], _ :: _, _, _ => rfl
  | _, _, _ :: _, [], _, _ => rfl
  | n, m, x :: xs, y :: ys, hx, hy => by
    simp only [D.fins, Bool.and_eq_true] at hx hy
    simp only [eqBs, D.pys, PyData.eqvAll, eqB_py n m x y hx.1 hy.1, eqBs_py n m xs ys hx.2 hy.2]
end
mutual
theorem alk_py : ∀ (x y : D), alk x y = true → PySem.W.alike x.py y.py = true
  | .non, y, h => by cases y <;> first | rfl | simp [alk] at h
  | .bl a, y, h => by cases y <;> first | rfl | simp [alk] at h
  | .int a, y, h => by cases y <;> first | rfl | simp [alk] at h
  | .str a, y, h => by cases y <;> first | rfl | simp [alk] at h
  | .tup xs, y, h => by
    cases y with
    | tup ys => simp only [D.py, PySem.W.alike]; exact alks_py xs ys (by simpa [alk] using h)
    | _ => simp [alk] at h
  | .lst xs, y, h => by
    cases y with
    | lst ys => simp only [D.py, PySem.W.alike]; exact alks_py xs ys (by simpa [alk] using h)
    | _ => simp [alk] at h
  | .dct _, y, h => by simp [alk] at h
  | .obj _ _, y, h => by simp [alk] at h
  | .ref _, y, h => by simp [alk] at h
theorem alks_py : ∀ (xs ys : List D), alks xs ys = true → PySem.W.alikeAll (D.pys xs) (D.pys ys) = true
  | [], _, _ => by simp [D.pys, PySem.W.alikeAll]
  | _ :: _, [], _ => by simp [D.pys, PySem.W.alikeAll]
  | x :: xs, y :: ys, h => by
    simp only [alks, Bool.and_eq_true] at h
    simp [D.pys, PySem.W.alikeAll, alk_py x y h.1, alks_py xs ys h.2]
end
mutual
theorem ltB_py : ∀ (n m : Nat) (x y : D), x.fin n = true → y.fin m = true → alk x y = true → ltB x y = PySem.W.dataLt x.py y.py
  | n, m, .non, y, _, _, h => by cases y <;> first | rfl | simp [alk] at h
  | n, m, .bl a, y, _, _, h => by
    cases y with
    | bl b =>
      simp only [ltB, D.py, PySem.W.dataLt_bool]
      cases a <;> cases b <;> rfl
    | _ => simp [alk] at h
  | n, m, .int a, y, _, _, h => by
    cases y with
    | int b => simp only [ltB, D.py, PySem.W.dataLt_int]
    | _ => simp [alk] at h
  | n, m, .str a, y, _, _, h => by
    cases y with
    | str b => simp only [ltB, D.py, PySem.W.dataLt_str]
    | _ => simp [alk] at h
  | 0, _, .tup _, _, h, _, _ => by simp [D.fin] at h
  | 0, _, .lst _, _, h, _, _ => by simp [D.fin] at h
  | n + 1, m, .tup xs, y, hx, h, ha => by
    cases y with
    | tup ys =>
      cases m with
      | zero => simp [D.fin] at h
      | succ m =>
        simp only [ltB, D.py, PySem.W.dataLt_tuple]
        exact ltBs_py n m xs ys (by simpa [D.fin] using hx) (by simpa [D.fin] using h) (by simpa [alk] using ha)
    | _ => simp [alk] at ha
  | n + 1, m, .lst xs, y, hx, h, ha => by
    cases y with
    | lst ys =>
      cases m with
      | zero => simp [D.fin] at h
      | succ m =>
        simp only [ltB, D.py, PySem.W.dataLt_list]
        exact ltBs_py n m xs ys (by simpa [D.fin] using hx) (by simpa [D.fin] using h) (by simpa [alk] using ha)
    | _ => simp [alk] at ha
  | n, _, .dct _, _, h, _, _ => by cases n <;> simp [D.fin] at h
  | n, _, .obj _ _, _, h, _, _ => by cases n <;> simp [D.fin] at h
  | n, _, .ref _, _, h, _, _ => by cases n <;> simp [D.fin] at h
theorem ltBs_py : ∀ (n m : Nat) (xs ys : List D), D.fins n xs = true → D.fins m ys = true → alks xs ys = true → ltBs xs ys = PyProof.Rows.lexLt PyProof.Rows.itemOrd (PySem.W.keyToksAll (D.pys xs)) (PySem.W.keyToksAll (D.pys ys))
  | _, _, [], [], _, _, _ => by decide +kernel
  | _, _, [], y :: ys, _, _, _ => by
    simp only [ltBs, D.pys, PySem.W.keyToksAll]
    rw [PySem.W.lex_atom (by decide)]
    decide +kernel
  | _, _, x :: xs, [], _, _, _ => by
    simp only [ltBs, D.pys, PySem.W.keyToksAll]
    rw [PySem.W.lex_atom (by decide)]
    decide +kernel
  | n, m, x :: xs, y :: ys, hx, hy, ha => by
    simp only [D.fins, Bool.and_eq_true] at hx hy
    simp only [alks, Bool.and_eq_true] at ha
    have e := eqB_py n m x y hx.1 hy.1
    simp only [ltBs, D.pys]
    cases he : eqB x y with
    | true =>
      rw [PySem.W.dataLt_all_yes (alk_py _ _ ha.1) (by rw [← e]; exact he)]
      exact ltBs_py n m xs ys hx.2 hy.2 ha.2
    | false =>
      rw [PySem.W.dataLt_all_no (alk_py _ _ ha.1) (by rw [← e]; exact he)]
      exact ltB_py n m x y hx.1 hy.1 ha.1
end
mutual
theorem alk_symm : ∀ (x y : D), alk x y = true → alk y x = true
  | .tup xs, y, h => by
    cases y with
    | tup ys => simp only [alk] at h ⊢; exact alks_symm xs ys h
    | _ => simp [alk] at h
  | .lst xs, y, h => by
    cases y with
    | lst ys => simp only [alk] at h ⊢; exact alks_symm xs ys h
    | _ => simp [alk] at h
  | .non, y, h => by cases y <;> first | rfl | simp [alk] at h
  | .bl _, y, h => by cases y <;> first | rfl | simp [alk] at h
  | .int _, y, h => by cases y <;> first | rfl | simp [alk] at h
  | .str _, y, h => by cases y <;> first | rfl | simp [alk] at h
  | .dct _, y, h => by simp [alk] at h
  | .obj _ _, y, h => by simp [alk] at h
  | .ref _, y, h => by simp [alk] at h
theorem alks_symm : ∀ (xs ys : List D), alks xs ys = true → alks ys xs = true
  | [], [], _ => by simp [alks]
  | [], _ :: _, _ => by simp [alks]
  | _ :: _, [], _ => by simp [alks]
  | x :: xs, y :: ys, h => by
    simp only [alks, Bool.and_eq_true] at h ⊢
    exact ⟨alk_symm x y h.1, alks_symm xs ys h.2⟩
end
end Ev

set_option autoImplicit false
set_option linter.all false
set_option maxRecDepth 100000
/-! Operators over data. -/
namespace Ev
open PySem L2 PyProof.Rows
variable {N : Nms}
section
variable {n : Nat} {ad : Nat → Addr} {B H : Hp} {M : Addr → Prop} {v : V}
theorem RepW.nonI (h : RepW N n ad B H v .non) : v = .non := by
  generalize e : D.non = d at h
  cases h with
  | d h => subst e; cases h; rfl
  | c ok => rename_i c; cases c <;> cases e
theorem RepW.intI {i : Int} (h : RepW N n ad B H v (.int i)) : v = .int i := by
  generalize e : D.int i = d at h
  cases h with
  | d h => subst e; cases h; rfl
  | c ok => rename_i c; cases c <;> cases e
theorem RepW.blI {i : Bool} (h : RepW N n ad B H v (.bl i)) : v = .bl i := by
  generalize e : D.bl i = d at h
  cases h with
  | d h => subst e; cases h; rfl
  | c ok => rename_i c; cases c <;> cases e
theorem RepW.strI {i : Str} (h : RepW N n ad B H v (.str i)) : v = .str i := by
  generalize e : D.str i = d at h
  cases h with
  | d h => subst e; cases h; rfl
  | c ok => rename_i c; cases c <;> cases e
theorem sm_le {H : Hp} {M : Addr → Prop} : Sm (msk H M) H := .of msk_le
theorem RepW.tupI {ds : List D} (h : RepW N n ad (msk H M) H v (.tup ds)) : ∃ a xs, v = .ref a ∧ SqT N.K (msk H M) a xs ∧ SqT N.K H a xs ∧ RepDs N n ad (msk H M) xs ds := by
  generalize e : D.tup ds = d at h
  cases h with
  | d h => subst e; cases h with | tup s q r => exact ⟨_, _, rfl, s, SqT.sm sm_le s, r⟩
  | c ok => rename_i c; cases c <;> cases e
theorem RepW.tupI2 {ds : List D} (h : RepW N n ad (msk H M) H v (.tup ds)) : ∃ a xs, v = .ref a ∧ SqT N.K (msk H M) a xs ∧ TrkT (msk H M) a xs ds ∧ SqT N.K H a xs ∧ RepDs N n ad (msk H M) xs ds := by
  generalize e : D.tup ds = d at h
  cases h with
  | d h => subst e; cases h with | tup s q r => exact ⟨_, _, rfl, s, q, SqT.sm sm_le s, r⟩
  | c ok => rename_i c; cases c <;> cases e
/-- a key -/
theorem RepW.keyI {ds : List D} (h : RepW N n ad (msk H M) H v (.tup ds)) (hk : intK ds = true) : ∃ a xs, v = .ref a ∧ H a = some (.tup xs) ∧ RepDs N n ad (msk H M) xs ds := by
  generalize e : D.tup ds = d at h
  cases h with
  | d h => subst e; cases h with | tup s q r => exact ⟨_, _, rfl, (msk_get (q hk)).1, r⟩
  | c ok => rename_i c; cases c <;> cases e
theorem RepW.lstI {ds : List D} (h : RepW N n ad (msk H M) H v (.lst ds)) : ∃ a xs, v = .ref a ∧ SqL N.K H a xs ∧ RepDs N n ad (msk H M) xs ds := by
  generalize e : D.lst ds = d at h
  cases h with
  | d h => subst e; cases h with | lst s r => exact ⟨_, _, rfl, SqL.sm sm_le s, r⟩
  | c ok =>
    rename_i c
    cases c <;> cases e
    obtain ⟨xs, h1, h2⟩ := ok
    exact ⟨_, _, rfl, SqL.of h1, h2⟩
theorem RepW.dctI {ds : List (D × D)} (h : RepW N n ad (msk H M) H v (.dct ds)) : ∃ a, v = .ref a ∧ ((∃ kvs, Rd H a (.dK kvs) ∧ RepKs N n ad (msk H M) kvs ds) ∨ ∃ kvs, Rd H a (.dT kvs) ∧ RepTs N n ad (msk H M) kvs ds) := by
  generalize e : D.dct ds = d at h
  cases h with
  | d h => subst e; cases h with | dK s r => exact ⟨_, rfl, .inl ⟨_, Rd.smK sm_le s, r⟩⟩ | dT s r => exact ⟨_, rfl, .inr ⟨_, Rd.smT sm_le s, r⟩⟩
  | c ok =>
    rename_i c
    cases c <;> cases e
    rcases ok with ⟨xs, h1, h2⟩ | ⟨xs, h1, h2⟩
    · exact ⟨_, rfl, .inl ⟨_, .inl h1, h2⟩⟩
    · exact ⟨_, rfl, .inr ⟨_, .inl h1, h2⟩⟩
theorem RepW.objI {c : Nat} {fs : List (Nat × D)} (h : RepW N n ad (msk H M) H v (.obj c fs)) : ∃ a dx fv, v = .ref a ∧ H a = some (.ins (N.cl c) dx fv) ∧ RepFs N n ad (msk H M) fv fs := by
  generalize e : D.obj c fs = d at h
  cases h with
  | d h =>
    subst e
    cases h with
    | obj s r => exact ⟨_, _, _, rfl, (msk_get s).1, r⟩
  | c ok =>
    rename_i c
    cases c <;> cases e
    obtain ⟨dx, xs, h1, h2⟩ := ok
    exact ⟨_, _, _, rfl, h1, h2⟩
/-- all of it as data of the whole heap -/
theorem RepW.full {x : D} (h : RepW N n ad (msk H M) H v x) : RepD N n ad H v x := by
  cases h with
  | d h => exact RepD.mono (Nat.le_refl _) (fun _ _ => rfl) sm_le _ h
  | c ok => exact CelOk.toD sm_le rfl _ ok
/-- an object that is new -/
theorem new_same {p : Addr} {o : HO} (hp : H p = none) : Same H (upd H p o) := fun b u e => by rw [upd_ne (ne_of_none e hp)]; exact e
theorem new_msk {p : Addr} {o : HO} (hM : ∀ p, M p → ∃ o, H p = some o) (hp : H p = none) : msk (upd H p o) M p = some o ∧ Sm (msk H M) (msk (upd H p o) M) := by
  refine ⟨?_, .of (msk_same (new_same hp))⟩
  rw [msk_of fun m => ?_]
  · exact upd_same
  · obtain ⟨u, hu⟩ := hM p m
    rw [hp] at hu; cases hu
theorem new_tup {p : Addr} {ys : List V} {es : List D} (hM : ∀ p, M p → ∃ o, H p = some o) (hp : H p = none) (r : RepDs N n ad (msk H M) ys es) : RepD N n ad (msk (upd H p (.tup ys)) M) (.ref p) (.tup es) :=
  let ⟨h1, h2⟩ := new_msk (o := .tup ys) hM hp
  .tup (SqT.of h1) (fun _ => h1) (RepDs.mono (Nat.le_refl _) (fun _ _ => rfl) h2 _ r)
theorem new_lst {p : Addr} {ys : List V} {es : List D} (hM : ∀ p, M p → ∃ o, H p = some o) (hp : H p = none) (r : RepDs N n ad (msk H M) ys es) : RepD N n ad (msk (upd H p (.lst ys)) M) (.ref p) (.lst es) :=
  let ⟨h1, h2⟩ := new_msk (o := .lst ys) hM hp
  .lst (SqL.of h1) (RepDs.mono (Nat.le_refl _) (fun _ _ => rfl) h2 _ r)
end
/-- an operator over data -/
def rD2 (N : Nms) (f : D → D → Option D) : R2 := fun x y H Q => ∃ n ad M a b z, (∀ p, M p → ∃ o, H p = some o) ∧ RepW N n ad (msk H M) H x a ∧ RepW N n ad (msk H M) H y b ∧ f a b = some z ∧ ∀ v H', Same H H' → RepD N n ad (msk H' M) v z → Q v H'
def rD1 (N : Nms) (f : D → Option D) : V → Hp → VK → Prop := fun x H Q => ∃ n ad M a z, (∀ p, M p → ∃ o, H p = some o) ∧ RepW N n ad (msk H M) H x a ∧ f a = some z ∧ ∀ v H', Same H H' → RepD N n ad (msk H' M) v z → Q v H'
inductive RepWs (N : Nms) (n : Nat) (ad : Nat → Addr) (B H : Hp) : List V → List D → Prop
  | nil : RepWs N n ad B H [] []
  | cons {v : V} {vs : List V} {x : D} {xs : List D} : RepW N n ad B H v x → RepWs N n ad B H vs xs → RepWs N n ad B H (v :: vs) (x :: xs)
def rDs (N : Nms) (f : List D → Option D) : List V → Hp → VK → Prop := fun xs H Q => ∃ n ad M as z, (∀ p, M p → ∃ o, H p = some o) ∧ RepWs N n ad (msk H M) H xs as ∧ f as = some z ∧ ∀ v H', Same H H' → RepD N n ad (msk H' M) v z → Q v H'
section
variable {W : WX} {α β : Type}
theorem tX_two {r : R2} {f : D → D → Option D} {ma mb : M PV} (hr : ∀ x y H Q, rD2 N f x y H Q → r x y H Q) : ∀ σ H Q, tX N W (two ma mb f) σ H Q → tOp r (tX N W ma) (tX N W mb) σ H Q := by
  rintro σ H Q ⟨ad, s, F, R, h⟩
  refine ⟨ad, s, F, R, (Gar.bind h).mono fun a s1 ad1 H1 R1 P1 h1 x rx => ?_⟩
  refine ⟨ad1, s1, F, R1, (Gar.bind h1).mono fun b s2 ad2 H2 R2 P2 h2 y ry => ?_⟩
  have rx2 := rx.post P2
  cases hx : a.val s2 with
  | none => simp only [hx] at h2; exact h2.elim
  | some dx =>
    cases hy : b.val s2 with
    | none => simp only [hx, hy] at h2; exact h2.elim
    | some dy =>
      cases hf : f dx dy with
      | none => simp only [hx, hy, hf] at h2; exact h2.elim
      | some z =>
        simp only [hx, hy, hf] at h2
        exact hr _ _ _ _ ⟨_, _, Mk ad2 σ s2 F, dx, dy, z, fun p m => R2.masked m, rx2.val R2 hx, ry.val R2 hy, hf, fun v H3 sm r3 => h2 ad2 H3 (R2.grow sm) (.grow R2 sm) v r3⟩
theorem tX_one {r : V → Hp → VK → Prop} {f : D → Option D} {ma : M PV} (hr : ∀ x H Q, rD1 N f x H Q → r x H Q) : ∀ σ H Q, tX N W (one ma f) σ H Q → tUn r (tX N W ma) σ H Q := by
  rintro σ H Q ⟨ad, s, F, R, h⟩
  refine ⟨ad, s, F, R, (Gar.bind h).mono fun a s2 ad2 H2 R2 P2 h2 x rx => ?_⟩
  cases hx : a.val s2 with
  | none => simp only [hx] at h2; exact h2.elim
  | some dx =>
    cases hf : f dx with
    | none => simp only [hx, hf] at h2; exact h2.elim
    | some z =>
      simp only [hx, hf] at h2
      exact hr _ _ _ ⟨_, _, Mk ad2 σ s2 F, dx, z, fun p m => R2.masked m, rx.val R2 hx, hf, fun v H3 sm r3 => h2 ad2 H3 (R2.grow sm) (.grow R2 sm) v r3⟩
theorem RepPs.val {ad : Nat → Addr} {σ : L2.St} {H : Hp} {s : S} {F : Addr → Prop} (R : Rel N ad σ H s F) : ∀ {vs : List V} {xs : List PV} {ds : List D}, RepPs N ad σ H s F vs xs → valsOf s xs = some ds → RepWs N s.cel.length ad (msk H (Mk ad σ s F)) H vs ds
  | _, _, ds, .nil, h => by cases h; exact .nil
  | _, _, ds, .cons (x := x) (xs := xs) a b, h => by
    unfold valsOf at h
    cases hx : x.val s with
    | none => rw [hx] at h; cases h
    | some d =>
      rw [hx] at h
      cases hr : valsOf s xs with
      | none => rw [hr] at h; cases h
      | some ds' =>
        rw [hr] at h; cases h
        exact .cons (a.val R hx) (RepPs.val R b hr)
theorem RepPs.post {ad ad' : Nat → Addr} {σ : L2.St} {H H' : Hp} {s s' : S} {F : Addr → Prop} (P : Post ad σ H s ad' σ H' s' F) : ∀ {vs : List V} {xs : List PV}, RepPs N ad σ H s F vs xs → RepPs N ad' σ H' s' F vs xs
  | _, _, .nil => .nil
  | _, _, .cons a b => .cons (a.post P) (RepPs.post P b)
/-- a built-in's call -/
theorem tX_bi {r : List V → Hp → VK → Prop} {b : Bi} {m : M (List PV)} (hr : ∀ x H Q, rDs N (biF b) x H Q → r x H Q) : ∀ σ H Q, tX N W (M.bind m fun xs => biM b xs) σ H Q → tCB r (tPs N W m) σ H Q := by
  rintro σ H Q ⟨ad, s, F, R, h⟩
  refine ⟨ad, s, F, R, (Gar.bind h).mono fun xs s2 ad2 H2 R2 P2 h2 vs rv => ?_⟩
  unfold biM at h2
  cases hx : valsOf s2 xs with
  | none => simp only [hx] at h2; exact h2.elim
  | some ds =>
    cases hf : biF b ds with
    | none => simp only [hx, hf] at h2; exact h2.elim
    | some z =>
      simp only [hx, hf] at h2
      exact hr _ _ _ ⟨_, _, Mk ad2 σ s2 F, ds, z, fun p m => R2.masked m, rv.val R2 hx, hf, fun v H3 sm r3 => h2 ad2 H3 (R2.grow sm) (.grow R2 sm) v r3⟩
end
def opS : Op → Operator
  | .add => .Add | .sub => .Sub | .mul => .Mult | .fdiv => .FloorDiv | .mod => .Mod | .pow => .Pow
theorem sizeLine_line : sizeLine = line := by rw [sizeLine_eq]; rfl
section
variable {X : Cx} {a b : Addr} {xs ys : List V}
/-- list + list, of any lists that are read -/
theorem op_catL : OpR X (binaryOp .Add) (fun x y H Q => ∃ l b xs zs, x = .ref l ∧ y = .ref b ∧ SqL X.K H l xs ∧ SqL X.K H b zs ∧ xs.length + zs.length ≤ sizeLine ∧ ∀ p, H p = none → Q (.ref p) (upd H p (.lst (xs ++ zs)))) := by
  intro pins s σ H x y v u Q I rx ry h
  obtain ⟨l, b, xs, zs, rfl, rfl, hH, hB, hz, q⟩ := h
  cases rx
  cases ry
  obtain ⟨its, r, ⟨⟨cls, dd, data, sl⟩, n, ho, hc, hn, hd⟩, z⟩ := I.list hH
  obtain ⟨its2, r2, ⟨⟨cls2, dd2, data2, sl2⟩, n2, ho2, hc2, hn2, hd2⟩, z2⟩ := I.list hB
  simp only at hc hd hc2 hd2
  subst hc hd hc2 hd2
  have e : its.toArray ++ its2.toArray = (its ++ its2).toArray := by simp
  have l1 := r.length
  have l2 := r2.length
  refine concat_meets ⟨_, ho, rfl⟩ ⟨_, ho2, rfl⟩ noFill_list_add seq_list_add PySem.F.slot_list_add PySem.F.entry_list_add (PySem.F.args_list_add_2 _ _) (list_addW l b its.toArray its2.toArray n n2 dd dd2 sl sl2 (by simp; omega)) ⟨ho, ho2, ?_⟩
  rw [e]
  exact ⟨.ref _, _, I.lnew (t' := s.toks) (r.append r2) (by rw [List.length_append]; omega), rfl, q _ I.fresh⟩
end
/-! ### tuple * 1 -/
open PySem in
theorem tuple_mul1 (l : Addr) (items : Array Value) (n : Nat) (dd : Option Addr) (sl : Array (Option Value)) (u : Tok) :
    Meets (Builtin.«tuple.__mul__» ⟨[.ref l, .int 1 u], []⟩) (fun _ R s => s.heap.get? l = some { cls := .type "tuple", dict := dd, data := .seq items n, slots := sl } ∧ R (.ok (.ret (Value.ref l))) s) :=
  .of_wp fun prog w A R s h => by
    obtain ⟨hp, g, d, tk, os⟩ := s
    obtain ⟨hl, h⟩ := h
    have f1 := AutoSeq1.idx_int
    have c1 : (items.isEmpty || (1 : Int) == 1) = true := by rw [Bool.or_eq_true]; exact .inr rfl
    wp_walk using AutoSeq1.wpAny_loadPart' hl
    repeat (first
      | (refine wpAny_ite_true (decide_eq_true c1) ?_; wp_walk using AutoSeq1.wpAny_loadPart' hl))
    exact ⟨_, rfl, h⟩
section
variable {X : Cx}
theorem op_rep1 : OpR X (binaryOp .Mult) (fun x y H Q => ∃ l xs, x = .ref l ∧ y = .int 1 ∧ SqT X.K H l xs ∧ Q (.ref l) H) := by
  intro pins s σ H x y v u Q I rx ry h
  obtain ⟨l, xs, rfl, rfl, hT, q⟩ := h
  cases rx
  obtain ⟨t, rfl⟩ := ry
  obtain ⟨its, r, ⟨⟨cls, dd, data, sl⟩, ho, hc, n, hd⟩, hs⟩ := I.tuple hT
  simp only at hc hd
  subst hc hd
  exact wpAny_binaryOp_repeat_ref (T := "tuple") (U := "int") (by decide) ⟨_, ho, rfl⟩ (fun s' => typeIs_int s' 1 t) noFill_tuple_mul F.fills_int_mul F.slot_int_rmul repeat_tuple F.slot_int_index.lookup
    (call_meets F.slot_int_rmul (typeIs_int s 1 t) F.entry_int_rmul (F.args_int_rmul_2 _ _) (int_rmul_tuple 1 t l its.toArray n dd sl)
      ⟨ho, rfl, ⟨_, ho, rfl⟩, call_meets F.slot_tuple_mul ⟨_, ho, rfl⟩ F.entry_tuple_mul (F.args_tuple_mul_2 _ _) (tuple_mul1 l its.toArray n dd sl t) ⟨ho, ⟨.ref l, H, I, rfl, q⟩⟩⟩)
end
section
variable {X : Cx}
theorem op_bin (hK : X.K = N.K) (op : Op) : OpR X (binaryOp (opS op)) (rD2 N (binF op)) := by
  intro pins s σ H x y v u Q I rx ry h
  obtain ⟨n, ad, M, a, b, z, hM, ra, rb, hf, q⟩ := h
  cases op with
  | add =>
    cases a <;> cases b <;> simp only [binF] at hf <;> try (cases hf; done)
    · rename_i i j
      obtain rfl := ra.intI
      obtain rfl := rb.intI
      cases hf
      exact op_add pins s σ H _ _ v u Q I rx ry ⟨_, _, rfl, rfl, q _ _ (Same.refl _) (.int _)⟩
    · obtain rfl := ra.strI
      obtain rfl := rb.strI
      split at hf
      · rename_i hl
        cases hf
        exact op_add_str pins s σ H _ _ v u Q I rx ry ⟨_, _, rfl, rfl, by rw [sizeLine_line]; exact hl, q _ _ (Same.refl _) (.str _)⟩
      · cases hf
    · rename_i ds es
      obtain ⟨a, xs, rfl, sa', ta, sa, da⟩ := ra.tupI2
      obtain ⟨b, ys, rfl, sb', tb, sb, db⟩ := rb.tupI2
      split at hf
      · rename_i hl
        cases hf
        rw [← hK] at sa sb
        refine op_catA pins s σ H _ _ v u Q I rx ry ⟨_, _, _, _, rfl, rfl, sa, sb, by rw [sizeLine_line, da.length, db.length]; exact hl, fun e => ?_, fun _ e => ?_, fun _ _ p hp => ?_⟩
        · subst e
          cases da
          exact q _ _ (Same.refl _) (.tup sb' tb db)
        · subst e
          cases db
          rw [List.append_nil] at q
          exact q _ _ (Same.refl _) (.tup sa' ta da)
        · exact q _ _ (new_same hp) (new_tup hM hp (da.append db))
      · cases hf
    · rename_i ds es
      obtain ⟨a, xs, rfl, sa, da⟩ := ra.lstI
      obtain ⟨b, ys, rfl, sb, db⟩ := rb.lstI
      split at hf
      · rename_i hl
        cases hf
        rw [← hK] at sa sb
        exact op_catL pins s σ H _ _ v u Q I rx ry ⟨_, _, _, _, rfl, rfl, sa, sb, by rw [sizeLine_line, da.length, db.length]; exact hl, fun p hp => q _ _ (new_same hp) (new_lst hM hp (da.append db))⟩
      · cases hf
  | sub =>
    cases a <;> cases b <;> simp only [binF] at hf <;> try (cases hf; done)
    · obtain rfl := ra.blI
      obtain rfl := rb.intI
      cases hf
      cases rx
      obtain ⟨t, rfl⟩ := ry
      exact PySem.IntBool.sub_bool_int ⟨.int _, H, I.tok _, ⟨_, rfl⟩, q _ _ (Same.refl _) (.int _)⟩
    obtain rfl := ra.intI
    obtain rfl := rb.intI
    cases hf
    exact op_sub pins s σ H _ _ v u Q I rx ry ⟨_, _, rfl, rfl, q _ _ (Same.refl _) (.int _)⟩
  | mul =>
    cases a <;> cases b <;> simp only [binF] at hf <;> try (cases hf; done)
    · rename_i i j
      obtain rfl := ra.intI
      obtain rfl := rb.intI
      split at hf
      · rename_i hc
        cases hf
        rcases hc with hc | hc | hc
        · exact op_mul pins s σ H _ _ v u Q I rx ry ⟨_, _, rfl, rfl, .inl ⟨by omega, by omega⟩, q _ _ (Same.refl _) (.int _)⟩
        · exact op_mul pins s σ H _ _ v u Q I rx ry ⟨_, _, rfl, rfl, .inr ⟨by omega, by omega⟩, q _ _ (Same.refl _) (.int _)⟩
        · exact op_mulW pins s σ H _ _ v u Q I rx ry ⟨_, _, rfl, rfl, hc, q _ _ (Same.refl _) (.int _)⟩
      · cases hf
    · rename_i ds j
      cases ds with
      | nil => cases hf
      | cons d0 ds =>
      obtain ⟨a, xs, rfl, sa', ta, sa, da⟩ := ra.tupI2
      obtain rfl := rb.intI
      simp only at hf
      split at hf
      · rename_i hl
        cases hf
        rw [← hK] at sa
        have le := da.length
        by_cases h1 : j = 1
        · subst h1
          have e1 : (List.replicate (1 : Int).toNat (d0 :: ds)).flatten = d0 :: ds := by simp
          rw [e1] at q
          exact op_rep1 pins s σ H _ _ v u Q I rx ry ⟨_, _, rfl, rfl, sa, q _ _ (Same.refl _) (.tup sa' ta da)⟩
        refine op_repT pins s σ H _ _ v u Q I rx ry ⟨_, _, _, rfl, rfl, sa, ?_, by omega, hl.2.1, by rw [le]; exact hl.2.2, fun p hp => ?_⟩
        · intro e; subst e; simp at le
        · exact q _ _ (new_same hp) (new_tup hM hp (da.rep _))
      · cases hf
  | fdiv =>
    cases a <;> cases b <;> simp only [binF] at hf <;> try (cases hf; done)
    obtain rfl := ra.intI
    obtain rfl := rb.intI
    split at hf
    · rename_i hc
      cases hf
      exact op_fdivW pins s σ H _ _ v u Q I rx ry ⟨_, _, rfl, rfl, hc, q _ _ (Same.refl _) (.int _)⟩
    · cases hf
  | mod =>
    cases a <;> cases b <;> simp only [binF] at hf <;> try (cases hf; done)
    obtain rfl := ra.intI
    obtain rfl := rb.intI
    split at hf
    · rename_i hc
      cases hf
      exact op_mod pins s σ H _ _ v u Q I rx ry ⟨_, _, rfl, rfl, hc, q _ _ (Same.refl _) (.int _)⟩
    · cases hf
  | pow =>
    cases a <;> cases b <;> simp only [binF] at hf <;> try (cases hf; done)
    obtain rfl := ra.intI
    obtain rfl := rb.intI
    split at hf
    · rename_i hc
      cases hf
      exact op_pow pins s σ H _ _ v u Q I rx ry ⟨_, _, rfl, rfl, ⟨hc.1, by omega, hc.2.2⟩, q _ _ (Same.refl _) (.int _)⟩
    · cases hf
end
end Ev

set_option autoImplicit false
set_option linter.all false
set_option maxRecDepth 100000
/-! Dicts: what is found, what is put. -/
namespace Ev
open PySem L2 PyProof.Rows
variable {N : Nms}
theorem eqB_kD (k k' : Key) : eqB (kD k') (kD k) = decide (k' = k) := by
  cases k <;> cases k' <;> simp [kD, eqB]
  · rename_i a b
    by_cases h : b = a <;> simp [h]
  · rename_i a b
    by_cases h : b = a <;> simp [h]
theorem eqBs_int : ∀ {a b : List Int}, eqBs (a.map .int) (b.map .int) = decide (a = b)
  | [], [] => rfl
  | [], _ :: _ => rfl
  | _ :: _, [] => rfl
  | x :: xs, y :: ys => by
    show (x == y && eqBs (xs.map .int) (ys.map .int)) = _
    rw [eqBs_int]
    by_cases h1 : x = y <;> by_cases h2 : xs = ys <;> simp [h1, h2]
theorem eqB_tk {a b : List Int} : eqB (.tup (a.map .int)) (.tup (b.map .int)) = decide (a = b) := eqBs_int
theorem tk_inj {a b : List Int} : (a.map (Sum.inl : Int → Key) = b.map Sum.inl) ↔ a = b := by
  constructor
  · intro h
    exact (List.map_inj_right (fun x y e => by injection e)).mp h
  · rintro rfl; rfl
theorem intK_inv : ∀ {ds : List D}, intK ds = true → ∃ k : List Int, ds = k.map .int
  | [], h => nomatch (show false = true from h)
  | [.int i], _ => ⟨[i], rfl⟩
  | .int i :: d :: r, h => by
    obtain ⟨k, e⟩ := intK_inv (ds := d :: r) (by simpa [intK] using h)
    exact ⟨i :: k, by rw [e]; rfl⟩
  | .non :: _, h | .bl _ :: _, h | .str _ :: _, h | .tup _ :: _, h | .lst _ :: _, h | .dct _ :: _, h | .obj _ _ :: _, h | .ref _ :: _, h => nomatch (show false = true from h)
theorem isTup_inv {d : D} (h : isTup d = true) : ∃ k : List Int, d = .tup (k.map .int) ∧ intK (k.map .int) = true := by
  cases d with
  | tup ds =>
    obtain ⟨k, rfl⟩ := intK_inv (show intK ds = true from h)
    exact ⟨k, rfl, h⟩
  | _ => exact nomatch (show false = true from h)
theorem isKey_kD : ∀ {k : D}, isKey k = true → ∃ key, k = kD key
  | .int i, _ => ⟨.inl i, rfl⟩
  | .str x, _ => ⟨.inr x, rfl⟩
  | .non, h | .bl _, h | .tup _, h | .lst _, h | .dct _, h | .obj _ _, h | .ref _, h => nomatch (show false = true from h)
section
variable {n : Nat} {ad : Nat → Addr} {B : Hp}
theorem RepDs.keyV : ∀ {k : List Int} {xs : List V}, RepDs N n ad B xs (k.map .int) → xs = (k.map (Sum.inl : Int → Key)).map kV
  | [], _, .nil => rfl
  | i :: k, _, .cons (v := v) a b => by
    cases a
    show V.int i :: _ = V.int i :: _
    rw [b.keyV]
theorem RepKs.isTd : ∀ {kvs : List (Key × V)} {ds : List (D × D)}, RepKs N n ad B kvs ds → isTd ds = false
  | _, _, .nil => rfl
  | _, _, .cons (k := k0) a b => by
    have := b.isTd
    cases k0 <;> exact this
theorem RepTs.isTd : ∀ {kvs : List (List Key × V)} {ds : List (D × D)}, RepTs N n ad B kvs ds → isTd ds = true
  | _, _, .nil => rfl
  | _, _, .cons z a b => by
    have := b.isTd
    exact this
theorem RepKs.get {k : Key} : ∀ {kvs : List (Key × V)} {ds : List (D × D)}, RepKs N n ad B kvs ds →
    (keyGet (kD k) ds = none ∧ valV kvs k = none) ∨ ∃ d v, keyGet (kD k) ds = some d ∧ valV kvs k = some v ∧ RepD N n ad B v d
  | _, _, .nil => .inl ⟨rfl, rfl⟩
  | _, _, .cons (k := k0) (v := v) (d := d) a b => by
    unfold keyGet valV
    rw [eqB_kD, List.find?_cons]
    by_cases h : k0 = k
    · subst h
      simp only [decide_true, if_true]
      exact .inr ⟨d, v, rfl, rfl, a⟩
    · simp only [h, decide_false, Bool.false_eq_true, if_false]
      exact RepKs.get b
theorem RepTs.get {k : List Int} : ∀ {kvs : List (List Key × V)} {ds : List (D × D)}, RepTs N n ad B kvs ds →
    (keyGet (.tup (k.map .int)) ds = none ∧ valV kvs (k.map Sum.inl) = none) ∨ ∃ d v, keyGet (.tup (k.map .int)) ds = some d ∧ valV kvs (k.map Sum.inl) = some v ∧ RepD N n ad B v d
  | _, _, .nil => .inl ⟨rfl, rfl⟩
  | _, _, .cons (k := k0) (v := v) (d := d) z a b => by
    unfold keyGet valV
    rw [eqB_tk, List.find?_cons]
    by_cases h : k0 = k
    · subst h
      simp only [decide_true, if_true]
      exact .inr ⟨d, v, rfl, rfl, a⟩
    · have h' : ¬ (k0.map (Sum.inl : Int → Key) = k.map Sum.inl) := fun e => h (tk_inj.mp e)
      simp only [h, h', decide_false, Bool.false_eq_true, if_false]
      exact RepTs.get b
theorem RepTs.anyKey {k : List Int} : ∀ {kvs : List (List Key × V)} {ds : List (D × D)}, RepTs N n ad B kvs ds → (ds.any fun q => eqB q.1 (.tup (k.map .int))) = kvs.any fun kv => decide (kv.1 = k.map Sum.inl)
  | _, _, .nil => rfl
  | _, _, .cons (k := k0) z a b => by
    rw [List.any_cons, List.any_cons, RepTs.anyKey b]
    simp only [eqB_tk, tk_inj]
theorem RepTs.mapKey {k : List Int} {v : V} {d : D} (r : RepD N n ad B v d) : ∀ {kvs : List (List Key × V)} {ds : List (D × D)}, RepTs N n ad B kvs ds →
    RepTs N n ad B (kvs.map fun kv => if kv.1 = k.map Sum.inl then (kv.1, v) else kv) (ds.map fun q => if eqB q.1 (.tup (k.map .int)) = true then (q.1, d) else q)
  | _, _, .nil => .nil
  | _, _, .cons (k := k0) z a b => by
    rw [List.map_cons, List.map_cons]
    simp only [eqB_tk, decide_eq_true_eq, tk_inj]
    by_cases h : k0 = k
    · rw [if_pos h, if_pos h]; exact .cons z r (RepTs.mapKey r b)
    · rw [if_neg h, if_neg h]; exact .cons z a (RepTs.mapKey r b)
theorem RepTs.snoc {k : List Int} (hk : intK (k.map .int) = true) {v : V} {d : D} (r : RepD N n ad B v d) : ∀ {kvs : List (List Key × V)} {ds : List (D × D)}, RepTs N n ad B kvs ds → RepTs N n ad B (kvs ++ [(k.map Sum.inl, v)]) (keyInsT (.tup (k.map .int)) d ds)
  | _, _, .nil => .cons hk r .nil
  | _, _, .cons z a b => .cons z a (RepTs.snoc hk r b)
theorem RepTs.put {k : List Int} (hk : intK (k.map .int) = true) {v : V} {d : D} (r : RepD N n ad B v d) {kvs : List (List Key × V)} {ds : List (D × D)} (h : RepTs N n ad B kvs ds) : RepTs N n ad B (putK kvs (k.map Sum.inl) v) (keyPutT (.tup (k.map .int)) d ds) := by
  unfold putK keyPutT
  rw [RepTs.anyKey h]
  split
  · exact RepTs.mapKey r h
  · exact RepTs.snoc hk r h
theorem RepTs.length : ∀ {kvs : List (List Key × V)} {ds : List (D × D)}, RepTs N n ad B kvs ds → ds.length = kvs.length + 1
  | _, _, .nil => rfl
  | _, _, .cons z a b => by rw [List.length_cons, List.length_cons, RepTs.length b]
/-- what the dict holds at a key -/
theorem RepW.dget {M : Addr → Prop} {H : Hp} {v w : V} {k : D} {ds : List (D × D)} (h : RepW N n ad (msk H M) H v (.dct ds)) (hk : RepW N n ad (msk H M) H w k) (hf : keyFor k ds = true) :
    ∃ a o, v = .ref a ∧ DGet H a w o ∧ ((keyGet k ds = none ∧ o = none) ∨ ∃ d x, keyGet k ds = some d ∧ o = some x ∧ RepD N n ad (msk H M) x d) := by
  obtain ⟨a, rfl, h | h⟩ := h.dctI
  · obtain ⟨kvs, rd, rk⟩ := h
    have ht := rk.isTd
    unfold keyFor at hf
    rw [ht] at hf
    have hf : isKey k = true := by simpa using hf
    obtain ⟨key, rfl⟩ := isKey_kD hf
    have ew : w = kV key := by
      cases key with
      | inl i => exact hk.intI
      | inr x => exact hk.strI
    exact ⟨a, valV kvs key, rfl, .inl ⟨kvs, key, rd, ew, rfl⟩, rk.get⟩
  · obtain ⟨kvs, rd, rk⟩ := h
    have ht := rk.isTd
    unfold keyFor at hf
    rw [ht] at hf
    have hf : isTup k = true := by simpa using hf
    obtain ⟨key, rfl, hik⟩ := isTup_inv hf
    obtain ⟨b, xs, rfl, hb, rb⟩ := hk.keyI hik
    rw [rb.keyV] at hb
    exact ⟨a, valV kvs (key.map Sum.inl), rfl, .inr ⟨kvs, _, b, rd, rfl, hb, rfl⟩, rk.get⟩
end
end Ev

set_option autoImplicit false
set_option linter.all false
set_option maxRecDepth 100000
/-! a dict and an int -/
namespace PySem.SeqAt
open AutoSeq1 (wpAny_loadPart')
open MeetsSeq MeetsSeq2 MeetsSeq3 PySem.W
theorem dict_eq_declines {prog : Program} {w : World} {A : Around} {E : Value → Shared → Prop} {s : Shared} {a : Addr} {i : Int} {u : Tok} {Q : Value → Shared → Prop} (hT : s.TypeIs (.ref a) "dict") (h : Q .notImplemented s) :
    wpAny (model prog w) A (call (.builtin "dict.__eq__") [.ref a, .int i u]) Q E s := by
  refine wpAny_call_entry PySem.F.slot_dict_eq hT PySem.F.entry_dict_eq ?_ (PySem.F.args_dict_eq_2 _ _)
  show wpAny _ _ (Builtin.Dict.dictSlotArgs "__eq__" ⟨[.ref a, .int i u], []⟩ >>= _) _ _ s
  refine wpAny_bind ?_
  unfold Builtin.Dict.dictSlotArgs
  refine wpAny_bind (wpAny_notOrdered_dict hT ?_)
  show wpAny _ _ (pure (Value.ref a, Value.int i u)) _ _ s
  refine wpAny_pure ?_
  refine wpAny_bind (wpAny_isInstance (T := "int") (typeIs_int s i u) PySem.F.sub_int_dict ?_)
  simp only [Bool.not_false, if_true]
  exact wpAny_bind (wpAny_rule (wpAny_pure ⟨_, rfl, h⟩))
theorem dict_ne_declines {prog : Program} {w : World} {A : Around} {E : Value → Shared → Prop} {s : Shared} {a : Addr} {i : Int} {u : Tok} {Q : Value → Shared → Prop} (hT : s.TypeIs (.ref a) "dict") (h : Q .notImplemented s) :
    wpAny (model prog w) A (call (.builtin "dict.__ne__") [.ref a, .int i u]) Q E s := by
  refine wpAny_call_entry PySem.F.slot_dict_ne hT PySem.F.entry_dict_ne ?_ (PySem.F.args_dict_ne_2 _ _)
  show wpAny _ _ (Builtin.Dict.dictSlotArgs "__ne__" ⟨[.ref a, .int i u], []⟩ >>= _) _ _ s
  refine wpAny_bind ?_
  unfold Builtin.Dict.dictSlotArgs
  refine wpAny_bind (wpAny_notOrdered_dict hT ?_)
  show wpAny _ _ (pure (Value.ref a, Value.int i u)) _ _ s
  refine wpAny_pure ?_
  refine wpAny_bind (wpAny_isInstance (T := "int") (typeIs_int s i u) PySem.F.sub_int_dict ?_)
  simp only [Bool.not_false, if_true]
  exact wpAny_bind (wpAny_rule (wpAny_pure ⟨_, rfl, h⟩))
theorem int_eq_dec {prog : Program} {w : World} {A : Around} {E : Value → Shared → Prop} {s : Shared} {a : Addr} {o : Obj} {i : Int} {u : Tok} {Q : Value → Shared → Prop} (ho : s.heap.get? a = some o) (hd : ∃ es ep, o.data = .dict es ep) (h : Q .notImplemented s) :
    wpAny (model prog w) A (call (.builtin "int.__eq__") [.int i u, .ref a]) Q E s := by
  obtain ⟨es, ep, hd⟩ := hd
  obtain ⟨c, dd, dt, sl⟩ := o
  subst hd
  refine wpAny_call_entry F.slot_int_eq_refl (typeIs_int s i u) F.entry_int_eq ?_ (F.args_int_eq_2 _ _)
  obtain ⟨hp, g, d, tk, os⟩ := s
  wp_walk using wpAny_loadPart' ho, wpAny_load ho
  exact ⟨_, rfl, h⟩
theorem int_ne_dec {prog : Program} {w : World} {A : Around} {E : Value → Shared → Prop} {s : Shared} {a : Addr} {o : Obj} {i : Int} {u : Tok} {Q : Value → Shared → Prop} (ho : s.heap.get? a = some o) (hd : ∃ es ep, o.data = .dict es ep) (h : Q .notImplemented s) :
    wpAny (model prog w) A (call (.builtin "int.__ne__") [.int i u, .ref a]) Q E s := by
  obtain ⟨es, ep, hd⟩ := hd
  obtain ⟨c, dd, dt, sl⟩ := o
  subst hd
  refine wpAny_call_entry F.slot_int_ne_refl (typeIs_int s i u) F.entry_int_ne ?_ (F.args_int_ne_2 _ _)
  obtain ⟨hp, g, d, tk, os⟩ := s
  wp_walk using wpAny_loadPart' ho, wpAny_load ho
  exact ⟨_, rfl, h⟩
/-- a dict and an int are not equal -/
theorem dct_eq_int {prog : Program} {w : World} {A : Around} {E : Value → Shared → Prop} {s : Shared} {a : Addr} {o : Obj} {i : Int} {u : Tok} {Q : Value → Shared → Prop} (ho : s.heap.get? a = some o) (hT : s.TypeIs (.ref a) "dict") (hd : ∃ es ep, o.data = .dict es ep) (hu : A.units < cLine) (h : Q (.bool false) s) :
    wpAny (model prog w) A (compareOp .Eq (.ref a) (.int i u)) Q E s :=
  rc_eq_decline_or (k := false) hT (typeIs_int s i u) (by decide) F.sub_int_dict F.slot_dict_eq F.slot_int_eq_refl
    (fun _ hq => dict_eq_declines hT hq) (fun _ hq => int_eq_dec ho hd hq)
    (fun _ hq => wpAny_of_eq (rfl : isSame (.ref a) (.int i u) = pure false) hq) (.inr hu) h
theorem dct_ne_int {prog : Program} {w : World} {A : Around} {E : Value → Shared → Prop} {s : Shared} {a : Addr} {o : Obj} {i : Int} {u : Tok} {Q : Value → Shared → Prop} (ho : s.heap.get? a = some o) (hT : s.TypeIs (.ref a) "dict") (hd : ∃ es ep, o.data = .dict es ep) (hu : A.units < cLine) (h : Q (.bool true) s) :
    wpAny (model prog w) A (compareOp .NotEq (.ref a) (.int i u)) Q E s :=
  rc_ne_decline_or (k := false) hT (typeIs_int s i u) (by decide) F.sub_int_dict F.slot_dict_ne F.slot_int_ne_refl
    (fun _ hq => dict_ne_declines hT hq) (fun _ hq => int_ne_dec ho hd hq)
    (fun _ hq => wpAny_of_eq (rfl : isSame (.ref a) (.int i u) = pure false) hq) (.inr hu) h
end PySem.SeqAt
/-! Comparisons, places, built-ins. -/
namespace Ev
open PySem L2 PyProof.Rows
variable {N : Nms}
def cmS : Cm → CmpOp
  | .eq => .Eq | .ne => .NotEq | .lt => .Lt | .le => .LtE | .gt => .Gt | .ge => .GtE | .inn => .In | .nin => .NotIn | .isN => .Is | .notN => .IsNot
theorem nonB_of {n : Nat} {ad : Nat → Addr} {H : Hp} {M : Addr → Prop} {v : V} {x : D} (h : RepW N n ad (msk H M) H v x) : decide (v = .non) = nonB x := by
  cases h with
  | d h => cases h <;> rfl
  | c ok => rename_i c; cases c <;> rfl
theorem pys_len : ∀ xs : List D, (D.pys xs).length = xs.length
  | [] => rfl
  | x :: xs => by simp [D.pys, pys_len xs]
theorem any_py {x : D} {n : Nat} (hx : x.fin n = true) : ∀ ys : List D, D.fins n ys = true → (ys.any fun y => eqB y x) = (D.pys ys).any fun z => PyData.eqv z x.py
  | [], _ => rfl
  | y :: ys, h => by
    simp only [D.fins, Bool.and_eq_true] at h
    simp only [List.any_cons, D.pys, eqB_py n n y x h.1 hx, any_py hx ys h.2]
section
variable {X : Cx}
theorem fin_bl {pins : List (Addr × Obj)} {σ : L2.St} {H : Hp} {s : Shared} {Q : VK} {b : Bool} (I : Inv X pins σ H s) (q : Q (.bl b) H) : EP X pins σ Q (.bool b) s := ⟨.bl b, H, I, rfl, q⟩
theorem isDcI_is {x y : D} (h : isDcI x y = true) : ∃ ds i, x = .dct ds ∧ y = .int i := by
  cases x <;> first | exact nomatch (show false = true from h) | (cases y <;> first | exact ⟨_, _, rfl, rfl⟩ | exact nomatch (show false = true from h))
theorem dct_heap {pins : List (Addr × Obj)} {σ : L2.St} {H B : Hp} {s : Shared} {n : Nat} {ad : Nat → Addr} {a : Addr} {ds : List (D × D)} (I : Inv X pins σ H s) (h : (∃ kvs, Rd H a (.dK kvs) ∧ RepKs N n ad B kvs ds) ∨ ∃ kvs, Rd H a (.dT kvs) ∧ RepTs N n ad B kvs ds) :
    ∃ o, s.heap.get? a = some o ∧ s.TypeIs (.ref a) "dict" ∧ ∃ es ep, o.data = .dict es ep := by
  rcases h with ⟨kvs, e, _⟩ | ⟨kvs, e, _⟩
  · obtain ⟨_, _, vs, _, dd⟩ := dk_rd I.hok e
    have dd2 := dd
    obtain ⟨o, es, ep, h1, h2, h3, _⟩ := dd2
    exact ⟨o, h1, dd.typeIs, es, ep, h3⟩
  · obtain ⟨_, _, xs, _, dd⟩ := dt_rd I.hok e
    have dd2 := dd
    obtain ⟨o, es, ep, h1, h2, h3, _⟩ := dd2
    exact ⟨o, h1, dd.typeIs, es, ep, h3⟩
theorem op_cmp (hK : X.K = N.K) (hu : X.A.units + 200 < cLine) (c : Cm) : OpR X (compareOp (cmS c)) (rD2 N fun x y => (cmpF c x y).map .bl) := by
  intro pins s σ H x y v u Q I rx ry h
  obtain ⟨n, ad, M, a, b, z, hM, ra, rb, hf, q⟩ := h
  have q' : ∀ k, z = .bl k → Q (.bl k) H := fun k e => by subst e; exact q _ _ (Same.refl _) (.bl k)
  have rdA : ∀ {m : Nat}, a.fin m = true → ∃ as, Reads s.heap v a.py as := fun {m} hm => RepD.reads hK I m a hm ra.full rx
  have rdB : ∀ {m : Nat}, b.fin m = true → ∃ as, Reads s.heap u b.py as := fun {m} hm => RepD.reads hK I m b hm rb.full ry
  cases c with
  | eq =>
    simp only [cmpF, eqF] at hf
    split at hf
    · rename_i hc
      cases hf
      rcases Bool.or_eq_true _ _ ▸ hc with hc | hc
      · simp only [Bool.and_eq_true] at hc
        obtain ⟨as, h1⟩ := rdA hc.1
        obtain ⟨bs, h2⟩ := rdB hc.2
        obtain ⟨p1, p2⟩ := fin_plain _ _ hc.1
        obtain ⟨p3, p4⟩ := fin_plain _ _ hc.2
        refine SeqAt.eq_plain h1 h2 p1 p3 (by unfold dep at *; omega) (fin_bl I ?_)
        rw [← eqB_py _ _ _ _ hc.1 hc.2]
        exact q' _ rfl
      · obtain ⟨ds, i, rfl, rfl⟩ := isDcI_is hc
        obtain ⟨a', rfl, hd⟩ := ra.dctI
        obtain rfl := rb.intI
        obtain rfl : v = Value.ref a' := rx
        obtain ⟨t, rfl⟩ : ∃ t, u = Value.int i t := ry
        obtain ⟨o, h1, h2, h3⟩ := dct_heap I hd
        refine SeqAt.dct_eq_int h1 h2 h3 (by omega) (fin_bl I ?_)
        exact q' _ rfl
    · cases hf
  | ne =>
    simp only [cmpF, eqF] at hf
    split at hf
    · rename_i hc
      cases hf
      rcases Bool.or_eq_true _ _ ▸ hc with hc | hc
      · simp only [Bool.and_eq_true] at hc
        obtain ⟨as, h1⟩ := rdA hc.1
        obtain ⟨bs, h2⟩ := rdB hc.2
        obtain ⟨p1, p2⟩ := fin_plain _ _ hc.1
        obtain ⟨p3, p4⟩ := fin_plain _ _ hc.2
        refine SeqAt.ne_plain h1 h2 p1 p3 (by unfold dep at *; omega) (fin_bl I ?_)
        rw [← eqB_py _ _ _ _ hc.1 hc.2]
        exact q' _ rfl
      · obtain ⟨ds, i, rfl, rfl⟩ := isDcI_is hc
        obtain ⟨a', rfl, hd⟩ := ra.dctI
        obtain rfl := rb.intI
        obtain rfl : v = Value.ref a' := rx
        obtain ⟨t, rfl⟩ : ∃ t, u = Value.int i t := ry
        obtain ⟨o, h1, h2, h3⟩ := dct_heap I hd
        refine SeqAt.dct_ne_int h1 h2 h3 (by omega) (fin_bl I ?_)
        exact q' _ rfl
    · cases hf
  | lt =>
    simp only [cmpF, ltF] at hf
    split at hf
    · rename_i hc
      simp only [Bool.and_eq_true, Bool.not_eq_true'] at hc
      obtain ⟨⟨⟨h1, h2⟩, h3⟩, h4⟩ := hc
      cases hf
      obtain ⟨as, r1⟩ := rdA h1
      obtain ⟨bs, r2⟩ := rdB h2
      obtain ⟨p1, p2⟩ := fin_plain _ _ h1
      refine PySem.W.lt_data r1 r2 (alk_py _ _ h3) (by cases a <;> simp_all [D.py, nonB, D.fin, dep]) (by unfold dep at *; omega) (fin_bl I ?_)
      rw [← ltB_py _ _ _ _ h1 h2 h3]
      exact q' _ rfl
    · cases hf
  | gt =>
    simp only [cmpF, ltF] at hf
    split at hf
    · rename_i hc
      simp only [Bool.and_eq_true, Bool.not_eq_true'] at hc
      obtain ⟨⟨⟨h1, h2⟩, h3⟩, h4⟩ := hc
      cases hf
      obtain ⟨as, r1⟩ := rdA h2
      obtain ⟨bs, r2⟩ := rdB h1
      obtain ⟨p1, p2⟩ := fin_plain _ _ h2
      have h3' := alk_symm _ _ h3
      refine PySem.W.gt_data r1 r2 (alk_py _ _ h3') (by cases a <;> cases b <;> simp_all [D.py, nonB, alk]) (by unfold dep at *; omega) (fin_bl I ?_)
      rw [← ltB_py _ _ _ _ h1 h2 h3]
      exact q' _ rfl
    · cases hf
  | le =>
    simp only [cmpF, ltF] at hf
    split at hf
    · rename_i hc
      simp only [Bool.and_eq_true, Bool.not_eq_true'] at hc
      obtain ⟨⟨⟨h1, h2⟩, h3⟩, h4⟩ := hc
      cases hf
      obtain ⟨as, r1⟩ := rdA h2
      obtain ⟨bs, r2⟩ := rdB h1
      obtain ⟨p1, p2⟩ := fin_plain _ _ h2
      have h3' := alk_symm _ _ h3
      refine PySem.W.le_data r1 r2 (alk_py _ _ h3') (by cases a <;> cases b <;> simp_all [D.py, nonB, alk]) (by unfold dep at *; omega) (fin_bl I ?_)
      rw [← ltB_py _ _ _ _ h1 h2 h3]
      exact q' _ rfl
    · cases hf
  | ge =>
    simp only [cmpF, ltF] at hf
    split at hf
    · rename_i hc
      simp only [Bool.and_eq_true, Bool.not_eq_true'] at hc
      obtain ⟨⟨⟨h1, h2⟩, h3⟩, h4⟩ := hc
      cases hf
      obtain ⟨as, r1⟩ := rdA h1
      obtain ⟨bs, r2⟩ := rdB h2
      obtain ⟨p1, p2⟩ := fin_plain _ _ h1
      refine PySem.W.ge_data r1 r2 (alk_py _ _ h3) (by cases a <;> simp_all [D.py, nonB, D.fin, dep]) (by unfold dep at *; omega) (fin_bl I ?_)
      rw [← ltB_py _ _ _ _ h1 h2 h3]
      exact q' _ rfl
    · cases hf
  | inn =>
    cases b <;> simp only [cmpF, inF] at hf <;> try (cases hf; done)
    all_goals
      split at hf
      · rename_i ys hc
        simp only [Bool.and_eq_true] at hc
        cases hf
        obtain ⟨as, r1⟩ := rdA hc.1
        obtain ⟨bs, r2⟩ := rdB (m := dep + 1) (by simpa [D.fin] using hc.2)
        obtain ⟨p1, p2⟩ := fin_plain _ _ hc.1
        obtain ⟨p3, p4⟩ := fins_plain _ _ hc.2
        first
          | (refine SeqAt.in_list_data r2 r1 p3 p1 (by unfold dep at *; omega) (fin_bl I ?_)
             rw [← any_py hc.1 _ hc.2]
             exact q' _ rfl)
          | (refine SeqAt.in_tuple_data r2 r1 p3 p1 (by unfold dep at *; omega) (fin_bl I ?_)
             rw [← any_py hc.1 _ hc.2]
             exact q' _ rfl)
      · cases hf
  | nin =>
    cases b <;> simp only [cmpF, inF] at hf <;> try (cases hf; done)
    all_goals
      split at hf
      · rename_i ys hc
        simp only [Bool.and_eq_true] at hc
        cases hf
        obtain ⟨as, r1⟩ := rdA hc.1
        obtain ⟨bs, r2⟩ := rdB (m := dep + 1) (by simpa [D.fin] using hc.2)
        obtain ⟨p1, p2⟩ := fin_plain _ _ hc.1
        obtain ⟨p3, p4⟩ := fins_plain _ _ hc.2
        first
          | (refine SeqAt.notIn_list_data r2 r1 p3 p1 (by unfold dep at *; omega) (fin_bl I ?_)
             rw [← any_py hc.1 _ hc.2]
             exact q' _ rfl)
          | (refine SeqAt.notIn_tuple_data r2 r1 p3 p1 (by unfold dep at *; omega) (fin_bl I ?_)
             rw [← any_py hc.1 _ hc.2]
             exact q' _ rfl)
      · cases hf
  | isN =>
    cases b <;> simp only [cmpF] at hf <;> try (cases hf; done)
    · obtain rfl := rb.nonI
      cases hf
      refine op_isN pins s σ H x .non v u Q I rx ry ⟨rfl, ?_⟩
      rw [nonB_of ra]
      exact q' _ rfl
    · cases a <;> simp only [cmpF] at hf <;> try (cases hf; done)
      obtain rfl := ra.blI
      obtain rfl := rb.blI
      cases hf
      exact op_isBl pins s σ H _ _ v u Q I rx ry ⟨_, _, rfl, rfl, q' _ rfl⟩
  | notN =>
    cases b <;> simp only [cmpF] at hf <;> try (cases hf; done)
    · obtain rfl := rb.nonI
      cases hf
      refine op_notN pins s σ H x .non v u Q I rx ry ⟨rfl, ?_⟩
      rw [nonB_of ra]
      exact q' _ rfl
    · cases a <;> simp only [cmpF] at hf <;> try (cases hf; done)
      obtain rfl := ra.blI
      obtain rfl := rb.blI
      cases hf
      exact op_notBl pins s σ H _ _ v u Q I rx ry ⟨_, _, rfl, rfl, q' _ rfl⟩
end
end Ev

set_option autoImplicit false
set_option linter.all false
set_option maxRecDepth 100000
/-! Places, slices, built-ins. -/
namespace Ev
open PySem L2 PyProof.Rows
variable {N : Nms}
section
variable {n : Nat} {ad : Nat → Addr} {B H : Hp}
theorem RepDs.intsV : ∀ {xs : List V} {ds : List D} {is : List Int}, RepDs N n ad B xs ds → D.ints ds = some is → xs = is.map V.int
  | _, _, is, .nil, e => by cases e; rfl
  | _, _, is, .cons (d := d) (ds := ds) a b, e => by
    cases d <;> simp only [D.ints] at e <;> try (cases e; done)
    cases a
    cases h : D.ints ds with
    | none => rw [h] at e; cases e
    | some js =>
      rw [h] at e; cases e
      rw [RepDs.intsV b h]; rfl
theorem RepDs.blsV : ∀ {xs : List V} {ds : List D} {is : List Bool}, RepDs N n ad B xs ds → D.bls ds = some is → xs = is.map V.bl
  | _, _, is, .nil, e => by cases e; rfl
  | _, _, is, .cons (d := d) (ds := ds) a b, e => by
    cases d <;> simp only [D.bls] at e <;> try (cases e; done)
    cases a
    cases h : D.bls ds with
    | none => rw [h] at e; cases e
    | some js =>
      rw [h] at e; cases e
      rw [RepDs.blsV b h]; rfl
end
theorem minI_spec (x : Int) (xs : List Int) : minI x xs ∈ x :: xs ∧ ∀ y ∈ x :: xs, minI x xs ≤ y := by
  unfold minI
  induction xs generalizing x with
  | nil => simp
  | cons y ys ih =>
    simp only [List.foldl_cons]
    obtain ⟨h1, h2⟩ := ih (if y < x then y else x)
    refine ⟨?_, fun z hz => ?_⟩
    · rcases List.mem_cons.mp h1 with h | h
      · rw [h]; split <;> simp
      · simp [h]
    · have h3 := h2 (if y < x then y else x) (by simp)
      generalize List.foldl (fun a y => if y < a then y else a) (if y < x then y else x) ys = m at *
      rcases List.mem_cons.mp hz with rfl | hz
      · split at h3 <;> omega
      · rcases List.mem_cons.mp hz with rfl | hz
        · split at h3 <;> omega
        · exact h2 z (by simp [hz])
theorem maxI_spec (x : Int) (xs : List Int) : maxI x xs ∈ x :: xs ∧ ∀ y ∈ x :: xs, y ≤ maxI x xs := by
  unfold maxI
  induction xs generalizing x with
  | nil => simp
  | cons y ys ih =>
    simp only [List.foldl_cons]
    obtain ⟨h1, h2⟩ := ih (if x < y then y else x)
    refine ⟨?_, fun z hz => ?_⟩
    · rcases List.mem_cons.mp h1 with h | h
      · rw [h]; split <;> simp
      · simp [h]
    · have h3 := h2 (if x < y then y else x) (by simp)
      generalize List.foldl (fun a y => if a < y then y else a) (if x < y then y else x) ys = m at *
      rcases List.mem_cons.mp hz with rfl | hz
      · split at h3 <;> omega
      · rcases List.mem_cons.mp hz with rfl | hz
        · split at h3 <;> omega
        · exact h2 z (by simp [hz])
/-! ### places -/
theorem ixN_L2 (n : Nat) (i : Int) : Ev.ixN n i = L2.ixN n i := rfl
section
variable {X : Cx}
theorem ix_dget (hu : X.A.units + 1 < cLine) : IxR X (fun x y H Q => ∃ a v, x = .ref a ∧ DGet H a y (some v) ∧ Q v H) := by
  intro value slice pins s σ H x y v u Q I rx ry h hs
  obtain ⟨a, w, rfl, g, q⟩ := h
  obtain rfl : v = Value.ref a := rx
  exact tail_any (dict_typeIs I g) PySem.F.slot_dict_getitem.lookup (d_getItem hu I g ry fun w' s' I' rw' => ⟨w, H, I', rw', q⟩) hs
theorem ix_all (hK : X.K = N.K) (hu : X.A.units + 1 < cLine) : IxR X (rD2 N idxF) := by
  intro value slice pins s σ H x y v u Q I rx ry h hs
  obtain ⟨n, ad, M, a, b, z, hM, ra, rb, hf, q⟩ := h
  cases a <;> simp only [idxF] at hf <;> try (cases hf; done)
  · -- text
    rename_i tx
    cases b <;> simp only at hf <;> try (cases hf; done)
    rename_i i
    obtain rfl := ra.strI
    obtain rfl := rb.intI
    split at hf
    · rename_i hl
      cases hp : pickI tx.cps.toList i with
      | none => rw [hp] at hf; cases hf
      | some c =>
        rw [hp] at hf; cases hf
        exact ix_str value slice pins s σ H _ _ v u Q I rx ry ⟨_, _, c, rfl, rfl, by rw [sizeLine_line]; exact hl, hp, q _ _ (Same.refl _) (.str _)⟩ hs
    · cases hf
  · cases b <;> simp only at hf <;> try (cases hf; done)
    rename_i ds i
    obtain ⟨p, xs, rfl, _, sa, da⟩ := ra.tupI
    obtain rfl := rb.intI
    unfold pickI at hf
    cases hp : Ev.ixN ds.length i with
    | none => rw [hp] at hf; cases hf
    | some j =>
      rw [hp] at hf
      obtain ⟨w, e, rw'⟩ := da.get hf
      rw [← hK] at sa
      refine ix_tup value slice pins s σ H _ _ v u Q I rx ry ⟨_, _, _, w, rfl, rfl, sa, ?_, q _ _ (Same.refl _) rw'⟩ hs
      unfold atI
      rw [← ixN_L2, da.length, hp]
      exact e
  · cases b <;> simp only at hf <;> try (cases hf; done)
    rename_i ds i
    obtain ⟨p, xs, rfl, sa, da⟩ := ra.lstI
    obtain rfl := rb.intI
    unfold pickI at hf
    cases hp : Ev.ixN ds.length i with
    | none => rw [hp] at hf; cases hf
    | some j =>
      rw [hp] at hf
      obtain ⟨w, e, rw'⟩ := da.get hf
      rw [← hK] at sa
      refine ix_list value slice pins s σ H _ _ v u Q I rx ry ⟨_, _, _, w, rfl, rfl, sa, ?_, q _ _ (Same.refl _) rw'⟩ hs
      unfold atI
      rw [← ixN_L2, da.length, hp]
      exact e
  · split at hf
    · rename_i hk
      obtain ⟨a, o, rfl, g, c⟩ := ra.dget rb hk
      rcases c with ⟨e1, _⟩ | ⟨d, w, e1, rfl, rw'⟩
      · rw [e1] at hf; cases hf
      · rw [e1] at hf; cases hf
        exact ix_dget hu value slice pins s σ H _ _ v u Q I rx ry ⟨a, w, rfl, g, q _ _ (Same.refl _) rw'⟩ hs
    · cases hf
end
/-! ### slices -/
theorem clip_sIx (n d : Nat) (lo : Option Int) : HT.sIx n d lo = (match lo with | none => d | some i => clipI n i) := by
  cases lo with
  | none => rfl
  | some i =>
    show (if i < 0 then (i + (n : Int)).toNat else min i.toNat n) = clipI n i
    unfold clipI
    by_cases h : i < 0
    · rw [if_pos h, if_neg (by omega)]
    · rw [if_neg h, if_pos (by omega)]
theorem cutI_eq {α : Type} (xs : List α) (lo hi : Option Int) : cutI xs lo hi = (xs.drop (HT.sIx xs.length 0 lo)).take (HT.sIx xs.length xs.length hi - HT.sIx xs.length 0 lo) := by
  rw [clip_sIx, clip_sIx]
  cases lo <;> cases hi <;> rfl
theorem RepDs.cut {n : Nat} {ad : Nat → Addr} {B : Hp} {xs : List V} {ds : List D} (r : RepDs N n ad B xs ds) (lo hi : Option Int) : RepDs N n ad B (cutV xs lo hi) (cutI ds lo hi) := by
  rw [cutI_eq]
  unfold cutV
  rw [r.length]
  exact (r.drop _).take _
/-- a slice's reading -/
def rSl (N : Nms) : V → Option Int → Option Int → Hp → VK → Prop := fun x lo hi H Q => ∃ n ad M a z, (∀ p, M p → ∃ o, H p = some o) ∧ RepW N n ad (msk H M) H x a ∧
  (match a with
    | .lst xs => some (D.lst (cutI xs lo hi))
    | .tup xs => some (D.tup (cutI xs lo hi))
    | .str x => if x.cps.size ≤ line then some (D.str ⟨(cutI x.cps.toList lo hi).toArray⟩) else none
    | _ => none) = some z ∧ ∀ v H', Same H H' → RepD N n ad (msk H' M) v z → Q v H'
def rSlAll (K : PySem.W.Frag) : V → Option Int → Option Int → Hp → VK → Prop := fun x lo hi H Q => rSlL K x lo hi H Q ∨ rSlA K x lo hi H Q ∨ rSlS x lo hi H Q
theorem sl_all {X : Cx} : SlR X (rSlAll X.K) := SlR.or sl_list (SlR.or sl_tupA sl_str)
theorem rSl_all {K : PySem.W.Frag} (hK : K = N.K) {x : V} {lo hi : Option Int} {H : Hp} {Q : VK} (h : rSl N x lo hi H Q) : rSlAll K x lo hi H Q := by
  obtain ⟨n, ad, M, a, z, hM, ra, hf, q⟩ := h
  subst hK
  cases a <;> simp only at hf <;> try (cases hf; done)
  · rename_i tx
    obtain rfl := ra.strI
    split at hf
    · rename_i hl
      cases hf
      refine .inr (.inr ⟨tx, rfl, by rw [sizeLine_line]; exact hl, ?_⟩)
      have e : cutS tx lo hi = ⟨(cutI tx.cps.toList lo hi).toArray⟩ := by
        rw [cutI_eq]
        unfold cutS Str.length
        simp only [Array.length_toList]
      rw [e]
      exact q _ _ (Same.refl _) (.str _)
    · cases hf
  · cases hf
    obtain ⟨p, xs, rfl, sa', ta, sa, da⟩ := ra.tupI2
    refine .inr (.inl ⟨p, xs, rfl, sa, ?_⟩)
    have le := da.length
    have e := da.cut lo hi
    refine ⟨fun hw => ?_, fun hw p hp => q _ _ (new_same hp) (new_tup hM hp e)⟩
    have : cutV xs lo hi = xs := by
      unfold cutV
      rw [hw.1, hw.2]
      simp
    have e2 : ∀ ds : List D, xs.length = ds.length → cutI ds lo hi = ds := fun ds hl => by
      rw [cutI_eq, ← hl, hw.1, hw.2, hl]
      simp
    rw [this] at e
    refine q _ _ (Same.refl _) (.tup sa' (fun z => ta ?_) e)
    rw [e2 _ le] at z; exact z
  · cases hf
    obtain ⟨p, xs, rfl, sa, da⟩ := ra.lstI
    exact .inl ⟨p, xs, rfl, sa, fun p hp => q _ _ (new_same hp) (new_lst hM hp (da.cut lo hi))⟩
end Ev

set_option autoImplicit false
set_option linter.all false
set_option maxRecDepth 100000
/-! Built-in calls. -/
namespace Ev
open PySem L2 PyProof.Rows
variable {N : Nms}
def biV : Bi → Value
  | .len => .builtin "len" | .abs => .builtin "abs" | .int => .type "int" | .tuple => .type "tuple" | .list => .type "list" | .sum => .builtin "sum" | .all => .builtin "all" | .any => .builtin "any"
  | .min1 | .min2 => .builtin "min" | .max1 | .max2 => .builtin "max" | .sorted => .builtin "sorted" | .divmod => .builtin "divmod" | _ => .none
def biOk : Bi → Bool
  | .len | .abs | .int | .tuple | .list | .sum | .all | .any | .min1 | .min2 | .max1 | .max2 | .sorted | .divmod => true
  | _ => false
section
variable {n : Nat} {ad : Nat → Addr} {B H : Hp}
theorem RepWs.one {xs : List V} {a : D} (h : RepWs N n ad B H xs [a]) : ∃ x, xs = [x] ∧ RepW N n ad B H x a := by
  cases h with
  | cons a b => cases b; exact ⟨_, rfl, a⟩
theorem RepWs.two {xs : List V} {a b : D} (h : RepWs N n ad B H xs [a, b]) : ∃ x y, xs = [x, y] ∧ RepW N n ad B H x a ∧ RepW N n ad B H y b := by
  cases h with
  | cons a b =>
    cases b with
    | cons b c => cases c; exact ⟨_, _, rfl, a, b⟩
theorem RepKs.length : ∀ {vs : List (Key × V)} {ds : List (D × D)}, RepKs N n ad B vs ds → vs.length = ds.length
  | _, _, .nil => rfl
  | _, _, .cons _ b => by simp [RepKs.length b]
end
end Ev
namespace HTS
open PySem PySem.Calls PyProof.Rows PySem.W
section
variable {prog : Program} {w : World} {A : Around} {E : Value → Shared → Prop} {s : Shared}
theorem collect_tup {l : Addr} {vs : List Value} {Q : List Value → Shared → Prop} (hl : IsTup s.heap l vs.toArray)
    (h : Q vs { s with heap := (s.heap.push (seqObj "list" #[] 0)).update s.heap.objs.size (Obj.mapSeq (· ++ vs.toArray)) }) (hsz : vs.length ≤ sizeLine) :
    wpAny (model prog w) A (collect (.ref l)) Q E s := by
  obtain ⟨o, ho, hc, n, hd⟩ := id hl
  unfold collect
  refine wpAny_bind (wpAny_runValue (codeAny_builtin entry_proto_collect' ?_))
  show wpAny _ _ (do again (.builtin "list.__iadd__" ⟨[← newList [], .ref l], []⟩)) _ _ s
  refine wpAny_bind (wpAny_newList (wpAny_pure ⟨Code.quiet_builtin _ (by decide +kernel), codeAny_builtin entry_list_iadd' ?_⟩))
  show wpAny _ _ (Builtin.List.listExtendWith (.ref s.heap.objs.size) (.ref l) (.ref s.heap.objs.size)) _ _ { s with heap := s.heap.push (seqObj "list" #[] 0) }
  unfold Builtin.List.listExtendWith
  have ho' : (s.heap.push (seqObj "list" #[] 0)).get? l = some o := Heap.get?_push_of_some _ ho
  refine wpAny_bind (wpAny_typeOf (T := "tuple") ⟨o, ho', hc⟩ ?_)
  have ht : (Value.type "tuple" == Value.type "tuple") = true := by rfl
  rw [if_pos (by rw [ht]; simp)]
  refine wpAny_bind (listItems_at ho' hd ?_)
  refine wpAny_bind (listItems_at (xs := #[]) (n := 0) (Heap.get?_push_size _ rfl) rfl ?_)
  rw [if_neg (by simp)]
  refine wpAny_bind (listUpdate_at (xs := #[]) (n := 0) (Heap.get?_push_size _ rfl) rfl ?_ (Nat.zero_le _) (by show (#[] ++ vs.toArray).size ≤ sizeLine + 1; simp only [Array.size_append, List.size_toArray, List.length_nil]; omega))
  refine wpAny_pure ?_
  show wpAny (model prog w) A (do
      let o ← load s.heap.objs.size
      match o.data with
      | .seq xs _ => pure xs.toList
      | _ => unsupported "internal:collect") Q E { s with heap := (s.heap.push (seqObj "list" #[] 0)).update s.heap.objs.size (Obj.mapSeq (· ++ vs.toArray)) }
  refine wpAny_bind (wpAny_load (get?_update_seq (Heap.get?_push_size _ rfl) _) ?_)
  show wpAny _ _ (pure ((#[] : Array Value) ++ vs.toArray).toList) Q E _
  rw [show ((#[] : Array Value) ++ vs.toArray).toList = vs by simp]
  exact wpAny_pure h
theorem sorted_tup {l : Addr} {vs : List Value} {Q : Value → Shared → Prop} (hl : IsTup s.heap l vs.toArray) (hL : vs.length ≤ sizeLine)
    (body : ∀ E' : Value → Shared → Prop, wpAny (model prog w) A.in1.in1 (Builtin.«list.sort» ⟨[.ref (s.heap.objs.size + 1)], []⟩) (fun f s' => f = .done (.ret .none) ∧ Q (.ref (s.heap.objs.size + 1)) s') E' { s with heap := copyHeap s.heap vs }) :
    wpAny (model prog w) A (call (.builtin "sorted") [.ref l] []) Q E s := by
  refine call_function_entry_kw kind_sorted plain_sorted entry_sorted (args_sorted1 _) ?_
  unfold Builtin.«sorted»
  refine wpAny_bind (m := checkCount "sorted" 1 1 _) (wpAny_pure ?_)
  refine wpAny_bind (collect_tup hl ?_ hL)
  refine wpAny_bind (wpAny_newList ?_ hL)
  have hsz : ((s.heap.push (seqObj "list" #[] 0)).update s.heap.objs.size (Obj.mapSeq (· ++ vs.toArray))).objs.size = s.heap.objs.size + 1 := by
    rw [Heap.size_update, size_push']
  show wpAny _ _ _ _ _ { s with heap := copyHeap s.heap vs }
  rw [hsz]
  refine wpAny_bind (wpAny_holding (wpAny_call_entry_kw slot_list_sort ⟨_, copyHeap_at s.heap vs, rfl⟩ entry_list_sort ?body (args_list_sort _)))
  case body =>
    show wpAny (model prog w) A.in1.in1 (Builtin.«list.sort» ⟨[.ref (s.heap.objs.size + 1)], []⟩) _ _ _
    refine wpAny_mono (body _) (fun f s' hf => ?_) fun _ _ e => e
    obtain ⟨rfl, hq⟩ := hf
    exact ⟨_, rfl, wpAny_pure ⟨_, rfl, hq⟩⟩
theorem sorted_data_tup {α : Type} {R : Value → α → Prop} {bs : List α} {enc : α → PyData} {vs : List Value} {l : Addr} {Q : Value → Shared → Prop} (hl : IsTup s.heap l vs.toArray) (e : EachIs R vs bs) (er : EachIs (fun v b => ∃ as, Reads s.heap v (enc b) as) vs bs) (hal : AllAlike (bs.map enc)) (hk : Sortable (bs.map enc)) (hL : bs.length ≤ sizeLine)
    (hu : ∀ b, b ∈ bs → A.units + 2 + (enc b).depth < cLine) (h : ∀ out, out.length = bs.length → EachIs R out (bs.mergeSort (dataLe false enc)) → Q (.ref (s.heap.objs.size + 1)) { s with heap := sortedAll s.heap vs (List.toArray out) }) :
    wpAny (model prog w) A (call (.builtin "sorted") [.ref l]) Q E s := by
  have er' : EachIs (fun v b => ∃ as, Reads (sortingHeap (copyHeap s.heap vs) (s.heap.objs.size + 1) vs) v (enc b) as) vs bs := er.mono fun _ _ ⟨as, r⟩ => ⟨as, PyProof.Rows.Reads.keeps (fun _ _ => sorting_copy_old) r⟩
  exact sorted_tup hl (by rw [e.length]; exact hL) fun _ => list_sort_vals (s := { s with heap := copyHeap s.heap vs }) (copyHeap_at s.heap vs) (SortsAt.data (s := { s with heap := sortingHeap (copyHeap s.heap vs) (s.heap.objs.size + 1) vs }) (each_map (R := fun v d => ∃ as, Reads (sortingHeap (copyHeap s.heap vs) (s.heap.objs.size + 1) vs) v d as) enc er') hal hk (bound_map hu)) (by rw [e.length]; exact hL)
    ⟨rfl, h _ (by rw [sortVals_length false rfl]; exact e.length) (sortVals_data false e er' hal)⟩
end
end HTS
namespace Ev
open PySem L2 PyProof.Rows HTS
variable {N : Nms}
/-! ### sorted -/
theorem zip_mono {α β : Type} : ∀ {xs : List α} {ys : List β}, xs.length = ys.length → (xs.zip ys).map (·.1) = xs ∧ (xs.zip ys).map (·.2) = ys
  | [], [], _ => ⟨rfl, rfl⟩
  | [], _ :: _, h => by simp at h
  | _ :: _, [], h => by simp at h
  | x :: xs, y :: ys, h => by
    obtain ⟨h1, h2⟩ := zip_mono (xs := xs) (ys := ys) (by simpa using h)
    simp [h1, h2]
theorem RepDs.zipMem {n : Nat} {ad : Nat → Addr} {B : Hp} : ∀ {xs : List V} {ds : List D}, RepDs N n ad B xs ds → ∀ p ∈ xs.zip ds, RepD N n ad B p.1 p.2
  | _, _, .nil, p, h => by simp at h
  | _, _, .cons a b, p, h => by
    rcases List.mem_cons.mp h with rfl | h
    · exact a
    · exact RepDs.zipMem b p h
theorem RepDs.ofMem {n : Nat} {ad : Nat → Addr} {B : Hp} : ∀ {ps : List (V × D)}, (∀ p ∈ ps, RepD N n ad B p.1 p.2) → RepDs N n ad B (ps.map (·.1)) (ps.map (·.2))
  | [], _ => .nil
  | p :: ps, h => .cons (h p (by simp)) (RepDs.ofMem fun q hq => h q (by simp [hq]))
theorem each_zip {R : Value → V × D → Prop} : ∀ {its : List Value} {xs : List V} {ds : List D}, its.length = xs.length → xs.length = ds.length → (∀ (i : Nat) u x d, its[i]? = some u → xs[i]? = some x → ds[i]? = some d → R u (x, d)) → PySem.W.EachIs R its (xs.zip ds)
  | [], [], [], _, _, _ => .nil
  | u :: us, x :: xs, d :: ds, h1, h2, h => .cons (h 0 u x d rfl rfl rfl) (each_zip (by simpa using h1) (by simpa using h2) fun i a b c e1 e2 e3 => h (i + 1) a b c (by simpa using e1) (by simpa using e2) (by simpa using e3))
  | [], _ :: _, _, h, _, _ => by simp at h
  | _ :: _, [], _, h, _, _ => by simp at h
  | [], [], _ :: _, _, h, _ => by simp at h
  | _ :: _, _ :: _, [], _, h, _ => by simp at h
theorem each_vals {its : List Value} : ∀ {ps : List (V × D)}, PySem.W.EachIs (fun u (p : V × D) => RelV p.1 u) its ps → Vals (ps.map (·.1)) its := by
  intro ps h
  induction h with
  | nil => exact .nil
  | cons a _ ih => exact .cons a ih
theorem fins_mem {n : Nat} : ∀ {ds : List D}, D.fins n ds = true → ∀ d ∈ ds, d.fin n = true
  | [], _, d, h => by simp at h
  | x :: xs, h, d, hd => by
    simp only [D.fins, Bool.and_eq_true] at h
    rcases List.mem_cons.mp hd with rfl | hd
    · exact h.1
    · exact fins_mem h.2 d hd
theorem pys_map : ∀ ds : List D, D.pys ds = ds.map D.py
  | [] => rfl
  | d :: ds => by simp [D.pys, pys_map ds]
section
variable {X : Cx}
theorem sorted_okN (hK : X.K = N.K) (hu : X.A.units + 200 < cLine) {pins : List (Addr × Obj)} {σ : L2.St} {H : Hp} {s : Shared} {Q : VK} {n : Nat} {ad : Nat → Addr} {M : Addr → Prop} {x : V} {v : Value} {ds : List D}
    (I : Inv X pins σ H s) (hM : ∀ p, M p → ∃ o, H p = some o) (rx : RelV x v) (ra : RepW N n ad (msk H M) H x (.lst ds)) (h1 : D.fins dep ds = true) (h2 : allAlk ds = true) (h3 : srtOk ds = true) (h4 : ds.length ≤ line)
    (q : ∀ p ys, H p = none → RepDs N n ad (msk H M) ys (sortD ds) → Q (.ref p) (upd H p (.lst ys))) : wpAny (model X.prog X.w) X.A (call (.builtin "sorted") [v]) (EP X pins σ Q) X.xe s := by
  obtain ⟨a, xs, rfl, sa, da⟩ := ra.lstI
  cases rx
  have sa' := sa
  rw [← hK] at sa'
  obtain ⟨its, rv, hl, hz⟩ := I.list sa'
  have l1 := rv.length
  have l2 := da.length
  have all : ∀ d ∈ ds, ∀ e ∈ ds, alk d e = true := fun d hd e he => by
    unfold allAlk at h2
    simp only [List.all_eq_true, Bool.and_eq_true] at h2
    exact (h2 d hd).2 e he
  have e : PySem.W.EachIs (fun u (p : V × D) => RelV p.1 u) its (xs.zip ds) := each_zip l1.symm l2 fun i u x d e1 e2 e3 => by
    obtain ⟨u', h, r⟩ := rv.get e2
    rw [e1] at h; cases h
    exact r
  have er : PySem.W.EachIs (fun u (p : V × D) => ∃ as, Reads s.heap u p.2.py as) its (xs.zip ds) := each_zip l1.symm l2 fun i u x d e1 e2 e3 => by
    obtain ⟨u', h, r⟩ := rv.get e2
    rw [e1] at h; cases h
    obtain ⟨x', hx, rd⟩ := da.get e3
    rw [e2] at hx; cases hx
    exact RepD.reads hK I dep d (fins_mem h1 d (List.mem_of_getElem? e3)) (RepD.mono (Nat.le_refl _) (fun _ _ => rfl) sm_le _ rd) r
  have zm := zip_mono (ys := ds) l2
  have hal : PySem.W.AllAlike ((xs.zip ds).map fun p => p.2.py) := by
    intro d hd d' hd'
    obtain ⟨p, hp, rfl⟩ := List.mem_map.mp hd
    obtain ⟨p', hp', rfl⟩ := List.mem_map.mp hd'
    exact alk_py _ _ (all _ (List.of_mem_zip hp).2 _ (List.of_mem_zip hp').2)
  have hk : PySem.W.Sortable ((xs.zip ds).map fun p => p.2.py) := by
    unfold srtOk at h3
    simp only [Bool.or_eq_true, List.all_eq_true] at h3
    rcases h3 with h3 | h3
    · refine .inl fun d hd => ?_
      obtain ⟨p, hp, rfl⟩ := List.mem_map.mp hd
      have := h3 _ (List.of_mem_zip hp).2
      split at this
      · rename_i y ys e
        exact ⟨y.py, D.pys ys, by simp only [e, D.py, D.pys]⟩
      · cases this
    · refine .inr fun d hd => ?_
      obtain ⟨p, hp, rfl⟩ := List.mem_map.mp hd
      have g := h3 _ (List.of_mem_zip hp).2
      have f := fins_mem h1 _ (List.of_mem_zip hp).2
      generalize p.2 = y at g f
      cases y <;> simp_all [D.py, D.fin, dep]
  have hzl : (xs.zip ds).length = ds.length := by rw [List.length_zip, l2, Nat.min_self]
  refine PySem.W.sorted_data (bs := xs.zip ds) (enc := fun p => p.2.py) hl.isList e er hal hk (by rw [hzl, sizeLine_line]; exact h4) (fun p hp => ?_) fun out ho eo => ?_
  · have := (fin_plain dep p.2 (fins_mem h1 _ (List.of_mem_zip hp).2)).2
    unfold dep at this
    show X.A.units + 2 + p.2.py.depth < cLine
    omega
  · have le : ∀ p ∈ xs.zip ds, ∀ p' ∈ xs.zip ds, PySem.W.dataLe false (fun (p : V × D) => p.2.py) p p' = (fun a b => !ltB b a) p.2 p'.2 := fun p hp p' hp' => by
      have m1 := (List.of_mem_zip hp).2
      have m2 := (List.of_mem_zip hp').2
      rw [PySem.W.dataLe_eq]
      show (!PySem.W.dataLt p'.2.py p.2.py) = !ltB p'.2 p.2
      rw [ltB_py dep dep _ _ (fins_mem h1 _ m2) (fins_mem h1 _ m1) (all _ m2 _ m1)]
    have srt : ((xs.zip ds).mergeSort (PySem.W.dataLe false fun (p : V × D) => p.2.py)).map (·.2) = sortD ds := by
      unfold sortD
      conv => rhs; rw [← zm.2]
      exact List.map_mergeSort le
    have pm : ∀ p ∈ (xs.zip ds).mergeSort (PySem.W.dataLe false fun (p : V × D) => p.2.py), RepD N n ad (msk H M) p.1 p.2 := fun p hp => da.zipMem p (List.mem_mergeSort.mp hp)
    have rds := RepDs.ofMem pm
    rw [srt] at rds
    have rvo := each_vals eo
    obtain ⟨ep, he'⟩ := PyProof.Rows.sortedAll_at s.heap its out.toArray
    have hfresh : H (s.heap.objs.size + 1) = none := I.hok.fresh (Nat.le_succ _)
    have hlen : (((xs.zip ds).mergeSort (PySem.W.dataLe false fun (p : V × D) => p.2.py)).map (·.1)).length ≤ sizeLine := by
      rw [rvo.length, ho, hzl, sizeLine_line]; exact h4
    exact ⟨.ref _, upd H (s.heap.objs.size + 1) (.lst _), I.laid (t' := s.toks) (fun _ _ => PyProof.Rows.sortedAll_old) (Nat.le_succ _) ⟨hlen, out, ep, rvo, he'⟩, rfl, q _ _ hfresh rds⟩
theorem sorted_ok (hK : X.K = N.K) (hu : X.A.units + 200 < cLine) {pins : List (Addr × Obj)} {σ : L2.St} {H : Hp} {s : Shared} {Q : VK} {n : Nat} {ad : Nat → Addr} {M : Addr → Prop} {x : V} {v : Value} {ds : List D}
    (I : Inv X pins σ H s) (hM : ∀ p, M p → ∃ o, H p = some o) (rx : RelV x v) (ra : RepW N n ad (msk H M) H x (.lst ds)) (h1 : D.fins dep ds = true) (h2 : allAlk ds = true) (h3 : srtOk ds = true) (h4 : ds.length ≤ line)
    (q : ∀ v H', Same H H' → RepD N n ad (msk H' M) v (.lst (sortD ds)) → Q v H') : wpAny (model X.prog X.w) X.A (call (.builtin "sorted") [v]) (EP X pins σ Q) X.xe s :=
  sorted_okN hK hu I hM rx ra h1 h2 h3 h4 fun p ys hp rds => q _ _ (new_same hp) (new_lst hM hp rds)
theorem sorted_okNT (hK : X.K = N.K) (hu : X.A.units + 200 < cLine) {pins : List (Addr × Obj)} {σ : L2.St} {H : Hp} {s : Shared} {Q : VK} {n : Nat} {ad : Nat → Addr} {M : Addr → Prop} {x : V} {v : Value} {ds : List D}
    (I : Inv X pins σ H s) (hM : ∀ p, M p → ∃ o, H p = some o) (rx : RelV x v) (ra : RepW N n ad (msk H M) H x (.tup ds)) (h1 : D.fins dep ds = true) (h2 : allAlk ds = true) (h3 : srtOk ds = true) (h4 : ds.length ≤ line)
    (q : ∀ p ys, H p = none → RepDs N n ad (msk H M) ys (sortD ds) → Q (.ref p) (upd H p (.lst ys))) : wpAny (model X.prog X.w) X.A (call (.builtin "sorted") [v]) (EP X pins σ Q) X.xe s := by
  obtain ⟨a, xs, rfl, sa0, ta, sa, da⟩ := ra.tupI2
  cases rx
  have sa' := sa
  rw [← hK] at sa'
  obtain ⟨its, rv, hl, hz⟩ := I.tuple sa'
  have l1 := rv.length
  have l2 := da.length
  have all : ∀ d ∈ ds, ∀ e ∈ ds, alk d e = true := fun d hd e he => by
    unfold allAlk at h2
    simp only [List.all_eq_true, Bool.and_eq_true] at h2
    exact (h2 d hd).2 e he
  have e : PySem.W.EachIs (fun u (p : V × D) => RelV p.1 u) its (xs.zip ds) := each_zip l1.symm l2 fun i u x d e1 e2 e3 => by
    obtain ⟨u', h, r⟩ := rv.get e2
    rw [e1] at h; cases h
    exact r
  have er : PySem.W.EachIs (fun u (p : V × D) => ∃ as, Reads s.heap u p.2.py as) its (xs.zip ds) := each_zip l1.symm l2 fun i u x d e1 e2 e3 => by
    obtain ⟨u', h, r⟩ := rv.get e2
    rw [e1] at h; cases h
    obtain ⟨x', hx, rd⟩ := da.get e3
    rw [e2] at hx; cases hx
    exact RepD.reads hK I dep d (fins_mem h1 d (List.mem_of_getElem? e3)) (RepD.mono (Nat.le_refl _) (fun _ _ => rfl) sm_le _ rd) r
  have zm := zip_mono (ys := ds) l2
  have hal : PySem.W.AllAlike ((xs.zip ds).map fun p => p.2.py) := by
    intro d hd d' hd'
    obtain ⟨p, hp, rfl⟩ := List.mem_map.mp hd
    obtain ⟨p', hp', rfl⟩ := List.mem_map.mp hd'
    exact alk_py _ _ (all _ (List.of_mem_zip hp).2 _ (List.of_mem_zip hp').2)
  have hk : PySem.W.Sortable ((xs.zip ds).map fun p => p.2.py) := by
    unfold srtOk at h3
    simp only [Bool.or_eq_true, List.all_eq_true] at h3
    rcases h3 with h3 | h3
    · refine .inl fun d hd => ?_
      obtain ⟨p, hp, rfl⟩ := List.mem_map.mp hd
      have := h3 _ (List.of_mem_zip hp).2
      split at this
      · rename_i y ys e
        exact ⟨y.py, D.pys ys, by simp only [e, D.py, D.pys]⟩
      · cases this
    · refine .inr fun d hd => ?_
      obtain ⟨p, hp, rfl⟩ := List.mem_map.mp hd
      have g := h3 _ (List.of_mem_zip hp).2
      have f := fins_mem h1 _ (List.of_mem_zip hp).2
      generalize p.2 = y at g f
      cases y <;> simp_all [D.py, D.fin, dep]
  have hzl : (xs.zip ds).length = ds.length := by rw [List.length_zip, l2, Nat.min_self]
  refine sorted_data_tup (bs := xs.zip ds) (enc := fun p => p.2.py) hl e er hal hk (by rw [hzl, sizeLine_line]; exact h4) (fun p hp => ?_) fun out ho eo => ?_
  · have := (fin_plain dep p.2 (fins_mem h1 _ (List.of_mem_zip hp).2)).2
    unfold dep at this
    show X.A.units + 2 + p.2.py.depth < cLine
    omega
  · have le : ∀ p ∈ xs.zip ds, ∀ p' ∈ xs.zip ds, PySem.W.dataLe false (fun (p : V × D) => p.2.py) p p' = (fun a b => !ltB b a) p.2 p'.2 := fun p hp p' hp' => by
      have m1 := (List.of_mem_zip hp).2
      have m2 := (List.of_mem_zip hp').2
      rw [PySem.W.dataLe_eq]
      show (!PySem.W.dataLt p'.2.py p.2.py) = !ltB p'.2 p.2
      rw [ltB_py dep dep _ _ (fins_mem h1 _ m2) (fins_mem h1 _ m1) (all _ m2 _ m1)]
    have srt : ((xs.zip ds).mergeSort (PySem.W.dataLe false fun (p : V × D) => p.2.py)).map (·.2) = sortD ds := by
      unfold sortD
      conv => rhs; rw [← zm.2]
      exact List.map_mergeSort le
    have pm : ∀ p ∈ (xs.zip ds).mergeSort (PySem.W.dataLe false fun (p : V × D) => p.2.py), RepD N n ad (msk H M) p.1 p.2 := fun p hp => da.zipMem p (List.mem_mergeSort.mp hp)
    have rds := RepDs.ofMem pm
    rw [srt] at rds
    have rvo := each_vals eo
    obtain ⟨ep, he'⟩ := PyProof.Rows.sortedAll_at s.heap its out.toArray
    have hfresh : H (s.heap.objs.size + 1) = none := I.hok.fresh (Nat.le_succ _)
    have hlen : (((xs.zip ds).mergeSort (PySem.W.dataLe false fun (p : V × D) => p.2.py)).map (·.1)).length ≤ sizeLine := by
      rw [rvo.length, ho, hzl, sizeLine_line]; exact h4
    exact ⟨.ref _, upd H (s.heap.objs.size + 1) (.lst _), I.laid (t' := s.toks) (fun _ _ => PyProof.Rows.sortedAll_old) (Nat.le_succ _) ⟨hlen, out, ep, rvo, he'⟩, rfl, q _ _ hfresh rds⟩
theorem sorted_okT (hK : X.K = N.K) (hu : X.A.units + 200 < cLine) {pins : List (Addr × Obj)} {σ : L2.St} {H : Hp} {s : Shared} {Q : VK} {n : Nat} {ad : Nat → Addr} {M : Addr → Prop} {x : V} {v : Value} {ds : List D}
    (I : Inv X pins σ H s) (hM : ∀ p, M p → ∃ o, H p = some o) (rx : RelV x v) (ra : RepW N n ad (msk H M) H x (.tup ds)) (h1 : D.fins dep ds = true) (h2 : allAlk ds = true) (h3 : srtOk ds = true) (h4 : ds.length ≤ line)
    (q : ∀ v H', Same H H' → RepD N n ad (msk H' M) v (.lst (sortD ds)) → Q v H') : wpAny (model X.prog X.w) X.A (call (.builtin "sorted") [v]) (EP X pins σ Q) X.xe s :=
  sorted_okNT hK hu I hM rx ra h1 h2 h3 h4 fun p ys hp rds => q _ _ (new_same hp) (new_lst hM hp rds)
/-- sorted, a new list -/
def rSrtN (N : Nms) : List V → Hp → VK → Prop := fun xs H Q => ∃ x n ad M ds, xs = [x] ∧ (∀ p, M p → ∃ o, H p = some o) ∧ (RepW N n ad (msk H M) H x (.lst ds) ∨ RepW N n ad (msk H M) H x (.tup ds)) ∧ D.fins dep ds = true ∧ allAlk ds = true ∧ srtOk ds = true ∧ ds.length ≤ line ∧
  ∀ p ys, H p = none → RepDs N n ad (msk H M) ys (sortD ds) → Q (.ref p) (upd H p (.lst ys))
theorem call_srtN (hK : X.K = N.K) (hu : X.A.units + 200 < cLine) : CallR X (.builtin "sorted") (rSrtN N) := by
  intro pins s σ H xs us Q I r h
  obtain ⟨x, n, ad, M, ds, rfl, hM, w, h1, h2, h3, h4, q⟩ := h
  obtain ⟨u, rfl, ru⟩ := vals1 r
  rcases w with w | w
  · exact sorted_okN hK hu I hM ru w h1 h2 h3 h4 q
  · exact sorted_okNT hK hu I hM ru w h1 h2 h3 h4 q
theorem call_bi (hK : X.K = N.K) (hu : X.A.units + 200 < cLine) (hc : X.calm = true) (b : Bi) (hb : biOk b = true) : CallR X (biV b) (rDs N (biF b)) := by
  intro pins s σ H xs us Q I r h
  obtain ⟨n, ad, M, as, z, hM, ra, hf, q⟩ := h
  have fin1 : ∀ a, as = [a] → ∃ x u, xs = [x] ∧ us = [u] ∧ RelV x u ∧ RepW N n ad (msk H M) H x a := fun a e => by
    subst e
    obtain ⟨x, rfl, w⟩ := ra.one
    obtain ⟨u, rfl, ru⟩ := vals1 r
    exact ⟨x, u, rfl, rfl, ru, w⟩
  cases b <;> try (simp [biOk] at hb; done)
  · -- len
    rcases as with _ | ⟨a0, as1⟩
    · exact nomatch (show (none : Option D) = some z from hf)
    rcases as1 with _ | ⟨a1, as1⟩
    rotate_left
    · cases a0 <;> first | exact nomatch (show (none : Option D) = some z from hf) | (simp [biF] at hf; done)
    cases a0 <;> try (exact nomatch (show (none : Option D) = some z from hf))
    · rename_i x
      obtain ⟨_, u, rfl, rfl, ru, w⟩ := fin1 _ rfl
      obtain rfl := w.strI
      simp only [biF] at hf
      split at hf
      · rename_i hl
        cases hf
        exact call_len pins s σ H _ _ Q I r ⟨_, x.cps.size, rfl, ⟨by rw [sizeLine_line]; exact hl, rfl⟩, q _ _ (Same.refl _) (.int _)⟩
      · cases hf
    · rename_i ds
      obtain ⟨_, u, rfl, rfl, ru, w⟩ := fin1 _ rfl
      obtain ⟨a, ys, rfl, _, sa, da⟩ := w.tupI
      cases hf
      rw [← hK] at sa
      exact call_len pins s σ H _ _ Q I r ⟨_, ds.length, rfl, .inr ⟨ys, sa, da.length.symm⟩, q _ _ (Same.refl _) (.int _)⟩
    · rename_i ds
      obtain ⟨_, u, rfl, rfl, ru, w⟩ := fin1 _ rfl
      obtain ⟨a, ys, rfl, sa, da⟩ := w.lstI
      cases hf
      rw [← hK] at sa
      exact call_len pins s σ H _ _ Q I r ⟨_, ds.length, rfl, .inl ⟨ys, sa, da.length.symm⟩, q _ _ (Same.refl _) (.int _)⟩
  · -- abs
    rcases as with _ | ⟨a0, as1⟩
    · exact nomatch (show (none : Option D) = some z from hf)
    rcases as1 with _ | ⟨a1, as1⟩
    rotate_left
    · cases a0 <;> first | exact nomatch (show (none : Option D) = some z from hf) | (simp [biF] at hf; done)
    cases a0 <;> try (exact nomatch (show (none : Option D) = some z from hf))
    rename_i i
    obtain ⟨_, u, rfl, rfl, ru, w⟩ := fin1 _ rfl
    obtain rfl := w.intI
    cases hf
    exact call_abs pins s σ H _ _ Q I r ⟨i, rfl, q _ _ (Same.refl _) (.int _)⟩
  · -- int
    rcases as with _ | ⟨a0, as1⟩
    · exact nomatch (show (none : Option D) = some z from hf)
    rcases as1 with _ | ⟨a1, as1⟩
    rotate_left
    · cases a0 <;> first | exact nomatch (show (none : Option D) = some z from hf) | (simp [biF] at hf; done)
    cases a0 <;> try (exact nomatch (show (none : Option D) = some z from hf))
    · rename_i i
      obtain ⟨_, u, rfl, rfl, ru, w⟩ := fin1 _ rfl
      obtain rfl := w.blI
      cases hf
      exact call_int1 pins s σ H _ _ Q I r (.inr ⟨i, rfl, q _ _ (Same.refl _) (.int _)⟩)
    · rename_i i
      obtain ⟨_, u, rfl, rfl, ru, w⟩ := fin1 _ rfl
      obtain rfl := w.intI
      cases hf
      exact call_int1 pins s σ H _ _ Q I r (.inl ⟨i, rfl, q _ _ (Same.refl _) (.int _)⟩)
  · -- tuple
    rcases as with _ | ⟨a0, as1⟩
    · exact nomatch (show (none : Option D) = some z from hf)
    rcases as1 with _ | ⟨a1, as1⟩
    rotate_left
    · cases a0 <;> first | exact nomatch (show (none : Option D) = some z from hf) | (simp [biF] at hf; done)
    cases a0 <;> try (exact nomatch (show (none : Option D) = some z from hf))
    · rename_i ds
      obtain ⟨_, u, rfl, rfl, ru, w⟩ := fin1 _ rfl
      obtain ⟨a, ys, rfl, sa', ta, sa, da⟩ := w.tupI2
      cases hf
      rw [← hK] at sa
      exact call_tuple_of pins s σ H _ _ Q I r ⟨a, ys, rfl, .inr ⟨sa, q _ _ (Same.refl _) (.tup sa' ta da)⟩⟩
    · rename_i ds
      obtain ⟨_, u, rfl, rfl, ru, w⟩ := fin1 _ rfl
      obtain ⟨a, ys, rfl, sa, da⟩ := w.lstI
      cases hf
      rw [← hK] at sa
      exact call_tuple_of pins s σ H _ _ Q I r ⟨a, ys, rfl, .inl ⟨sa, fun l hl => q _ _ (new_same hl) (new_tup hM hl da)⟩⟩
  · -- list
    rcases as with _ | ⟨a0, as1⟩
    · exact nomatch (show (none : Option D) = some z from hf)
    rcases as1 with _ | ⟨a1, as1⟩
    rotate_left
    · cases a0 <;> first | exact nomatch (show (none : Option D) = some z from hf) | (simp [biF] at hf; done)
    cases a0 <;> try (exact nomatch (show (none : Option D) = some z from hf))
    · rename_i ds
      obtain ⟨_, u, rfl, rfl, ru, w⟩ := fin1 _ rfl
      obtain ⟨a, ys, rfl, sa', sa, da⟩ := w.tupI
      cases hf
      rw [← hK] at sa
      exact call_list_of pins s σ H _ _ Q I r ⟨a, ys, rfl, .inr sa, fun l hl => q _ _ (new_same hl) (new_lst hM hl da)⟩
    · rename_i ds
      obtain ⟨_, u, rfl, rfl, ru, w⟩ := fin1 _ rfl
      obtain ⟨a, ys, rfl, sa, da⟩ := w.lstI
      cases hf
      rw [← hK] at sa
      exact call_list_of pins s σ H _ _ Q I r ⟨a, ys, rfl, .inl sa, fun l hl => q _ _ (new_same hl) (new_lst hM hl da)⟩
  · -- sum
    rcases as with _ | ⟨a0, as1⟩
    · exact nomatch (show (none : Option D) = some z from hf)
    rcases as1 with _ | ⟨a1, as1⟩
    rotate_left
    · cases a0 <;> first | exact nomatch (show (none : Option D) = some z from hf) | (simp [biF] at hf; done)
    cases a0 <;> try (exact nomatch (show (none : Option D) = some z from hf))
    rename_i ds
    obtain ⟨_, u, rfl, rfl, ru, w⟩ := fin1 _ rfl
    obtain ⟨a, ys, rfl, sa, da⟩ := w.lstI
    simp only [biF] at hf
    cases e : D.ints ds with
    | none => rw [e] at hf; cases hf
    | some is =>
      rw [e] at hf; cases hf
      rw [← hK, da.intsV e] at sa
      exact cr_sum hc pins s σ H _ _ Q I r ⟨a, is, rfl, sa, q _ _ (Same.refl _) (.int _)⟩
  · -- min1
    rcases as with _ | ⟨a0, as1⟩
    · exact nomatch (show (none : Option D) = some z from hf)
    rcases as1 with _ | ⟨a1, as1⟩
    rotate_left
    · cases a0 <;> first | exact nomatch (show (none : Option D) = some z from hf) | (simp [biF] at hf; done)
    cases a0 <;> try (exact nomatch (show (none : Option D) = some z from hf))
    rename_i l0
    rcases l0 with _ | ⟨b0, ds⟩ <;> try (exact nomatch (show (none : Option D) = some z from hf))
    cases b0 <;> try (exact nomatch (show (none : Option D) = some z from hf))
    rename_i i
    obtain ⟨_, u, rfl, rfl, ru, w⟩ := fin1 _ rfl
    obtain ⟨a, ys, rfl, sa, da⟩ := w.lstI
    simp only [biF] at hf
    cases e : D.ints ds with
    | none => rw [e] at hf; cases hf
    | some is =>
      rw [e] at hf; cases hf
      have e' : D.ints (.int i :: ds) = some (i :: is) := by simp [D.ints, e]
      rw [← hK, da.intsV e'] at sa
      refine cr_min hc pins s σ H _ _ Q I r ⟨a, i :: is, rfl, sa, by simp, fun m hm hle => ?_⟩
      obtain ⟨h1, h2⟩ := minI_spec i is
      have : m = minI i is := Int.le_antisymm (hle _ h1) (h2 _ hm)
      rw [this]
      exact q _ _ (Same.refl _) (.int _)
  · -- max1
    rcases as with _ | ⟨a0, as1⟩
    · exact nomatch (show (none : Option D) = some z from hf)
    rcases as1 with _ | ⟨a1, as1⟩
    rotate_left
    · cases a0 <;> first | exact nomatch (show (none : Option D) = some z from hf) | (simp [biF] at hf; done)
    cases a0 <;> try (exact nomatch (show (none : Option D) = some z from hf))
    rename_i l0
    rcases l0 with _ | ⟨b0, ds⟩ <;> try (exact nomatch (show (none : Option D) = some z from hf))
    cases b0 <;> try (exact nomatch (show (none : Option D) = some z from hf))
    rename_i i
    obtain ⟨_, u, rfl, rfl, ru, w⟩ := fin1 _ rfl
    obtain ⟨a, ys, rfl, sa, da⟩ := w.lstI
    simp only [biF] at hf
    cases e : D.ints ds with
    | none => rw [e] at hf; cases hf
    | some is =>
      rw [e] at hf; cases hf
      have e' : D.ints (.int i :: ds) = some (i :: is) := by simp [D.ints, e]
      rw [← hK, da.intsV e'] at sa
      refine cr_max hc pins s σ H _ _ Q I r ⟨a, i :: is, rfl, sa, by simp, fun m hm hle => ?_⟩
      obtain ⟨h1, h2⟩ := maxI_spec i is
      have : m = maxI i is := Int.le_antisymm (h2 _ hm) (hle _ h1)
      rw [this]
      exact q _ _ (Same.refl _) (.int _)
  · -- min2
    rcases as with _ | ⟨a0, as1⟩
    · exact nomatch (show (none : Option D) = some z from hf)
    cases a0 <;> try (exact nomatch (show (none : Option D) = some z from hf))
    rcases as1 with _ | ⟨a1, as1⟩
    · exact nomatch (show (none : Option D) = some z from hf)
    cases a1 <;> try (exact nomatch (show (none : Option D) = some z from hf))
    rcases as1 with _ | ⟨a2, as1⟩
    rotate_left
    · exact nomatch (show (none : Option D) = some z from hf)
    rename_i i j
    obtain ⟨x, y, rfl, w1, w2⟩ := ra.two
    obtain rfl := w1.intI
    obtain rfl := w2.intI
    cases hf
    exact call_min2 hc pins s σ H _ _ Q I r ⟨i, j, rfl, q _ _ (Same.refl _) (.int _)⟩
  · -- max2
    rcases as with _ | ⟨a0, as1⟩
    · exact nomatch (show (none : Option D) = some z from hf)
    cases a0 <;> try (exact nomatch (show (none : Option D) = some z from hf))
    rcases as1 with _ | ⟨a1, as1⟩
    · exact nomatch (show (none : Option D) = some z from hf)
    cases a1 <;> try (exact nomatch (show (none : Option D) = some z from hf))
    rcases as1 with _ | ⟨a2, as1⟩
    rotate_left
    · exact nomatch (show (none : Option D) = some z from hf)
    rename_i i j
    obtain ⟨x, y, rfl, w1, w2⟩ := ra.two
    obtain rfl := w1.intI
    obtain rfl := w2.intI
    cases hf
    exact call_max2 hc pins s σ H _ _ Q I r ⟨i, j, rfl, q _ _ (Same.refl _) (.int _)⟩
  · -- all
    rcases as with _ | ⟨a0, as1⟩
    · exact nomatch (show (none : Option D) = some z from hf)
    rcases as1 with _ | ⟨a1, as1⟩
    rotate_left
    · cases a0 <;> first | exact nomatch (show (none : Option D) = some z from hf) | (simp [biF] at hf; done)
    cases a0 <;> try (exact nomatch (show (none : Option D) = some z from hf))
    rename_i ds
    obtain ⟨_, u, rfl, rfl, ru, w⟩ := fin1 _ rfl
    obtain ⟨a, ys, rfl, sa, da⟩ := w.lstI
    simp only [biF] at hf
    cases e : D.bls ds with
    | none => rw [e] at hf; cases hf
    | some is =>
      rw [e] at hf; cases hf
      rw [← hK, da.blsV e] at sa
      exact cr_all hc pins s σ H _ _ Q I r ⟨a, is, rfl, sa, q _ _ (Same.refl _) (.bl _)⟩
  · -- any
    rcases as with _ | ⟨a0, as1⟩
    · exact nomatch (show (none : Option D) = some z from hf)
    rcases as1 with _ | ⟨a1, as1⟩
    rotate_left
    · cases a0 <;> first | exact nomatch (show (none : Option D) = some z from hf) | (simp [biF] at hf; done)
    cases a0 <;> try (exact nomatch (show (none : Option D) = some z from hf))
    rename_i ds
    obtain ⟨_, u, rfl, rfl, ru, w⟩ := fin1 _ rfl
    obtain ⟨a, ys, rfl, sa, da⟩ := w.lstI
    simp only [biF] at hf
    cases e : D.bls ds with
    | none => rw [e] at hf; cases hf
    | some is =>
      rw [e] at hf; cases hf
      rw [← hK, da.blsV e] at sa
      exact cr_any hc pins s σ H _ _ Q I r ⟨a, is, rfl, sa, q _ _ (Same.refl _) (.bl _)⟩
  · -- sorted
    rcases as with _ | ⟨a0, as1⟩
    · exact nomatch (show (none : Option D) = some z from hf)
    rcases as1 with _ | ⟨a1, as1⟩
    rotate_left
    · cases a0 <;> first | exact nomatch (show (none : Option D) = some z from hf) | (simp [biF] at hf; done)
    cases a0 <;> try (exact nomatch (show (none : Option D) = some z from hf))
    · rename_i ds
      obtain ⟨_, u, rfl, rfl, ru, w⟩ := fin1 _ rfl
      have hf : (if _ then _ else _) = _ := hf
      split at hf
      · rename_i hh
        simp only [Bool.and_eq_true, decide_eq_true_eq] at hh
        cases hf
        exact sorted_okT hK hu I hM ru w hh.1.1.1 hh.1.1.2 hh.1.2 hh.2 q
      · cases hf
    · rename_i ds
      obtain ⟨_, u, rfl, rfl, ru, w⟩ := fin1 _ rfl
      have hf : (if _ then _ else _) = _ := hf
      split at hf
      · rename_i hh
        simp only [Bool.and_eq_true, decide_eq_true_eq] at hh
        cases hf
        exact sorted_ok hK hu I hM ru w hh.1.1.1 hh.1.1.2 hh.1.2 hh.2 q
      · cases hf
  · -- divmod
    rcases as with _ | ⟨a0, as1⟩
    · exact nomatch (show (none : Option D) = some z from hf)
    cases a0 <;> try (exact nomatch (show (none : Option D) = some z from hf))
    rcases as1 with _ | ⟨a1, as1⟩
    · exact nomatch (show (none : Option D) = some z from hf)
    cases a1 <;> try (exact nomatch (show (none : Option D) = some z from hf))
    rcases as1 with _ | ⟨a2, as1⟩
    rotate_left
    · exact nomatch (show (none : Option D) = some z from hf)
    rename_i i j
    obtain ⟨x, y, rfl, w1, w2⟩ := ra.two
    obtain rfl := w1.intI
    obtain rfl := w2.intI
    have hf : (if _ then _ else _) = _ := hf
    split at hf
    · rename_i hh
      cases hf
      exact call_divmod pins s σ H _ _ Q I r ⟨i, j, rfl, hh, fun p hp => q _ _ (new_same hp) (new_tup hM hp (.cons (.int _) (.cons (.int _) .nil)))⟩
    · cases hf
end
end Ev

set_option autoImplicit false
set_option linter.all false
set_option maxRecDepth 100000
/-! The syntax that the core tells, and what its expressions do. -/
namespace Ev
open PySem L2 PyProof.Rows
/-- names: the module's defs, classes, constants -/
structure Nam where
  fn : Nat → Option Str
  cls : List Str
  con : Nat → Option Str
  par : Nat → List Str
  exc : Nat → Option Str := fun _ => none
  hnd : Nat → Option Str := fun _ => none
  eqs : Nat → Bool := fun _ => false
  nsb : Nat → Nat → Bool := fun _ _ => false
  exi : Bool := false
  exfn : Nat → Bool := fun _ => false
/-- a scope: the slots' names, whether it is an except suite -/
structure Sx where
  N : List Str
  sc : Scope
  ow : Scope
  hot : Bool
/-- a comprehension's block within -/
def Sx.blk (c : Sx) (s : Scope) : Sx := { c with sc := relS s c.sc, ow := s }
def celB (sc : Scope) (x : Str) : Bool := match sc.names.lookup x with
  | some .cell => true
  | _ => false
def visB (sc : Scope) (x : Str) : Bool := match sc.names.lookup x with
  | some .local | some .cell | some .free => true
  | _ => false
def locB (sc : Scope) (x : Str) : Bool := match sc.names.lookup x with
  | some .local => true
  | _ => false
def glB (sc : Scope) (x : Str) : Bool := match sc.names.lookup x with
  | some .globalImplicit => true
  | _ => false
def dbgB (x : Str) : Bool := !(x == ("__debug__" : Str)) && !(x == ("__classdict__" : Str)) && !(x == ("__name__" : Str))
def noSlice : Expr → Bool
  | .Slice _ _ _ _ => false
  | _ => true
def noCall : Expr → Bool
  | .Call (.Name _ _) [] [] _ => false
  | _ => true
theorem noCall_base {x : Expr} {m : Str} {env : Env} {w : Sem PySem.Value} (h : noCall x = true) : attributeBase x m env w = w := by
  unfold attributeBase
  split
  · exact nomatch (show false = true from h)
  · rfl
def noSet : Expr → Bool
  | .Set _ _ _ => false
  | _ => true
def okPart (f : Expr → Bool) (n : Bool) : Option Expr → Bool
  | none => n
  | some e => f e && !n
def plainE : Expr → Bool
  | .Starred _ _ => false
  | _ => true
def tyName : Ty → Option Str
  | .int => some "int" | .bool => some "bool" | .str => some "str" | .tuple => some "tuple" | .list => some "list" | .dict => some "dict" | .cls _ => none
def biName : Bi → Str
  | .len => "len" | .abs => "abs" | .int => "int" | .tuple => "tuple" | .list => "list" | .sum => "sum" | .all => "all" | .any => "any"
  | .min1 | .min2 => "min" | .max1 | .max2 => "max" | .sorted => "sorted" | .set => "set" | .str => "str" | .divmod => "divmod" | .sset => "sorted"
/-- the names that must be built-in ones -/
def bltNames : List Str := ["len", "abs", "int", "tuple", "list", "sum", "all", "any", "min", "max", "sorted", "set", "str", "divmod", "isinstance", "bool", "dict", "range", "enumerate", "zip", "reversed", "ValueError", "super"]
mutual
def tgSl : Tg → List Nat
  | .v i => [i]
  | .tup ts => tgSls ts
def tgSls : Tgs → List Nat
  | .nil => []
  | .cons t ts => tgSl t ++ tgSls ts
end
section
variable (T : Nam) (N : Nms) (c : Sx)
def okTy (t : Ty) (e : Expr) : Bool := match t, e with
  | .cls k, .Name x _ => decide (T.cls[k]? = some x) && glB c.sc x && dbgB x
  | t, .Name x _ => decide (tyName t = some x) && glB c.sc x
  | _, _ => false
def okTys : List Ty → List Expr → Bool
  | [], [] => true
  | t :: ts, e :: es => okTy T c t e && okTys ts es
  | _, _ => false
def okTysE (ts : List Ty) : Expr → Bool
  | .Tuple l _ _ => okTys T c ts l && decide (ts.length ≤ 100)
  | _ => false
def okIsi : List Ty → Expr → Bool
  | [t], z => okTy T c t z
  | ts, z => okTysE T c ts z
/-- what range(..) is given -/
def rgArgs : Expr → List Expr
  | .Call (.Name r _) l [] _ => if decide (r = "range") && glB c.sc r then l else []
  | _ => []
def okRg (fa fb : Expr → Bool) (z : Bool) : List Expr → Bool
  | [y] => z && fb y && plainE y
  | [x, y] => fa x && plainE x && fb y && plainE y
  | _ => false
def okRg3 (fa fb fc : Expr → Bool) : List Expr → Bool
  | [x, y, z] => fa x && plainE x && fb y && plainE y && fc z && plainE z
  | _ => false
mutual
def okTg : Tg → Expr → Bool
  | .v i, e => match e with
    | .Name x _ => decide (c.N[i]? = some x) && (locB c.sc x || celB c.sc x && celB c.ow x)
    | _ => false
  | .tup ts, e => match e with
    | .Tuple es _ _ => okTgs ts es && !c.hot
    | _ => false
def okTgs : Tgs → List Expr → Bool
  | .nil, es => match es with
    | [] => true
    | _ => false
  | .cons t ts, es => match es with
    | e :: es => okTg t e && okTgs ts es
    | _ => false
end
end
def mmName : Mm → Str
  | .append => "append" | .extend => "extend" | .pop | .popAt => "pop" | .reverse => "reverse" | .clear => "clear" | .insert => "insert" | .remove => "remove"
def mmOk : Mm → Bool
  | .append | .extend | .pop | .popAt | .reverse | .clear => true
  | _ => false
/-- a comprehension's own slots -/
def ownOf (N : List Str) (own : List Nat) : List (Str × Nat) := own.filterMap fun i => (N[i]?).map fun x => (x, i)
def isZero : Ex → Bool
  | .int i => decide (i = 0)
  | _ => false
/-- a constant -/
def okC : Ex → Expr → Bool
  | .int i, .Constant (.int j) _ _ => decide (i = j)
  | .str i, .Constant (.str j) _ _ => decide (i = j)
  | .bl i, .Constant (.bool j) _ _ => i == j
  | .non, .Constant .none _ _ => true
  | _, _ => false
def okDs : Exs → Exs → List (Option Expr) → List Expr → Bool
  | .nil, .nil, [], [] => true
  | .cons k ks, .cons v vs, some x :: kl, y :: vl => okC k x && (cDk k).isSome && okC v y && okDs ks vs kl vl
  | _, _, _, _ => false
theorem okDs_mark {ks vs : Exs} {kl : List (Option Expr)} {vl : List Expr} (h : okDs ks vs kl vl = true) : isMark ks vs = false := by
  cases ks with
  | nil => rfl
  | cons k ks =>
    cases vs with
    | nil => cases k <;> cases ks <;> rfl
    | cons v vs =>
      cases k <;> first | rfl | skip
      exfalso
      rcases kl with _ | ⟨_ | x, kl⟩ <;> rcases vl with _ | ⟨y, vl⟩ <;> simp [okDs, cDk] at h
/-- a dict's keys -/
def okKeys (c : Sx) : It → Expr → Bool
  | .keys j, .Name x _ => decide (c.N[j]? = some x) && visB c.sc x && dbgB x
  | _, _ => false
mutual
def okX (T : Nam) (N : Nms) (c : Sx) : Ex → Expr → Bool
  | .v i, e => match e with
    | .Name x _ => decide (c.N[i]? = some x) && visB c.sc x && dbgB x
    | _ => false
  | .con g, e => match e with
    | .Name x _ => decide (T.con g = some x) && glB c.sc x && dbgB x
    | _ => false
  | .int i, e => match e with
    | .Constant (.int j) _ _ => decide (i = j)
    | _ => false
  | .str i, e => match e with
    | .Constant (.str j) _ _ => decide (i = j)
    | _ => false
  | .bl i, e => match e with
    | .Constant (.bool j) _ _ => i == j
    | _ => false
  | .non, e => match e with
    | .Constant .none _ _ => true
    | _ => false
  | .bin op a b, e => match e with
    | .BinOp x o y _ => decide (o = opS op) && okX T N c a x && okX T N c b y
    | _ => false
  | .neg a, e => match e with
    | .UnaryOp .USub x _ => okX T N c a x
    | _ => false
  | .not a, e => match e with
    | .UnaryOp .Not x _ => okX T N c a x
    | .Compare x [.NotEq] [y] _ => match a with
      | .meth (.eqo ds) k o m (.cons b .nil) => T.eqs k && ds.all (T.nsb k) && decide (N.nm m = "__eq__") && okX T N c o x && okX T N c b y && !behindInMarks .NotEq y && !c.hot
      | _ => false
    | _ => false
  | .and es, e => match e with
    | .BoolOp .And l _ => okBs T N c es l
    | _ => false
  | .or es, e => match e with
    | .BoolOp .Or l _ => okBs T N c es l
    | _ => false
  | .ife t a b, e => match e with
    | .IfExp z x y _ => okX T N c t z && okX T N c a x && okX T N c b y
    | _ => false
  | .cmp o a b, e => match e with
    | .Compare x [o'] [y] _ => decide (o' = cmS o) && okX T N c a x && okX T N c b y && !behindInMarks o' y
    | _ => false
  | .chain o o2 a b d, e => match e with
    | .Compare x [o', o2'] [y, z] _ => decide (o' = cmS o) && decide (o2' = cmS o2) && okX T N c a x && okX T N c b y && okX T N c d z && !lastMarks [o', o2'] [y, z]
    | _ => false
  | .tup es, e => match e with
    | .Tuple l _ _ => okXs T N c es l
    | _ => false
  | .lst es, e => match e with
    | .List l _ => okXs T N c es l
    | _ => false
  | .dct ks vs, e => match e with
    | .Dict kl vl _ => okDs ks vs kl vl && decide (kl.length ≤ 15)
    | _ => false
  | .new e, x => okN T N c e x
  | .bad, _ => true
  | .idx a i, e => match e with
    | .Subscript x y _ => okX T N c a x && okX T N c i y && noSlice y
    | _ => false
  | .sl a lo hi, e => match e with
    | .Subscript x (.Slice l h none _) _ => okX T N c a x && okPart (okX T N c lo) lo.isNon l && okPart (okX T N c hi) hi.isNon h
    | _ => false
  | .rev a, e => match e with
    | .Subscript x (.Slice none none (some (.UnaryOp .USub (.Constant (.int i) _ _) _)) _) _ => decide (i = 1) && okX T N c a x
    | _ => false
  | .srt a, e => match e with
    | .Call (.Name x _) [.Call (.Name y _) [z] [] _] [] _ => decide (x = "sorted") && decide (y = "set") && glB c.sc x && glB c.sc y && okX T N c a z && plainE z && !c.hot
    | _ => false
  | .lns a, e => match e with
    | .Call (.Name x _) [.Call (.Name y _) [z] [] _] [] _ => decide (x = "len") && decide (y = "set") && glB c.sc x && glB c.sc y && okX T N c a z && plainE z && !c.hot
    | _ => false
  | .attr a f, e => match e with
    | .Attribute x y _ => okX T N c a x && decide (y = N.nm f) && noCall x
    | _ => false
  | .call q f es, e => match e with
    | .Call (.Name x _) (y :: l) [] _ => decide (T.fn f = some x) && glB c.sc x && dbgB x && okXs T N c es (y :: l) && !c.hot
    | .Call (.Name x _) [] [] _ => decide (T.fn f = some x) && glB c.sc x && dbgB x && okXs T N c es [] && !c.hot
    | _ => false
  | .mk k es, e => match e with
    | .Call (.Name x _) l [] _ => decide (T.cls[k]? = some x) && glB c.sc x && dbgB x && okXs T N c es l && !c.hot
    | _ => false
  | .mkN _ _, _ => false
  | .meth q k o m es, e => match e with
    | .Compare x [.Eq] [y] _ => match q, es with
      | .eqo ds, .cons b .nil => ds.all (T.nsb k) && decide (N.nm m = "__eq__") && okX T N c o x && okX T N c b y && !behindInMarks .Eq y && !c.hot
      | _, _ => false
    | .Call (.Attribute x n ap) l [] cp => decide (n = N.nm m) && noCall x && (ap.endLine == cp.line) && decide (l.length < 28) && okX T N c o x && okXs T N c es l && !c.hot
    | _ => false
  | .bi b es, e => match e with
    | .Call (.Name x _) (y :: l) [] _ => decide (x = biName b) && biOk b && glB c.sc x && okXs T N c es (y :: l) && !c.hot
    | _ => false
  | .bm m o es, e => match e with
    | .Call (.Attribute x n ap) [y, z] [] cp => decide (m = .get) && decide (n = "get") && noCall x && (ap.endLine == cp.line) && okX T N c o x && okXs T N c es [y, z]
    | .Call (.Attribute x n ap) [y] [] cp => ((decide (m = .index) && decide (n = "index")) || (decide (m = .count) && decide (n = "count"))) && noCall x && (ap.endLine == cp.line) && okX T N c o x && okXs T N c es [y]
    | _ => false
  | .mm m o es, e => match e with
    | .Call (.Attribute x n ap) l [] cp => decide (n = mmName m) && mmOk m && noCall x && (ap.endLine == cp.line) && decide (l.length < 28) && okX T N c o x && okXs T N c es l
    | _ => false
  | .ext _ _, _ => false
  | .sdef o k, e => match e with
    | .Call (.Attribute x n ap) [y, .List [] _] [] cp => decide (n = "setdefault") && noCall x && (ap.endLine == cp.line) && okX T N c o x && okX T N c k y && plainE y
    | _ => false
  | .rg t a b, e => match e with
    | .Call (.Name x _) [z] [] _ => decide (x = if t then "tuple" else "list") && glB c.sc x && !c.hot && okRg (okX T N c a) (okX T N c b) (isZero a) (rgArgs c z)
    | _ => false
  | .rg3 a b d, e => match e with
    | .Call (.Name x _) [z] [] _ => decide (x = "tuple") && glB c.sc x && !c.hot && okRg3 (okX T N c a) (okX T N c b) (okX T N c d) (rgArgs c z)
    | _ => false
  | .isi a ts, e => match e with
    | .Call (.Name x _) [y, z] [] _ => decide (x = "isinstance") && glB c.sc x && okX T N c a y && plainE y && okIsi T c ts z
    | _ => false
  | .lc elt tg it ifs own, e => match e with
    | .ListComp x [⟨t, i, l, k⟩] sc _ => decide (k = 0) && blkC c.N c.sc sc (ownOf c.N own) && decide ((ownOf c.N own).map (·.2) = own) && (okIt T N c it t i || okKeys c it i) && okTg (c.blk sc) tg t && (tgSl tg).all (fun i => own.contains i) && okQs T N (c.blk sc) ifs l && okX T N (c.blk sc) elt x && !c.hot && noSet i
    | _ => false
/-- a new list -/
def okN (T : Nam) (N : Nms) (c : Sx) : Ex → Expr → Bool
  | .lst es, e => match e with
    | .List l _ => okXs T N c es l
    | _ => false
  | .lc elt tg it ifs own, e => match e with
    | .ListComp x [⟨t, i, l, k⟩] sc _ => decide (k = 0) && blkC c.N c.sc sc (ownOf c.N own) && decide ((ownOf c.N own).map (·.2) = own) && okIt T N c it t i && okTg (c.blk sc) tg t && (tgSl tg).all (fun i => own.contains i) && okQs T N (c.blk sc) ifs l && okX T N (c.blk sc) elt x && !c.hot && noSet i
    | _ => false
  | .dct ks vs, e => match e with
    | .Dict [] [] _ => okDs ks vs [] [] || isMark ks vs
    | _ => false
  | .bi b es, e => match e with
    | .Call (.Name x _) (y :: l) [] _ => (decide (b = .list) && decide (x = "list") || decide (b = .sorted) && decide (x = "sorted")) && glB c.sc x && okXs T N c es (y :: l)
    | _ => false
  | .rg t a b, e => match e with
    | .Call (.Name x _) [z] [] _ => !t && decide (x = "list") && glB c.sc x && !c.hot && okRg (okX T N c a) (okX T N c b) (isZero a) (rgArgs c z)
    | _ => false
  | _, _ => false
def okBs (T : Nam) (N : Nms) (c : Sx) : Exs → List Expr → Bool
  | .nil, l => match l with
    | [] => true
    | _ => false
  | .cons e es, l => match l with
    | x :: l => okX T N c e x && okBs T N c es l
    | _ => false
def okXs (T : Nam) (N : Nms) (c : Sx) : Exs → List Expr → Bool
  | .nil, l => match l with
    | [] => true
    | _ => false
  | .cons e es, l => match l with
    | x :: l => okX T N c e x && plainE x && okXs T N c es l
    | _ => false
def okQs (T : Nam) (N : Nms) (c : Sx) : Exs → List Expr → Bool
  | .nil, l => match l with
    | [] => true
    | _ => false
  | .cons e es, l => match es, l with
    | .nil, [x] => okX T N c e x
    | _, _ => false
def okIt (T : Nam) (N : Nms) (c : Sx) : It → Expr → Expr → Bool
  | .val e, _, x => okX T N c e x && noSet x
  | .rng1 e, _, x => match x with
    | .Call (.Name r _) [y] [] _ => decide (r = "range") && glB c.sc r && okX T N c e y && plainE y
    | _ => false
  | .rng2 a b, _, x => match x with
    | .Call (.Name r _) [y, z] [] _ => decide (r = "range") && glB c.sc r && okX T N c a y && plainE y && okX T N c b z && plainE z
    | _ => false
  | .enum e n, t, x => match t with
    | .Tuple _ _ _ => (match x with
      | .Call (.Name r _) [y] [] _ => decide (n = 0) && decide (r = "enumerate") && glB c.sc r && okX T N c e y && plainE y
      | .Call (.Name r _) [y, .Constant (.int k) _ _] [] _ => decide (n = k) && decide (0 ≤ n) && decide (n < 1000) && decide (r = "enumerate") && glB c.sc r && okX T N c e y && plainE y
      | _ => false)
    | _ => false
  | .zip a b, t, x => match t with
    | .Tuple _ _ _ => (match x with
      | .Call (.Name r _) [y, z] [] _ => decide (r = "zip") && glB c.sc r && okX T N c a y && plainE y && okX T N c b z && plainE z
      | _ => false)
    | _ => false
  | .rev e, _, x => match x with
    | .Call (.Name r _) [y] [] _ => decide (r = "reversed") && glB c.sc r && okX T N c e y && plainE y
    | _ => false
  | _, _, _ => false
end
end Ev

set_option autoImplicit false
set_option linter.all false
set_option maxRecDepth 100000
/-! Contexts; the readings of small expressions. -/
namespace Ev
open PySem L2 PyProof.Rows
/-- what isinstance looks at -/
inductive Tag where | non | bl | int | str | tup | lst | dct | obj (c : Nat)
def tagV (N : Nms) : Tag → Value
  | .non => .type "NoneType" | .bl => .type "bool" | .int => .type "int" | .str => .type "str" | .tup => .type "tuple" | .lst => .type "list" | .dct => .type "dict" | .obj c => .ref (N.cl c)
def tyV1 (N : Nms) : Ty → Value
  | .int => .type "int" | .bool => .type "bool" | .str => .type "str" | .tuple => .type "tuple" | .list => .type "list" | .dict => .type "dict" | .cls c => .ref (N.cl c)
def tyVV (N : Nms) : Ty → V
  | .int => .ty "int" | .bool => .ty "bool" | .str => .ty "str" | .tuple => .ty "tuple" | .list => .ty "list" | .dict => .ty "dict" | .cls c => .ref (N.cl c)
def tagOf : D → Option Tag
  | .non => some .non | .bl _ => some .bl | .int _ => some .int | .str _ => some .str | .tup _ => some .tup | .lst _ => some .lst | .dct kvs => if isTd kvs = true then none else some .dct | .obj c _ => some (.obj c) | .ref _ => none
def isTag (sub : Nat → Nat → Bool) : Tag → Ty → Bool
  | .int, .int | .bl, .int | .bl, .bool | .str, .str | .tup, .tuple | .lst, .list | .dct, .dict => true
  | .obj c, .cls c' => sub c c'
  | _, _ => false
theorem isTy_tag (sub : Nat → Nat → Bool) (x : D) (t : Tag) (ty : Ty) (h : tagOf x = some t) : isTy sub x ty = isTag sub t ty := by
  cases x <;> simp only [tagOf] at h <;> (try split at h) <;> cases h <;> cases ty <;> rfl
/-- a class of exceptions without an __init__ of its own -/
structure ExcP (K : PySem.W.Frag) (C : Addr) : Prop where
  ex : PySem.W.excIn K C He.veBase "ValueError.__new__" = true
  kp : PySem.W.keepIn K (.ref C) = true
  sb : PySem.W.subIn K (.ref C) (.type "BaseException") = some true
  ty : PySem.W.typeIn K (.ref C) = some (.type "type")
/-- a class with an own == and the common != -/
structure EqC (K : PySem.W.Frag) (C : Addr) : Prop where
  ne : PySem.W.findIn K (.ref C) "__ne__" = some (some (.builtin "object.__ne__"))
  ob : PySem.W.subIn K (.ref C) (.type "object") = some true
def eqcB (K : PySem.W.Frag) (C : Addr) : Bool := decide (PySem.W.findIn K (.ref C) "__ne__" = some (some (.builtin "object.__ne__"))) && decide (PySem.W.subIn K (.ref C) (.type "object") = some true)
theorem eqcB_ok {K : PySem.W.Frag} {C : Addr} (h : eqcB K C = true) : EqC K C := by
  unfold eqcB at h
  rw [Bool.and_eq_true] at h
  exact ⟨of_decide_eq_true h.1, of_decide_eq_true h.2⟩
/-- a class of exceptions, as an except suite asks for it -/
structure HxC (K : PySem.W.Frag) (C : Addr) : Prop where
  e : ExcC K C
  x : XfC K C
  v : PySem.W.kitOne K (.ref C) (.type "ValueError") = some true
def hxB (K : PySem.W.Frag) (C : Addr) : Bool := xfB K C && decide (PySem.W.findIn K (.ref C) "__class__" = some (some (.builtin "object.__class__"))) && decide (PySem.W.specialIn K (.builtin "object.__class__") "__get__" = some (some (.builtin "getset_descriptor.__get__"))) &&
  decide (PySem.W.takesIn K (.builtin "object.__class__") = some true) && decide (PySem.W.mroIn K C (.type "object") = some true) && decide (PySem.W.kitOne K (.ref C) (.type "ValueError") = some true)
theorem hxB_ok {K : PySem.W.Frag} {C : Addr} (h : hxB K C = true) : HxC K C := by
  unfold hxB at h
  simp only [Bool.and_eq_true, decide_eq_true_eq] at h
  obtain ⟨⟨⟨⟨⟨h1, h2⟩, h3⟩, h4⟩, h5⟩, h6⟩ := h
  have x := xfB_ok h1
  exact ⟨⟨x.ga, x.gg, x.exC, x.hdC, h2, h3, h4, h5⟩, x, h6⟩
/-- the promise of an __init__ of an own class of exceptions: its arguments are the fields -/
def spXI (C : Addr) (fs : List Str) : Sp := fun vs H Q _ => ∃ (a : Addr) (ws : List V), vs = .ref a :: ws ∧ ws.length = fs.length ∧ H a = some (exo a C none) ∧ ∀ d, H d = none → d ≠ a → Q .non (upd (upd H d (exd d (fs.zip ws))) a (exo a C (some d)))
/-- an own class of exceptions whose __init__ keeps it -/
structure XfP (P : Program) (w : World) (K : PySem.W.Frag) (mg : Str → Option Value) (base : Heap) (C : Addr) (fs : List Str) : Prop where
  oex : OexC K C
  ini : ∃ (fI : Addr) (ps : List Str) (fd : FuncData), PySem.W.findIn K (.ref C) "__init__" = some (some (.ref fI)) ∧ PySem.W.typeIn K (.ref fI) = some (.type "function") ∧ FnOk P w K mg base (L2.CX P w) 1 fI fd ps (spXI C fs) ∧ Binds K fd ps []
/-- the text's facts of a context: W: what is wanted of an exception -/
structure XOk (T : Nam) (N : Nms) (G : Tab) (c : Sx) (X : Cx) (W : WX) : Prop where
  hK : X.K = N.K
  hN : X.N = c.N
  nd : c.N.Nodup
  sc : X.env.scope = c.sc
  un : X.A.units + 200 < cLine
  calm : c.hot = false → X.calm = true
  fnc : ∀ x, c.ow.names.lookup x = some .cell → X.fn x = true
  tk : Takes X W
  blt : ∀ x ∈ bltNames, X.mg x = none
  con : ∀ (g : Nat) (x : Str), T.con g = some x → ∃ d v u, G.con[g]? = some d ∧ X.mg x = some u ∧ RelV v u ∧ (match d with | .ref _ => False | _ => True) ∧ ∀ n ad B, RepD N n ad B v d
  cls : ∀ (k : Nat) (x : Str), T.cls[k]? = some x → X.mg x = some (.ref (N.cl k))
  exn : ∀ (k : Nat) (x : Str), T.exc k = some x → X.mg x = some (.ref (N.cl k))
  hdn : ∀ (k : Nat) (x : Str), T.hnd k = some x → X.mg x = some (.ref (N.cl k))
  exo : ∀ (k : Nat), G.exf k = some [] → ExcP N.K (N.cl k)
  exm : ∀ (j k : Nat) (x : Str), (G.exf j).isSome = true → T.hnd k = some x → PySem.W.exmOne N.K (.ref (N.cl j)) (.ref (N.cl k)) = some (G.sub j k)
  exi : T.exi = true → ∀ j, (G.exf j).isSome = true → HxC N.K (N.cl j) ∧ (∀ k x, T.hnd k = some x → PySem.W.kitOne N.K (.ref (N.cl j)) (.ref (N.cl k)) = some (G.sub j k)) ∧ ∀ fs, G.exf j = some fs → ∀ f ∈ fs, PySem.W.findIn N.K (.ref (N.cl j)) (N.nm f) = some none
  exf : ∀ k, T.exfn k = true → ∃ fs, G.exf k = some fs ∧ fs ≠ [] ∧ fs.length ≤ 1000 ∧ XfP X.prog X.w X.K X.mg X.base (N.cl k) (fs.map N.nm)
  rm : c.hot = false → Room 2 X.A
  eqs : ∀ k, T.eqs k = true → EqC N.K (N.cl k)
  nsb : ∀ k d, T.nsb k d = true → PySem.W.subIn N.K (.ref (N.cl d)) (.ref (N.cl k)) = some false
  ncl : T.cls.length = G.ncls
  nm : ∀ f g, N.nm f = N.nm g → f = g
  kit : ∀ tg ty, (match tg with | .obj c => c < T.cls.length ∧ G.isa c = true | _ => True) → (match ty with | .cls c => c < T.cls.length ∧ G.isa c = true | _ => True) → PySem.W.kitOne N.K (tagV N tg) (tyV1 N ty) = some (isTag G.sub tg ty)
  fld : ∀ k < T.cls.length, Cls N.K (N.cl k) ∧ (∀ f, G.isf k f = true → NoAttr N.K (N.cl k) (N.nm f))
  ist : ∀ k < T.cls.length, G.isa k = true → PySem.W.findIn N.K (.ref (N.cl k)) "__class__" = some (some (.builtin "object.__class__")) ∧
    PySem.W.specialIn N.K (.builtin "object.__class__") "__get__" = some (some (.builtin "getset_descriptor.__get__")) ∧ PySem.W.takesIn N.K (.builtin "object.__class__") = some true ∧ PySem.W.mroIn N.K (N.cl k) (.type "object") = some true
variable {T : Nam} {N : Nms} {G : Tab} {c : Sx} {X : Cx} {W : WX}
theorem vis_of (h : X.env.scope = c.sc) {x : Str} (v : visB c.sc x = true) : Vis X.env.scope x := by
  rw [h]
  unfold visB at v
  unfold Vis
  split at v <;> simp_all
theorem gl_of (h : X.env.scope = c.sc) {x : Str} (v : glB c.sc x = true) : Gl X x := by
  show X.env.scope.names.lookup x = some .globalImplicit
  rw [h]
  unfold glB at v
  split at v
  · assumption
  · cases v
theorem dbg_of {x : Str} (v : dbgB x = true) : (x == ("__debug__" : Str)) = false ∧ (x == ("__classdict__" : Str)) = false ∧ (x == ("__name__" : Str)) = false := by
  unfold dbgB at v
  simp only [Bool.and_eq_true, Bool.not_eq_true'] at v
  exact ⟨v.1.1, v.1.2, v.2⟩
/-- an expression's two readings -/
structure Good (N : Nms) (W : WX) (X : Cx) (e : Expr) (m : M PV) : Prop where
  pe : PE X e (tX N W m)
  pt : PT X e (tT N W (M.bind m toB))
theorem toB_inv {ad : Nat → Addr} {σ : L2.St} {H : Hp} {s : S} {F : Addr → Prop} {pv : PV} {K : Bool → S → (Nat → Addr) → Hp → Prop} (h : Gar N W ad σ H s F (toB pv s) K) (R : Rel N ad σ H s F) : ∃ b, pv = .d (.bl b) ∧ K b s ad H := by
  unfold toB at h
  split at h
  · exact ⟨_, rfl, h ad H R Post.refl⟩
  · exact h.elim
theorem tX_tB {m : M PV} : ∀ σ H Q, tT N W (M.bind m toB) σ H Q → tB (tX N W m) σ H Q := by
  rintro σ H Q ⟨ad, s, F, R, h⟩
  refine ⟨ad, s, F, R, (Gar.bind h).mono fun pv s1 ad1 H1 R1 P1 h1 v rv => ?_⟩
  obtain ⟨b, rfl, k⟩ := toB_inv h1 R1
  cases rv
  exact ⟨b, rfl, k⟩
theorem Good.val {e : Expr} {m : M PV} (h : PE X e (tX N W m)) (he : ∀ whole, isTrue e X.env whole = (do let v ← whole; standAt e.pos; holding [v] (truthy v))) : Good N W X e m :=
  ⟨h, pt_imp (pt_val h he) tX_tB⟩
theorem Gar.pure {α : Type} {ad : Nat → Addr} {σ : L2.St} {H : Hp} {s : S} {F : Addr → Prop} {a : α} {K : α → S → (Nat → Addr) → Hp → Prop} (R : Rel N ad σ H s F) (h : Gar N W ad σ H s F (.ok a s) K) : K a s ad H := h ad H R Post.refl
/-- data that is there without a step -/
theorem tX_pure {d : D} {v : V} (hd : ∀ n ad B, RepD N n ad B v d) : ∀ σ H Q, tX N W (M.pure (.d d)) σ H Q → tC v σ H Q := by
  rintro σ H Q ⟨ad, s, F, R, h⟩
  exact Gar.pure R h v (hd _ _ _)
theorem tX_var {i : Nat} : ∀ σ H Q, tX N W (varM i) σ H Q → tVar i σ H Q := by
  rintro σ H Q ⟨ad, s, F, R, h⟩
  unfold varM at h
  cases hl : s.loc1 i with
  | none => rw [hl] at h; exact h.elim
  | some lv =>
    rw [hl] at h
    cases lv with
    | d x =>
      obtain ⟨v, e, r⟩ := R.dat i x (loc1_some.mp hl)
      exact ⟨v, e, Gar.pure R h v r⟩
    | own ce =>
      obtain ⟨a, e, _⟩ := R.own (.sl i) ce (get_sl.mpr (loc1_some.mp hl))
      rw [adr_sl] at e
      exact ⟨_, e, Gar.pure R h _ e⟩
example (f : FT) (i : Nat) : evX G f (.v i) = varM i := by rfl
example (f : FT) (a b : Ex) (op : Op) : evX G f (.bin op a b) = two (evX G f a) (evX G f b) (binF op) := by rfl
/-- storing: no step of the model -/
theorem store_ok {ad : Nat → Addr} {σ : L2.St} {H : Hp} {s : S} {F : Addr → Prop} {pv : PV} {v : V} {K : D → S → (Nat → Addr) → Hp → Prop} (R : Rel N ad σ H s F) (r : RepPV N ad σ H s F v pv) (h : Gar N W ad σ H s F (pv.store s) K) :
    ∃ d s', Rel N ad σ H s' F ∧ Post ad σ H s ad σ H s' F ∧ RepD N s'.cel.length ad (msk H (Mk ad σ s' F)) v d ∧ K d s' ad H := by
  cases pv with
  | d x => exact ⟨x, s, R, Post.refl, r, h ad H R Post.refl⟩
  | own i =>
    have r : σ[i]? = some (some v) := r
    have h : Gar N W ad σ H s F (match s.loc1 i with
      | some (LV.own c) => Res.ok c.toD { s with loc := s.loc.set i (some (LV.d c.toD)) }
      | some (LV.d x) => Res.ok x s
      | none => Res.stk) K := h
    cases hl : s.loc1 i with
    | none => rw [hl] at h; exact h.elim
    | some lv =>
      rw [hl] at h
      cases lv with
      | d x =>
        obtain ⟨w, e, rd⟩ := R.dat i x (loc1_some.mp hl)
        rw [r] at e; cases e
        exact ⟨x, s, R, Post.refl, rd, h ad H R Post.refl⟩
      | own ce =>
        obtain ⟨a, e, rd, R', P'⟩ := R.freeze (get_sl.mpr (loc1_some.mp hl))
        rw [r] at e; cases e
        exact ⟨_, _, R', P', rd, h ad H R' P'⟩
theorem tD_store {m : M PV} : ∀ σ H Q, tD N W (M.bind m fun x => x.store) σ H Q → tX N W m σ H Q := by
  rintro σ H Q ⟨ad, s, F, R, h⟩
  refine ⟨ad, s, F, R, (Gar.bind h).mono fun pv s1 ad1 H1 R1 P1 h1 v rv => ?_⟩
  obtain ⟨d, s', R', P', rd, k⟩ := store_ok R1 rv h1
  exact k v rd
/-- lists of values -/
theorem tAs_nil : ∀ σ H Q, tAs N W (M.pure []) σ H Q → tNil σ H Q := by
  rintro σ H Q ⟨ad, s, F, R, h⟩
  exact Gar.pure R h [] .nil
theorem tAs_cons {m : M PV} {mr : M (List D)} : ∀ σ H Q, tAs N W (M.bind m fun x => M.bind x.store fun d => M.bind mr fun r => M.pure (d :: r)) σ H Q → tCons (tX N W m) (tAs N W mr) σ H Q := by
  rintro σ H Q ⟨ad, s, F, R, h⟩
  refine ⟨ad, s, F, R, (Gar.bind h).mono fun pv s1 ad1 H1 R1 P1 h1 v rv => ?_⟩
  obtain ⟨d, s', R', P', rd, k⟩ := store_ok R1 rv (Gar.bind h1)
  refine ⟨ad1, s', F, R', (Gar.bind k).mono fun r s2 ad2 H2 R2 P2 h2 vs rvs => ?_⟩
  exact Gar.pure R2 h2 (v :: vs) (.cons (P2.rep rd) rvs)
theorem tPs_nil : ∀ σ H Q, tPs N W (M.pure []) σ H Q → tNil σ H Q := by
  rintro σ H Q ⟨ad, s, F, R, h⟩
  exact Gar.pure R h [] .nil
theorem tPs_cons {m : M PV} {mr : M (List PV)} : ∀ σ H Q, tPs N W (M.bind m fun x => M.bind mr fun r => M.pure (x :: r)) σ H Q → tCons (tX N W m) (tPs N W mr) σ H Q := by
  rintro σ H Q ⟨ad, s, F, R, h⟩
  refine ⟨ad, s, F, R, (Gar.bind h).mono fun pv s1 ad1 H1 R1 P1 h1 v rv => ?_⟩
  refine ⟨ad1, s1, F, R1, (Gar.bind h1).mono fun r s2 ad2 H2 R2 P2 h2 vs rvs => ?_⟩
  exact Gar.pure R2 h2 (v :: vs) (.cons (rv.post P2) rvs)
/-- a new tuple, a new list -/
theorem tX_tup {m : M (List D)} : ∀ σ H Q, tX N W (M.bind m fun xs => if xs.length ≤ line then M.pure (.d (.tup xs)) else stk) σ H Q → tTup (tAs N W m) σ H Q := by
  rintro σ H Q ⟨ad, s, F, R, h⟩
  refine ⟨ad, s, F, R, (Gar.bind h).mono fun xs s1 ad1 H1 R1 P1 h1 vs rv => ?_⟩
  split at h1
  · rename_i hl
    refine ⟨by rw [rv.length, sizeLine_line]; exact hl, fun p hp => ?_⟩
    exact h1 ad1 _ (R1.grow (new_same hp)) (.grow R1 (new_same hp)) _ (new_tup (fun p m => R1.masked m) hp rv)
  · exact h1.elim
theorem tX_lst {m : M (List D)} : ∀ σ H Q, tX N W (M.bind m fun xs => if xs.length ≤ line then M.pure (.d (.lst xs)) else stk) σ H Q → tLst (tAs N W m) σ H Q := by
  rintro σ H Q ⟨ad, s, F, R, h⟩
  refine ⟨ad, s, F, R, (Gar.bind h).mono fun xs s1 ad1 H1 R1 P1 h1 vs rv => ?_⟩
  split at h1
  · rename_i hl
    refine ⟨by rw [rv.length, sizeLine_line]; exact hl, fun p hp => ?_⟩
    exact h1 ad1 _ (R1.grow (new_same hp)) (.grow R1 (new_same hp)) _ (new_lst (fun p m => R1.masked m) hp rv)
  · exact h1.elim
/-- if t then a else b -/
theorem tX_ife {mt ma mb : M PV} : ∀ σ H Q, tX N W (M.bind mt fun x => M.bind (toB x) fun c => if c then ma else mb) σ H Q → tIf (tT N W (M.bind mt toB)) (tX N W ma) (tX N W mb) σ H Q := by
  rintro σ H Q ⟨ad, s, F, R, h⟩
  refine ⟨ad, s, F, R, ?_⟩
  have e : M.bind mt (fun x => M.bind (toB x) fun c => if c then ma else mb) = M.bind (M.bind mt toB) (fun c => if c then ma else mb) := by
    funext s; unfold M.bind; cases mt s <;> rfl
  rw [e] at h
  refine (Gar.bind h).mono fun b s1 ad1 H1 R1 P1 h1 => ?_
  cases b with
  | true => exact ⟨ad1, s1, F, R1, h1⟩
  | false => exact ⟨ad1, s1, F, R1, h1⟩
theorem bind_assoc {α β γ : Type} (m : M α) (f : α → M β) (g : β → M γ) : M.bind (M.bind m f) g = M.bind m fun x => M.bind (f x) g := by
  funext s; unfold M.bind; cases m s <;> rfl
theorem tX_not {m : M PV} : ∀ σ H Q, tX N W (M.bind m fun x => M.bind (toB x) fun b => M.pure (.d (.bl !b))) σ H Q → tNotV (tX N W m) σ H Q := by
  rintro σ H Q ⟨ad, s, F, R, h⟩
  refine ⟨ad, s, F, R, (Gar.bind h).mono fun pv s1 ad1 H1 R1 P1 h1 v rv => ?_⟩
  obtain ⟨b, rfl, k⟩ := toB_inv (Gar.bind h1) R1
  cases rv
  exact ⟨b, rfl, Gar.pure R1 k _ (.bl _)⟩
theorem tT_not {m : M PV} : ∀ σ H Q, tT N W (M.bind (M.bind m fun x => M.bind (toB x) fun b => M.pure (.d (.bl !b))) toB) σ H Q → tNot (tT N W (M.bind m toB)) σ H Q := by
  rintro σ H Q ⟨ad, s, F, R, h⟩
  refine ⟨ad, s, F, R, ?_⟩
  have e : M.bind (M.bind m fun x => M.bind (toB x) fun b => M.pure (.d (.bl !b))) toB = M.bind (M.bind m toB) fun b => M.pure !b := by
    rw [bind_assoc, bind_assoc]
    congr; funext x; rw [bind_assoc]; rfl
  rw [e] at h
  exact (Gar.bind h).mono fun b s1 ad1 H1 R1 P1 h1 => Gar.pure R1 h1
theorem tX_and {ma mb : M PV} : ∀ σ H Q, tX N W (M.bind ma fun x => M.bind (toB x) fun c => if c then mb else M.pure (.d (.bl false))) σ H Q → tAndV (tX N W ma) (tX N W mb) σ H Q := by
  rintro σ H Q ⟨ad, s, F, R, h⟩
  refine ⟨ad, s, F, R, (Gar.bind h).mono fun pv s1 ad1 H1 R1 P1 h1 v rv => ?_⟩
  obtain ⟨b, rfl, k⟩ := toB_inv (Gar.bind h1) R1
  cases rv
  cases b with
  | true => exact ⟨true, rfl, ad1, s1, F, R1, k⟩
  | false => exact ⟨false, rfl, Gar.pure R1 k _ (.bl _)⟩
theorem tX_or {ma mb : M PV} : ∀ σ H Q, tX N W (M.bind ma fun x => M.bind (toB x) fun c => if c then M.pure (.d (.bl true)) else mb) σ H Q → tOrV (tX N W ma) (tX N W mb) σ H Q := by
  rintro σ H Q ⟨ad, s, F, R, h⟩
  refine ⟨ad, s, F, R, (Gar.bind h).mono fun pv s1 ad1 H1 R1 P1 h1 v rv => ?_⟩
  obtain ⟨b, rfl, k⟩ := toB_inv (Gar.bind h1) R1
  cases rv
  cases b with
  | true => exact ⟨true, rfl, Gar.pure R1 k _ (.bl _)⟩
  | false => exact ⟨false, rfl, ad1, s1, F, R1, k⟩
theorem tT_and {ma mb : M PV} : ∀ σ H Q, tT N W (M.bind (M.bind ma fun x => M.bind (toB x) fun c => if c then mb else M.pure (.d (.bl false))) toB) σ H Q → tAnd (tT N W (M.bind ma toB)) (tT N W (M.bind mb toB)) σ H Q := by
  rintro σ H Q ⟨ad, s, F, R, h⟩
  refine ⟨ad, s, F, R, ?_⟩
  have e : M.bind (M.bind ma fun x => M.bind (toB x) fun c => if c then mb else M.pure (.d (.bl false))) toB = M.bind (M.bind ma toB) fun c => if c then M.bind mb toB else M.pure false := by
    rw [bind_assoc, bind_assoc]
    congr; funext x; rw [bind_assoc]; congr; funext c; cases c <;> rfl
  rw [e] at h
  refine (Gar.bind h).mono fun b s1 ad1 H1 R1 P1 h1 => ?_
  cases b with
  | true => exact ⟨ad1, s1, F, R1, h1⟩
  | false => exact Gar.pure R1 h1
theorem tT_or {ma mb : M PV} : ∀ σ H Q, tT N W (M.bind (M.bind ma fun x => M.bind (toB x) fun c => if c then M.pure (.d (.bl true)) else mb) toB) σ H Q → tOr (tT N W (M.bind ma toB)) (tT N W (M.bind mb toB)) σ H Q := by
  rintro σ H Q ⟨ad, s, F, R, h⟩
  refine ⟨ad, s, F, R, ?_⟩
  have e : M.bind (M.bind ma fun x => M.bind (toB x) fun c => if c then M.pure (.d (.bl true)) else mb) toB = M.bind (M.bind ma toB) fun c => if c then M.pure true else M.bind mb toB := by
    rw [bind_assoc, bind_assoc]
    congr; funext x; rw [bind_assoc]; congr; funext c; cases c <;> rfl
  rw [e] at h
  refine (Gar.bind h).mono fun b s1 ad1 H1 R1 P1 h1 => ?_
  cases b with
  | true => exact Gar.pure R1 h1
  | false => exact ⟨ad1, s1, F, R1, h1⟩
/-- a comparison as a test -/
theorem tT_two {r : R2} {f : D → D → Option D} {ma mb : M PV} (hr : ∀ x y H Q, rD2 N f x y H Q → r x y H Q) : ∀ σ H Q, tT N W (M.bind (two ma mb f) toB) σ H Q → tTest (tOp r (tX N W ma) (tX N W mb)) σ H Q := by
  rintro σ H Q h
  exact tX_two hr σ H _ (tX_tB σ H Q h)
theorem tX_chain {ma mb md : M PV} {o o2 : Cm} : ∀ σ H Q, tX N W (M.bind ma fun x => M.bind mb fun y => chainM o o2 x y md) σ H Q →
    tChain (rD2 N fun x y => (cmpF o x y).map .bl) (rD2 N fun x y => (cmpF o2 x y).map .bl) (tX N W ma) (tX N W mb) (tX N W md) σ H Q := by
  rintro σ H Q ⟨ad, s, F, R, h⟩
  refine ⟨ad, s, F, R, (Gar.bind h).mono fun a s1 ad1 H1 R1 P1 h1 x rx => ?_⟩
  refine ⟨ad1, s1, F, R1, (Gar.bind h1).mono fun b s2 ad2 H2 R2 P2 h2 y ry => ?_⟩
  have rx2 := rx.post P2
  unfold chainM at h2
  cases hx : a.val s2 with
  | none => simp only [hx] at h2; exact h2.elim
  | some dx =>
    cases hy : b.val s2 with
    | none => simp only [hx, hy] at h2; exact h2.elim
    | some dy =>
      simp only [hx, hy] at h2
      cases hf : cmpF o dx dy with
      | none => rw [hf] at h2; exact h2.elim
      | some k =>
        rw [hf] at h2
        refine ⟨_, _, Mk ad2 σ s2 F, dx, dy, .bl k, fun p m => R2.masked m, rx2.val R2 hx, ry.val R2 hy, by simp [hf], fun v H3 sm r3 => ?_⟩
        cases r3
        refine ⟨k, rfl, ?_⟩
        cases k with
        | false => exact h2 ad2 H3 (R2.grow sm) (.grow R2 sm) _ (.bl _)
        | true =>
          simp only [if_true]
          unfold chain2 at h2
          have h3 := h2.from (.grow R2 sm)
          refine ⟨ad2, s2, F, R2.grow sm, (Gar.bind h3).mono fun z s4 ad4 H4 R4 P4 h4 w rw' => ?_⟩
          have ry4 := (ry.post (.grow R2 sm)).post P4
          cases hy4 : b.val s4 with
          | none => simp only [hy4] at h4; exact h4.elim
          | some dy4 =>
            cases hz4 : z.val s4 with
            | none => simp only [hy4, hz4] at h4; exact h4.elim
            | some dz4 =>
              simp only [hy4, hz4] at h4
              cases hf4 : cmpF o2 dy4 dz4 with
              | none => rw [hf4] at h4; exact h4.elim
              | some k4 =>
                rw [hf4] at h4
                exact ⟨_, _, Mk ad4 σ s4 F, dy4, dz4, .bl k4, fun p m => R4.masked m, ry4.val R4 hy4, rw'.val R4 hz4, by simp [hf4], fun v H5 sm5 r5 => h4 ad4 H5 (R4.grow sm5) (.grow R4 sm5) v r5⟩
end Ev

set_option autoImplicit false
set_option linter.all false
set_option maxRecDepth 100000
/-! Calls. -/
namespace Ev
open PySem L2 PyProof.Rows
variable {T : Nam} {N : Nms} {G : Tab} {c : Sx} {X : Cx} {W : WX}
/-- a def's promise, by what the core says it gives -/
def spF (N : Nms) (np : Nat) (r : List D → List Cell → FRes) : Sp := fun vs H Q E => vs.length = np ∧ ∃ (ad : Nat → Addr) (cel : List Cell) (F : Addr → Prop) (as : List D), Rel N ad [] H ⟨[], cel⟩ F ∧ RepDs N cel.length ad (msk H (Mk ad [] ⟨[], cel⟩ F)) vs as ∧
  match r as cel with
  | .ok x c' => ∀ ad' H' v, Rel N ad' [] H' ⟨[], c'⟩ F → Post ad [] H ⟨[], cel⟩ ad' [] H' ⟨[], c'⟩ F → RepD N c'.length ad' (msk H' (Mk ad' [] ⟨[], c'⟩ F)) v x → Q v H'
  | .exc e c' => ∀ ad' H' cls d, Rel N ad' [] H' ⟨[], c'⟩ F → Post ad [] H ⟨[], cel⟩ ad' [] H' ⟨[], c'⟩ F → RepE N c'.length ad' (msk H' (Mk ad' [] ⟨[], c'⟩ F)) H' e cls d → E cls d H'
  | .stk => False
section
variable {ad ad' : Nat → Addr} {σ : L2.St} {H H' : Hp} {s : S} {F : Addr → Prop} {c' : List Cell}
/-- what a callee must leave: the caller's own things -/
def Hid (ad : Nat → Addr) (σ : L2.St) (s : S) (F : Addr → Prop) : Addr → Prop := fun a => F a ∨ ∃ i c, s.get (.sl i) = some c ∧ adr ad σ (.sl i) = some a
theorem noSl {i : Nat} {cc : Cell} {cel : List Cell} : ¬ (⟨[], cel⟩ : S).get (.sl i) = some cc := by
  rw [get_sl]; simp
theorem Mk_hid (a : Addr) : Mk ad [] ⟨[], s.cel⟩ (Hid ad σ s F) a ↔ Mk ad σ s F a := by
  constructor
  · rintro ((h | ⟨i, cc, h1, h2⟩) | ⟨l, cc, h1, h2⟩)
    · exact .inl h
    · exact .inr ⟨_, cc, h1, h2⟩
    · cases l with
      | sl i => exact absurd h1 noSl
      | id k => exact .inr ⟨.id k, cc, h1, h2⟩
  · rintro (h | ⟨l, cc, h1, h2⟩)
    · exact .inl (.inl h)
    · cases l with
      | sl i => exact .inl (.inr ⟨i, cc, h1, h2⟩)
      | id k => exact .inr ⟨.id k, cc, h1, h2⟩
theorem msk_congr {M M' : Addr → Prop} (h : ∀ a, M a ↔ M' a) : msk H M = msk H M' := by
  funext a
  unfold msk
  by_cases m : M a
  · rw [if_pos m, if_pos ((h a).mp m)]
  · rw [if_neg m, if_neg fun q => m ((h a).mpr q)]
theorem Rel.toStore (R : Rel N ad σ H s F) : Rel N ad [] H ⟨[], s.cel⟩ (Hid ad σ s F) where
  len := rfl
  dat := fun i x h => by simp at h
  own := fun l cc h => by
    cases l with
    | sl i => exact absurd h noSl
    | id k =>
      obtain ⟨a, e, ok⟩ := R.own (.id k) cc h
      refine ⟨a, e, ?_⟩
      rw [msk_congr (Mk_hid (ad := ad) (σ := σ) (s := s) (F := F))]
      exact ok
  inj := fun l l' cc cc' a h h' e e' => by
    cases l with
    | sl i => exact absurd h noSl
    | id k =>
      cases l' with
      | sl i => exact absurd h' noSl
      | id k' => exact R.inj (.id k) (.id k') cc cc' a h h' e e'
  frn := fun a h => by
    refine ⟨R.masked ((Mk_hid a).mp (.inl h)), fun l cc h' e => ?_⟩
    cases l with
    | sl i => exact absurd h' noSl
    | id k =>
      rcases h with h | ⟨i, c2, h1, h2⟩
      · exact (R.frn a h).2 (.id k) cc h' e
      · have := R.inj (.sl i) (.id k) c2 cc a h1 h' h2 e
        cases this
  nt := fun a ys h => R.maskedT ((Mk_hid a).mp (.inl h)) ys
/-- behind a call: m things of the store are kept -/
theorem Rel.back (R : Rel N ad σ H s F) (R' : Rel N ad' [] H' ⟨[], c'⟩ (Hid ad σ s F)) (P : Post ad [] H ⟨[], s.cel⟩ ad' [] H' ⟨[], c'⟩ (Hid ad σ s F)) (m : Nat) (h1 : s.cel.length ≤ m) (h2 : m ≤ c'.length)
    (hc : ∀ k cc, k < m → c'[k]? = some cc → CelOk N m ad' (msk H' (Mk ad' [] ⟨[], c'⟩ (Hid ad σ s F))) H' (ad' k) cc) :
    Rel N ad' σ H' { s with cel := c'.take m } F ∧ Post ad σ H s ad' σ H' { s with cel := c'.take m } F ∧ Sm (msk H' (Mk ad' [] ⟨[], c'⟩ (Hid ad σ s F))) (msk H' (Mk ad' σ { s with cel := c'.take m } F)) := by
  have hl : (c'.take m).length = m := by rw [List.length_take]; omega
  have gid : ∀ k cc, ({ s with cel := c'.take m } : S).get (.id k) = some cc → k < m ∧ c'[k]? = some cc := fun k cc h => by
    have h : (c'.take m)[k]? = some cc := h
    have hk : k < m := by
      have := (List.getElem?_eq_some_iff.mp h).1
      rw [hl] at this; exact this
    rw [List.getElem?_take, if_pos hk] at h
    exact ⟨hk, h⟩
  have gsl : ∀ i cc, ({ s with cel := c'.take m } : S).get (.sl i) = some cc ↔ s.get (.sl i) = some cc := fun i cc => Iff.rfl
  have asl : ∀ i, adr ad' σ (.sl i) = adr ad σ (.sl i) := fun i => rfl
  have sub : ∀ a, Mk ad' σ { s with cel := c'.take m } F a → Mk ad' [] ⟨[], c'⟩ (Hid ad σ s F) a := by
    rintro a (h | ⟨l, cc, q1, q2⟩)
    · exact .inl (.inl h)
    · cases l with
      | sl i => exact .inl (.inr ⟨i, cc, q1, q2⟩)
      | id k => exact .inr ⟨.id k, cc, (gid k cc q1).2, q2⟩
  have sm2 := sm_sub (H := H') sub
  have sm : Sm (msk H (Mk ad σ s F)) (msk H' (Mk ad' σ { s with cel := c'.take m } F)) := by
    rw [← msk_congr (Mk_hid (ad := ad) (σ := σ) (s := s) (F := F))]
    exact P.sm.trans sm2
  have agr : ∀ k, k < s.cel.length → ad' k = ad k := P.agr
  have ln : s.cel.length ≤ ({ s with cel := c'.take m } : S).cel.length := by show _ ≤ (c'.take m).length; rw [hl]; exact h1
  refine ⟨⟨R.len, ?_, ?_, ?_, ?_, fun a ys h => R'.nt a ys (.inl h)⟩, ⟨agr, ln, rfl, sm, fun a h => P.frn a (.inl h)⟩, sm2⟩
  · intro i x h
    obtain ⟨v, e, r⟩ := R.dat i x h
    exact ⟨v, e, r.mono ln agr sm⟩
  · intro l cc h
    cases l with
    | sl i =>
      obtain ⟨a, e, ok⟩ := R.own (.sl i) cc h
      exact ⟨a, e, ok.mono ln agr sm (P.frn a (.inr ⟨i, cc, h, e⟩))⟩
    | id k =>
      obtain ⟨hk, h⟩ := gid k cc h
      refine ⟨ad' k, rfl, (hc k cc hk h).mono (Nat.le_of_eq hl.symm) (fun _ _ => rfl) sm2 rfl⟩
  · intro l l' cc cc' a h h' e e'
    cases l with
    | sl i =>
      cases l' with
      | sl j => exact R.inj _ _ cc cc' a h h' e e'
      | id k =>
        obtain ⟨hk, h'⟩ := gid k cc' h'
        exact absurd e' ((R'.frn a (.inr ⟨i, cc, h, e⟩)).2 (.id k) cc' h')
    | id k =>
      obtain ⟨hk, h⟩ := gid k cc h
      cases l' with
      | sl j => exact absurd e ((R'.frn a (.inr ⟨j, cc', h', e'⟩)).2 (.id k) cc h)
      | id k' =>
        obtain ⟨hk', h'⟩ := gid k' cc' h'
        exact R'.inj _ _ cc cc' a h h' e e'
  · intro a h
    obtain ⟨q1, q2⟩ := R'.frn a (.inl h)
    refine ⟨q1, fun l cc h' e => ?_⟩
    cases l with
    | sl i => exact (R.frn a h).2 (.sl i) cc h' e
    | id k => exact q2 (.id k) cc (gid k cc h').2 e
/-- a store of its own -/
theorem Rel.fresh (R : Rel N ad σ H s F) : Rel N ad [] H ⟨[], []⟩ (Mk ad σ s F) where
  len := rfl
  dat := fun i x h => by simp at h
  own := fun l cc h => by
    cases l with
    | sl i => exact absurd h noSl
    | id k => have h : ([] : List Cell)[k]? = some cc := h; simp at h
  inj := fun l l' cc cc' a h h' e e' => by
    cases l with
    | sl i => exact absurd h noSl
    | id k => have h : ([] : List Cell)[k]? = some cc := h; simp at h
  frn := fun a h => ⟨R.masked h, fun l cc h' e => by
    cases l with
    | sl i => exact absurd h' noSl
    | id k => have h' : ([] : List Cell)[k]? = some cc := h'; simp at h'⟩
  nt := fun a ys h => R.maskedT h ys
theorem Mk_fresh (a : Addr) {M : Addr → Prop} : Mk ad [] ⟨[], []⟩ M a ↔ M a := by
  constructor
  · rintro (h | ⟨l, cc, h1, h2⟩)
    · exact h
    · cases l with
      | sl i => exact absurd h1 noSl
      | id k => have h1 : ([] : List Cell)[k]? = some cc := h1; simp at h1
  · exact .inl
/-- behind a call in a store of its own (cel: what it began with) -/
theorem Rel.backP {H0 : Hp} {ad0 : Nat → Addr} {cel : List Cell} (R : Rel N ad σ H s F) (k0 : Same H H0) (P : Post ad0 [] H0 ⟨[], cel⟩ ad' [] H' ⟨[], c'⟩ (Mk ad σ s F)) (hcel : Sm (msk H (Mk ad σ s F)) (msk H0 (Mk ad0 [] ⟨[], cel⟩ (Mk ad σ s F)))) :
    Rel N ad σ H' s F ∧ Post ad σ H s ad σ H' s F ∧ Sm (msk H' (Mk ad' [] ⟨[], c'⟩ (Mk ad σ s F))) (msk H' (Mk ad σ s F)) := by
  have sm2 : Sm (msk H' (Mk ad' [] ⟨[], c'⟩ (Mk ad σ s F))) (msk H' (Mk ad σ s F)) := sm_sub fun a h => .inl h
  have sm : Sm (msk H (Mk ad σ s F)) (msk H' (Mk ad σ s F)) := (hcel.trans P.sm).trans sm2
  have hk : ∀ a, Mk ad σ s F a → H' a = H a := fun a h => by
    rw [P.frn a h]
    obtain ⟨o, ho⟩ := R.masked h
    rw [ho]; exact k0 a o ho
  refine ⟨⟨R.len, ?_, ?_, R.inj, ?_, fun a ys h z => R.nt a ys h ((hk a (.inl h)).symm.trans z)⟩, ⟨fun _ _ => rfl, Nat.le_refl _, rfl, sm, fun a h => hk a (.inl h)⟩, sm2⟩
  · intro i x h
    obtain ⟨v, e, r⟩ := R.dat i x h
    exact ⟨v, e, r.mono (Nat.le_refl _) (fun _ _ => rfl) sm⟩
  · intro l cc h
    obtain ⟨a, e, ok⟩ := R.own l cc h
    exact ⟨a, e, ok.mono (Nat.le_refl _) (fun _ _ => rfl) sm (hk a (.inr ⟨l, cc, h, e⟩))⟩
  · intro a h
    obtain ⟨⟨o, ho⟩, h2⟩ := R.frn a h
    exact ⟨⟨o, (hk a (.inl h)).trans ho⟩, h2⟩
theorem blw_of {n : Nat} {cc : Cell} (h : cc.blw n = true) {ad : Nat → Addr} {B H : Hp} {a : Addr} {m : Nat} (ok : CelOk N m ad B H a cc) : CelOk N n ad B H a cc := ok.blw _ h
theorem Cell.toD_blw {n : Nat} : ∀ (cc : Cell), cc.toD.blw n = cc.blw n
  | .lst _ => by simp [Cell.toD, Cell.blw, D.blw]
  | .dct _ => by simp [Cell.toD, Cell.blw, D.blw]
  | .obj _ _ => by simp [Cell.toD, Cell.blw, D.blw]
/-- a thing that is given back, read as data -/
theorem snap_rep {n : Nat} {B' : Hp} (R' : Rel N ad' [] H' ⟨[], c'⟩ F) (sm : Sm (msk H' (Mk ad' [] ⟨[], c'⟩ F)) B') (hn : n ≤ c'.length) (free : ∀ k cc, n ≤ k → c'[k]? = some cc → B' (ad' k) = H' (ad' k)) {v : V} {x : D}
    (r : RepD N c'.length ad' (msk H' (Mk ad' [] ⟨[], c'⟩ F)) v x) (hb : (snap n c' x).blw n = true) : RepD N n ad' B' v (snap n c' x) := by
  cases x with
  | ref k =>
    cases r with
    | ref hk =>
    simp only [snap] at hb ⊢
    by_cases h : k < n
    · rw [if_pos h]; exact .ref h
    · rw [if_neg h] at hb ⊢
      cases hc : c'[k]? with
      | none =>
        have := List.getElem?_eq_none_iff.mp hc
        omega
      | some cc =>
        rw [hc] at hb
        simp only at hb ⊢
        obtain ⟨a, e, ok⟩ := R'.own (.id k) cc hc
        have e : some (ad' k) = some a := e
        cases e
        rw [Cell.toD_blw] at hb
        exact (blw_of hb ok).toD sm (free k cc (by omega) hc) _
  | _ => exact (r.mono (Nat.le_refl _) (fun _ _ => rfl) sm).blw _ hb
theorem RepE.mono {n n' : Nat} {ad ad' : Nat → Addr} {B B' H : Hp} {e : Exc} {cls : Value} {d : Option Addr} (hn : n ≤ n') (ha : ∀ k, k < n → ad' k = ad k) (k : Sm B B') (r : RepE N n ad B H e cls d) : RepE N n' ad' B' H e cls d :=
  ⟨r.1, r.2.imp id fun ⟨ne, dd, fv, e1, e2, e3⟩ => ⟨ne, dd, fv, e1, e2, e3.mono hn ha k⟩⟩
theorem RepE.blw {n m : Nat} {ad : Nat → Addr} {B H : Hp} {e : Exc} {cls : Value} {d : Option Addr} (h : e.blw m = true) (r : RepE N n ad B H e cls d) : RepE N m ad B H e cls d :=
  ⟨r.1, r.2.imp id fun ⟨ne, dd, fv, e1, e2, e3⟩ => ⟨ne, dd, fv, e1, e2, e3.blw _ h⟩⟩
theorem RepE.pure {n m : Nat} {ad ad' : Nat → Addr} {B H : Hp} {e : Exc} {cls : Value} {d : Option Addr} (h : e.blw 0 = true) (r : RepE N n ad B H e cls d) : RepE N m ad' B H e cls d :=
  ⟨r.1, r.2.imp id fun ⟨ne, dd, fv, e1, e2, e3⟩ => ⟨ne, dd, fv, e1, e2, e3.pure _ h⟩⟩
/-- a call keeps what the core says -/
theorem call_sp0 {q : Ck} (he : ∀ ds, q ≠ .eqo ds) {np : Nat} {r : List D → List Cell → FRes} {as : List D} {vs : List V} {Q : VK} (R : Rel N ad σ H s F) (rv : RepDs N s.cel.length ad (msk H (Mk ad σ s F)) vs as) (hn : vs.length = np)
    (h : Gar N W ad σ H s F (doCall q r as s) fun x s' ad' H' => ∀ v, RepD N s'.cel.length ad' (msk H' (Mk ad' σ s' F)) v x → Q v H') : spF N np r vs H Q (WE W σ) := by
  refine ⟨hn, ?_⟩
  have shared : q ≠ .pure → ∃ (ad : Nat → Addr) (cel : List Cell) (F : Addr → Prop) (as : List D), Rel N ad [] H ⟨[], cel⟩ F ∧ RepDs N cel.length ad (msk H (Mk ad [] ⟨[], cel⟩ F)) vs as ∧
      match r as cel with
      | .ok x c' => ∀ ad' H' v, Rel N ad' [] H' ⟨[], c'⟩ F → Post ad [] H ⟨[], cel⟩ ad' [] H' ⟨[], c'⟩ F → RepD N c'.length ad' (msk H' (Mk ad' [] ⟨[], c'⟩ F)) v x → Q v H'
      | .exc e c' => ∀ ad' H' cls d, Rel N ad' [] H' ⟨[], c'⟩ F → Post ad [] H ⟨[], cel⟩ ad' [] H' ⟨[], c'⟩ F → RepE N c'.length ad' (msk H' (Mk ad' [] ⟨[], c'⟩ F)) H' e cls d → WE W σ cls d H'
      | .stk => False := fun hq => by
    refine ⟨ad, s.cel, Hid ad σ s F, as, R.toStore, by rw [msk_congr (Mk_hid (ad := ad) (σ := σ) (s := s) (F := F))]; exact rv, ?_⟩
    have plainC : ∀ (c' : List Cell) (ad' : Nat → Addr) (H' : Hp), Rel N ad' [] H' ⟨[], c'⟩ (Hid ad σ s F) → ∀ k cc, k < c'.length → c'[k]? = some cc → CelOk N c'.length ad' (msk H' (Mk ad' [] ⟨[], c'⟩ (Hid ad σ s F))) H' (ad' k) cc := fun c' ad' H' R' k cc _ hc => by
      obtain ⟨a, e, ok⟩ := R'.own (.id k) cc hc
      have e : some (ad' k) = some a := e
      cases e
      exact ok
    have truncC : ∀ (c' : List Cell) (ad' : Nat → Addr) (H' : Hp), (c'.take s.cel.length).all (Cell.blw s.cel.length) = true → Rel N ad' [] H' ⟨[], c'⟩ (Hid ad σ s F) →
        ∀ k cc, k < s.cel.length → c'[k]? = some cc → CelOk N s.cel.length ad' (msk H' (Mk ad' [] ⟨[], c'⟩ (Hid ad σ s F))) H' (ad' k) cc := fun c' ad' H' hb R' k cc hk hc => by
      obtain ⟨a, e, ok⟩ := R'.own (.id k) cc hc
      have e : some (ad' k) = some a := e
      cases e
      refine blw_of (List.all_eq_true.mp hb cc ?_) ok
      exact List.mem_of_getElem? (i := k) (by rw [List.getElem?_take, if_pos hk]; exact hc)
    cases q with
    | pure => exact absurd rfl hq
    | eqo ds => exact absurd rfl (he ds)
    | plain =>
      have h : Gar N W ad σ H s F (endC .plain s.cel (r as s.cel) s) _ := h
      cases hr : r as s.cel with
      | ok x c' =>
        rw [hr] at h
        intro ad' H' v R' P' rx
        obtain ⟨R2, P2, sm⟩ := R.back R' P' c'.length P'.len (Nat.le_refl _) (plainC c' ad' H' R')
        rw [List.take_length] at R2 P2 sm
        exact h ad' H' R2 P2 v (rx.mono (Nat.le_refl _) (fun _ _ => rfl) sm)
      | exc e c' =>
        rw [hr] at h
        intro ad' H' cls d R' P' rx
        obtain ⟨R2, P2, sm⟩ := R.back R' P' c'.length P'.len (Nat.le_refl _) (plainC c' ad' H' R')
        rw [List.take_length] at R2 P2 sm
        exact h cls d ad' H' R2 P2 (rx.mono (Nat.le_refl _) (fun _ _ => rfl) sm)
      | stk => rw [hr] at h; exact h
    | trunc =>
      have h : Gar N W ad σ H s F (endC .trunc s.cel (r as s.cel) s) _ := h
      cases hr : r as s.cel with
      | ok x c' =>
        rw [hr] at h
        intro ad' H' v R' P' rx
        unfold endC at h
        simp only at h
        split at h
        · rename_i hb
          simp only [Bool.and_eq_true] at hb
          obtain ⟨R2, P2, sm⟩ := R.back R' P' s.cel.length (Nat.le_refl _) P'.len (truncC c' ad' H' hb.2 R')
          have hl : (c'.take s.cel.length).length = s.cel.length := by rw [List.length_take]; have : s.cel.length ≤ c'.length := P'.len; omega
          refine h ad' H' R2 P2 v ?_
          show RepD N (c'.take s.cel.length).length _ _ _ _
          rw [hl]
          refine snap_rep R' sm P'.len (fun k cc hk hc => ?_) rx hb.1
          refine msk_of fun m => ?_
          rcases m with m | ⟨l, c2, q1, q2⟩
          · exact (R'.frn _ (.inl m)).2 (.id k) cc hc rfl
          · cases l with
            | sl i => exact (R'.frn _ (.inr ⟨i, c2, q1, q2⟩)).2 (.id k) cc hc rfl
            | id j =>
              have q1 : (c'.take s.cel.length)[j]? = some c2 := q1
              have hj := (List.getElem?_eq_some_iff.mp q1).1
              rw [hl] at hj
              rw [List.getElem?_take, if_pos hj] at q1
              have := R'.inj (.id j) (.id k) c2 cc _ q1 hc q2 rfl
              cases this
              have hk : s.cel.length ≤ k := hk
              omega
        · exact h.elim
      | exc e c' =>
        rw [hr] at h
        intro ad' H' cls d R' P' rx
        unfold endC at h
        simp only at h
        split at h
        · rename_i hb
          simp only [Bool.and_eq_true] at hb
          obtain ⟨R2, P2, sm⟩ := R.back R' P' s.cel.length (Nat.le_refl _) P'.len (truncC c' ad' H' hb.2 R')
          have hl : (c'.take s.cel.length).length = s.cel.length := by rw [List.length_take]; have : s.cel.length ≤ c'.length := P'.len; omega
          refine h cls d ad' H' R2 P2 ?_
          show RepE N (c'.take s.cel.length).length _ _ _ _ _ _
          rw [hl]
          exact (rx.blw hb.1).mono (Nat.le_refl _) (fun _ _ => rfl) sm
        · exact h.elim
      | stk => rw [hr] at h; exact h
  cases q with
  | plain => exact shared (by intro z; cases z)
  | eqo ds => exact absurd rfl (he ds)
  | trunc => exact shared (by intro z; cases z)
  | pure =>
    have h : Gar N W ad σ H s F (if D.blws 0 as then endC .pure [] (r as []) s else .stk) _ := h
    split at h
    · rename_i hb
      have mf : msk H (Mk ad [] ⟨[], []⟩ (Mk ad σ s F)) = msk H (Mk ad σ s F) := msk_congr fun a => Mk_fresh a
      refine ⟨ad, [], Mk ad σ s F, as, R.fresh, ?_, ?_⟩
      · rw [mf]
        exact RepDs.pure _ hb rv
      · have hcel : Sm (msk H (Mk ad σ s F)) (msk H (Mk ad [] ⟨[], []⟩ (Mk ad σ s F))) := by rw [mf]; exact Sm.refl _
        cases hr : r as [] with
        | ok x c' =>
          rw [hr] at h
          intro ad' H' v R' P' rx
          unfold endC at h
          simp only at h
          split at h
          · rename_i hb2
            obtain ⟨R2, P2, sm⟩ := R.backP (Same.refl _) P' hcel
            refine h ad H' R2 P2 v ?_
            have := snap_rep (n := 0) R' sm (Nat.zero_le _) (fun k cc hk hc => ?_) rx hb2
            · exact RepD.pure _ hb2 this
            · exact msk_of fun m => (R'.frn _ m).2 (.id k) cc hc rfl
          · exact h.elim
        | exc e c' =>
          rw [hr] at h
          intro ad' H' cls d R' P' rx
          unfold endC at h
          simp only at h
          split at h
          · rename_i hb2
            obtain ⟨R2, P2, sm⟩ := R.backP (Same.refl _) P' hcel
            exact h cls d ad H' R2 P2 ((rx.mono (Nat.le_refl _) (fun _ _ => rfl) sm).pure hb2)
          · exact h.elim
        | stk => rw [hr] at h; exact h
    · exact h.elim
theorem eqo_same {ds : List Nat} {r : List D → List Cell → FRes} {as : List D} {K : D → S → (Nat → Addr) → Hp → Prop} (h : Gar N W ad σ H s F (doCall (.eqo ds) r as s) K) : sameC ds as = true ∧ Gar N W ad σ H s F (doCall .plain r as s) K := by
  have h : Gar N W ad σ H s F (if sameC ds as = true then endC .plain s.cel (r as s.cel) s else .stk) K := h
  split at h
  · rename_i hc
    exact ⟨hc, h⟩
  · exact h.elim
/-- a call keeps what the core says -/
theorem call_sp {q : Ck} {np : Nat} {r : List D → List Cell → FRes} {as : List D} {vs : List V} {Q : VK} (R : Rel N ad σ H s F) (rv : RepDs N s.cel.length ad (msk H (Mk ad σ s F)) vs as) (hn : vs.length = np)
    (h : Gar N W ad σ H s F (doCall q r as s) fun x s' ad' H' => ∀ v, RepD N s'.cel.length ad' (msk H' (Mk ad' σ s' F)) v x → Q v H') : spF N np r vs H Q (WE W σ) := by
  cases q with
  | eqo ds => exact call_sp0 (q := .plain) (fun _ z => nomatch z) R rv hn (eqo_same h).2
  | plain => exact call_sp0 (q := .plain) (fun _ z => nomatch z) R rv hn h
  | trunc => exact call_sp0 (q := .trunc) (fun _ z => nomatch z) R rv hn h
  | pure => exact call_sp0 (q := .pure) (fun _ z => nomatch z) R rv hn h
end
/-- a def that may be called: it stands at fa -/
structure FnAt (N : Nms) (X : Cx) (F : FT) (f : Nat) (fa : Addr) (k : Nat) (fd : FuncData) (ps : List Str) : Prop where
  kp : PySem.W.keepIn X.K (.ref fa) = true
  bd : Binds X.K fd ps []
  ok : FnOk X.prog X.w X.K X.mg X.base (L2.CX X.prog X.w) k fa fd ps (spF N ps.length (F f))
  ln : ∀ as c, F f as c ≠ .stk → as.length = ps.length
/-- the defs that may be called -/
structure Fns (T : Nam) (N : Nms) (G : Tab) (X : Cx) (F : FT) : Prop where
  fn : ∀ (f : Nat) (x : Str), T.fn f = some x → ∃ (fa : Addr) (fd : FuncData) (ps : List Str) (k : Nat), X.mg x = some (.ref fa) ∧ Room k X.A ∧ FnAt N X F f fa k fd ps
  mt : ∀ (c m f : Nat), G.meth c m = some f → ∃ (fa : Addr) (fd : FuncData) (ps : List Str) (k : Nat), c < G.ncls ∧ Meth X.K (N.cl c) (N.nm m) fa ∧ Room (k + 1) X.A ∧ FnAt N X F f fa k fd ps
  mak : ∀ (c f : Nat), G.ini c = some f → ∃ (fa : Addr) (fd : FuncData) (ps : List Str) (k : Nat), c < G.ncls ∧ L2.Mk X.K (N.cl c) fa ∧ Room (k + 1) X.A ∧ FnAt N X F f fa k fd ps
theorem endC_stk {q : Ck} {c0 : List Cell} {s : S} : endC q c0 .stk s = .stk := by cases q <;> rfl
theorem doCall_len {q : Ck} {np : Nat} {r : List D → List Cell → FRes} (hl : ∀ as c, r as c ≠ .stk → as.length = np) {ad1 : Nat → Addr} {σ : L2.St} {H1 : Hp} {s1 : S} {F : Addr → Prop} {as : List D} {K : D → S → (Nat → Addr) → Hp → Prop} (h2 : Gar N W ad1 σ H1 s1 F (doCall q r as s1) K) : as.length = np := by
  cases q with
  | eqo ds =>
    have h3 : Gar N W ad1 σ H1 s1 F (if sameC ds as = true then endC .plain s1.cel (r as s1.cel) s1 else .stk) _ := h2
    by_cases hb : sameC ds as = true
    · rw [if_pos hb] at h3
      by_cases e : r as s1.cel = .stk
      · rw [e, endC_stk] at h3; exact h3.elim
      · exact hl _ _ e
    · rw [if_neg hb] at h3; exact h3.elim
  | pure =>
    have h3 : Gar N W ad1 σ H1 s1 F (if D.blws 0 as then endC .pure [] (r as []) s1 else .stk) _ := h2
    by_cases hb : D.blws 0 as = true
    · rw [if_pos hb] at h3
      by_cases e : r as [] = .stk
      · rw [e, endC_stk] at h3; exact h3.elim
      · exact hl _ _ e
    · rw [if_neg hb] at h3; exact h3.elim
  | plain =>
    have h3 : Gar N W ad1 σ H1 s1 F (endC .plain s1.cel (r as s1.cel) s1) _ := h2
    by_cases e : r as s1.cel = .stk
    · rw [e, endC_stk] at h3; exact h3.elim
    · exact hl _ _ e
  | trunc =>
    have h3 : Gar N W ad1 σ H1 s1 F (endC .trunc s1.cel (r as s1.cel) s1) _ := h2
    by_cases e : r as s1.cel = .stk
    · rw [e, endC_stk] at h3; exact h3.elim
    · exact hl _ _ e
theorem tX_call {q : Ck} {np : Nat} {r : List D → List Cell → FRes} {m : M (List D)} (hl : ∀ as c, r as c ≠ .stk → as.length = np) : ∀ σ H Q, tX N W (M.bind m fun as => M.bind (doCall q r as) fun x => M.pure (.d x)) σ H Q → tCallS (spF N np r) (WE W) (tAs N W m) σ H Q := by
  rintro σ H Q ⟨ad, s, F, R, h⟩
  refine ⟨ad, s, F, R, (Gar.bind h).mono fun as s1 ad1 H1 R1 P1 h1 vs rv => ?_⟩
  have h2 := Gar.bind h1
  refine call_sp (q := q) R1 rv ?_ (h2.mono fun x s2 ad2 H2 R2 P2 k v rx => Gar.pure R2 k v rx)
  rw [rv.length]
  exact doCall_len hl h2
end Ev

set_option autoImplicit false
set_option linter.all false
set_option maxRecDepth 100000
/-! enumerate of lists and of tuples, from any count. -/
namespace Ev
open PySem L2 PyProof.Rows
def IteL (K : PySem.W.Frag) (a : Addr) (k0 : Int) : L2.It :=
  ⟨fun i H => ∃ (xs : List V) (x : V), SqL K H a xs ∧ xs[i]? = some x, fun i H v H' => ∃ T x, v = .ref T ∧ H T = none ∧ H' = upd H T (.tup [.int (k0 + (i : Nat)), x]) ∧ ∀ xs, SqL K H a xs → xs[i]? = some x, fun i H => ∃ xs : List V, SqL K H a xs ∧ xs.length = i⟩
theorem turn_enumL {P : Program} {w : World} {K : PySem.W.Frag} {elts : List Expr} {kk : Nat} {tpos : Pos} (a e it : Addr) (k0 : Int) :
    Turn P w K (.Tuple elts kk tpos) (IteL K a k0) [e, it] e (fun i h => (∃ old, IsEnum h e it (k0 + (i : Nat)) old) ∧ h.IsListIter it a i ∧ e ≠ it) where
  mem := by simp
  obj := fun i h st b hb => by
    obtain ⟨⟨old, he⟩, ⟨o, ho, hc, hd⟩, _⟩ := st
    have e' : b = e ∨ b = it := by simpa using hb
    rcases e' with z | z
    · rw [z]; exact ⟨_, he, fun v q => nomatch q⟩
    · rw [z]; exact ⟨o, ho, fun v q => by rw [hd] at q; cases q⟩
  keep := fun i h h' st k => let ⟨⟨old, he⟩, hi, hne⟩ := st; ⟨⟨old, k e (by simp) _ he⟩, hi.at fun o q => k it (by simp) o q, hne⟩
  item := by
    intro X hP hw hK hc i pins s σ H E I hf st hg
    subst hP hw hK
    obtain ⟨⟨old, he⟩, hit, hne⟩ := st
    obtain ⟨xs, x, hq, hx⟩ := hg
    obtain ⟨its, rv, p, hz⟩ := I.list hq
    obtain ⟨u, hu, ru⟩ := rv.get hx
    have hel : e < s.heap.objs.size := Heap.lt_size he
    have hil : it < s.heap.objs.size := by obtain ⟨_, q, _⟩ := hit; exact Heap.lt_size q
    have hlt : i < its.toArray.size := by
      have := (List.getElem?_eq_some_iff.mp hu).1
      simpa using this
    have hal : a ≠ it := fun z => by
      obtain ⟨o1, q1, q2, _⟩ := hit
      obtain ⟨o2, q3, q4, _⟩ := p.isList
      rw [z, q1] at q3; cases q3
      rw [q2] at q4; exact absurd q4 (by simp)
    have hae : e ≠ a := fun z => by
      obtain ⟨o2, q3, q4, _⟩ := p.isList
      rw [← z, he] at q3; cases q3
      exact absurd q4 (by simp)
    have D := Draws.list (prog := X.prog) (w := X.w) (A := X.A.in1) (I.ok.hd hc) it a hal its.toArray
    refine wpAny_pyNext_enum_itemC D he ⟨hit, p.isList⟩ hlt hne (by simp [hne, hae]) fun y h' tk hP ho hit' hT hsz hk => ?_
    have ey : y = u := by
      have q : its.toArray[i]? = some y := hP
      have q2 : its.toArray[i]? = some u := by simpa using hu
      rw [q2] at q; exact (Option.some.inj q).symm
    subst ey
    refine ⟨_, rfl, wpAny_letOwnedTupleGo_enum (s := { s with heap := h', toks := tk + 1 }) ho fun h'' he' sb => ?_⟩
    have hT2 : h''.get? s.heap.objs.size = some { cls := .type "tuple", data := .seq #[.int (k0 + (i : Nat)) tk, y] } := (sb.2 _ (Nat.ne_of_gt hel)).trans hT
    have new : ObjOk X.prog X.w (upd H s.heap.objs.size (.tup [.int (k0 + (i : Nat)), x])) h'' s.heap.objs.size (.tup [.int (k0 + (i : Nat)), x]) :=
      ⟨by show 2 ≤ sizeLine; decide, [.int (k0 + (i : Nat)) tk, y], .cons ⟨_, rfl⟩ (.cons ru .nil), ⟨_, hT2, rfl, _, rfl⟩⟩
    have I1 : Inv X pins σ (upd H s.heap.objs.size (.tup [.int (k0 + (i : Nat)), x])) { s with heap := h'', toks := tk + 1 } :=
      I.turnedNew (ch := [e, it]) (fun b ob hb q => (sb.2 b (fun z => hb (by simp [z]))).trans (hk b ob (fun z => hb (by simp [z])) (fun z => hb (by simp [z])) q)) hf (Nat.le_refl _) new
    refine ⟨.ref s.heap.objs.size, _, I1, rfl, ⟨_, x, rfl, I.hok.fresh (Nat.le_refl _), rfl, fun ys hy => by rw [I.list_inj hy hq]; exact hx⟩, ⟨⟨y, ?_⟩, hit'.1.at fun o q => (sb.2 it (Ne.symm hne)).trans q, hne⟩, fun b hb => ?_⟩
    · have e1 : k0 + ((i + 1 : Nat) : Int) = k0 + (i : Nat) + 1 := by omega
      rw [e1]; exact he'
    · have hb' : b < s.heap.objs.size := by
        have e' : b = e ∨ b = it := by simpa using hb
        rcases e' with z | z
        · rw [z]; exact hel
        · rw [z]; exact hil
      rw [upd_ne (Nat.ne_of_lt hb')]
      exact (hf b hb).1
  done := by
    intro X hP hw hK hc i pins s σ H E I hf st hg
    subst hP hw hK
    obtain ⟨⟨old, he⟩, hit, hne⟩ := st
    obtain ⟨xs, hq, hx⟩ := hg
    obtain ⟨its, rv, p, hz⟩ := I.list hq
    obtain ⟨f0, f1, f2, f3, f4, f5⟩ := hf it (by simp)
    have hl := rv.length
    have hal : a ≠ it := fun z => by
      obtain ⟨o1, q1, q2, _⟩ := hit
      obtain ⟨o2, q3, q4, _⟩ := p.isList
      rw [z, q1] at q3; cases q3
      rw [q2] at q4; exact absurd q4 (by simp)
    have D := Draws.list (prog := X.prog) (w := X.w) (A := X.A.in1) (I.ok.hd hc) it a hal its.toArray
    have hi : its.toArray.size = i := by simp; omega
    exact wpAny_pyNext_enum_endD D he ⟨by rw [hi]; exact hit, p.isList⟩ fun h' eb => ⟨rfl, I.turned (t' := s.toks) (fun b o hb q => eb b o hb q) f0 f1 f3 f4 f5⟩
  self := fun A i s Q E st h => let ⟨⟨_, he⟩, _⟩ := st; wpAny_pyIter_enum he h
def IteT (K : PySem.W.Frag) (a : Addr) (k0 : Int) : L2.It :=
  ⟨fun i H => ∃ (xs : List V) (x : V), SqT K H a xs ∧ xs[i]? = some x, fun i H v H' => ∃ T x, v = .ref T ∧ H T = none ∧ H' = upd H T (.tup [.int (k0 + (i : Nat)), x]) ∧ ∀ xs, SqT K H a xs → xs[i]? = some x, fun i H => ∃ xs : List V, SqT K H a xs ∧ xs.length = i⟩
theorem turn_enumT {P : Program} {w : World} {K : PySem.W.Frag} {elts : List Expr} {kk : Nat} {tpos : Pos} (a e it : Addr) (k0 : Int) :
    Turn P w K (.Tuple elts kk tpos) (IteT K a k0) [e, it] e (fun i h => (∃ old, IsEnum h e it (k0 + (i : Nat)) old) ∧ h.IsTupleIter it a i ∧ e ≠ it) where
  mem := by simp
  obj := fun i h st b hb => by
    obtain ⟨⟨old, he⟩, ⟨o, ho, hc, hd⟩, _⟩ := st
    have e' : b = e ∨ b = it := by simpa using hb
    rcases e' with z | z
    · rw [z]; exact ⟨_, he, fun v q => nomatch q⟩
    · rw [z]; exact ⟨o, ho, fun v q => by rw [hd] at q; cases q⟩
  keep := fun i h h' st k => let ⟨⟨old, he⟩, hi, hne⟩ := st; ⟨⟨old, k e (by simp) _ he⟩, hi.at fun o q => k it (by simp) o q, hne⟩
  item := by
    intro X hP hw hK hc i pins s σ H E I hf st hg
    subst hP hw hK
    obtain ⟨⟨old, he⟩, hit, hne⟩ := st
    obtain ⟨xs, x, hq, hx⟩ := hg
    obtain ⟨its, rv, p, hz⟩ := I.tuple hq
    obtain ⟨u, hu, ru⟩ := rv.get hx
    have hel : e < s.heap.objs.size := Heap.lt_size he
    have hil : it < s.heap.objs.size := by obtain ⟨_, q, _⟩ := hit; exact Heap.lt_size q
    have hlt : i < its.toArray.size := by
      have := (List.getElem?_eq_some_iff.mp hu).1
      simpa using this
    have hal : a ≠ it := fun z => by
      obtain ⟨o1, q1, q2, _⟩ := hit
      obtain ⟨o2, q3, q4, _⟩ := p
      rw [z, q1] at q3; cases q3
      rw [q2] at q4; exact absurd q4 (by simp)
    have hae : e ≠ a := fun z => by
      obtain ⟨o2, q3, q4, _⟩ := p
      rw [← z, he] at q3; cases q3
      exact absurd q4 (by simp)
    have D := Draws.tuple (prog := X.prog) (w := X.w) (A := X.A.in1) (I.ok.hd hc) it a hal its.toArray
    refine wpAny_pyNext_enum_itemC D he ⟨hit, p⟩ hlt hne (by simp [hne, hae]) fun y h' tk hP ho hit' hT hsz hk => ?_
    have ey : y = u := by
      have q : its.toArray[i]? = some y := hP
      have q2 : its.toArray[i]? = some u := by simpa using hu
      rw [q2] at q; exact (Option.some.inj q).symm
    subst ey
    refine ⟨_, rfl, wpAny_letOwnedTupleGo_enum (s := { s with heap := h', toks := tk + 1 }) ho fun h'' he' sb => ?_⟩
    have hT2 : h''.get? s.heap.objs.size = some { cls := .type "tuple", data := .seq #[.int (k0 + (i : Nat)) tk, y] } := (sb.2 _ (Nat.ne_of_gt hel)).trans hT
    have new : ObjOk X.prog X.w (upd H s.heap.objs.size (.tup [.int (k0 + (i : Nat)), x])) h'' s.heap.objs.size (.tup [.int (k0 + (i : Nat)), x]) :=
      ⟨by show 2 ≤ sizeLine; decide, [.int (k0 + (i : Nat)) tk, y], .cons ⟨_, rfl⟩ (.cons ru .nil), ⟨_, hT2, rfl, _, rfl⟩⟩
    have I1 : Inv X pins σ (upd H s.heap.objs.size (.tup [.int (k0 + (i : Nat)), x])) { s with heap := h'', toks := tk + 1 } :=
      I.turnedNew (ch := [e, it]) (fun b ob hb q => (sb.2 b (fun z => hb (by simp [z]))).trans (hk b ob (fun z => hb (by simp [z])) (fun z => hb (by simp [z])) q)) hf (Nat.le_refl _) new
    refine ⟨.ref s.heap.objs.size, _, I1, rfl, ⟨_, x, rfl, I.hok.fresh (Nat.le_refl _), rfl, fun ys hy => by rw [I.tuple_inj hy hq]; exact hx⟩, ⟨⟨y, ?_⟩, hit'.1.at fun o q => (sb.2 it (Ne.symm hne)).trans q, hne⟩, fun b hb => ?_⟩
    · have e1 : k0 + ((i + 1 : Nat) : Int) = k0 + (i : Nat) + 1 := by omega
      rw [e1]; exact he'
    · have hb' : b < s.heap.objs.size := by
        have e' : b = e ∨ b = it := by simpa using hb
        rcases e' with z | z
        · rw [z]; exact hel
        · rw [z]; exact hil
      rw [upd_ne (Nat.ne_of_lt hb')]
      exact (hf b hb).1
  done := by
    intro X hP hw hK hc i pins s σ H E I hf st hg
    subst hP hw hK
    obtain ⟨⟨old, he⟩, hit, hne⟩ := st
    obtain ⟨xs, hq, hx⟩ := hg
    obtain ⟨its, rv, p, hz⟩ := I.tuple hq
    obtain ⟨f0, f1, f2, f3, f4, f5⟩ := hf it (by simp)
    have hl := rv.length
    have hal : a ≠ it := fun z => by
      obtain ⟨o1, q1, q2, _⟩ := hit
      obtain ⟨o2, q3, q4, _⟩ := p
      rw [z, q1] at q3; cases q3
      rw [q2] at q4; exact absurd q4 (by simp)
    have D := Draws.tuple (prog := X.prog) (w := X.w) (A := X.A.in1) (I.ok.hd hc) it a hal its.toArray
    have hi : its.toArray.size = i := by simp; omega
    exact wpAny_pyNext_enum_endD D he ⟨by rw [hi]; exact hit, p⟩ fun h' eb => ⟨rfl, I.turned (t' := s.toks) (fun b o hb q => eb b o hb q) f0 f1 f3 f4 f5⟩
  self := fun A i s Q E st h => let ⟨⟨_, he⟩, _⟩ := st; wpAny_pyIter_enum he h
end Ev

set_option autoImplicit false
set_option linter.all false
set_option maxRecDepth 100000
/-! What is walked. -/
namespace PySem
set_option maxHeartbeats 1000000 in
theorem evl_enumerate_new1 {v : Value} {o : Obj} {H : Heap → Prop} (B : Begins v o H) :
    Meets (Builtin.«enumerate.__new__» ⟨[.type "enumerate", v], []⟩) (fun _ R s => H s.heap ∧
      R (.ok (.ret (.ref (s.heap.push o).objs.size))) { s with heap := (s.heap.push o).push { cls := .type "enumerate", data := .fields #[.none, .bool false, .ref s.heap.objs.size, rawInt 0, .none, .none] } }) :=
  .of_wp fun prog w A R s h => by
    obtain ⟨hp, g, d, tk, os⟩ := s; obtain ⟨h1, h⟩ := h
    have hsub := sub_enumerate
    have q1 : ∀ {A' : Around} {E : Value → Shared → Prop} {Q : Value → Shared → Prop}, Q (.ref hp.objs.size) ⟨hp.push o, g, d, tk, os⟩ → wpAny (model prog w) A' (pyIter v) Q E ⟨hp, g, d, tk, os⟩ :=
      fun q => B.iter prog w _ _ ⟨hp, g, d, tk, os⟩ _ h1 q
    wp_walk using q1
    refine wpAny_stack_any fun st => wpAny_pure ?_
    split
    · rename_i c _ _ _ _ _
      cases (c == Value.type "enumerate")
      · wp_walk using q1
        exact ⟨_, rfl, h⟩
      · wp_walk using q1
        exact ⟨_, rfl, h⟩
    · wp_walk using q1
      exact ⟨_, rfl, h⟩
theorem evl_enum_begins1 {prog : Program} {w : World} {A : Around} {E : Value → Shared → Prop} {s : Shared} {v : Value} {o : Obj} {H : Heap → Prop} {Q : Value → Shared → Prop} (B : Begins v o H) (h1 : H s.heap)
    (h : ∀ h', IsEnum h' (s.heap.objs.size + 1) s.heap.objs.size 0 .none → h'.get? s.heap.objs.size = some o → h'.objs.size = s.heap.objs.size + 2 →
      (∀ b o, s.heap.get? b = some o → h'.get? b = some o) → Q (.ref (s.heap.objs.size + 1)) { s with heap := h' }) :
    wpAny (model prog w) A (call (.type "enumerate") [v]) Q E s := by
  refine callType_new F.called_enumerate (by decide) (F.typeCall_enumerate_1 _) (F.newCall_enumerate_1 _) (fun obj => F.args_object_init_2 obj _) F.entry_enumerate_new
    (evl_enumerate_new1 B) ⟨h1, ?_⟩
  have hz : (s.heap.push o).objs.size = s.heap.objs.size + 1 := Heap.size_push ..
  show _ ∧ _
  rw [hz]
  have he : IsEnum ((s.heap.push o).push { cls := .type "enumerate", data := .fields #[.none, .bool false, .ref s.heap.objs.size, rawInt 0, .none, .none] }) (s.heap.objs.size + 1) s.heap.objs.size 0 .none := by
    have := Heap.get?_push_size (s.heap.push o) (o := { cls := .type "enumerate", data := .fields #[.none, .bool false, .ref s.heap.objs.size, rawInt 0, .none, .none] }) rfl
    rw [hz] at this; exact this
  refine ⟨⟨_, he, rfl⟩, h _ he (Heap.get?_push_of_some _ (Heap.get?_push_size _ B.free)) (by rw [Heap.size_push, hz]) fun b o x => Heap.get?_push_of_some _ (Heap.get?_push_of_some _ x)⟩
end PySem
namespace Ev
open PySem L2 PyProof.Rows
variable {T : Nam} {N : Nms} {G : Tab} {c : Sx} {X : Cx} {W : WX}
/-- enumerate's reading, from the count k0 -/
def rEnum (K : PySem.W.Frag) (k0 : Int) (x : V) (H : Hp) (R : L2.It → Hp → Prop) : Prop := ∃ a xs, x = .ref a ∧ ((SqL K H a xs ∧ R (IteL K a k0) H) ∨ (SqT K H a xs ∧ R (IteT K a k0) H))
theorem enum_pie {pins : List (Addr × Obj)} {σ : L2.St} {H1 : Hp} {s1 : Shared} {x : V} {v : Value} {R : L2.It → Hp → Prop} {elts : List Expr} {kk : Nat} {tpos : Pos} {k0 : Int} {us : List Value}
    (mk : ∀ {v : Value} {o : Obj} {Hq : Heap → Prop} {Q : Value → Shared → Prop}, Begins v o Hq → Hq s1.heap →
      (∀ h', IsEnum h' (s1.heap.objs.size + 1) s1.heap.objs.size k0 .none → h'.get? s1.heap.objs.size = some o → h'.objs.size = s1.heap.objs.size + 2 →
      (∀ b o, s1.heap.get? b = some o → h'.get? b = some o) → Q (.ref (s1.heap.objs.size + 1)) { s1 with heap := h' }) → wpAny (model X.prog X.w) X.A (call (.type "enumerate") (v :: us)) Q X.xe s1)
    (I1 : Inv X pins σ H1 s1) (rx : RelV x v) (h : rEnum X.K k0 x H1 R) :
    wpAny (model X.prog X.w) X.A (call (.type "enumerate") (v :: us)) (fun it s2 => wpAny (model X.prog X.w) X.A (pyIter it) (PIE X pins σ (.Tuple elts kk tpos) R) X.xe s2) X.xe s1 := by
  obtain ⟨a, xs, rfl, h⟩ := h
  cases rx
  have fpk : ∀ {h' : Heap} (b : Addr), b ∈ [s1.heap.objs.size + 1, s1.heap.objs.size] → FpOk X pins H1 b := fun {h'} b hb => by
    have e' : b = s1.heap.objs.size + 1 ∨ b = s1.heap.objs.size := by simpa using hb
    have hle : s1.heap.objs.size ≤ b := by
      rcases e' with z | z
      · rw [z]; exact Nat.le_add_right _ _
      · rw [z]; exact Nat.le_refl _
    exact I1.fpOk hle (I1.hok.fresh hle)
  rcases h with ⟨hq, q⟩ | ⟨hq, q⟩
  · obtain ⟨its, rv, p', hz⟩ := I1.list hq
    refine mk (begins_list a its.toArray) p'.isList fun h' he hit hsz hk => wpAny_pyIter_enum he ?_
    have I2 : Inv X pins σ H1 { s1 with heap := h' } := I1.kept (t' := s1.toks) hk
    exact ⟨s1.heap.objs.size + 1, [s1.heap.objs.size + 1, s1.heap.objs.size], _, _, H1, rfl, I2, turn_enumL a (s1.heap.objs.size + 1) s1.heap.objs.size k0, ⟨⟨.none, by simpa using he⟩, ⟨_, hit, rfl, rfl⟩, Nat.succ_ne_self _⟩, fun b hb => fpk (h' := h') b hb, q⟩
  · obtain ⟨its, rv, p', hz⟩ := I1.tuple hq
    refine mk (begins_tuple a its.toArray) p' fun h' he hit hsz hk => wpAny_pyIter_enum he ?_
    have I2 : Inv X pins σ H1 { s1 with heap := h' } := I1.kept (t' := s1.toks) hk
    exact ⟨s1.heap.objs.size + 1, [s1.heap.objs.size + 1, s1.heap.objs.size], _, _, H1, rfl, I2, turn_enumT a (s1.heap.objs.size + 1) s1.heap.objs.size k0, ⟨⟨.none, by simpa using he⟩, ⟨_, hit, rfl, rfl⟩, Nat.succ_ne_self _⟩, fun b hb => fpk (h' := h') b hb, q⟩
theorem pi_enum1 {e : Expr} {te : TE} {p pos tpos : Pos} {elts : List Expr} {kk : Nat} (hg : Gl X "enumerate") (hm : X.mg "enumerate" = none) (he : PE X e te) (hs : starEach [e] X.env = (false, eval e X.env) :: starEach [] X.env) :
    PI X (.Tuple elts kk tpos) (.Call (.Name "enumerate" p) [e] [] pos) (fun σ H R => te σ H fun x H1 => rEnum X.K 0 x H1 R) := by
  refine ⟨fun pins s σ H R I h => ?_⟩
  refine Call_ (ld_blt I hg hm boot_enumerate (PyProof.Rows.callWith_type1 (one_arg he I h (fun v s2 x H2 I2 r q => ?_) hs) hs))
  exact enum_pie (us := []) (fun B h1 h => evl_enum_begins1 B h1 h) I2 r q
theorem pi_enum2 {e : Expr} {te : TE} {p pos tpos cp : Pos} {elts : List Expr} {kk cj : Nat} {k0 : Int} (hg : Gl X "enumerate") (hm : X.mg "enumerate" = none) (he : PE X e te) (hk : 0 ≤ k0 ∧ k0 < 1000) (hs : starEach [e, .Constant (.int k0) cj cp] X.env = (false, eval e X.env) :: starEach [.Constant (.int k0) cj cp] X.env) :
    PI X (.Tuple elts kk tpos) (.Call (.Name "enumerate" p) [e, .Constant (.int k0) cj cp] [] pos) (fun σ H R => te σ H fun x H1 => rEnum X.K k0 x H1 R) := by
  refine ⟨fun pins s σ H R I h => ?_⟩
  have hs2 : starEach [.Constant (.int k0) cj cp] X.env = (false, eval (.Constant (.int k0) cj cp) X.env) :: starEach [] X.env := by rfl
  refine Call_ (ld_blt I hg hm boot_enumerate (PyProof.Rows.callWith_type1 (args_cons (thn (he.run pins s σ H _ I h) fun v s1 ⟨x, H1, I1, r1, q1⟩ => one_arg (ta := tC (.int k0)) pe_int I1 (R := fun y H2 => y = .int k0 ∧ rEnum X.K k0 x H2 R) ⟨rfl, q1⟩ (fun u s2 y H2 I2 r2 q => ?_) hs2) hs) hs (by rw [hs2]; rfl)))
  obtain ⟨rfl, q⟩ := q
  obtain ⟨t, rfl⟩ := r2
  exact enum_pie (us := [.int k0 t]) (fun B h1 h => enum_begins B h1 (by omega) (by omega) h) I2 r1 q
end Ev

set_option autoImplicit false
set_option linter.all false
set_option maxRecDepth 100000
/-! Walks over data; comprehensions. -/
namespace Ev
open PySem L2 PyProof.Rows
variable {T : Nam} {N : Nms} {G : Tab} {c : Sx} {X : Cx} {W : WX}
/-- J gives the data ds, whatever happens to things that may change -/
def Wlk (N : Nms) (n0 : Nat) (ad0 : Nat → Addr) (B0 : Hp) (J : L2.It) (ds : List D) : Prop := ∃ (g : Hp → Prop) (Y : Nat → Hp → V → Hp → Prop), Walk J ds.length g Y ∧ (∀ H, Sm B0 H → g H) ∧
  ∀ i H x H', Y i H x H' → ∀ n ad M, n0 ≤ n → (∀ k, k < n0 → ad k = ad0 k) → Sm B0 (msk H M) → (∀ p, M p → ∃ o, H p = some o) → (∀ (p : Addr) (ys : List V), M p → H p ≠ some (HO.tup ys)) → ∃ d, ds[i]? = some d ∧ Same H H' ∧ RepD N n ad (msk H' M) x d
def tI (N : Nms) (W : WX) (m : M (List D)) : TI := fun σ H R => ∃ ad s F, Rel N ad σ H s F ∧ Gar N W ad σ H s F (m s) fun ds s' ad' H' => ∀ J, Wlk N s'.cel.length ad' (msk H' (Mk ad' σ s' F)) J ds → R J H'
theorem pi_imp {tg it : Expr} {t t' : TI} (h : PI X tg it t) (i : ∀ σ H Q, t' σ H Q → t σ H Q) : PI X tg it t' := ⟨fun pins s σ H Q I hw => h.run pins s σ H Q I (i _ _ _ hw)⟩
section
variable {n0 : Nat} {ad0 : Nat → Addr} {B0 : Hp} {a : Addr} {xs : List V} {ds : List D}
theorem wlk_list (s : SqL N.K B0 a xs) (r : RepDs N n0 ad0 B0 xs ds) : Wlk N n0 ad0 B0 (Itl N.K a) ds := by
  refine ⟨fun H => SqL N.K H a xs, YAt xs, ?_, fun H k => SqL.sm k s, ?_⟩
  · have := walk_list (K := N.K) (a := a) (xs := xs)
    rw [r.length] at this; exact this
  · rintro i H x H' ⟨rfl, e⟩ n ad M hn ha k hM _
    obtain ⟨d, h1, h2⟩ := r.getV e
    exact ⟨d, h1, Same.refl _, h2.mono hn ha k⟩
theorem wlk_tup (s : SqT N.K B0 a xs) (r : RepDs N n0 ad0 B0 xs ds) : Wlk N n0 ad0 B0 (Itt N.K a) ds := by
  refine ⟨fun H => SqT N.K H a xs, YAt xs, ?_, fun H k => SqT.sm k s, ?_⟩
  · have := walk_tup (K := N.K) (a := a) (xs := xs)
    rw [r.length] at this; exact this
  · rintro i H x H' ⟨rfl, e⟩ n ad M hn ha k hM _
    obtain ⟨d, h1, h2⟩ := r.getV e
    exact ⟨d, h1, Same.refl _, h2.mono hn ha k⟩
theorem enumFrom_len (k0 : Int) : ∀ (ds : List D) , (enumFrom k0 ds).length = ds.length := fun ds => by
  induction ds generalizing k0 with
  | nil => rfl
  | cons d ds ih => simp [enumFrom, ih]
theorem enumFrom_get : ∀ (ds : List D) (k0 : Int) (i : Nat) (d : D), ds[i]? = some d → (enumFrom k0 ds)[i]? = some (.tup [.int (k0 + i), d])
  | [], _, _, _, h => by simp at h
  | x :: xs, k0, 0, d, h => by
    have h : x = d := by simpa using h
    subst h
    simp [enumFrom]
  | x :: xs, k0, i + 1, d, h => by
    have := enumFrom_get xs (k0 + 1) i d (by simpa using h)
    simp only [enumFrom, List.getElem?_cons_succ, this]
    congr 3
    have : k0 + 1 + (i : Int) = k0 + ((i + 1 : Nat) : Int) := by omega
    rw [this]
theorem yld_pair {i : Nat} {k0 : Int} {H : Hp} {x : V} {H' : Hp} {f : Nat → Option V} (r : RepDs N n0 ad0 B0 xs ds) (hf : ∀ i x, f i = some x → xs[i]? = some x) (y : YPair (fun i => some (.int (k0 + (i : Nat)))) f i H x H') (n : Nat) (ad : Nat → Addr) (M : Addr → Prop)
    (hn : n0 ≤ n) (ha : ∀ k, k < n0 → ad k = ad0 k) (k : Sm B0 (msk H M)) (hM : ∀ p, M p → ∃ o, H p = some o) (_ : ∀ (p : Addr) (ys : List V), M p → H p ≠ some (HO.tup ys)) : ∃ d, (enumFrom k0 ds)[i]? = some d ∧ Same H H' ∧ RepD N n ad (msk H' M) x d := by
  obtain ⟨T, u, w, rfl, hT, rfl, e1, e2⟩ := y
  cases e1
  obtain ⟨d, h1, h2⟩ := r.getV (hf i w e2)
  exact ⟨_, enumFrom_get ds k0 i d h1, new_same hT, new_tup hM hT (.cons (.int _) (.cons (h2.mono hn ha k) .nil))⟩
theorem wlk_enumL (k0 : Int) (s : SqL N.K B0 a xs) (r : RepDs N n0 ad0 B0 xs ds) : Wlk N n0 ad0 B0 (IteL N.K a k0) (enumFrom k0 ds) := by
  refine ⟨fun H => SqL N.K H a xs, YPair (fun i => some (.int (k0 + (i : Nat)))) (fun i => xs[i]?), ?_, fun H k => SqL.sm k s, fun i H x H' y n ad M => yld_pair r (fun i x h => h) y n ad M⟩
  rw [enumFrom_len, ← r.length]
  refine ⟨fun i H hi h => ?_, fun H h => ⟨xs, h, rfl⟩, fun i H x H' hi h y => ?_⟩
  · exact ⟨xs, xs[i], h, List.getElem?_eq_getElem hi⟩
  · obtain ⟨T, u, e1, e2, e3, e4⟩ := y
    exact ⟨T, _, u, e1, e2, e3, rfl, e4 xs h⟩
theorem wlk_enumT (k0 : Int) (s : SqT N.K B0 a xs) (r : RepDs N n0 ad0 B0 xs ds) : Wlk N n0 ad0 B0 (IteT N.K a k0) (enumFrom k0 ds) := by
  refine ⟨fun H => SqT N.K H a xs, YPair (fun i => some (.int (k0 + (i : Nat)))) (fun i => xs[i]?), ?_, fun H k => SqT.sm k s, fun i H x H' y n ad M => yld_pair r (fun i x h => h) y n ad M⟩
  rw [enumFrom_len, ← r.length]
  refine ⟨fun i H hi h => ?_, fun H h => ⟨xs, h, rfl⟩, fun i H x H' hi h y => ?_⟩
  · exact ⟨xs, xs[i], h, List.getElem?_eq_getElem hi⟩
  · obtain ⟨T, u, e1, e2, e3, e4⟩ := y
    exact ⟨T, _, u, e1, e2, e3, rfl, e4 xs h⟩
theorem wlk_range (lo hi : Int) : Wlk N n0 ad0 B0 (Itr lo (hi - lo).toNat) ((rangeL lo hi).map .int) := by
  have hl : ((rangeL lo hi).map D.int).length = (hi - lo).toNat := by simp [rangeL]
  refine ⟨fun _ => True, fun i H x H' => i < (hi - lo).toNat ∧ YFn (fun i => .int (lo + (i : Nat))) i H x H', ?_, fun _ _ => trivial, ?_⟩
  · have := walk_range (lo := lo) (n := (hi - lo).toNat)
    rw [hl]
    exact this.mono (fun _ h => h) (fun i H x H' hi _ y => ⟨hi, y⟩)
  · rintro i H x H' ⟨hi, rfl, rfl⟩ n ad M hn ha k hM _
    refine ⟨.int (lo + (i : Nat)), ?_, Same.refl _, .int _⟩
    simp [rangeL, hi]
end
/-! ### what the core's walks read -/
theorem walkD_inv {ad : Nat → Addr} {σ : L2.St} {H : Hp} {s : S} {F : Addr → Prop} {pv : PV} {v : V} {K : List D → S → (Nat → Addr) → Hp → Prop} (R : Rel N ad σ H s F) (r : RepPV N ad σ H s F v pv) (h : Gar N W ad σ H s F (walkD pv s) K) :
    ∃ a xs ds s', v = .ref a ∧ Rel N ad σ H s' F ∧ Post ad σ H s ad σ H s' F ∧ (SqL N.K (msk H (Mk ad σ s' F)) a xs ∨ SqT N.K (msk H (Mk ad σ s' F)) a xs) ∧ RepDs N s'.cel.length ad (msk H (Mk ad σ s' F)) xs ds ∧ K ds s' ad H := by
  have go : ∀ {pv : PV}, RepPV N ad σ H s F v pv → Gar N W ad σ H s F (M.bind pv.store (fun x => M.of x.items) s) K →
      ∃ a xs ds s', v = .ref a ∧ Rel N ad σ H s' F ∧ Post ad σ H s ad σ H s' F ∧ (SqL N.K (msk H (Mk ad σ s' F)) a xs ∨ SqT N.K (msk H (Mk ad σ s' F)) a xs) ∧ RepDs N s'.cel.length ad (msk H (Mk ad σ s' F)) xs ds ∧ K ds s' ad H := fun {pv} r h => by
    obtain ⟨d, s', R', P', rd, k⟩ := store_ok R r (Gar.bind h)
    cases d with
    | lst ds =>
      cases rd with
      | lst q1 q2 => exact ⟨_, _, _, s', rfl, R', P', .inl q1, q2, Gar.pure R' k⟩
    | tup ds =>
      cases rd with
      | tup q1 _ q2 => exact ⟨_, _, _, s', rfl, R', P', .inr q1, q2, Gar.pure R' k⟩
    | _ => exact k.elim
  cases pv with
  | d x =>
    cases x with
    | ref k => exact h.elim
    | _ => exact go r h
  | own i => exact go r h
/-- a list or a tuple -/
theorem pi_seq {tg l : Expr} {tl : TE} (hl : PE X l tl) : PI X tg l (fun σ H R => tl σ H fun x H1 => ∃ a xs, x = .ref a ∧ ((SqL X.K H1 a xs ∧ R (Itl X.K a) H1) ∨ (SqT X.K H1 a xs ∧ R (Itt X.K a) H1))) := by
  refine ⟨fun pins s σ H R I h => ?_⟩
  refine thn (hl.run pins s σ H _ I h) fun v s1 ⟨x, H1, I1, r1, a, xs, e, q1⟩ => ?_
  subst e
  cases r1
  rcases q1 with ⟨hq, q⟩ | ⟨hq, q⟩
  · obtain ⟨its, rv, p, hz⟩ := I1.list hq
    refine wpAny_pyIter_list p.isList ?_
    refine ⟨s1.heap.objs.size, [s1.heap.objs.size], _, _, H1, rfl, I1.kept (t' := s1.toks) fun b o e => Heap.get?_push_of_some _ e, turn_list a _, ⟨_, Heap.get?_push_size _ rfl, rfl, rfl⟩, fun b hb => ?_, q⟩
    have e : b = s1.heap.objs.size := by simpa using hb
    subst e
    exact I1.fpOk (Nat.le_refl _) (I1.hok.fresh (Nat.le_refl _))
  · obtain ⟨its, rv, p, hz⟩ := I1.tuple hq
    refine wpAny_pyIter_tuple (show s1.heap.IsTuple a its.toArray from p) ?_
    refine ⟨s1.heap.objs.size, [s1.heap.objs.size], _, _, H1, rfl, I1.kept (t' := s1.toks) fun b o e => Heap.get?_push_of_some _ e, turn_tuple a _, ⟨_, Heap.get?_push_size _ rfl, rfl, rfl⟩, fun b hb => ?_, q⟩
    have e : b = s1.heap.objs.size := by simpa using hb
    subst e
    exact I1.fpOk (Nat.le_refl _) (I1.hok.fresh (Nat.le_refl _))
theorem tI_val {m : M PV} : ∀ σ H R, tI N W (M.bind m walkD) σ H R → (tX N W m) σ H fun x H1 => ∃ a xs, x = .ref a ∧ ((SqL N.K H1 a xs ∧ R (Itl N.K a) H1) ∨ (SqT N.K H1 a xs ∧ R (Itt N.K a) H1)) := by
  rintro σ H Q ⟨ad, s, F, R, h⟩
  refine ⟨ad, s, F, R, (Gar.bind h).mono fun pv s1 ad1 H1 R1 P1 h1 v rv => ?_⟩
  obtain ⟨a, xs, ds, s', rfl, R', P', q, rd, k⟩ := walkD_inv R1 rv h1
  refine ⟨a, xs, rfl, ?_⟩
  rcases q with q | q
  · exact .inl ⟨SqL.sm sm_le q, k _ (wlk_list q rd)⟩
  · exact .inr ⟨SqT.sm sm_le q, k _ (wlk_tup q rd)⟩
theorem tI_enum {m : M PV} {k0 : Int} : ∀ σ H R, tI N W (M.bind m fun x => M.bind (walkD x) fun xs => M.pure (enumFrom k0 xs)) σ H R → (tX N W m) σ H fun x H1 => rEnum N.K k0 x H1 R := by
  rintro σ H Q ⟨ad, s, F, R, h⟩
  refine ⟨ad, s, F, R, (Gar.bind h).mono fun pv s1 ad1 H1 R1 P1 h1 v rv => ?_⟩
  obtain ⟨a, xs, ds, s', rfl, R', P', q, rd, k⟩ := walkD_inv R1 rv (Gar.bind h1)
  have k := Gar.pure R' k
  refine ⟨a, xs, rfl, ?_⟩
  rcases q with q | q
  · exact .inl ⟨SqL.sm sm_le q, k _ (wlk_enumL k0 q rd)⟩
  · exact .inr ⟨SqT.sm sm_le q, k _ (wlk_enumT k0 q rd)⟩
theorem sml_of {i : Int} (h : sml i = true) : -(2 ^ 62) ≤ i ∧ i < 2 ^ 62 := by
  unfold sml big at h
  simpa using h
theorem rngF_inv {x y : PV} {q : Int × Int} (h : rngF x y = some q) : x = .d (.int q.1) ∧ y = .d (.int q.2) ∧ sml q.1 = true ∧ sml q.2 = true := by
  unfold rngF at h
  split at h
  · split at h
    · rename_i hc
      simp only [Bool.and_eq_true] at hc
      cases h
      exact ⟨rfl, rfl, hc.1, hc.2⟩
    · cases h
  · cases h
theorem of_inv {α : Type} {ad : Nat → Addr} {σ : L2.St} {H : Hp} {s : S} {F : Addr → Prop} {o : Option α} {K : α → S → (Nat → Addr) → Hp → Prop} (R : Rel N ad σ H s F) (h : Gar N W ad σ H s F (M.of o s) K) : ∃ a, o = some a ∧ K a s ad H := by
  cases o with
  | none => exact h.elim
  | some a => exact ⟨a, rfl, Gar.pure R h⟩
theorem tI_rng1 {m : M PV} : ∀ σ H R, tI N W (M.bind m fun x => M.of ((rngF (.d (.int 0)) x).map fun q => (rangeL q.1 q.2).map .int)) σ H R → iRng1 (tCons (tX N W m) tNil) σ H R := by
  rintro σ H Q ⟨ad, s, F, R, h⟩
  refine ⟨ad, s, F, R, (Gar.bind h).mono fun pv s1 ad1 H1 R1 P1 h1 v rv => ?_⟩
  obtain ⟨ds, e, k⟩ := of_inv R1 h1
  cases hr : rngF (.d (.int 0)) pv with
  | none => rw [hr] at e; cases e
  | some q =>
    rw [hr] at e; cases e
    obtain ⟨e1, rfl, s1, s2⟩ := rngF_inv hr
    have e1 : (0 : Int) = q.1 := by injection e1 with e1; injection e1
    cases rv
    have b := sml_of s2
    refine ⟨q.2, rfl, b.1, b.2, ?_⟩
    have := k _ (wlk_range q.1 q.2)
    rw [← e1] at this
    have e : (q.2 - 0).toNat = q.2.toNat := by rw [Int.sub_zero]
    rwa [e] at this
theorem tI_rng2 {m m2 : M PV} : ∀ σ H R, tI N W (M.bind m fun x => M.bind m2 fun y => M.of ((rngF x y).map fun q => (rangeL q.1 q.2).map .int)) σ H R → iRng2 (tCons (tX N W m) (tCons (tX N W m2) tNil)) σ H R := by
  rintro σ H Q ⟨ad, s, F, R, h⟩
  refine ⟨ad, s, F, R, (Gar.bind h).mono fun pv s1 ad1 H1 R1 P1 h1 v rv => ?_⟩
  refine ⟨ad1, s1, F, R1, (Gar.bind h1).mono fun pv2 s2 ad2 H2 R2 P2 h2 v2 rv2 => ?_⟩
  obtain ⟨ds, e, k⟩ := of_inv R2 h2
  cases hr : rngF pv pv2 with
  | none => rw [hr] at e; cases e
  | some q =>
    rw [hr] at e; cases e
    obtain ⟨rfl, rfl, s1, s2⟩ := rngF_inv hr
    cases rv
    cases rv2
    have b := sml_of s1
    have b2 := sml_of s2
    exact ⟨q.1, q.2, rfl, ⟨b.1, b.2, b2.1, b2.2⟩, k _ (wlk_range q.1 q.2)⟩
end Ev

set_option autoImplicit false
set_option linter.all false
set_option maxRecDepth 100000
/-! Targets; comprehensions. -/
namespace Ev
open PySem L2 PyProof.Rows
variable {T : Nam} {N : Nms} {G : Tab} {c : Sx} {X : Cx} {W : WX}
def Tgs.len : Tgs → Nat
  | .nil => 0
  | .cons _ ts => ts.len + 1
/-- (a, b, ..) = a tuple or a list of that length -/
def gSq (K : PySem.W.Frag) (n : Nat) (t : TGs) : TG := fun v σ H Q => gTup K n t v σ H Q ∨ gUnl K n t v σ H Q
theorem pg_sq {es : List Expr} {k : Nat} {t : TGs} {n : Nat} {pos : Pos} (hc : X.calm = true) (h : PGs X es t)
    (hn : (assignEach es X.env).length = n) (hst : (assignEach es X.env).findIdx? (·.1) = none) : PG X (.Tuple es k pos) (gSq X.K n t) :=
  ⟨fun pins s σ H v u Q I r hw => hw.elim (fun hw => (pg_tup hc h hn hst).run pins s σ H v u Q I r hw) fun hw => (pg_unl hc h hn hst).run pins s σ H v u Q I r hw⟩
mutual
def gTg (K : PySem.W.Frag) : Tg → TG
  | .v i => gName i
  | .tup ts => gSq K ts.len (gTgs K ts)
def gTgs (K : PySem.W.Frag) : Tgs → TGs
  | .nil => gNil
  | .cons t ts => gCons (gTg K t) (gTgs K ts)
end
/-- sets of slots among vs -/
inductive SetIn (vs : List Nat) : L2.St → L2.St → Prop
  | refl (σ : L2.St) : SetIn vs σ σ
  | step {σ σ' : L2.St} {i : Nat} {v : Option V} : SetIn vs (σ.set i v) σ' → i ∈ vs → SetIn vs σ σ'
theorem SetIn.trans {vs : List Nat} {σ σ' σ2 : L2.St} (h : SetIn vs σ σ') : SetIn vs σ' σ2 → SetIn vs σ σ2 := by
  induction h with
  | refl => exact id
  | step _ hi ih => exact fun k => .step (ih k) hi
theorem wipe_set (vs : List Nat) : ∀ (σ : L2.St) (i : Nat) (v : Option V), i ∈ vs → L2.wipe (σ.set i v) vs = L2.wipe σ vs := by
  induction vs with
  | nil => intro σ i v h; simp at h
  | cons j vs ih =>
    intro σ i v h
    unfold L2.wipe
    by_cases hij : i ∈ vs
    · rw [ih σ i v hij]
    · have e : i = j := by
        rcases List.mem_cons.mp h with h | h
        · exact h
        · exact absurd h hij
      subst e
      have comm : ∀ (ws : List Nat) (σ : L2.St), i ∉ ws → L2.wipe (σ.set i v) ws = (L2.wipe σ ws).set i v := by
        intro ws
        induction ws with
        | nil => intro σ _; rfl
        | cons k ws ih2 =>
          intro σ hn
          unfold L2.wipe
          rw [ih2 σ fun z => hn (List.mem_cons_of_mem _ z)]
          exact List.set_comm _ _ (fun z => hn (by rw [z]; exact List.mem_cons_self ..))
      rw [comm vs σ hij, List.set_set]
theorem SetIn.wipe {vs : List Nat} {σ σ' : L2.St} (h : SetIn vs σ σ') : L2.wipe σ' vs = L2.wipe σ vs := by
  induction h with
  | refl => rfl
  | step _ hi ih => rw [ih, wipe_set vs _ _ _ hi]
section
variable {ad : Nat → Addr} {H : Hp} {F : Addr → Prop}
mutual
theorem bind_ok {vs : List Nat} : ∀ (t : Tg) (x : D) (v : V) {σ : L2.St} {s s1 : S} {Q : L2.St → Hp → Prop}, (∀ i ∈ tgSl t, i ∈ vs) → bindT t x s = some s1 → Rel N ad σ H s F → RepD N s.cel.length ad (msk H (Mk ad σ s F)) v x →
    (∀ σ1, Rel N ad σ1 H s1 F → Post ad σ H s ad σ1 H s1 F → SetIn vs σ σ1 → Q σ1 H) → gTg N.K t v σ H Q
  | .v i, x, v, σ, s, s1, Q, hv, e, R, r, k => by
    have e : some ({ s with loc := s.loc.set i (some (.d x)) } : S) = some s1 := e
    cases e
    obtain ⟨R1, P1⟩ := R.setD i r
    exact k _ R1 P1 (.step (.refl _) (hv i (by simp [tgSl])))
  | .tup ts, x, v, σ, s, s1, Q, hv, e, R, r, k => by
    cases x with
    | tup xs =>
      have e : bindTs ts xs s = some s1 := e
      cases r with
      | tup sq _ rs =>
        refine .inl ⟨_, _, rfl, SqT.sm sm_le sq, ?_, binds_ok (vs := vs) ts xs _ (fun i hi => hv i hi) e R rs k⟩
        rw [rs.length]
        exact bindTs_len ts xs e
    | lst xs =>
      have e : bindTs ts xs s = some s1 := e
      cases r with
      | lst sq rs =>
        refine .inr ⟨_, _, rfl, SqL.sm sm_le sq, ?_, binds_ok (vs := vs) ts xs _ (fun i hi => hv i hi) e R rs k⟩
        rw [rs.length]
        exact bindTs_len ts xs e
    | _ => exact nomatch (show (none : Option S) = some s1 from e)
theorem binds_ok {vs : List Nat} : ∀ (ts : Tgs) (xs : List D) (ws : List V) {σ : L2.St} {s s1 : S} {Q : L2.St → Hp → Prop}, (∀ i ∈ tgSls ts, i ∈ vs) → bindTs ts xs s = some s1 → Rel N ad σ H s F → RepDs N s.cel.length ad (msk H (Mk ad σ s F)) ws xs →
    (∀ σ1, Rel N ad σ1 H s1 F → Post ad σ H s ad σ1 H s1 F → SetIn vs σ σ1 → Q σ1 H) → gTgs N.K ts ws σ H Q
  | .nil, [], ws, σ, s, s1, Q, hv, e, R, r, k => by
    have e : some s = some s1 := e
    cases e
    cases r
    exact ⟨rfl, k σ R Post.refl (.refl _)⟩
  | .nil, _ :: _, ws, σ, s, s1, Q, hv, e, R, r, k => nomatch (show (none : Option S) = some s1 from e)
  | .cons _ _, [], ws, σ, s, s1, Q, hv, e, R, r, k => nomatch (show (none : Option S) = some s1 from e)
  | .cons t ts, x :: xs, ws, σ, s, s1, Q, hv, e, R, r, k => by
    have e : (bindT t x s).bind (bindTs ts xs) = some s1 := e
    cases hb : bindT t x s with
    | none => rw [hb] at e; cases e
    | some s' =>
      rw [hb] at e
      cases r with
      | cons r1 r2 =>
        refine ⟨_, _, rfl, bind_ok (vs := vs) t x _ (fun i hi => hv i (by simp [tgSls, hi])) hb R r1 fun σ1 R1 P1 S1 => ?_⟩
        exact binds_ok (vs := vs) ts xs _ (fun i hi => hv i (by simp [tgSls, hi])) e R1 (P1.reps r2) fun σ2 R2 P2 S2 => k σ2 R2 (P1.trans P2) (S1.trans S2)
theorem bindTs_len : ∀ (ts : Tgs) (xs : List D) {s s1 : S}, bindTs ts xs s = some s1 → xs.length = ts.len
  | .nil, [], s, s1, e => rfl
  | .nil, _ :: _, s, s1, e => nomatch (show (none : Option S) = some s1 from e)
  | .cons _ _, [], s, s1, e => nomatch (show (none : Option S) = some s1 from e)
  | .cons t ts, x :: xs, s, s1, e => by
    have e : (bindT t x s).bind (bindTs ts xs) = some s1 := e
    cases hb : bindT t x s with
    | none => rw [hb] at e; cases e
    | some s' =>
      rw [hb] at e
      have := bindTs_len ts xs e
      simp [Tgs.len, this]
end
end
/-- what a context says of names that are stored -/
structure TOk (c : Sx) (X : Cx) : Prop where
  hN : X.N = c.N
  nd : c.N.Nodup
  sc : X.env.scope = c.sc
  calm : c.hot = false → X.calm = true
  fnc : ∀ x, c.ow.names.lookup x = some .cell → X.fn x = true
theorem starE {e : Expr} {es : List Expr} {env : Env} (h : plainE e = true) : starEach (e :: es) env = (false, eval e env) :: starEach es env := by
  cases e <;> first | rfl | (simp [plainE] at h)
mutual
theorem pg_core (o : TOk c X) (hK : X.K = N.K) : ∀ (t : Tg) (e : Expr), okTg c t e = true → PG X e (gTg N.K t)
  | .v i, e, h => by
    cases e <;> try (exact nomatch (show false = true from h))
    rename_i x p
    have h : (decide (c.N[i]? = some x) && (locB c.sc x || celB c.sc x && celB c.ow x)) = true := h
    simp only [Bool.and_eq_true, decide_eq_true_eq, Bool.or_eq_true] at h
    obtain ⟨h1, h2⟩ := h
    have cl : ∀ {sc : Scope}, celB sc x = true → sc.names.lookup x = some .cell := fun {sc} h => by
      unfold celB at h
      split at h
      · assumption
      · cases h
    have lk : c.sc.names.lookup x = some .local ∨ (c.sc.names.lookup x = some .cell ∧ c.ow.names.lookup x = some .cell) := by
      rcases h2 with h2 | h2
      · unfold locB at h2
        split at h2
        · exact .inl ‹_›
        · cases h2
      · exact .inr ⟨cl h2.1, cl h2.2⟩
    refine pg_name (by rw [o.hN]; exact o.nd) (by rw [o.hN]; exact h1) ?_ ?_
    · unfold L2.Loc; rw [o.sc]; exact lk.imp id And.left
    · rw [o.sc]
      rcases lk with lk | lk
      · exact .inr lk
      · exact .inl (o.fnc x lk.2)
  | .tup ts, e, h => by
    cases e <;> try (exact nomatch (show false = true from h))
    rename_i es k p
    have h : (okTgs c ts es && !c.hot) = true := h
    simp only [Bool.and_eq_true, Bool.not_eq_true'] at h
    obtain ⟨h1, h2⟩ := h
    obtain ⟨q1, q2, q3⟩ := pgs_core o hK ts es h1
    show PG X _ (gSq N.K ts.len (gTgs N.K ts))
    rw [← hK]
    exact pg_sq (o.calm h2) (by rw [hK]; exact q1) q2 q3
theorem pgs_core (o : TOk c X) (hK : X.K = N.K) : ∀ (ts : Tgs) (es : List Expr), okTgs c ts es = true → PGs X es (gTgs N.K ts) ∧ (assignEach es X.env).length = ts.len ∧ (assignEach es X.env).findIdx? (·.1) = none
  | .nil, es, h => by
    cases es with
    | nil => exact ⟨pgs_nil, rfl, rfl⟩
    | cons => exact nomatch (show false = true from h)
  | .cons t ts, es, h => by
    cases es with
    | nil => exact nomatch (show false = true from h)
    | cons e es =>
      have h : (okTg c t e && okTgs c ts es) = true := h
      simp only [Bool.and_eq_true] at h
      obtain ⟨q1, q2, q3⟩ := pgs_core o hK ts es h.2
      have pe : plainE e = true := by
        cases e <;> first | rfl | (cases t <;> exact nomatch (show false = true from h.1))
      have ae : assignEach (e :: es) X.env = (false, assign e X.env) :: assignEach es X.env := by
        cases e <;> first | rfl | (simp [plainE] at pe)
      refine ⟨pgs_cons (pg_core o hK t e h.1) q1 (by rw [ae]; rfl), by rw [ae, List.length_cons, q2]; rfl, ?_⟩
      rw [ae, List.findIdx?_cons]
      simp [q3]
end
end Ev

set_option autoImplicit false
set_option linter.all false
set_option maxRecDepth 100000
/-! Comprehensions. -/
namespace Ev
open PySem L2 PyProof.Rows
variable {T : Nam} {N : Nms} {G : Tab} {c : Sx} {X : Cx} {W : WX}
theorem foldl_set_len {α : Type} (f : Nat → α) : ∀ (own : List Nat) (l : List α), (own.foldl (fun l i => l.set i (f i)) l).length = l.length
  | [], l => rfl
  | j :: own, l => by rw [List.foldl_cons, foldl_set_len f own, List.length_set]
theorem foldl_set_get {α : Type} (f : Nat → α) : ∀ (own : List Nat) (l : List α) (i : Nat), (own.foldl (fun l i => l.set i (f i)) l)[i]? = if i ∈ own ∧ i < l.length then some (f i) else l[i]?
  | [], l, i => by simp
  | j :: own, l, i => by
    rw [List.foldl_cons, foldl_set_get f own (l.set j (f j)) i, List.length_set]
    by_cases h : i ∈ own ∧ i < l.length
    · rw [if_pos h, if_pos ⟨List.mem_cons_of_mem _ h.1, h.2⟩]
    · rw [if_neg h, List.getElem?_set]
      by_cases e : j = i
      · subst e
        by_cases hl : j < l.length
        · simp [hl]
        · simp [hl]
      · rw [if_neg e]
        have : ¬ (i ∈ j :: own ∧ i < l.length) := fun ⟨a, b⟩ => h ⟨(List.mem_cons.mp a).resolve_left fun z => e z.symm, b⟩
        rw [if_neg this]
theorem l2wipe_get (σ : L2.St) : ∀ (own : List Nat) (i : Nat), (L2.wipe σ own)[i]? = if i ∈ own ∧ i < σ.length then some none else σ[i]?
  | [], i => by simp [L2.wipe]
  | j :: own, i => by
    unfold L2.wipe
    rw [List.getElem?_set, L2.wipe_length, l2wipe_get σ own i]
    by_cases e : j = i
    · subst e
      by_cases hl : j < σ.length
      · simp [hl]
      · simp [hl]
    · rw [if_neg e]
      by_cases h : i ∈ own ∧ i < σ.length
      · rw [if_pos h, if_pos ⟨List.mem_cons_of_mem _ h.1, h.2⟩]
      · rw [if_neg h, if_neg fun ⟨a, b⟩ => h ⟨(List.mem_cons.mp a).resolve_left fun z => e z.symm, b⟩]
theorem wipe_get (own : List Nat) (s : S) (i : Nat) : (wipe own s).loc[i]? = if i ∈ own ∧ i < s.loc.length then some none else s.loc[i]? := foldl_set_get (fun _ => none) own s.loc i
theorem wipe_cel (own : List Nat) (s : S) : (wipe own s).cel = s.cel := rfl
theorem wipe_llen (own : List Nat) (s : S) : (wipe own s).loc.length = s.loc.length := foldl_set_len (fun _ => none) own s.loc
section
variable {ad ad' ad1 : Nat → Addr} {σ : L2.St} {H H1 : Hp} {s s1 : S} {F : Addr → Prop}
theorem wipe_sl {own : List Nat} {i : Nat} {cc : Cell} (h : (wipe own s).get (.sl i) = some cc) : s.get (.sl i) = some cc ∧ i ∉ own := by
  rw [get_sl, wipe_get] at h
  split at h
  · cases h
  · rename_i hn
    refine ⟨get_sl.mpr h, fun hi => hn ⟨hi, ?_⟩⟩
    exact (List.getElem?_eq_some_iff.mp h).1
/-- the own slots are forgotten on both sides -/
theorem Rel.wipeBoth (own : List Nat) (R : Rel N ad σ H s F) : Rel N ad (L2.wipe σ own) H (Ev.wipe own s) F ∧ Post ad σ H s ad (L2.wipe σ own) H (Ev.wipe own s) F := by
  have ag : ∀ l cc, (Ev.wipe own s).get l = some cc → s.get l = some cc ∧ adr ad (L2.wipe σ own) l = adr ad σ l := fun l cc h => by
    cases l with
    | sl i =>
      obtain ⟨h1, h2⟩ := wipe_sl h
      refine ⟨h1, ?_⟩
      simp only [adr, l2wipe_get, h2, false_and, if_false]
    | id k => exact ⟨h, rfl⟩
  have sm : Sm (msk H (Mk ad σ s F)) (msk H (Mk ad (L2.wipe σ own) (Ev.wipe own s) F)) := sm_sub fun a => Mk.sub fun l cc h => let ⟨h1, h2⟩ := ag l cc h; ⟨cc, h1, h2⟩
  refine ⟨⟨?_, ?_, ?_, ?_, ?_, R.nt⟩, ⟨fun _ _ => rfl, Nat.le_refl _, wipe_llen own s, sm, fun _ _ => rfl⟩⟩
  · rw [L2.wipe_length, wipe_llen, R.len]
  · intro i x h
    rw [wipe_get] at h
    split at h
    · cases h
    · rename_i hn
      obtain ⟨v, e, r⟩ := R.dat i x h
      refine ⟨v, ?_, r.mono (Nat.le_refl _) (fun _ _ => rfl) sm⟩
      rw [l2wipe_get, if_neg (by rw [R.len]; exact hn)]
      exact e
  · intro l cc h
    obtain ⟨h1, h2⟩ := ag l cc h
    obtain ⟨a, e, ok⟩ := R.own l cc h1
    exact ⟨a, h2.trans e, ok.mono (Nat.le_refl _) (fun _ _ => rfl) sm rfl⟩
  · intro l l' c1 c2 a h h' e e'
    obtain ⟨h1, h2⟩ := ag l c1 h
    obtain ⟨h1', h2'⟩ := ag l' c2 h'
    exact R.inj l l' c1 c2 a h1 h1' (h2.symm.trans e) (h2'.symm.trans e')
  · intro a h
    refine ⟨(R.frn a h).1, fun l cc h' e => ?_⟩
    obtain ⟨h1, h2⟩ := ag l cc h'
    exact (R.frn a h).2 l cc h1 (h2.symm.trans e)
/-- a comprehension's own names are as they were -/
theorem Rel.unown {F' : Addr → Prop} (own : List Nat) (R1 : Rel N ad1 σ H1 s1 F) (R : Rel N ad (L2.wipe σ own) H (Ev.wipe own s) F') (agr : ∀ k, k < s1.cel.length → ad k = ad1 k) (len : s1.cel.length ≤ s.cel.length)
    (sm1 : Sm (msk H1 (Mk ad1 σ s1 F)) (msk H (Mk ad (L2.wipe σ own) (Ev.wipe own s) F'))) (hl : s.loc.length = s1.loc.length) :
    Rel N ad σ H (Ev.unown own s1.loc s) F' ∧ Sm (msk H (Mk ad (L2.wipe σ own) (Ev.wipe own s) F')) (msk H (Mk ad σ (Ev.unown own s1.loc s) F')) := by
  have gl : ∀ i, (Ev.unown own s1.loc s).loc[i]? = if i ∈ own ∧ i < s.loc.length then some (LV.dat ((s1.loc[i]?).getD none)) else s.loc[i]? := fun i => foldl_set_get (fun i => LV.dat ((s1.loc[i]?).getD none)) own s.loc i
  have ll : (Ev.unown own s1.loc s).loc.length = s.loc.length := foldl_set_len (fun i => LV.dat ((s1.loc[i]?).getD none)) own s.loc
  have nd : ∀ (o : Option LV) cc, LV.dat o ≠ some (.own cc) := fun o cc e => by
    unfold LV.dat at e
    split at e
    · cases e
    · cases e
  have ag : ∀ l cc, (Ev.unown own s1.loc s).get l = some cc → (Ev.wipe own s).get l = some cc ∧ adr ad σ l = adr ad (L2.wipe σ own) l := fun l cc h => by
    cases l with
    | sl i =>
      rw [get_sl, gl] at h
      split at h
      · exact absurd (Option.some.inj h) (nd _ _)
      · rename_i hn
        have hi : i < s.loc.length := (List.getElem?_eq_some_iff.mp h).1
        have ho : i ∉ own := fun z => hn ⟨z, hi⟩
        refine ⟨?_, ?_⟩
        · rw [get_sl, wipe_get, if_neg fun z => ho z.1]; exact h
        · simp only [adr, l2wipe_get, ho, false_and, if_false]
    | id k => exact ⟨h, rfl⟩
  have sm : Sm (msk H (Mk ad (L2.wipe σ own) (Ev.wipe own s) F')) (msk H (Mk ad σ (Ev.unown own s1.loc s) F')) := sm_sub fun a => Mk.sub fun l cc h => let ⟨h1, h2⟩ := ag l cc h; ⟨cc, h1, h2⟩
  have cl : (Ev.unown own s1.loc s).cel = s.cel := rfl
  refine ⟨⟨?_, ?_, ?_, ?_, ?_, R.nt⟩, sm⟩
  · rw [ll, hl]; exact R1.len
  · intro i x h
    rw [gl] at h
    split at h
    · rename_i hn
      have h := Option.some.inj h
      have e1 : s1.loc[i]? = some (some (LV.d x)) := by
        cases q : s1.loc[i]? with
        | none => rw [q] at h; cases h
        | some o =>
          rw [q] at h
          cases o with
          | none => cases h
          | some lv => cases lv <;> cases h; rfl
      obtain ⟨v, e, r⟩ := R1.dat i x e1
      exact ⟨v, e, r.mono len agr (sm1.trans sm)⟩
    · rename_i hn
      have hi : i < s.loc.length := (List.getElem?_eq_some_iff.mp h).1
      have ho : i ∉ own := fun z => hn ⟨z, hi⟩
      obtain ⟨v, e, r⟩ := R.dat i x (by rw [wipe_get, if_neg fun z => ho z.1]; exact h)
      rw [l2wipe_get, if_neg fun z => ho z.1] at e
      exact ⟨v, e, r.mono (Nat.le_refl _) (fun _ _ => rfl) sm⟩
  · intro l cc h
    obtain ⟨h1, h2⟩ := ag l cc h
    obtain ⟨a, e, ok⟩ := R.own l cc h1
    exact ⟨a, h2.trans e, ok.mono (Nat.le_refl _) (fun _ _ => rfl) sm rfl⟩
  · intro l l' c1 c2 a h h' e e'
    obtain ⟨h1, h2⟩ := ag l c1 h
    obtain ⟨h1', h2'⟩ := ag l' c2 h'
    exact R.inj l l' c1 c2 a h1 h1' (h2.symm.trans e) (h2'.symm.trans e')
  · intro a h
    refine ⟨(R.frn a h).1, fun l cc h' e => ?_⟩
    obtain ⟨h1, h2⟩ := ag l cc h'
    exact (R.frn a h).2 l cc h1 (h2.symm.trans e)
end
/-- Same under the mask, one object set apart -/
theorem PostN.grow {ad ad' : Nat → Addr} {σ σ' : L2.St} {H H' H2 : Hp} {s s' : S} {F : Addr → Prop} {p : Addr} (P : PostN ad σ H s ad' σ' H' s' F p) {ad2 : Nat → Addr} {σ2 : L2.St} {s2 : S} (Q : Post ad' σ' H' s' ad2 σ2 H2 s2 (FAdd F p)) : PostN ad σ H s ad2 σ2 H2 s2 F p :=
  ⟨fun k h => (Q.agr k (Nat.lt_of_lt_of_le h P.len)).trans (P.agr k h), Nat.le_trans P.len Q.len, Q.ll.trans P.ll, P.sm.trans Q.sm, fun a h => (Q.frn a (.inl h)).trans (P.frn a h), P.new⟩
/-- the object that is held aside is written -/
theorem Rel.putF {ad : Nat → Addr} {σ : L2.St} {H : Hp} {s : S} {F : Addr → Prop} {p : Addr} {o : HO} (R : Rel N ad σ H s (FAdd F p)) (ho : ∀ ys, o ≠ .tup ys := by intro _ z; cases z) : Rel N ad σ (upd H p o) s (FAdd F p) ∧ Sm (msk H (Mk ad σ s (FAdd F p))) (msk (upd H p o) (Mk ad σ s (FAdd F p))) := by
  have hm : Mk ad σ s (FAdd F p) p := .inl (.inr rfl)
  have e : msk (upd H p o) (Mk ad σ s (FAdd F p)) = msk H (Mk ad σ s (FAdd F p)) := by
    funext a
    unfold msk
    by_cases h : Mk ad σ s (FAdd F p) a
    · rw [if_pos h, if_pos h]
    · rw [if_neg h, if_neg h, upd_ne fun z => h (by rw [z]; exact hm)]
  refine ⟨⟨R.len, fun i x h => ?_, fun l cc h => ?_, R.inj, fun a h => ?_, fun a ys h z => ?_⟩, by rw [e]; exact Sm.refl _⟩
  · rw [e]; exact R.dat i x h
  · obtain ⟨a, h1, h2⟩ := R.own l cc h
    refine ⟨a, h1, ?_⟩
    rw [e]
    have hne : a ≠ p := fun z => (R.frn p (.inr rfl)).2 l cc h (by rw [← z]; exact h1)
    exact h2.mono (Nat.le_refl _) (fun _ _ => rfl) (Sm.refl _) (upd_ne hne)
  · obtain ⟨⟨u, hu⟩, h2⟩ := R.frn a h
    refine ⟨?_, h2⟩
    by_cases hp : a = p
    · rw [hp]; exact ⟨o, upd_same⟩
    · exact ⟨u, by rw [upd_ne hp]; exact hu⟩
  · by_cases hp : a = p
    · rw [hp, upd_same] at z; cases z; exact ho _ rfl
    · rw [upd_ne hp] at z; exact R.nt a ys h z
theorem wipe_idem (σ : L2.St) (own : List Nat) : L2.wipe (L2.wipe σ own) own = L2.wipe σ own := by
  refine List.ext_getElem? fun i => ?_
  rw [l2wipe_get, L2.wipe_length, l2wipe_get]
  by_cases h : i ∈ own ∧ i < σ.length
  · rw [if_pos h, if_pos h]
  · rw [if_neg h, if_neg h]
abbrev Wf : WX := fun _ _ _ _ => False
/-- what a comprehension does behind its iterator -/
def LcBody (N : Nms) (g : TG) (tt : TT) (te : TE) (vs : List Nat) (σ : L2.St) (J : L2.It) (H1 : Hp) (Q : VK) : Prop := ∀ D, H1 D = none → ∃ W : Nat → Nat → Hp → Prop, (∃ m, W 0 m (upd H1 D (.lst []))) ∧ ∀ i m H, W i m H →
  (J.stop i H ∧ Q (.ref D) H) ∨ (J.go i H ∧ ∃ Nx : Hp → Prop, (∀ H', Nx H' → ∃ m', m' < m ∧ W (i + 1) m' H') ∧ ∀ x H', J.yld i H x H' → g x (L2.wipe σ vs) H' fun σ2 H2 => L2.wipe σ2 vs = L2.wipe σ vs ∧ tt σ2 H2 fun b H3 =>
    if b = true then te σ2 H3 fun y H4 => ∃ acc, H4 D = some (.lst acc) ∧ acc.length < sizeLine ∧ Nx (upd H4 D (.lst (acc ++ [y]))) else Nx H3)
theorem lc_in {tg : Tg} {mt : M Bool} {me : M PV} {own : List Nat} (htg : ∀ i ∈ tgSl tg, i ∈ own) {σ : L2.St} {H1 : Hp} {ad1 : Nat → Addr} {s1 : S} {F : Addr → Prop} (R1 : Rel N ad1 σ H1 s1 F) {Q : VK} {ds ts : List Ev.D} {sE : S} {J : L2.It}
    (wk : Wlk N s1.cel.length ad1 (msk H1 (Mk ad1 σ s1 F)) J ds) (hl : loopC tg mt (M.bind me PV.store) own [] ds s1 = .ok ts sE)
    (hQ : ∀ s' ad' H' D vacc, Rel N ad' σ H' s' (FAdd F D) → PostN ad1 σ H1 s1 ad' σ H' s' F D → H' D = some (.lst vacc) → RepDs N s'.cel.length ad' (msk H' (Mk ad' σ s' (FAdd F D))) vacc ts → s' = unown own s1.loc sE → ts.length ≤ line → Q (.ref D) H') :
    LcBody N (gTg N.K tg) (tT N Wf mt) (tX N Wf me) own σ J H1 Q := by
  intro D hD
  obtain ⟨g, Y, w, wG, wY⟩ := wk
  obtain ⟨R2, P2⟩ := R1.wipeBoth own
  obtain ⟨R3, sm3⟩ := R2.addF (o := .lst []) hD
  have N3 : PostN ad1 σ H1 s1 ad1 (L2.wipe σ own) (upd H1 D (.lst [])) (Ev.wipe own s1) F D := (P2.newP R2 hD)
  have base : Sm (msk H1 (Mk ad1 σ s1 F)) (msk (upd H1 D (.lst [])) (Mk ad1 (L2.wipe σ own) (Ev.wipe own s1) (FAdd F D))) := N3.sm
  refine lc_it w (fun i H => ∃ ad' s' acc vacc, Rel N ad' (L2.wipe σ own) H (Ev.wipe own s') (FAdd F D) ∧ PostN ad1 σ H1 s1 ad' (L2.wipe σ own) H (Ev.wipe own s') F D ∧ H D = some (.lst vacc) ∧
    RepDs N s'.cel.length ad' (msk H (Mk ad' (L2.wipe σ own) (Ev.wipe own s') (FAdd F D))) vacc acc ∧ loopC tg mt (M.bind me PV.store) own acc (ds.drop i) s' = .ok ts sE ∧ acc.length ≤ line) ?_ ?_ ?_ ?_
  · exact ⟨ad1, s1, [], [], R3, N3, upd_same, .nil, hl, Nat.zero_le _⟩
  · rintro i H hi ⟨ad', s', acc, vacc, R', P', _, _, _⟩
    exact wG H (P'.sm.trans sm_le)
  · rintro i x H H' hi ⟨ad', s', acc, vacc, R', P', hA, ra, hlp, hal⟩ y
    obtain ⟨d, hd, sH, rd⟩ := wY i H x H' y _ ad' _ P'.len P'.agr P'.sm (fun p m => R'.masked m) (fun p ys m => R'.maskedT m ys)
    have hdrop : ds.drop i = d :: ds.drop (i + 1) := by
      have hi' := (List.getElem?_eq_some_iff.mp hd).1
      rw [List.drop_eq_getElem_cons hi']
      have := (List.getElem?_eq_some_iff.mp hd).2
      rw [this]
    rw [hdrop] at hlp
    unfold loopC at hlp
    cases hb : bindT tg d (Ev.wipe own s') with
    | none => simp only [hb] at hlp; cases hlp
    | some sb =>
      simp only [hb] at hlp
      have Rg := R'.grow sH
      have Pg := Post.grow R' sH
      refine bind_ok (N := N) (vs := own) tg d x htg hb Rg rd fun σ1 Rb Pb Sb => ⟨by rw [Sb.wipe, wipe_idem], ad', sb, FAdd F D, Rb, ?_⟩
      have hDb : H' D = some (.lst vacc) := sH _ _ hA
      have w1 : L2.wipe σ1 own = L2.wipe σ own := by rw [Sb.wipe, wipe_idem]
      cases hm : mt sb with
      | exc e s2 => simp only [hm] at hlp; cases hlp
      | stk => simp only [hm] at hlp; cases hlp
      | ok b s2 =>
        simp only [hm] at hlp
        intro ad2 H2 R2' P2'
        have P0 := (Pg.trans Pb).trans P2'
        have hD2 : H2 D = some (.lst vacc) := (P2'.frn D (.inr rfl)).trans hDb
        cases b with
        | false =>
          simp only at hlp
          simp only [Bool.false_eq_true, if_false]
          obtain ⟨Rw, Pw⟩ := R2'.wipeBoth own
          rw [w1] at Rw Pw
          have P3 := P0.trans Pw
          exact ⟨ad2, s2, acc, vacc, Rw, P'.grow P3, hD2, P3.reps ra, hlp, hal⟩
        | true =>
          simp only at hlp
          simp only [if_true]
          refine ⟨ad2, s2, FAdd F D, R2', ?_⟩
          have hbm : M.bind me PV.store s2 = (match me s2 with
            | .ok a s' => PV.store a s'
            | .exc e s' => .exc e s'
            | .stk => .stk) := by unfold M.bind; cases me s2 <;> rfl
          rw [hbm] at hlp
          cases he : me s2 with
          | exc e s3 => rw [he] at hlp; cases hlp
          | stk => rw [he] at hlp; cases hlp
          | ok pv s3 =>
            rw [he] at hlp
            simp only at hlp
            intro ad3 H3 R3' P3' v rv
            have hst : Gar N Wf ad3 σ1 H3 s3 (FAdd F D) (pv.store s3) (fun t s4 ad H => pv.store s3 = .ok t s4) := by
              cases hps : pv.store s3 with
              | ok t s4 => exact fun _ _ _ _ => rfl
              | exc e s4 => rw [hps] at hlp; cases hlp
              | stk => rw [hps] at hlp; cases hlp
            obtain ⟨t, s4, R4, P4, rt, e4⟩ := store_ok R3' rv hst
            rw [e4] at hlp
            simp only at hlp
            split at hlp
            · rename_i hlen
              have hD3 : H3 D = some (.lst vacc) := (P3'.frn D (.inr rfl)).trans hD2
              have P5 := (P0.trans P3').trans P4
              obtain ⟨Rw, Pw⟩ := R4.wipeBoth own
              rw [w1] at Rw Pw
              obtain ⟨Rq, smq⟩ := Rw.putF (o := .lst (vacc ++ [v]))
              have P6 := P5.trans Pw
              have vl : vacc.length < sizeLine := by rw [ra.length, sizeLine_line]; exact hlen
              have racc := (P6.reps ra).append (.cons (Pw.rep rt) .nil)
              refine ⟨vacc, hD3, vl, ad3, s4, acc ++ [t], vacc ++ [v], Rq, ?_, upd_same, racc.mono (Nat.le_refl _) (fun _ _ => rfl) smq, hlp, by simp; omega⟩
              have P7 := P'.grow P6
              exact ⟨P7.agr, P7.len, P7.ll, P7.sm.trans smq, fun a ha => by
                rw [upd_ne fun z => P7.new (by rw [← z]; exact ha)]; exact P7.frn a ha, P7.new⟩
            · cases hlp
  · rintro H ⟨ad', s', acc, vacc, R', P', hA, ra, hlp, hal⟩
    rw [List.drop_length] at hlp
    have hlp : (Res.ok acc s' : Res (List Ev.D)) = .ok ts sE := hlp
    obtain ⟨rfl, rfl⟩ : acc = ts ∧ s' = sE := by
      injection hlp with e1 e2
      exact ⟨e1, e2⟩
    have hll : s'.loc.length = s1.loc.length := by
      have := P'.ll
      rw [wipe_llen] at this
      exact this
    obtain ⟨Ru, smu⟩ := Rel.unown own R1 R' P'.agr P'.len P'.sm hll
    have Nu : PostN ad1 σ H1 s1 ad' σ H (unown own s1.loc s') F D := ⟨P'.agr, P'.len, (foldl_set_len _ _ _).trans hll, P'.sm.trans smu, P'.frn, P'.new⟩
    exact hQ (unown own s1.loc s') ad' H D vacc Ru Nu hA (ra.mono (Nat.le_refl _) (fun _ _ => rfl) smu) rfl hal
/-- a list that a comprehension makes: its reading, before it is taken as data -/
theorem lc_core {mi : M (List D)} {tg : Tg} {mt : M Bool} {me : M PV} {own : List Nat} (htg : ∀ i ∈ tgSl tg, i ∈ own) {σ : L2.St} {H : Hp} {ad : Nat → Addr} {s : S} {F : Addr → Prop} (R : Rel N ad σ H s F)
    {Q : VK} {Gd : (Nat → Addr) → Hp → S → Res (List D) → Prop} (hst : ∀ ad H s, ¬ Gd ad H s .stk) (h : Gar N W ad σ H s F (mi s) fun xs s1 ad1 H1 => Gd ad1 H1 s1 (lcM own (loopC tg mt (M.bind me PV.store) own [] xs) s1))
    (hQ : ∀ ts s' ad' H' D vacc ad1 H1 s1, Rel N ad' σ H' s' (FAdd F D) → PostN ad1 σ H1 s1 ad' σ H' s' F D → H' D = some (.lst vacc) → RepDs N s'.cel.length ad' (msk H' (Mk ad' σ s' (FAdd F D))) vacc ts → Gd ad1 H1 s1 (.ok ts s') → ts.length ≤ line → Q (.ref D) H') :
    tLc (tI N W mi) (gTg N.K tg) (tT N Wf mt) (tX N Wf me) own σ H Q := by
  refine ⟨ad, s, F, R, h.mono fun ds s1 ad1 H1 R1 P1 h1 J wk => ?_⟩
  unfold lcM at h1
  cases hl : loopC tg mt (M.bind me PV.store) own [] ds s1 with
  | exc e s' => rw [hl] at h1; exact (hst _ _ _ h1).elim
  | stk => rw [hl] at h1; exact (hst _ _ _ h1).elim
  | ok ts sE =>
    rw [hl] at h1
    exact lc_in htg R1 wk hl fun s' ad' H' D vacc R' P' hA ra e hal => by subst e; exact hQ ts _ ad' H' D vacc ad1 H1 s1 R' P' hA ra h1 hal
def lcR : Res (List D) → Res PV
  | .ok ts s' => .ok (PV.d (.lst ts)) s'
  | .exc e s' => .exc e s'
  | .stk => .stk
theorem lcR_eq (m : M (List D)) : (M.bind m fun ts => M.pure (PV.d (.lst ts))) = fun s => lcR (m s) := by
  funext s; unfold M.bind; cases m s <;> rfl
/-- as data -/
theorem tX_lc {mi : M (List D)} {tg : Tg} {mt : M Bool} {me : M PV} {own : List Nat} (htg : ∀ i ∈ tgSl tg, i ∈ own) : ∀ σ H Q, tX N W (M.bind mi fun xs => M.bind (lcM own (loopC tg mt (M.bind me PV.store) own [] xs)) fun ts => M.pure (.d (.lst ts))) σ H Q →
    tLc (tI N W mi) (gTg N.K tg) (tT N Wf mt) (tX N Wf me) own σ H Q := by
  rintro σ H Q ⟨ad, s, F, R, h⟩
  simp only [lcR_eq] at h
  refine lc_core (Gd := fun ad1 H1 s1 r => Gar N W ad1 σ H1 s1 F (lcR r) fun pv s' ad' H' => ∀ v, RepPV N ad' σ H' s' F v pv → Q v H') htg R (fun _ _ _ h => h) (Gar.bind h) fun ts s' ad' H' Da vacc ad1 H1 s1 R' P' hA ra hg hl => ?_
  obtain ⟨Rt, Pt, smt, nm⟩ := Rel.take P' R'
  refine hg ad' H' Rt Pt _ (RepD.lst (SqL.of ?_) (ra.mono (Nat.le_refl _) (fun _ _ => rfl) smt))
  rw [msk_of nm]; exact hA
end Ev

set_option autoImplicit false
set_option linter.all false
set_option maxRecDepth 100000
set_option maxHeartbeats 1000000
/-! zip of a tuple and a list. -/
namespace Ev
open PySem PySem.Spec PyProof.Rows L2 RZ
open PySem.Sem (wp)
section
variable {prog : Program} {w : World} {A : Around} {E : Value → Shared → Prop} {s : Shared}
theorem drawsT (hh : A.handled = none) (it l : Addr) (hne : l ≠ it) (items : Array Value) :
    Draws prog w A it [it, l] items.size (fun i v => items[i]? = some v) (fun i h => h.IsTupleIter it l i ∧ h.IsTuple l items) where
  live := fun _ _ st => let ⟨o, ho, _⟩ := st.1; ⟨o, ho⟩
  frame := fun _ _ _ st hk => ⟨st.1.at fun o e => hk it (by simp) o e, by
    obtain ⟨o, ho, r⟩ := st.2
    exact ⟨o, hk l (by simp) o ho, r⟩⟩
  item := fun i s Q E hi st hQ => by
    refine nextOf_tuple_item st.1 st.2 (x := items[i]) (by simp [hi]) fun h' hit' hs' => ?_
    exact hQ _ h' s.toks (by simp [hi]) ⟨hit', st.2.extBut hs'.extBut hne⟩ hs'
  done := fun s Q E st hE => nextOf_tuple_end hh st.1 st.2 (by simp) hE
/-- the same at any turn -/
theorem drawsT_at (hh : A.handled = none) (it l : Addr) (hne : l ≠ it) (items : Array Value) {h : Heap} {i : Nat} (h1 : h.IsTupleIter it l i) (h2 : h.IsTuple l items) :
    ∃ (n : Nat) (P : Nat → Value → Prop) (St : Nat → Heap → Prop), Draws prog w A it [it, l] n P St ∧ St i h ∧ i ≤ n ∧ (items.size ≤ i → i = n) := by
  by_cases hl : i < items.size
  · exact ⟨_, _, _, drawsT hh it l hne items, ⟨h1, h2⟩, by omega, fun z => by omega⟩
  · refine ⟨i, fun _ _ => True, fun j h => j = i ∧ h.IsTupleIter it l j ∧ h.IsTuple l items, ⟨fun _ _ st => let ⟨o, ho, _⟩ := st.2.1; ⟨o, ho⟩, fun _ _ _ st hk => ⟨st.1, st.2.1.at fun o e => hk it (by simp) o e, by
      obtain ⟨o, ho, r⟩ := st.2.2
      exact ⟨o, hk l (by simp) o ho, r⟩⟩, fun j s Q E hj st => by have := st.1; omega, fun s Q E st hE => nextOf_tuple_end hh st.2.1 st.2.2 (by simp; omega) hE⟩, ⟨rfl, h1, h2⟩, by omega, fun _ => rfl⟩
theorem drawsL_at (hh : A.handled = none) (it l : Addr) (hne : l ≠ it) (items : Array Value) {h : Heap} {i : Nat} (h1 : h.IsListIter it l i) (h2 : h.IsList l items) :
    ∃ (n : Nat) (P : Nat → Value → Prop) (St : Nat → Heap → Prop), Draws prog w A it [it, l] n P St ∧ St i h ∧ i ≤ n ∧ (items.size ≤ i → i = n) := by
  by_cases hl : i < items.size
  · exact ⟨_, _, _, Draws.list hh it l hne items, ⟨h1, h2⟩, by omega, fun z => by omega⟩
  · refine ⟨i, fun _ _ => True, fun j h => j = i ∧ h.IsListIter it l j ∧ h.IsList l items, ⟨fun _ _ st => let ⟨o, ho, _⟩ := st.2.1; ⟨o, ho⟩, fun _ _ _ st hk => ⟨st.1, st.2.1.at fun o e => hk it (by simp) o e, st.2.2.at fun o e => hk l (by simp) o e⟩,
      fun j s Q E hj st => by have := st.1; omega, fun s Q E st hE => wpAny_nextOf_list_end hh st.2.1 st.2.2 (by simp; omega) hE⟩, ⟨rfl, h1, h2⟩, by omega, fun _ => rfl⟩
theorem sepM {z TI TO i1 i2 a b : Addr} (D : ZipApart z TI TO i1 i2 a b) : ZipSep2 z TI TO i1 i2 [i1, a] [i2, b] where
  TIz := D.TIz
  TOz := D.TOz
  TITO := D.TITO
  TIi1 := D.TIi1
  mem1 := by simp
  zf1 := by simp; exact ⟨D.i1z.symm, D.l1z.symm⟩
  Tf1 := by simp; exact ⟨D.TOi1, D.l1TO.symm⟩
  TIi2 := D.TIi2
  mem2 := by simp
  zf2 := by simp; exact ⟨D.i2z.symm, D.l2z.symm⟩
  Tf2 := by simp; exact ⟨D.TOi2, D.l2TO.symm⟩
  sep1_2 := by simp; exact ⟨D.i12, D.l2i1.symm⟩
  sep2_1 := by simp; exact ⟨D.i12.symm, D.l1i2.symm⟩
abbrev zmH1 (h : Heap) (l1 : Addr) : Heap := h.push { cls := .type "tuple_iterator", data := .fields #[.ref l1, .int 0 0] }
abbrev zmH2 (h : Heap) (l1 l2 : Addr) : Heap := (zmH1 h l1).push { cls := .type "list_iterator", data := .fields #[.ref l2, .int 0 0] }
abbrev zmH3 (h : Heap) (l1 l2 : Addr) : Heap := (zmH2 h l1 l2).push { cls := .type "tuple", data := .seq #[.ref h.objs.size, .ref (zmH1 h l1).objs.size] }
abbrev zmH4 (h : Heap) (l1 l2 : Addr) : Heap := (zmH3 h l1 l2).push { cls := .type "tuple", data := .seq #[.none, .none] }
abbrev zmH5 (h : Heap) (l1 l2 : Addr) : Heap := (zmH4 h l1 l2).push { cls := .type "zip", data := .fields #[.none, .bool false, .bool false, .ref (zmH2 h l1 l2).objs.size, .ref (zmH3 h l1 l2).objs.size] }
theorem meets_zipM (l1 l2 : Addr) (xs ys : Array Value) :
    Meets (Builtin.«zip.__new__» ⟨[.type "zip", .ref l1, .ref l2], []⟩) (fun _ R s => s.heap.IsTuple l1 xs ∧ s.heap.IsList l2 ys ∧
      R (.ok (.ret (.ref (zmH4 s.heap l1 l2).objs.size))) { s with heap := zmH5 s.heap l1 l2 }) :=
  .of_wp fun prog w A R s h => by
    obtain ⟨hp, g, d, tk, os⟩ := s; obtain ⟨hl1, hl2, h⟩ := h
    have hsub := sub_zip
    have hL1 : Heap.IsTuple (Shared.heap ⟨hp, g, d, tk, os⟩) l1 xs := hl1
    have hL2 : Heap.IsList (Shared.heap ⟨hp.push { cls := .type "tuple_iterator", data := .fields #[.ref l1, .int 0 0] }, g, d, tk, os⟩) l2 ys := Heap.IsList.push hl2 _
    wp_walk using wpAny_pyIter_tuple hL1, wpAny_pyIter_list hL2
    exact ⟨_, rfl, h⟩
theorem call_zipM {l1 l2 : Addr} {xs ys : Array Value} {Q : Value → Shared → Prop} (hl1 : s.heap.IsTuple l1 xs) (hl2 : s.heap.IsList l2 ys)
    (h : ∀ h', IsZip h' (s.heap.objs.size + 4) (s.heap.objs.size + 2) (s.heap.objs.size + 3) .none → IsPair h' (s.heap.objs.size + 2) (.ref s.heap.objs.size) (.ref (s.heap.objs.size + 1)) →
      IsPair h' (s.heap.objs.size + 3) .none .none → h'.IsTupleIter s.heap.objs.size l1 0 → h'.IsListIter (s.heap.objs.size + 1) l2 0 →
      (∀ c o, s.heap.get? c = some o → h'.get? c = some o) → Q (.ref (s.heap.objs.size + 4)) { s with heap := h' }) :
    wpAny (model prog w) A (call (.type "zip") [.ref l1, .ref l2]) Q E s := by
  refine callType_new F.called_zip (by decide) (F.typeCall_zip_2 _ _) (F.newCall_zip_2 _ _) (fun obj => F.args_object_init_3 obj _ _) F.entry_zip_new
    (meets_zipM l1 l2 xs ys) ⟨hl1, hl2, ?_⟩
  have z1 : (zmH1 s.heap l1).objs.size = s.heap.objs.size + 1 := Heap.size_push ..
  have z2 : (zmH2 s.heap l1 l2).objs.size = s.heap.objs.size + 2 := by rw [Heap.size_push, z1]
  have z3 : (zmH3 s.heap l1 l2).objs.size = s.heap.objs.size + 3 := by rw [Heap.size_push, z2]
  have z4 : (zmH4 s.heap l1 l2).objs.size = s.heap.objs.size + 4 := by rw [Heap.size_push, z3]
  have g5 : (zmH5 s.heap l1 l2).get? (zmH4 s.heap l1 l2).objs.size = some _ := Heap.get?_push_size _ rfl
  have g4 : (zmH5 s.heap l1 l2).get? (zmH3 s.heap l1 l2).objs.size = some _ := Heap.get?_push_of_some _ (Heap.get?_push_size _ rfl)
  have g3 : (zmH5 s.heap l1 l2).get? (zmH2 s.heap l1 l2).objs.size = some _ := Heap.get?_push_of_some _ (Heap.get?_push_of_some _ (Heap.get?_push_size _ rfl))
  have g2 : (zmH5 s.heap l1 l2).get? (zmH1 s.heap l1).objs.size = some _ := Heap.get?_push_of_some _ (Heap.get?_push_of_some _ (Heap.get?_push_of_some _ (Heap.get?_push_size _ rfl)))
  have g1 : (zmH5 s.heap l1 l2).get? s.heap.objs.size = some _ := Heap.get?_push_of_some _ (Heap.get?_push_of_some _ (Heap.get?_push_of_some _ (Heap.get?_push_of_some _ (Heap.get?_push_size _ rfl))))
  show _ ∧ _
  rw [z2, z3, z4] at g5
  rw [z1, z2] at g3
  rw [z3] at g4
  rw [z1] at g2
  rw [z4]
  exact ⟨⟨_, g5, rfl⟩, h _ g5 g3 g4 ⟨_, g1, rfl, rfl⟩ ⟨_, g2, rfl, rfl⟩ fun c o x =>
    Heap.get?_push_of_some _ (Heap.get?_push_of_some _ (Heap.get?_push_of_some _ (Heap.get?_push_of_some _ (Heap.get?_push_of_some _ x))))⟩
end
/-- the tuple at a, the list at b, in new pairs -/
def ItzM (K : PySem.W.Frag) (a b : Addr) : L2.It :=
  ⟨fun i H => ∃ (xs ys : List V) (x y : V), SqT K H a xs ∧ SqL K H b ys ∧ xs[i]? = some x ∧ ys[i]? = some y,
    fun i H v H' => ∃ T x y, v = .ref T ∧ H T = none ∧ H' = upd H T (.tup [x, y]) ∧ (∀ xs, SqT K H a xs → xs[i]? = some x) ∧ ∀ ys, SqL K H b ys → ys[i]? = some y,
    fun i H => ∃ xs ys : List V, SqT K H a xs ∧ SqL K H b ys ∧ (xs.length ≤ i ∨ ys.length ≤ i)⟩
theorem turn_zipM {P : Program} {w : World} {K : PySem.W.Frag} {elts : List Expr} {kk : Nat} {tpos : Pos} {a b z TI TO i1 i2 : Addr} (D : ZipApart z TI TO i1 i2 a b) :
    Turn P w K (.Tuple elts kk tpos) (ItzM K a b) [z, TI, TO, i1, i2] z (fun i h => (IsZip h z TI TO .none ∧ IsPair h TI (.ref i1) (.ref i2) ∧ (∃ x y, IsPair h TO x y) ∧ h.IsTupleIter i1 a i ∧ h.IsListIter i2 b i) ∧ True) where
  mem := by simp
  obj := fun i h st c hc => by
    obtain ⟨⟨hz, hTI, ⟨x, y, hTO⟩, ⟨o1, e1, _, d1⟩, ⟨o2, e2, _, d2⟩⟩, _⟩ := st
    have e' : c = z ∨ c = TI ∨ c = TO ∨ c = i1 ∨ c = i2 := by simpa using hc
    rcases e' with q | q | q | q | q
    · rw [q]; exact ⟨_, hz, fun v q => nomatch q⟩
    · rw [q]; exact ⟨_, hTI, fun v q => nomatch q⟩
    · rw [q]; exact ⟨_, hTO, fun v q => nomatch q⟩
    · rw [q]; exact ⟨o1, e1, fun v q => by rw [d1] at q; cases q⟩
    · rw [q]; exact ⟨o2, e2, fun v q => by rw [d2] at q; cases q⟩
  keep := fun i h h' st k => by
    obtain ⟨⟨hz, hTI, ⟨x, y, hTO⟩, h1, h2⟩, _⟩ := st
    exact ⟨⟨k z (by simp) _ hz, k TI (by simp) _ hTI, ⟨x, y, k TO (by simp) _ hTO⟩, h1.at fun o q => k i1 (by simp) o q, h2.at fun o q => k i2 (by simp) o q⟩, trivial⟩
  item := by
    intro X hP hw hK hc i pins s σ H E I hf st hg
    subst hP hw hK
    obtain ⟨⟨hz, hTI, ⟨x0, y0, hTO⟩, h1, h2⟩, _⟩ := st
    obtain ⟨xs, ys, x, y, hqx, hqy, hx, hy⟩ := hg
    obtain ⟨its, rv, p, _⟩ := I.tuple hqx
    obtain ⟨its2, rv2, p2, _⟩ := I.list hqy
    obtain ⟨u, hu, ru⟩ := rv.get hx
    obtain ⟨u2, hu2, ru2⟩ := rv2.get hy
    have hzl : z < s.heap.objs.size := Heap.lt_size hz
    have l1 : i < its.toArray.size := by
      have := (List.getElem?_eq_some_iff.mp hu).1
      simpa using this
    have l2 : i < its2.toArray.size := by
      have := (List.getElem?_eq_some_iff.mp hu2).1
      simpa using this
    refine wpAny_pyNext_zipD2_item (sepM D) (drawsT (prog := X.prog) (w := X.w) (A := X.A.in1) (I.ok.hd hc) i1 a D.l1i1 its.toArray) (Draws.list (prog := X.prog) (w := X.w) (A := X.A.in1) (I.ok.hd hc) i2 b D.l2i2 its2.toArray) hz hTI hTO ⟨h1, p⟩ ⟨h2, p2.isList⟩ l1 l2 fun x1 x2 h' tk y1 y2 z' TO' st1 st2 hT hsz hk => ?_
    obtain ⟨h1', _⟩ := st1
    obtain ⟨h2', _⟩ := st2
    have y1 : u = x1 := by simpa [hu] using y1
    have y2 : u2 = x2 := by simpa [hu2] using y2
    subst y1 y2
    refine ⟨_, rfl, wpAny_letOwnedTupleGo_zip (s := { s with heap := h', toks := tk }) z' fun h'' z'' sb => ?_⟩
    have hT2 : h''.get? s.heap.objs.size = some { cls := .type "tuple", data := .seq #[u, u2] } := (sb.2 _ (Nat.ne_of_gt hzl)).trans hT
    have new : ObjOk X.prog X.w (upd H s.heap.objs.size (.tup [x, y])) h'' s.heap.objs.size (.tup [x, y]) :=
      ⟨by show 2 ≤ sizeLine; decide, [u, u2], .cons ru (.cons ru2 .nil), ⟨_, hT2, rfl, _, rfl⟩⟩
    have I1 : Inv X pins σ (upd H s.heap.objs.size (.tup [x, y])) { s with heap := h'', toks := tk } :=
      I.turnedNew (t' := tk) (ch := [z, TI, TO, i1, i2]) (fun c o hb q => (sb.2 c (fun q' => hb (by simp [q']))).trans (hk c o (fun q' => hb (by simp [q'])) (fun q' => hb (by simp [q'])) (fun q' => hb (by simp [q'])) (fun q' => hb (by simp [q'])) q)) hf (Nat.le_refl _) new
    refine ⟨.ref s.heap.objs.size, _, I1, rfl, ⟨_, x, y, rfl, I.hok.fresh (Nat.le_refl _), rfl, fun l hl => by rw [I.tuple_inj hl hqx]; exact hx, fun l hl => by rw [I.list_inj hl hqy]; exact hy⟩, ⟨⟨z'', ?_, ⟨u, u2, ?_⟩, ?_, ?_⟩, trivial⟩, fun c hcm => ?_⟩
    · exact (sb.2 _ D.TIz).trans (hk _ _ D.TIz D.TITO D.TIi1 D.TIi2 hTI)
    · exact (sb.2 _ D.TOz).trans TO'
    · exact h1'.at fun o q => (sb.2 _ D.i1z).trans q
    · exact h2'.at fun o q => (sb.2 _ D.i2z).trans q
    · have hlt : c < s.heap.objs.size := by
        have e' : c = z ∨ c = TI ∨ c = TO ∨ c = i1 ∨ c = i2 := by simpa using hcm
        rcases e' with q | q | q | q | q
        · rw [q]; exact hzl
        · rw [q]; exact Heap.lt_size hTI
        · rw [q]; exact Heap.lt_size hTO
        · rw [q]; obtain ⟨_, e1, _⟩ := h1; exact Heap.lt_size e1
        · rw [q]; obtain ⟨_, e2, _⟩ := h2; exact Heap.lt_size e2
      rw [upd_ne (Nat.ne_of_lt hlt)]
      exact (hf c hcm).1
  done := by
    intro X hP hw hK hc i pins s σ H E I hf st hg
    subst hP hw hK
    obtain ⟨⟨hz, hTI, ⟨x0, y0, hTO⟩, h1, h2⟩, _⟩ := st
    obtain ⟨xs, ys, hqx, hqy, hend⟩ := hg
    obtain ⟨its, rv, p, _⟩ := I.tuple hqx
    obtain ⟨its2, rv2, p2, _⟩ := I.list hqy
    have l1 := rv.length
    have l2 := rv2.length
    obtain ⟨n1, P1, St1, D1, st1, q1, q2⟩ := drawsT_at (prog := X.prog) (w := X.w) (A := X.A.in1) (I.ok.hd hc) i1 a D.l1i1 its.toArray h1 p
    obtain ⟨n2, P2, St2, D2, st2, q3, q4⟩ := drawsL_at (prog := X.prog) (w := X.w) (A := X.A.in1) (I.ok.hd hc) i2 b D.l2i2 its2.toArray h2 p2.isList
    have he : i = n1 ∨ i = n2 := by
      rcases hend with q | q
      · exact .inl (q2 (by simp; omega))
      · exact .inr (q4 (by simp; omega))
    exact wpAny_pyNext_zipD2_end (sepM D) D1 D2 hz hTI hTO st1 st2 q1 q3 he fun h' tk hk => ⟨rfl, I.turnedL (t' := tk) (ch := [z, TI, TO, i1, i2]) (fun c o hb q =>
      hk c o (fun q' => hb (by simp [q'])) (fun q' => hb (by simp [q'])) (fun q' => hb (by simp [q'])) (fun q' => hb (by simp [q'])) q) hf⟩
  self := fun A i s Q E st h => wpAny_pyIter_zip st.1.1 h
def iZipM (K : PySem.W.Frag) (ta : TA) : TI := fun σ H R => ta σ H fun vs H1 => ∃ a b xs ys, vs = [.ref a, .ref b] ∧ ((SqL K H1 a xs ∧ SqL K H1 b ys ∧ R (Itz K a b) H1) ∨ (SqT K H1 a xs ∧ SqT K H1 b ys ∧ R (ItzT K a b) H1) ∨ (SqT K H1 a xs ∧ SqL K H1 b ys ∧ R (ItzM K a b) H1))
theorem pi_zipM {X : Cx} {e e2 : Expr} {ta : TA} {p pos tpos : Pos} {elts : List Expr} {kk : Nat} (hg : Gl X "zip") (hm : X.mg "zip" = none) (ha : PA X [e, e2] ta)
    (hs : starEach [e, e2] X.env = (false, eval e X.env) :: starEach [e2] X.env := by rfl) (hpl : (backTo pos (starEach [e2] X.env)).any (·.1) = false := by rfl) :
    PI X (.Tuple elts kk tpos) (.Call (.Name "zip" p) [e, e2] [] pos) (iZipM X.K ta) := by
  refine ⟨fun pins s σ H R I h => ?_⟩
  refine Call_ (ld_blt I hg hm PyProof.Rows.boot_zip (PyProof.Rows.callWith_type1 (thn (ha.run pos pins s σ H _ I h) fun us s1 ⟨vs, H1, I1, r1, q1⟩ => ?_) hs hpl))
  obtain ⟨a, b, xs, ys, ex, q1⟩ := q1
  subst ex
  obtain ⟨u, r2, rx⟩ : ∃ us2, us = .ref a :: us2 ∧ us2 = [.ref b] := by
    cases r1 with
    | cons r rr =>
      cases rr with
      | cons r' rr =>
        cases rr
        cases r
        cases r'
        exact ⟨_, rfl, rfl⟩
  subst rx
  subst r2
  have ap : ∀ (h1 : a < s1.heap.objs.size) (h2 : b < s1.heap.objs.size), ZipApart (s1.heap.objs.size + 4) (s1.heap.objs.size + 2) (s1.heap.objs.size + 3) s1.heap.objs.size (s1.heap.objs.size + 1) a b := fun h1 h2 => PySem.W.ktu_apart s1.heap.objs.size a b h1 h2
  have fr : ∀ c, c ∈ [s1.heap.objs.size + 4, s1.heap.objs.size + 2, s1.heap.objs.size + 3, s1.heap.objs.size, s1.heap.objs.size + 1] → FpOk X pins H1 c := fun c hcm => by
    have hle : s1.heap.objs.size ≤ c := by
      simp only [List.mem_cons, List.not_mem_nil, or_false] at hcm
      have : (c : Nat) = s1.heap.objs.size + 4 ∨ (c : Nat) = s1.heap.objs.size + 2 ∨ (c : Nat) = s1.heap.objs.size + 3 ∨ (c : Nat) = s1.heap.objs.size ∨ (c : Nat) = s1.heap.objs.size + 1 := hcm
      show (s1.heap.objs.size : Nat) ≤ (c : Nat)
      omega
    exact I1.fpOk hle (I1.hok.fresh hle)
  rcases q1 with ⟨qx, qy, q⟩ | ⟨qx, qy, q⟩ | ⟨qx, qy, q⟩
  · obtain ⟨its, _, p1, _⟩ := I1.list qx
    obtain ⟨its2, _, p2, _⟩ := I1.list qy
    exact call_zip_2 p1.isList p2.isList fun h' hz hTI hTO h1 h2 hsz hk => wpAny_pyIter_zip hz ⟨_, _, _, _, H1, rfl, I1.kept (t' := s1.toks) hk, turn_zip (ap p1.lt p2.lt), ⟨hz, hTI, ⟨_, _, hTO⟩, h1, h2⟩, fr, q⟩
  · obtain ⟨its, _, p1, _⟩ := I1.tuple qx
    obtain ⟨its2, _, p2, _⟩ := I1.tuple qy
    have l1 : a < s1.heap.objs.size := let ⟨_, ho, _⟩ := p1; Heap.lt_size ho
    have l2 : b < s1.heap.objs.size := let ⟨_, ho, _⟩ := p2; Heap.lt_size ho
    exact call_zipT (show s1.heap.IsTuple a its.toArray from p1) (show s1.heap.IsTuple b its2.toArray from p2) fun h' hz hTI hTO h1 h2 hsz hk => wpAny_pyIter_zip hz ⟨_, _, _, _, H1, rfl, I1.kept (t' := s1.toks) hk, turn_zipT (ap l1 l2), ⟨hz, hTI, ⟨_, _, hTO⟩, h1, h2⟩, fr, q⟩
  · obtain ⟨its, _, p1, _⟩ := I1.tuple qx
    obtain ⟨its2, _, p2, _⟩ := I1.list qy
    have l1 : a < s1.heap.objs.size := let ⟨_, ho, _⟩ := p1; Heap.lt_size ho
    exact call_zipM (show s1.heap.IsTuple a its.toArray from p1) p2.isList fun h' hz hTI hTO h1 h2 hk => wpAny_pyIter_zip hz ⟨_, _, _, _, H1, rfl, I1.kept (t' := s1.toks) hk, turn_zipM (ap l1 p2.lt), ⟨⟨hz, hTI, ⟨_, _, hTO⟩, h1, h2⟩, trivial⟩, fr, q⟩
end Ev

set_option autoImplicit false
set_option linter.all false
set_option maxRecDepth 100000
/-! zip, reversed. -/
namespace Ev
open PySem L2 PyProof.Rows
variable {T : Nam} {N : Nms} {G : Tab} {c : Sx} {X : Cx} {W : WX}
theorem zipL_len : ∀ (xs ys : List D), (zipL xs ys).length = min xs.length ys.length
  | [], ys => by simp [zipL]
  | x :: xs, [] => by simp [zipL]
  | x :: xs, y :: ys => by simp [zipL, zipL_len xs ys]
theorem zipL_get : ∀ (xs ys : List D) (i : Nat) (x y : D), xs[i]? = some x → ys[i]? = some y → (zipL xs ys)[i]? = some (.tup [x, y])
  | [], ys, i, x, y, h, _ => by simp at h
  | x :: xs, [], i, _, _, _, h => by simp at h
  | x :: xs, y :: ys, 0, u, w, h, h2 => by
    have h : x = u := by simpa using h
    have h2 : y = w := by simpa using h2
    subst h; subst h2
    simp [zipL]
  | x :: xs, y :: ys, i + 1, u, w, h, h2 => by
    have := zipL_get xs ys i u w (by simpa using h) (by simpa using h2)
    simpa [zipL] using this
section
variable {n0 : Nat} {ad0 : Nat → Addr} {B0 : Hp} {a b : Addr} {xs ys : List V} {ds es : List D}
theorem yld_zip {i : Nat} {H : Hp} {x : V} {H' : Hp} (r : RepDs N n0 ad0 B0 xs ds) (r2 : RepDs N n0 ad0 B0 ys es) (y : YPair (fun i => xs[i]?) (fun i => ys[i]?) i H x H') (n : Nat) (ad : Nat → Addr) (M : Addr → Prop)
    (hn : n0 ≤ n) (ha : ∀ k, k < n0 → ad k = ad0 k) (k : Sm B0 (msk H M)) (hM : ∀ p, M p → ∃ o, H p = some o) (_ : ∀ (p : Addr) (ys : List V), M p → H p ≠ some (HO.tup ys)) : ∃ d, (zipL ds es)[i]? = some d ∧ Same H H' ∧ RepD N n ad (msk H' M) x d := by
  obtain ⟨T, u, w, rfl, hT, rfl, e1, e2⟩ := y
  obtain ⟨d, h1, h2⟩ := r.getV e1
  obtain ⟨d', h1', h2'⟩ := r2.getV e2
  exact ⟨_, zipL_get ds es i d d' h1 h1', new_same hT, new_tup hM hT (.cons (h2.mono hn ha k) (.cons (h2'.mono hn ha k) .nil))⟩
theorem wlk_zipL (s : SqL N.K B0 a xs) (s2 : SqL N.K B0 b ys) (r : RepDs N n0 ad0 B0 xs ds) (r2 : RepDs N n0 ad0 B0 ys es) : Wlk N n0 ad0 B0 (Itz N.K a b) (zipL ds es) := by
  refine ⟨fun H => SqL N.K H a xs ∧ SqL N.K H b ys, YPair (fun i => xs[i]?) (fun i => ys[i]?), ?_, fun H k => ⟨SqL.sm k s, SqL.sm k s2⟩, fun i H x H' y n ad M => yld_zip r r2 y n ad M⟩
  rw [zipL_len, ← r.length, ← r2.length]
  refine ⟨fun i H hi h => ?_, fun H h => ⟨xs, ys, h.1, h.2, by omega⟩, fun i H x H' hi h y => ?_⟩
  · have h1 : i < xs.length := by omega
    have h2 : i < ys.length := by omega
    exact ⟨xs, ys, xs[i], ys[i], h.1, h.2, List.getElem?_eq_getElem h1, List.getElem?_eq_getElem h2⟩
  · obtain ⟨T, u, w, e1, e2, e3, e4, e5⟩ := y
    exact ⟨T, u, w, e1, e2, e3, e4 xs h.1, e5 ys h.2⟩
theorem wlk_zipT (s : SqT N.K B0 a xs) (s2 : SqT N.K B0 b ys) (r : RepDs N n0 ad0 B0 xs ds) (r2 : RepDs N n0 ad0 B0 ys es) : Wlk N n0 ad0 B0 (RZ.ItzT N.K a b) (zipL ds es) := by
  refine ⟨fun H => SqT N.K H a xs ∧ SqT N.K H b ys, YPair (fun i => xs[i]?) (fun i => ys[i]?), ?_, fun H k => ⟨SqT.sm k s, SqT.sm k s2⟩, fun i H x H' y n ad M => yld_zip r r2 y n ad M⟩
  rw [zipL_len, ← r.length, ← r2.length]
  refine ⟨fun i H hi h => ?_, fun H h => ⟨xs, ys, h.1, h.2, by omega⟩, fun i H x H' hi h y => ?_⟩
  · have h1 : i < xs.length := by omega
    have h2 : i < ys.length := by omega
    exact ⟨xs, ys, xs[i], ys[i], h.1, h.2, List.getElem?_eq_getElem h1, List.getElem?_eq_getElem h2⟩
  · obtain ⟨T, u, w, e1, e2, e3, e4, e5⟩ := y
    exact ⟨T, u, w, e1, e2, e3, e4 xs h.1, e5 ys h.2⟩
theorem wlk_zipM (s : SqT N.K B0 a xs) (s2 : SqL N.K B0 b ys) (r : RepDs N n0 ad0 B0 xs ds) (r2 : RepDs N n0 ad0 B0 ys es) : Wlk N n0 ad0 B0 (ItzM N.K a b) (zipL ds es) := by
  refine ⟨fun H => SqT N.K H a xs ∧ SqL N.K H b ys, YPair (fun i => xs[i]?) (fun i => ys[i]?), ?_, fun H k => ⟨SqT.sm k s, SqL.sm k s2⟩, fun i H x H' y n ad M => yld_zip r r2 y n ad M⟩
  rw [zipL_len, ← r.length, ← r2.length]
  refine ⟨fun i H hi h => ?_, fun H h => ⟨xs, ys, h.1, h.2, by omega⟩, fun i H x H' hi h y => ?_⟩
  · have h1 : i < xs.length := by omega
    have h2 : i < ys.length := by omega
    exact ⟨xs, ys, xs[i], ys[i], h.1, h.2, List.getElem?_eq_getElem h1, List.getElem?_eq_getElem h2⟩
  · obtain ⟨T, u, w, e1, e2, e3, e4, e5⟩ := y
    exact ⟨T, u, w, e1, e2, e3, e4 xs h.1, e5 ys h.2⟩
theorem yld_rev {i : Nat} {H : Hp} {x : V} {H' : Hp} (r : RepDs N n0 ad0 B0 xs ds) (y : i < xs.length ∧ H' = H ∧ xs[xs.length - 1 - i]? = some x) (n : Nat) (ad : Nat → Addr) (M : Addr → Prop)
    (hn : n0 ≤ n) (ha : ∀ k, k < n0 → ad k = ad0 k) (k : Sm B0 (msk H M)) : ∃ d, ds.reverse[i]? = some d ∧ Same H H' ∧ RepD N n ad (msk H' M) x d := by
  obtain ⟨hi, rfl, e⟩ := y
  obtain ⟨d, h1, h2⟩ := r.getV e
  refine ⟨d, ?_, Same.refl _, h2.mono hn ha k⟩
  have := r.length
  rw [List.getElem?_reverse (by omega), ← this]
  exact h1
theorem wlk_revL (s : SqL N.K B0 a xs) (r : RepDs N n0 ad0 B0 xs ds) : Wlk N n0 ad0 B0 (Itv N.K a xs.length) ds.reverse := by
  refine ⟨fun H => SqL N.K H a xs, fun i H x H' => i < xs.length ∧ H' = H ∧ xs[xs.length - 1 - i]? = some x, ?_, fun H k => SqL.sm k s, fun i H x H' y n ad M h1 h2 h3 _ _ => yld_rev r y n ad M h1 h2 h3⟩
  rw [List.length_reverse, ← r.length]
  refine ⟨fun i H hi h => ⟨hi, xs, xs[xs.length - 1 - i]'(by omega), h, List.getElem?_eq_getElem (by omega)⟩, fun H h => Nat.le_refl _, fun i H x H' hi h y => ⟨hi, y.1, y.2 xs h⟩⟩
theorem wlk_revT (s : SqT N.K B0 a xs) (r : RepDs N n0 ad0 B0 xs ds) : Wlk N n0 ad0 B0 (RT.ItvT N.K a xs.length) ds.reverse := by
  refine ⟨fun H => SqT N.K H a xs, fun i H x H' => i < xs.length ∧ H' = H ∧ xs[xs.length - 1 - i]? = some x, ?_, fun H k => SqT.sm k s, fun i H x H' y n ad M h1 h2 h3 _ _ => yld_rev r y n ad M h1 h2 h3⟩
  rw [List.length_reverse, ← r.length]
  refine ⟨fun i H hi h => ⟨hi, xs, xs[xs.length - 1 - i]'(by omega), h, List.getElem?_eq_getElem (by omega)⟩, fun H h => Nat.le_refl _, fun i H x H' hi h y => ⟨hi, y.1, y.2 xs h⟩⟩
end
theorem walkS_inv {ad : Nat → Addr} {σ : L2.St} {H : Hp} {s : S} {F : Addr → Prop} {pv : PV} {v : V} {K : D → S → (Nat → Addr) → Hp → Prop} (R : Rel N ad σ H s F) (r : RepPV N ad σ H s F v pv) (h : Gar N W ad σ H s F (walkS pv s) K) :
    ∃ d s', Rel N ad σ H s' F ∧ Post ad σ H s ad σ H s' F ∧ RepD N s'.cel.length ad (msk H (Mk ad σ s' F)) v d ∧ K d s' ad H := by
  cases pv with
  | d x =>
    cases x with
    | ref k => exact h.elim
    | _ => exact store_ok R r h
  | own i => exact store_ok R r h
theorem tI_zip {m m2 : M PV} : ∀ σ H R, tI N W (M.bind m fun x => M.bind m2 fun y => M.bind (walkS x) fun xs => M.bind (walkS y) fun ys => M.of (zipF xs ys)) σ H R → iZipM N.K (tCons (tX N W m) (tCons (tX N W m2) tNil)) σ H R := by
  rintro σ H Q ⟨ad, s, F, R, h⟩
  refine ⟨ad, s, F, R, (Gar.bind h).mono fun pv s1 ad1 H1 R1 P1 h1 v rv => ?_⟩
  refine ⟨ad1, s1, F, R1, (Gar.bind h1).mono fun pv2 s2 ad2 H2 R2 P2 h2 v2 rv2 => ?_⟩
  obtain ⟨d, s3, R3, P3, rd, k⟩ := walkS_inv R2 (rv.post P2) (Gar.bind h2)
  obtain ⟨d2, s4, R4, P4, rd2, k2⟩ := walkS_inv R3 (rv2.post P3) (Gar.bind k)
  have rd := P4.rep rd
  obtain ⟨ds, e, k⟩ := of_inv R4 k2
  unfold zipF at e
  split at e
  · cases e
    cases rd with
    | lst q1 q2 =>
      cases rd2 with
      | lst q3 q4 => exact ⟨_, _, _, _, rfl, .inl ⟨SqL.sm sm_le q1, SqL.sm sm_le q3, k _ (wlk_zipL q1 q3 q2 q4)⟩⟩
  · cases e
    cases rd with
    | tup q1 _ q2 =>
      cases rd2 with
      | tup q3 _ q4 => exact ⟨_, _, _, _, rfl, .inr (.inl ⟨SqT.sm sm_le q1, SqT.sm sm_le q3, k _ (wlk_zipT q1 q3 q2 q4)⟩)⟩
  · cases e
    cases rd with
    | tup q1 _ q2 =>
      cases rd2 with
      | lst q3 q4 => exact ⟨_, _, _, _, rfl, .inr (.inr ⟨SqT.sm sm_le q1, SqL.sm sm_le q3, k _ (wlk_zipM q1 q3 q2 q4)⟩)⟩
  · cases e
theorem tI_rev {m : M PV} : ∀ σ H R, tI N W (M.bind m fun x => M.bind (walkD x) fun xs => M.pure xs.reverse) σ H R → RT.iRevA N.K (tX N W m) σ H R := by
  rintro σ H Q ⟨ad, s, F, R, h⟩
  refine ⟨ad, s, F, R, (Gar.bind h).mono fun pv s1 ad1 H1 R1 P1 h1 v rv => ?_⟩
  obtain ⟨a, xs, ds, s', rfl, R', P', q, rd, k⟩ := walkD_inv R1 rv (Gar.bind h1)
  have k := Gar.pure R' k
  refine ⟨a, xs, rfl, ?_⟩
  rcases q with q | q
  · exact .inl ⟨SqL.sm sm_le q, k _ (wlk_revL q rd)⟩
  · exact .inr ⟨SqT.sm sm_le q, k _ (wlk_revT q rd)⟩
end Ev

set_option autoImplicit false
set_option linter.all false
set_option maxRecDepth 100000
set_option maxHeartbeats 1000000
/-! A comprehension over a dict's keys: the dict is locked meanwhile. -/
namespace Ev
open PySem L2 PyProof.Rows
variable {N : Nms} {W : WX}
section
variable {n0 : Nat} {ad0 : Nat → Addr} {B0 : Hp} {d : Addr} {o : Obj}
theorem RepKs.getK : ∀ {kvs : List (Key × V)} {ds : List (D × D)} {i : Nat} {k : Key} {v : V}, RepKs N n0 ad0 B0 kvs ds → kvs[i]? = some (k, v) → (ds.map (·.1))[i]? = some (kD k)
  | _, _, _, _, _, .nil, e => by simp at e
  | _, _, 0, _, _, .cons a b, e => by simp at e; obtain ⟨rfl, rfl⟩ := e; rfl
  | _, _, i + 1, _, _, .cons a b, e => by
    have := RepKs.getK (i := i) b (by simpa using e)
    simpa using this
theorem RepTs.getK : ∀ {kvs : List (List Key × V)} {ds : List (D × D)} {i : Nat} {k : List Key} {v : V}, RepTs N n0 ad0 B0 kvs ds → kvs[i]? = some (k, v) → ∃ k0 : List Int, k = k0.map Sum.inl ∧ (keysT ds)[i]? = some (.tup (k0.map .int))
  | _, _, _, _, _, .nil, e => by simp at e
  | _, _, 0, _, _, .cons (k := k0) z a b, e => by simp at e; obtain ⟨rfl, rfl⟩ := e; exact ⟨k0, rfl, rfl⟩
  | _, _, i + 1, _, _, .cons z a b, e => by
    obtain ⟨k0, h1, h2⟩ := RepTs.getK (i := i) b (by simpa using e)
    exact ⟨k0, h1, by simpa [keysT] using h2⟩
theorem RepKs.len : ∀ {kvs : List (Key × V)} {ds : List (D × D)}, RepKs N n0 ad0 B0 kvs ds → (ds.map (·.1)).length = kvs.length
  | _, _, .nil => rfl
  | _, _, .cons a b => by have := b.len; simpa using this
theorem RepTs.len : ∀ {kvs : List (List Key × V)} {ds : List (D × D)}, RepTs N n0 ad0 B0 kvs ds → (keysT ds).length = kvs.length
  | _, _, .nil => rfl
  | _, _, .cons z a b => by have := b.len; simpa [keysT] using this
theorem frz_sm {B B' : Hp} {u : HO} (h : B d = some (.frz o u)) (k : Sm B B') : B' d = some (.frz o u) := by
  obtain ⟨o', e, _, l⟩ := k _ _ h
  rw [e, l trivial]
theorem wlk_keysK {kvs : List (Key × V)} {ds : List (D × D)} (hd : B0 d = some (.frz o (.dK kvs))) (r : RepKs N n0 ad0 B0 kvs ds) : Wlk N n0 ad0 B0 (Itk d o kvs) (ds.map (·.1)) := by
  refine ⟨fun H => H d = some (.frz o (.dK kvs)), fun i H x H' => H' = H ∧ ∃ k v, kvs[i]? = some (k, v) ∧ x = kV k, ?_, fun H k => frz_sm hd k, ?_⟩
  · have := walk_keys (d := d) (o := o) (kvs := kvs)
    rw [← r.len] at this; exact this
  · rintro i H x H' ⟨rfl, k, v, e, rfl⟩ n ad M hn ha sm hM _
    refine ⟨kD k, r.getK e, Same.refl _, ?_⟩
    cases k with
    | inl i => exact .int i
    | inr x => exact .str x
theorem wlk_keysT {kvs : List (List Key × V)} {ds : List (D × D)} (hd : B0 d = some (.frz o (.dT kvs))) (r : RepTs N n0 ad0 B0 kvs ds) : Wlk N n0 ad0 B0 (Itkt d o kvs) (keysT ds) := by
  refine ⟨fun H => H d = some (.frz o (.dT kvs)), fun i H x H' => H' = H ∧ ∃ (k : List Key) (v : V) (q : Addr), kvs[i]? = some (k, v) ∧ x = .ref q ∧ H q = some (.tup (k.map kV)), ?_, fun H k => frz_sm hd k, ?_⟩
  · have := walk_keysT (d := d) (o := o) (kvs := kvs)
    rw [← r.len] at this; exact this
  · rintro i H x H' ⟨rfl, k, v, q, e, rfl, hq⟩ n ad M hn ha sm hM hT
    obtain ⟨k0, rfl, h2⟩ := r.getK e
    have ek : (k0.map (Sum.inl : Int → Key)).map kV = k0.map V.int := by rw [List.map_map]; rfl
    rw [ek] at hq
    have hB : msk H' M q = some (.tup (k0.map V.int)) := by
      rw [msk_of fun m => hT q _ m hq]; exact hq
    exact ⟨_, h2, Same.refl _, .tup (SqT.of hB) (fun _ => hB) (RepDs.ints k0)⟩
end
/-- storing a slot's dict -/
theorem keys_ok {ad : Nat → Addr} {σ : L2.St} {H : Hp} {s : S} {F : Addr → Prop} {i : Nat} {K : List D → S → (Nat → Addr) → Hp → Prop} (R : Rel N ad σ H s F) (h : Gar N W ad σ H s F (keysM i s) K) :
    ∃ kvs s' v, Rel N ad σ H s' F ∧ Post ad σ H s ad σ H s' F ∧ σ[i]? = some (some v) ∧ RepD N s'.cel.length ad (msk H (Mk ad σ s' F)) v (.dct kvs) ∧ K (keysD kvs) s' ad H := by
  unfold keysM at h
  split at h
  · rename_i kvs hl
    obtain ⟨a, e, rd, R1, P1⟩ := R.freeze (get_sl.mpr (loc1_some.mp hl))
    exact ⟨kvs, _, _, R1, P1, e, rd, h ad H R1 P1⟩
  · rename_i kvs hl
    obtain ⟨v, e, r⟩ := R.dat i _ (loc1_some.mp hl)
    exact ⟨kvs, s, v, R, .refl, e, r, h ad H R .refl⟩
  · exact h.elim
theorem tX_lcK {i : Nat} {tg : Tg} {mt : M Bool} {me : M PV} {own : List Nat} (htg : ∀ i ∈ tgSl tg, i ∈ own) : ∀ σ H Q, tX N W (M.bind (keysM i) fun xs => M.bind (lcM own (loopC tg mt (M.bind me PV.store) own [] xs)) fun ts => M.pure (.d (.lst ts))) σ H Q →
    tLockE (tLc (iKeys (tVar i)) (gTg N.K tg) (tT N Wf mt) (tX N Wf me) own) σ H Q ∨ tLc (iKeys (tVar i)) (gTg N.K tg) (tT N Wf mt) (tX N Wf me) own σ H Q := by
  rintro σ H Q ⟨ad, s, F, R, h⟩
  obtain ⟨kvs, s1, v, R1, P1, hv, rd, h1⟩ := keys_ok R (Gar.bind h)
  have h1 := Gar.bind h1
  unfold lcM at h1
  cases hl : loopC tg mt (M.bind me PV.store) own [] (keysD kvs) s1 with
  | exc e s' => rw [hl] at h1; exact h1.elim
  | stk => rw [hl] at h1; exact h1.elim
  | ok ts sE =>
    rw [hl] at h1
    -- where it is locked already
    have right : ∀ (d : Addr) (od : Obj) (u : HO) (J : L2.It), isDk u = true → msk H (Mk ad σ s1 F) d = some (.frz od u) → Wlk N s1.cel.length ad (msk H (Mk ad σ s1 F)) J (keysD kvs) →
        LcBody N (gTg N.K tg) (tT N Wf mt) (tX N Wf me) own σ J H Q := fun d od u J hk hB wk => lc_in htg R1 wk hl fun s' ad' H' D vacc R' P' hA ra e hle => by
      subst e
      obtain ⟨Rt, Pt, smt, nm⟩ := Rel.take P' R'
      refine Gar.pure Rt (h1 ad' H' Rt Pt) _ (RepD.lst (SqL.of ?_) (ra.mono (Nat.le_refl _) (fun _ _ => rfl) smt))
      rw [msk_of nm]; exact hA
    have left : ∀ (d : Addr) (od : Obj) (u : HO) (J : L2.It), isDk u = true → msk H (Mk ad σ s1 F) d = some u → Wlk N s1.cel.length ad (msk (upd H d (.frz od u)) (Mk ad σ s1 F)) J (keysD kvs) →
        LcBody N (gTg N.K tg) (tT N Wf mt) (tX N Wf me) own σ J (upd H d (.frz od u)) fun v H' => H' d = some (.frz od u) ∧ Q v (upd H' d u) := fun d od u J hk hB wk => by
      obtain ⟨Hd, nm⟩ := msk_get hB
      have R2 := R1.chg (u := .frz od u) Hd (core_frz hk) nm
      have hB2 : msk (upd H d (.frz od u)) (Mk ad σ s1 F) d = some (.frz od u) := by rw [msk_of nm]; exact upd_same
      refine lc_in htg R2 wk hl fun s' ad' H' D vacc R' P' hA ra e hle => ?_
      subst e
      obtain ⟨hd', nm'⟩ := msk_get (frz_sm hB2 P'.sm)
      obtain ⟨Rt, Pt, smt, nmD⟩ := Rel.take P' R'
      have nm2 : ¬ Mk ad' σ (unown own s1.loc sE) F d := fun m => nm' (m.imp .inl id)
      have Ru := Rt.chg (u := u) hd' (core_frz hk).symm nm2
      have Pu : Post ad σ H s1 ad' σ (upd H' d u) (unown own s1.loc sE) F := ⟨Pt.agr, Pt.len, Pt.ll, sm_unlock Hd Pt.sm nm2, fun a h => by
        have hne : a ≠ d := fun z => nm (.inl (by rw [← z]; exact h))
        rw [upd_ne hne, Pt.frn a h, upd_ne hne]⟩
      have hDd : D ≠ d := fun z => by rw [z, hd'] at hA; cases hA
      refine ⟨hd', Gar.pure Ru (h1 ad' _ Ru Pu) _ (RepD.lst (SqL.of ?_) (ra.monoW (Nat.le_refl _) (fun _ _ => rfl) ?_))⟩
      · rw [msk_of nmD, upd_ne hDd]; exact hA
      · intro a o ha
        obtain ⟨o', q1, q2, _⟩ := smt a o ha
        obtain ⟨q3, q4⟩ := msk_get q1
        rw [msk_of q4]
        by_cases z : a = d
        · rw [z] at q3 ⊢
          rw [hd'] at q3; cases q3
          exact ⟨u, upd_same, (core_frz hk).symm.trans q2⟩
        · exact ⟨o', by rw [upd_ne z]; exact q3, q2⟩
    cases rd with
    | dK s r =>
      rename_i d kv
      have ek : keysD kvs = kvs.map (·.1) := by
        unfold keysD; rw [r.isTd]; rfl
      rcases s with s | ⟨od, s⟩
      · obtain ⟨Hd, nm⟩ := msk_get s
        refine .inl ⟨d, _, Hd, trivial, fun od => ⟨_, hv, d, od, rfl, .inl ⟨kv, upd_same, left d od (.dK kv) _ rfl s ?_⟩⟩⟩
        rw [ek]
        exact wlk_keysK (by rw [msk_of nm]; exact upd_same) (r.mono (Nat.le_refl _) (fun _ _ => rfl) (sm_lock Hd rfl))
      · refine .inr ⟨_, hv, d, od, rfl, .inl ⟨kv, (msk_get s).1, right d od (.dK kv) _ rfl s ?_⟩⟩
        rw [ek]
        exact wlk_keysK s r
    | dT s r =>
      rename_i d kv
      have ek : keysD kvs = keysT kvs := by
        unfold keysD; rw [r.isTd]; rfl
      rcases s with s | ⟨od, s⟩
      · obtain ⟨Hd, nm⟩ := msk_get s
        refine .inl ⟨d, _, Hd, trivial, fun od => ⟨_, hv, d, od, rfl, .inr ⟨kv, upd_same, left d od (.dT kv) _ rfl s ?_⟩⟩⟩
        rw [ek]
        exact wlk_keysT (by rw [msk_of nm]; exact upd_same) (r.mono (Nat.le_refl _) (fun _ _ => rfl) (sm_lock Hd rfl))
      · refine .inr ⟨_, hv, d, od, rfl, .inr ⟨kv, (msk_get s).1, right d od (.dT kv) _ rfl s ?_⟩⟩
        rw [ek]
        exact wlk_keysT s r
theorem pe_lockOr {X : Cx} {e : Expr} {t : TE} (h : PE X e t) : PE X e fun σ H Q => tLockE t σ H Q ∨ t σ H Q := by
  have l := pe_lock h
  refine ⟨fun pins s σ H Q I hw => ?_⟩
  rcases hw with hw | hw
  · exact l.run pins s σ H Q I hw
  · exact h.run pins s σ H Q I hw
end Ev

set_option autoImplicit false
set_option linter.all false
set_option maxRecDepth 100000
set_option maxHeartbeats 1000000
/-! What the core says of an expression is so. -/
namespace Ev
open PySem L2 PyProof.Rows
variable {T : Nam} {N : Nms} {G : Tab} {W : WX} {F : FT}
theorem XOk.tok {c : Sx} {X : Cx} (o : XOk T N G c X W) : TOk c X := ⟨o.hN, o.nd, o.sc, o.calm, o.fnc⟩
theorem XOk.blk {c : Sx} {X : Cx} (o : XOk T N G c X W) (s : Shared) (H : Hp) (C : Addr) (cl : List (Str × Addr)) (fp : List Addr) (sc : Scope) : XOk T N G (c.blk sc) (X.blk s H sc (compEnvC sc cl C X.env) fp) Wf where
  hK := o.hK
  hN := o.hN
  nd := o.nd
  sc := by
    show relS sc X.env.scope = relS sc c.sc
    rw [o.sc]
  un := o.un
  calm := o.calm
  fnc := fun x h => by
    show (sc.names.lookup x == some .cell) = true
    have h : sc.names.lookup x = some .cell := h
    rw [h]; rfl
  tk := fun u s' x => by
    obtain ⟨_, _, _, _, _, _, _, _, _, _, _, _, _, _, _, _, z⟩ := x
    exact z.elim
  blt := o.blt
  con := o.con
  cls := o.cls
  exn := o.exn
  hdn := o.hdn
  exo := o.exo
  exm := o.exm
  exi := o.exi
  exf := o.exf
  rm := o.rm
  eqs := o.eqs
  nsb := o.nsb
  ncl := o.ncl
  nm := o.nm
  kit := o.kit
  fld := o.fld
  ist := o.ist
theorem Fns.blk {X : Cx} (f : Fns T N G X F) (s : Shared) (H : Hp) (sc : Scope) (e : Env) (fp : List Addr) : Fns T N G (X.blk s H sc e fp) F :=
  ⟨fun g x h => by
    obtain ⟨fa, fd, ps, k, q1, q2, q3⟩ := f.fn g x h
    exact ⟨fa, fd, ps, k, q1, q2, ⟨q3.kp, q3.bd, q3.ok, q3.ln⟩⟩, fun c m g h => by
    obtain ⟨fa, fd, ps, k, q0, q1, q2, q3⟩ := f.mt c m g h
    exact ⟨fa, fd, ps, k, q0, q1, q2, ⟨q3.kp, q3.bd, q3.ok, q3.ln⟩⟩, fun c g h => by
    obtain ⟨fa, fd, ps, k, q0, q1, q2, q3⟩ := f.mak c g h
    exact ⟨fa, fd, ps, k, q0, q1, q2, ⟨q3.kp, q3.bd, q3.ok, q3.ln⟩⟩⟩
/-- the defs that may be called where nothing is handled -/
def FnsH (T : Nam) (N : Nms) (G : Tab) (c : Sx) (X : Cx) (F : FT) : Prop := c.hot = false → Fns T N G X F
theorem FnsH.blk {c : Sx} {X : Cx} {F : FT} (f : FnsH T N G c X F) (s : Shared) (H : Hp) (sc : Scope) (e : Env) (fp : List Addr) : FnsH T N G (c.blk sc) (X.blk s H sc e fp) F := fun h => (f h).blk s H sc e fp
theorem mem_blt {b : Bi} : biName b ∈ bltNames := by cases b <;> decide
theorem biName_val {b : Bi} (h : biOk b = true) : bootBuiltins (biName b) = some (biV b) := by
  cases b <;> first | (simp [biOk] at h; done) | decide +kernel
section
variable {c : Sx} {X : Cx}
/-- where isinstance is asked -/
theorem tyx_of (o : XOk T N G c X W) {n : Nat} {ad : Nat → Addr} {M : Addr → Prop} {H : Hp} {v : V} {x : D} {t : Tag} (r : RepW N n ad (msk H M) H v x) (ht : tagOf x = some t) (hc : ∀ k, t = .obj k → k < T.cls.length ∧ G.isa k = true) : TyX N.K H v (tagV N t) := by
  cases x <;> simp only [tagOf] at ht <;> (try split at ht) <;> cases ht
  · obtain rfl := r.nonI; exact .base .non
  · obtain rfl := r.blI; exact .base (.bl _)
  · obtain rfl := r.intI; exact .base (.int _)
  · obtain rfl := r.strI; exact .base (.str _)
  · obtain ⟨a, xs, rfl, _, s, _⟩ := r.tupI
    rcases s with (s | ⟨ob, s⟩) | ⟨ob, its, m, k, cl, _⟩
    · exact .base (.tup s)
    · exact .fTuple s
    · exact .kTuple k cl
  · obtain ⟨a, xs, rfl, s, _⟩ := r.lstI
    rcases s with (s | ⟨ob, s⟩) | ⟨ob, its, m, k, cl, _⟩
    · exact .base (.lst s)
    · exact .base (.frz s)
    · exact .kList k cl
  · rename_i hT
    obtain ⟨a, rfl, ⟨kvs, s, _⟩ | ⟨kvs, s, rt⟩⟩ := r.dctI
    · rcases s with s | ⟨ob, s⟩
      · exact .base (.dK s)
      · exact .fDict s
    · exact absurd rt.isTd hT
  · rename_i k fs
    obtain ⟨a, dx, fv, rfl, s, _⟩ := r.objI
    obtain ⟨h1, h2⟩ := o.fld k (hc k rfl).1
    obtain ⟨h3, h4, h5, h6⟩ := o.ist k (hc k rfl).1 (hc k rfl).2
    exact .base (.ins s h1 h3 h4 h5 h6)
theorem kit_all (o : XOk T N G c X W) (tg : Tag) (hg : ∀ k, tg = .obj k → k < T.cls.length ∧ G.isa k = true) : ∀ ts : List Ty, (∀ k, Ty.cls k ∈ ts → k < T.cls.length ∧ G.isa k = true) → PySem.W.kitAny N.K (tagV N tg) (ts.map (tyV1 N)) = some (ts.any (isTag G.sub tg))
  | [], _ => rfl
  | t :: ts, h => by
    have e := o.kit tg t (by cases tg <;> first | trivial | exact hg _ rfl) (by cases t <;> first | trivial | exact h _ (by simp))
    show (match PySem.W.kitOne N.K (tagV N tg) (tyV1 N t) with
      | some true => some true
      | some false => PySem.W.kitAny N.K (tagV N tg) (ts.map (tyV1 N))
      | none => none) = _
    rw [e, List.any_cons]
    cases isTag G.sub tg t with
    | true => rfl
    | false => exact kit_all o tg hg ts fun k hk => h k (List.mem_cons_of_mem _ hk)
theorem isiF_inv {ts : List Ty} {x z : D} (h : isiF G ts x = some z) : ∃ tg, tagOf x = some tg ∧ (∀ k, tg = .obj k → k < G.ncls ∧ G.isa k = true) ∧ (∀ k, Ty.cls k ∈ ts → G.isa k = true) ∧ z = .bl (ts.any (isTag G.sub tg)) := by
  have any_eq : ∀ (tg : Tag), tagOf x = some tg → ts.any (isTy G.sub x) = ts.any (isTag G.sub tg) := fun tg e => by
    congr 1; funext t; exact isTy_tag _ _ _ _ e
  unfold isiF at h
  split at h
  rotate_left
  · cases h
  rename_i hts
  have ht : ∀ k, Ty.cls k ∈ ts → G.isa k = true := fun k hk => List.all_eq_true.mp hts (.cls k) hk
  cases x with
  | ref k => cases h
  | obj k fs =>
    simp only at h
    split at h
    · rename_i hk
      cases h
      exact ⟨.obj k, rfl, fun j e => by cases e; exact hk, ht, by rw [any_eq _ rfl]⟩
    · cases h
  | non => cases h; exact ⟨_, rfl, (fun j e => by cases e), ht, by rw [any_eq _ rfl]⟩
  | bl b => cases h; exact ⟨_, rfl, (fun j e => by cases e), ht, by rw [any_eq _ rfl]⟩
  | int i => cases h; exact ⟨_, rfl, (fun j e => by cases e), ht, by rw [any_eq _ rfl]⟩
  | str i => cases h; exact ⟨_, rfl, (fun j e => by cases e), ht, by rw [any_eq _ rfl]⟩
  | tup i => cases h; exact ⟨_, rfl, (fun j e => by cases e), ht, by rw [any_eq _ rfl]⟩
  | lst i => cases h; exact ⟨_, rfl, (fun j e => by cases e), ht, by rw [any_eq _ rfl]⟩
  | dct i =>
    simp only at h
    split at h
    · cases h
    · rename_i hT
      cases h
      have e : tagOf (.dct i) = some .dct := if_neg hT
      exact ⟨_, e, (fun j e => by cases e), ht, by rw [any_eq _ e]⟩
theorem clsV_ty (t : Ty) : ClsV (tyVV N t) (tyV1 N t) := by cases t <;> first | exact .ty _ | exact .own _
theorem tX_isi1 (o : XOk T N G c X W) {t : Ty} (ht : ∀ k, t = .cls k → k < T.cls.length) {m : M PV} : ∀ σ H Q, tX N W (one m (isiF G [t])) σ H Q → tCB (rIsi N.K) (tCons (tX N W m) (tCons (tC (tyVV N t)) tNil)) σ H Q := by
  intro σ H Q h
  refine tX_one (r := fun x H Q => rIsi N.K [x, tyVV N t] H Q) (fun x H Q ⟨n, ad, M, a, z, hM, ra, hf, q⟩ => ?_) σ H Q h
  obtain ⟨tg, e1, e2, e3, rfl⟩ := isiF_inv hf
  have e2' : ∀ k, tg = .obj k → k < T.cls.length ∧ G.isa k = true := fun k e => by rw [o.ncl]; exact e2 k e
  have ht' : ∀ k, k < T.cls.length → G.isa k = true → k < T.cls.length ∧ G.isa k = true := fun k a b => ⟨a, b⟩
  refine ⟨x, tyVV N t, tagV N tg, tyV1 N t, isTag G.sub tg t, rfl, clsV_ty t, tyx_of o ra e1 e2', ?_, ?_⟩
  · exact o.kit tg t (by cases tg <;> first | trivial | exact e2' _ rfl) (by cases t <;> first | trivial | exact ⟨ht _ rfl, e3 _ (by simp)⟩)
  · have : ([t].any (isTag G.sub tg)) = isTag G.sub tg t := by simp
    rw [this] at q
    exact q _ _ (Same.refl _) (.bl _)
def tTys (N : Nms) : List Ty → TA
  | [] => tNil
  | t :: ts => tCons (tC (tyVV N t)) (tTys N ts)
theorem tTys_ok : ∀ (ts : List Ty) (σ : L2.St) (H : Hp) (Q : List V → Hp → Prop), Q (ts.map (tyVV N)) H → tTys N ts σ H Q
  | [], _, _, _, h => h
  | t :: ts, σ, H, Q, h => tTys_ok ts σ H (fun xs H2 => Q (tyVV N t :: xs) H2) h
theorem paired_ty : ∀ ts : List Ty, Paired ClsV (ts.map (tyVV N)) (ts.map (tyV1 N))
  | [] => .nil
  | t :: ts => .cons (clsV_ty t) (paired_ty ts)
theorem RepW.grow {n : Nat} {ad : Nat → Addr} {M : Addr → Prop} {H H' : Hp} {v : V} {x : D} (r : RepW N n ad (msk H M) H v x) (sm : Same H H') : RepW N n ad (msk H' M) H' v x := by
  cases r with
  | d r => exact .d (RepD.mono (Nat.le_refl _) (fun _ _ => rfl) (.of (msk_same sm)) _ r)
  | c ok =>
    obtain ⟨o, ho⟩ := ok.some
    exact .c (ok.mono (Nat.le_refl _) (fun _ _ => rfl) (.of (msk_same sm)) ((sm _ _ ho).trans ho.symm))
theorem tX_isiT (o : XOk T N G c X W) {ts : List Ty} (ht : ∀ k, Ty.cls k ∈ ts → k < T.cls.length) (hl : ts.length ≤ 100) {m : M PV} : ∀ σ H Q, tX N W (one m (isiF G ts)) σ H Q → tCB (rIsiT N.K) (tCons (tX N W m) (tCons (tTup (tTys N ts)) tNil)) σ H Q := by
  intro σ H Q h
  refine tX_one (r := fun x H Q => tTup (tTys N ts) σ H fun y H2 => rIsiT N.K [x, y] H2 Q) (fun x H Q ⟨n, ad, M, a, z, hM, ra, hf, q⟩ => ?_) σ H Q h
  obtain ⟨tg, e1, e2, e3, rfl⟩ := isiF_inv hf
  have e2' : ∀ k, tg = .obj k → k < T.cls.length ∧ G.isa k = true := fun k e => by rw [o.ncl]; exact e2 k e
  have ht' : ∀ k, k < T.cls.length → G.isa k = true → k < T.cls.length ∧ G.isa k = true := fun k a b => ⟨a, b⟩
  refine tTys_ok ts σ H _ ⟨by rw [List.length_map, sizeLine_line]; unfold line; omega, fun p hp => ?_⟩
  exact ⟨x, p, _, tagV N tg, _, ts.any (isTag G.sub tg), rfl, upd_same, paired_ty ts, tyx_of o (ra.grow (new_same hp)) e1 e2', kit_all o tg e2' ts (fun k hk => ⟨ht k hk, e3 k hk⟩), q _ _ (new_same hp) (.bl _)⟩
/-- e.f -/
theorem tX_fld (o : XOk T N G c X W) {f : Nat} {m : M PV} : ∀ σ H Q, tX N W (one m (fldF G f)) σ H Q → tFld N.K (tX N W m) (N.nm f) σ H Q := by
  intro σ H Q h
  refine tX_one (r := fun x H1 Q => ∃ a C dx fs v, x = .ref a ∧ H1 a = some (.ins C dx fs) ∧ Cls N.K C ∧ NoAttr N.K C (N.nm f) ∧ fs.lookup (N.nm f) = some v ∧ Q v H1) (fun x H Q ⟨n, ad, M, a, z, hM, ra, hf, q⟩ => ?_) σ H Q h
  cases a with
  | obj k fs =>
    simp only [fldF] at hf
    split at hf
    · rename_i hk
      obtain ⟨a, dx, fv, rfl, s, rf⟩ := ra.objI
      obtain ⟨h1, h2⟩ := o.fld k (by rw [o.ncl]; exact hk.1)
      obtain ⟨v, e, rv⟩ := rf.lookup o.nm hf
      exact ⟨a, _, dx, fv, v, rfl, s, h1, h2 f hk.2, e, q _ _ (Same.refl _) rv⟩
    · cases hf
  | _ => cases hf
/-- a slice -/
def PartV (n : Bool) (v : V) (a : Option Int) : Prop := if n = true then a = none else ∃ i, v = .int i ∧ a = some i
theorem part_v {n : Bool} {pv : PV} {v : V} {ad : Nat → Addr} {σ : L2.St} {H : Hp} {s : S} {F : Addr → Prop} {K : Option Int → S → (Nat → Addr) → Hp → Prop} (R : Rel N ad σ H s F) (r : RepPV N ad σ H s F v pv) (h : Gar N W ad σ H s F (partM n pv s) K) : ∃ a, PartV n v a ∧ K a s ad H := by
  cases pv with
  | own i => exact h.elim
  | d y =>
    have h : Gar N W ad σ H s F (M.of (partF n y) s) K := h
    obtain ⟨a, e, k⟩ := of_inv R h
    refine ⟨a, ?_, k⟩
    unfold PartV
    cases n <;> cases y <;> simp only [partF] at e <;> cases e
    · cases r; exact ⟨_, rfl, rfl⟩
    · rfl
theorem tX_sl {n1 n2 : Bool} {m ml mh : M PV} : ∀ σ H Q, tX N W (M.bind m fun x => M.bind ml fun l => M.bind (partM n1 l) fun i => M.bind mh fun h => M.bind (partM n2 h) fun j => slM x i j) σ H Q →
    (tX N W m) σ H fun x H1 => tX N W ml σ H1 fun l H2 => ∃ a, PartV n1 l a ∧ tX N W mh σ H2 fun h H3 => ∃ b, PartV n2 h b ∧ rSl N x a b H3 Q := by
  rintro σ H Q ⟨ad, s, F, R, h⟩
  refine ⟨ad, s, F, R, (Gar.bind h).mono fun a s1 ad1 H1 R1 P1 h1 x rx => ?_⟩
  refine ⟨ad1, s1, F, R1, (Gar.bind h1).mono fun b s2 ad2 H2 R2 P2 h2 l rl => ?_⟩
  obtain ⟨lo, hlo, h2⟩ := part_v R2 rl (Gar.bind h2)
  refine ⟨lo, hlo, ad2, s2, F, R2, (Gar.bind h2).mono fun d s3 ad3 H3 R3 P3 h3 u ru => ?_⟩
  obtain ⟨hi, hhi, h3⟩ := part_v R3 ru (Gar.bind h3)
  refine ⟨hi, hhi, ?_⟩
  have rx3 := (rx.post P2).post P3
  unfold slM at h3
  cases hv : a.val s3 with
  | none => rw [hv] at h3; exact h3.elim
  | some z0 =>
    rw [hv] at h3
    simp only at h3
    cases hs : slF lo hi z0 with
    | none => rw [hs] at h3; exact h3.elim
    | some z =>
      rw [hs] at h3
      refine ⟨_, _, Mk ad3 σ s3 F, z0, z, fun p m => R3.masked m, rx3.val R3 hv, ?_, fun v H4 sm r4 => h3 ad3 H4 (R3.grow sm) (.grow R3 sm) v r4⟩
      cases z0 <;> exact hs
end
end Ev

set_option autoImplicit false
set_option linter.all false
set_option maxRecDepth 100000
set_option maxHeartbeats 1000000
/-! Ranges as tuples and lists; f(); tests by if-expressions. -/
namespace Ev
open PySem L2 PyProof.Rows
variable {T : Nam} {N : Nms} {G : Tab} {W : WX} {F : FT}
section
variable {X : Cx}
theorem pt_ifExp {c a b : Expr} {pos : Pos} {t u v : TT} (hc : PT X c t) (ha : PT X a u) (hb : PT X b v) : PT X (.IfExp c a b pos) (fun σ H Q => t σ H fun d H1 => if d = true then u σ H1 Q else v σ H1 Q) := by
  refine ⟨fun pins s σ H Q I h => ?_⟩
  refine isTrue_IfExp (thn (hc.run pins s σ H _ I h) fun d s1 ⟨H1, I1, q1⟩ => ?_)
  cases d with
  | true => exact ha.run pins s1 σ H1 Q I1 q1
  | false => exact hb.run pins s1 σ H1 Q I1 q1
theorem tT_ife {mt ma mb : M PV} : ∀ σ H Q, tT N W (M.bind (M.bind mt fun x => M.bind (toB x) fun c => if c then ma else mb) toB) σ H Q → (tT N W (M.bind mt toB)) σ H fun d H1 => if d = true then tT N W (M.bind ma toB) σ H1 Q else tT N W (M.bind mb toB) σ H1 Q := by
  rintro σ H Q ⟨ad, s, F, R, h⟩
  refine ⟨ad, s, F, R, ?_⟩
  have e : M.bind (M.bind mt fun x => M.bind (toB x) fun c => if c then ma else mb) toB = M.bind (M.bind mt toB) (fun c => if c then M.bind ma toB else M.bind mb toB) := by
    rw [bind_assoc, bind_assoc]
    congr; funext x; rw [bind_assoc]; congr; funext c; cases c <;> rfl
  rw [e] at h
  refine (Gar.bind h).mono fun b s1 ad1 H1 R1 P1 h1 => ?_
  cases b with
  | true => exact ⟨ad1, s1, F, R1, h1⟩
  | false => exact ⟨ad1, s1, F, R1, h1⟩
section
variable {f : Addr} {fd : FuncData} {ps : List Str} {sp : Sp} {k : Nat} {E : L2.St → XK} {x : Str} {p pos : Pos}
theorem pe_callS0 (Fo : FnOk X.prog X.w X.K X.mg X.base (L2.CX X.prog X.w) k f fd ps sp) (hr : Room k X.A) (hg : Gl X x) (hm : X.mg x = some (.ref f)) (hk : PySem.W.keepIn X.K (.ref f) = true) (hb : Binds X.K fd ps []) (hx : ∀ σ, PassesAt (L2.CX X.prog X.w) X σ (E σ))
    (hdb : (x == ("__debug__" : Str)) = false) : PE X (.Call (.Name x p) [] [] pos) (tCallS sp E tNil) := by
  refine ⟨fun pins s σ H Q I h => ?_⟩
  refine wpAny_Call_Name_kw (ld_glob I hg hm ?_ hdb)
  exact PySem.W.callWith_K0 I.kIn hk (run_fnS (us := []) Fo hr hb (hx σ) I .nil h)
end
/-- tuple(range(a, b, c)) -/
def rgC (a c : Int) (n : Nat) : List V := (List.range n).map fun i => V.int (a + (i : Nat) * c)
theorem vals_rgC {a c : Int} {n : Nat} {acc : Array Value} (h : ItemsOf (fun i v => ∃ t, v = .int (a + i * c) t) acc n) : Vals (rgC a c n) acc.toList := by
  have e : acc.toList.length = n := by rw [Array.length_toList]; exact h.1
  unfold rgC
  rw [← e]
  refine vals_of_get acc.toList _ fun j u hj => ?_
  obtain ⟨t, rfl⟩ := h.2 j u (by rw [← hj, Array.getElem?_toList])
  exact ⟨t, rfl⟩
def tTupRg3 (ta : TA) : TE := fun σ H Q => ta σ H fun vs H1 => ∃ (i j c : Int) (n : Nat), vs = [.int i, .int j, .int c] ∧ RgC i j c n ∧ n ≤ 2 ^ 24 ∧ ∀ q, H1 q = none → Q (.ref q) (upd H1 q (.tup (rgC i c n)))
theorem pe_tupRg3 {a b c : Expr} {ta : TA} {p pos p2 pos2 : Pos} (hcm : X.calm = true) (hg : Gl X "tuple") (hm : X.mg "tuple" = none) (hg2 : Gl X "range") (hm2 : X.mg "range" = none) (ha : PA X [a, b, c] ta)
    (hs : starEach [a, b, c] X.env = (false, eval a X.env) :: starEach [b, c] X.env) (hpl : ∀ pos : Pos, (backTo pos (starEach [b, c] X.env)).any (·.1) = false) :
    PE X (.Call (.Name "tuple" p) [.Call (.Name "range" p2) [a, b, c] [] pos2] [] pos) (tTupRg3 ta) := by
  refine ⟨fun pins s σ H Q I h => ?_⟩
  have na : starEach [Expr.Call (.Name "range" p2) [a, b, c] [] pos2] X.env = (false, eval (.Call (.Name "range" p2) [a, b, c] [] pos2) X.env) :: starEach [] X.env := by rfl
  refine Call_ (ld_blt I hg hm boot_tuple (PyProof.Rows.callWith_type1 (args_cons (Call_ (ld_blt I hg2 hm2 boot_range (PyProof.Rows.callWith_type1 (thn (ha.run pos2 pins s σ H _ I h) fun us s1 ⟨vs, H1, I1, r1, q1⟩ => ?_) hs (hpl pos2)))) na) na))
  obtain ⟨i, j, k, n, e, ⟨c0, c1, c2, c3⟩, hn, q⟩ := q1
  subst e
  cases r1 with
  | cons r rr =>
    cases rr with
    | cons r' rr =>
      cases rr with
      | cons r'' rr =>
        cases rr
        obtain ⟨t, rfl⟩ := r
        obtain ⟨t', rfl⟩ := r'
        obtain ⟨t'', rfl⟩ := r''
        refine call_range_3 c0 ?_ (.inl (PyProof.noPylong_small c1))
        refine args_nil ?_
        have I1' : Inv X pins σ H1 { s1 with heap := s1.heap.push { cls := .type "range", data := .fields #[.int i t, .int j t', .int k t''] } } := I1.kept (t' := s1.toks) fun b o e => Heap.get?_push_of_some _ e
        refine call_tuple_range (n := n) (I1'.ok.hd hcm) (IsRange.new _ _ _ _ _ _ _) c2 c3 hn fun h' tk acc hk hi => ?_
        have I2 : Inv X pins σ H1 { s1 with heap := h', toks := tk } := I1'.kept hk
        refine ⟨.ref h'.objs.size, upd H1 h'.objs.size (.tup (rgC i k n)), I2.laid (t' := tk) (fun c o e => Heap.get?_push_of_some _ e) (Nat.le_refl _) (show ObjOk X.prog X.w _ _ _ (.tup (rgC i k n)) from ⟨?_, acc.toList, vals_rgC hi, ?_⟩), rfl, q _ (I2.hok.fresh (Nat.le_refl _))⟩
        · unfold rgC; rw [List.length_map, List.length_range, sizeLine_eq]; omega
        · rw [Array.toArray_toList]; exact IsTup.new _ _
end
/-! ### the core's ranges -/
section
variable {ad : Nat → Addr} {σ : L2.St} {H : Hp} {s : S} {F : Addr → Prop}
theorem reps_rgV {n : Nat} {B : Hp} (lo hi : Int) : RepDs N n ad B (rgV lo hi) ((rangeL lo hi).map .int) := by
  have e : rgV lo hi = (rangeL lo hi).map .int := by unfold rgV rangeL; rw [List.map_map]; rfl
  rw [e]
  exact RepDs.ints _
theorem rgOk_of {q : Int × Int} (h1 : sml q.1 = true) (h2 : sml q.2 = true) (h3 : q.2 - q.1 ≤ line) : RgOk q.1 q.2 := by
  have b := sml_of h1
  have b2 := sml_of h2
  refine ⟨b.1, b.2, b2.1, b2.2, ?_⟩
  unfold line at h3
  omega
/-- how a new tuple or list of ints is read -/
theorem rg_fin {t : Bool} {q : Int × Int} {K : PV → S → (Nat → Addr) → Hp → Prop} {z : D} (R : Rel N ad σ H s F) (hz : rgF t q = some z) (k : Gar N W ad σ H s F (.ok (.d z) s) K) {p : Addr} (hp : H p = none) :
    ∃ ad' s' H', H' = upd H p (if t = true then .tup (rgV q.1 q.2) else .lst (rgV q.1 q.2)) ∧ RepPV N ad' σ H' s' F (.ref p) (.d z) ∧ K (.d z) s' ad' H' := by
  unfold rgF at hz
  split at hz
  · cases hz
    refine ⟨ad, s, _, rfl, ?_, ?_⟩
    · cases t with
      | true => exact new_tup (fun p m => R.masked m) hp (reps_rgV _ _)
      | false => exact new_lst (fun p m => R.masked m) hp (reps_rgV _ _)
    · exact k ad _ (R.grow (new_same hp)) (.grow R (new_same hp))
  · cases hz
end
theorem rgF_le {t : Bool} {q : Int × Int} {z : D} (h : rgF t q = some z) : q.2 - q.1 ≤ line := by
  unfold rgF at h
  split at h
  · assumption
  · cases h
theorem tX_rg {t : Bool} {ma mb : M PV} : ∀ σ H Q, tX N W (M.bind ma fun x => M.bind mb fun y => M.of (((rngF x y).bind (rgF t)).map .d)) σ H Q → (if t = true then tTupRg (tRg2 (tX N W ma) (tX N W mb)) else tLstRg (tRg2 (tX N W ma) (tX N W mb))) σ H Q := by
  rintro σ H Q ⟨ad, s, F, R, h⟩
  have core : tRg2 (tX N W ma) (tX N W mb) σ H fun a b H1 => RgOk a b ∧ ∀ q, H1 q = none → Q (.ref q) (upd H1 q (if t = true then .tup (rgV a b) else .lst (rgV a b))) := by
    refine ⟨ad, s, F, R, (Gar.bind h).mono fun pv s1 ad1 H1 R1 P1 h1 v rv => ?_⟩
    refine ⟨ad1, s1, F, R1, (Gar.bind h1).mono fun pv2 s2 ad2 H2 R2 P2 h2 v2 rv2 => ?_⟩
    cases hr : rngF pv pv2 with
    | none => rw [hr] at h2; exact h2.elim
    | some q =>
      rw [hr] at h2
      have h2 : Gar N W ad2 σ H2 s2 F (M.of ((rgF t q).map PV.d) s2) _ := h2
      cases hz : rgF t q with
      | none => rw [hz] at h2; exact h2.elim
      | some z =>
        rw [hz] at h2
        obtain ⟨rfl, rfl, b1, b2⟩ := rngF_inv hr
        cases rv
        cases rv2
        refine ⟨q.1, q.2, rfl, rfl, rgOk_of b1 b2 (rgF_le hz), fun p hp => ?_⟩
        obtain ⟨ad', s', H', e, r, k⟩ := rg_fin R2 hz h2 hp
        rw [← e]
        exact k _ r
  cases t with
  | true => exact core
  | false => exact core
theorem tX_rg0 {t : Bool} {mb : M PV} : ∀ σ H Q, tX N W (M.bind (M.pure (.d (.int 0))) fun x => M.bind mb fun y => M.of (((rngF x y).bind (rgF t)).map .d)) σ H Q → (if t = true then tTupRg (tRg1 (tX N W mb)) else tLstRg (tRg1 (tX N W mb))) σ H Q := by
  intro σ H Q h
  have h1 := tX_rg (t := t) σ H Q h
  have z : ∀ (Q : Int → Int → Hp → Prop), tRg2 (tX N W (M.pure (.d (.int 0)))) (tX N W mb) σ H Q → tRg1 (tX N W mb) σ H Q := by
    intro Q ⟨ad, s, F, R, h⟩
    have h := Gar.pure R h (.int 0) (.int 0)
    obtain ⟨ad1, s1, F1, R1, h⟩ := h
    refine ⟨ad1, s1, F1, R1, h.mono fun pv s2 ad2 H2 R2 P2 k v rv => ?_⟩
    obtain ⟨i, j, e1, e2, q⟩ := k v rv
    injection e1 with e1
    subst e1
    exact ⟨j, e2, q⟩
  cases t with
  | true => exact z _ h1
  | false => exact z _ h1
theorem rg3_ok {a b c : Int} (ha : 0 ≤ a) (ha' : a ≤ 1000) (hb : 0 ≤ b) (hb' : b ≤ 1000) (hc : 0 < c) (hc' : c ≤ 1000) : RgC a b c ((b - a + c - 1) / c).toNat ∧ ((b - a + c - 1) / c).toNat ≤ 2 ^ 24 := by
  have e : Builtin.Range.rangeSize a b c = (((b - a + c - 1) / c).toNat : Nat) := by
    unfold Builtin.Range.rangeSize
    rw [if_pos (show c > 0 from hc)]
    have q : (b - a + c - 1) / c = (b - a - 1) / c + 1 := by
      rw [show b - a + c - 1 = (b - a - 1) + c by omega, Int.add_ediv_of_dvd_right (Int.dvd_refl c), Int.ediv_self (by omega)]
    split
    · rename_i h
      have : 0 ≤ (b - a - 1) / c := Int.ediv_nonneg (by omega) (by omega)
      rw [q]; omega
    · rename_i h
      have : (b - a - 1) / c < 0 := Int.ediv_neg_of_neg_of_pos (by omega) hc
      rw [q]; omega
  have le : ((b - a + c - 1) / c).toNat ≤ 2 ^ 24 := by
    have : (b - a + c - 1) / c ≤ b - a + c - 1 ∨ b - a + c - 1 < 0 := by
      by_cases h : 0 ≤ b - a + c - 1
      · exact .inl (Int.ediv_le_self _ h)
      · exact .inr (by omega)
    rcases this with h | h
    · omega
    · have := Int.ediv_neg_of_neg_of_pos h hc
      omega
  refine ⟨⟨by omega, by omega, ?_, e⟩, le⟩
  unfold Builtin.Range.small
  rw [e]
  simp only [Builtin.Range.rangeFitsLong, Bool.and_eq_true, Bool.or_eq_true, decide_eq_true_eq, beq_iff_eq, show c > 0 from hc, if_true]
  have : (((b - a + c - 1) / c).toNat : Int) ≤ 2 ^ 24 := by exact_mod_cast le
  omega
theorem reps_rgC {n : Nat} {ad : Nat → Addr} {B : Hp} (a b c : Int) : RepDs N n ad B (rgC a c ((b - a + c - 1) / c).toNat) ((rangeS a b c).map .int) := by
  have e : rgC a c ((b - a + c - 1) / c).toNat = (rangeS a b c).map .int := by unfold rgC rangeS; rw [List.map_map]; rfl
  rw [e]
  exact RepDs.ints _
theorem tX_rg3 {ma mb mc : M PV} : ∀ σ H Q, tX N W (M.bind ma fun x => M.bind mb fun y => M.bind mc fun z => M.of ((rg3F x y z).map .d)) σ H Q → tTupRg3 (tCons (tX N W ma) (tCons (tX N W mb) (tCons (tX N W mc) tNil))) σ H Q := by
  rintro σ H Q ⟨ad, s, F, R, h⟩
  refine ⟨ad, s, F, R, (Gar.bind h).mono fun pv s1 ad1 H1 R1 P1 h1 v rv => ?_⟩
  refine ⟨ad1, s1, F, R1, (Gar.bind h1).mono fun pv2 s2 ad2 H2 R2 P2 h2 v2 rv2 => ?_⟩
  refine ⟨ad2, s2, F, R2, (Gar.bind h2).mono fun pv3 s3 ad3 H3 R3 P3 h3 v3 rv3 => ?_⟩
  cases hr : rg3F pv pv2 pv3 with
  | none => rw [hr] at h3; exact h3.elim
  | some z =>
    rw [hr] at h3
    unfold rg3F at hr
    split at hr
    · rename_i a b c
      split at hr
      · rename_i hb
        obtain ⟨b1, b2, b3, b4, b5, b6⟩ := hb
        cases hr
        cases rv
        cases rv2
        cases rv3
        obtain ⟨q1, q2⟩ := rg3_ok b1 b2 b3 b4 b5 b6
        refine ⟨a, b, c, _, rfl, q1, q2, fun p hp => ?_⟩
        exact h3 ad3 _ (R3.grow (new_same hp)) (.grow R3 (new_same hp)) _ (new_tup (fun p m => R3.masked m) hp (reps_rgC a b c))
      · cases hr
    · cases hr
end Ev

set_option autoImplicit false
set_option linter.all false
set_option maxRecDepth 100000
set_option maxHeartbeats 1000000
/-! New lists; methods that change a list. -/
namespace Ev
open PySem L2 PyProof.Rows
variable {T : Nam} {N : Nms} {G : Tab} {W : WX} {F : FT}
section
variable {ad : Nat → Addr} {σ : L2.St} {H : Hp} {s : S} {F : Addr → Prop} {α : Type}
/-- a run whose answer is a new object -/
def GarN (N : Nms) (W : WX) (ad : Nat → Addr) (σ : L2.St) (H : Hp) (s : S) (F : Addr → Prop) (r : Res α) (K : α → S → (Nat → Addr) → Hp → Addr → Prop) : Prop := match r with
  | .ok a s' => ∀ ad' H' p, Rel N ad' σ H' s' (FAdd F p) → PostN ad σ H s ad' σ H' s' F p → K a s' ad' H' p
  | .exc e s' => ∀ cls d ad' H', Rel N ad' σ H' s' F → Post ad σ H s ad' σ H' s' F → RepE N s'.cel.length ad' (msk H' (Mk ad' σ s' F)) H' e cls d → W cls d σ H'
  | .stk => False
end
theorem GarN.bind {α β : Type} {ad : Nat → Addr} {σ : L2.St} {H : Hp} {s : S} {F : Addr → Prop} {m : M α} {f : α → M β} {K : β → S → (Nat → Addr) → Hp → Addr → Prop} (h : GarN N W ad σ H s F (M.bind m f s) K) :
    Gar N W ad σ H s F (m s) fun a s' ad' H' => GarN N W ad' σ H' s' F (f a s') K := by
  unfold M.bind at h
  cases hm : m s with
  | ok a s' =>
    rw [hm] at h
    have h : GarN N W ad σ H s F (f a s') K := h
    intro ad' H' R' P'
    show GarN N W ad' σ H' s' F (f a s') K
    cases hf : f a s' with
    | ok b s2 => rw [hf] at h; exact fun ad2 H2 p R2 P2 => h ad2 H2 p R2 (P'.toN P2)
    | exc e s2 => rw [hf] at h; exact fun cls d ad2 H2 R2 P2 => h cls d ad2 H2 R2 (P'.trans P2)
    | stk => rw [hf] at h; exact h
  | exc e s' => rw [hm] at h; exact h
  | stk => rw [hm] at h; exact h
def KN (N : Nms) (σ : L2.St) (F : Addr → Prop) (Q : VK) : PV → S → (Nat → Addr) → Hp → Addr → Prop := fun pv s' ad' H' p => ∀ c, thaw pv = some c → CelOk N s'.cel.length ad' (msk H' (Mk ad' σ s' (FAdd F p))) H' p c → Q (.ref p) H'
def tN (N : Nms) (W : WX) (m : M PV) : TE := fun σ H Q => ∃ ad s F, Rel N ad σ H s F ∧ GarN N W ad σ H s F (m s) (KN N σ F Q)
theorem tN_lst {m : M (List D)} : ∀ σ H Q, tN N W (M.bind m fun xs => if xs.length ≤ line then M.pure (.d (.lst xs)) else stk) σ H Q → tLst (tAs N W m) σ H Q := by
  rintro σ H Q ⟨ad, s, F, R, h⟩
  refine ⟨ad, s, F, R, (GarN.bind h).mono fun xs s1 ad1 H1 R1 P1 h1 vs rv => ?_⟩
  split at h1
  · rename_i hl
    refine ⟨by rw [rv.length, sizeLine_line]; exact hl, fun p hp => ?_⟩
    obtain ⟨R2, sm⟩ := R1.addF (o := .lst vs) hp
    exact h1 ad1 _ p R2 (Post.newP .refl R1 hp) (.lst xs) rfl ⟨vs, upd_same, rv.mono (Nat.le_refl _) (fun _ _ => rfl) sm⟩
  · exact h1.elim
/-- list(range(..)) as a thing of its own -/
theorem tN_rg {ma mb : M PV} : ∀ σ H Q, tN N W (M.bind ma fun x => M.bind mb fun y => M.of (((rngF x y).bind (rgF false)).map .d)) σ H Q → tLstRg (tRg2 (tX N W ma) (tX N W mb)) σ H Q := by
  rintro σ H Q ⟨ad, s, F, R, h⟩
  refine ⟨ad, s, F, R, (GarN.bind h).mono fun pv s1 ad1 H1 R1 P1 h1 v rv => ?_⟩
  refine ⟨ad1, s1, F, R1, (GarN.bind h1).mono fun pv2 s2 ad2 H2 R2 P2 h2 v2 rv2 => ?_⟩
  cases hr : rngF pv pv2 with
  | none => rw [hr] at h2; exact h2.elim
  | some q =>
    rw [hr] at h2
    have h2 : GarN N W ad2 σ H2 s2 F (M.of ((rgF false q).map PV.d) s2) _ := h2
    cases hz : rgF false q with
    | none => rw [hz] at h2; exact h2.elim
    | some z =>
      rw [hz] at h2
      obtain ⟨rfl, rfl, b1, b2⟩ := rngF_inv hr
      cases rv
      cases rv2
      have hz' := hz
      unfold rgF at hz'
      split at hz'
      · cases hz'
        refine ⟨q.1, q.2, rfl, rfl, rgOk_of b1 b2 (rgF_le hz), fun p hp => ?_⟩
        obtain ⟨R3, sm⟩ := R2.addF (o := .lst (rgV q.1 q.2)) hp
        exact h2 ad2 _ p R3 (Post.newP .refl R2 hp) (.lst ((rangeL q.1 q.2).map .int)) rfl ⟨_, upd_same, reps_rgV _ _⟩
      · cases hz'
theorem tN_rg0 {mb : M PV} : ∀ σ H Q, tN N W (M.bind (M.pure (.d (.int 0))) fun x => M.bind mb fun y => M.of (((rngF x y).bind (rgF false)).map .d)) σ H Q → tLstRg (tRg1 (tX N W mb)) σ H Q := by
  intro σ H Q h
  obtain ⟨ad, s, F, R, h⟩ := tN_rg σ H Q h
  have h := Gar.pure R h (.int 0) (.int 0)
  obtain ⟨ad1, s1, F1, R1, h⟩ := h
  refine ⟨ad1, s1, F1, R1, h.mono fun pv s2 ad2 H2 R2 P2 k v rv => ?_⟩
  obtain ⟨i, j, e1, e2, q⟩ := k v rv
  injection e1 with e1
  subst e1
  exact ⟨j, e2, q⟩
theorem tN_lc {mi : M (List D)} {tg : Tg} {mt : M Bool} {me : M PV} {own : List Nat} (htg : ∀ i ∈ tgSl tg, i ∈ own) : ∀ σ H Q, tN N W (M.bind mi fun xs => M.bind (lcM own (loopC tg mt (M.bind me PV.store) own [] xs)) fun ts => M.pure (.d (.lst ts))) σ H Q →
    tLc (tI N W mi) (gTg N.K tg) (tT N Wf mt) (tX N Wf me) own σ H Q := by
  rintro σ H Q ⟨ad, s, F, R, h⟩
  simp only [lcR_eq] at h
  refine lc_core (Gd := fun ad1 H1 s1 r => GarN N W ad1 σ H1 s1 F (lcR r) (KN N σ F Q)) htg R (fun _ _ _ h => h) (GarN.bind h) fun ts s' ad' H' Da vacc ad1 H1 s1 R' P' hA ra hg hl => ?_
  exact hg ad' H' Da R' P' (.lst ts) rfl ⟨vacc, hA, ra⟩
/-- a new thing of the store -/
theorem tX_new {m : M PV} : ∀ σ H Q, tX N W (M.bind m newM) σ H Q → tN N W m σ H Q := by
  rintro σ H Q ⟨ad, s, F, R, h⟩
  refine ⟨ad, s, F, R, ?_⟩
  unfold M.bind at h
  cases hm : m s with
  | stk => rw [hm] at h; exact h
  | exc e s' => rw [hm] at h; exact h
  | ok pv s' =>
    rw [hm] at h
    intro ad' H' p R' P' c hc ok
    have h : Gar N W ad σ H s F (newM pv s') _ := h
    unfold newM at h
    rw [hc] at h
    obtain ⟨ad2, e2, R2, P2, a2, sm2⟩ := Rel.alloc P' R' ok
    refine h ad2 H' R2 P2 _ ?_
    rw [← e2]
    exact RepD.ref (by show s'.cel.length < (s'.cel ++ [c]).length; simp)
/-! ### list.extend(a list) -/
open PySem in
theorem ext_ll (l : Addr) (items : Array Value) (n : Nat) (b : Addr) (sl : Array (Option Value)) (items2 : Array Value) (n2 : Nat) (hc0 : ¬(!items.isEmpty && Builtin.List.listTooLong (items.size + items2.size)) = true) (hc1 : items.size ≤ sizeLine) (hs2 : items.size + items2.size ≤ sizeLine + 1) :
    Meets (Builtin.«list.extend» ⟨[.ref l, .ref b], []⟩) (fun _ R s => s.heap.get? l = some { cls := .type "list", dict := none, data := .seq items n, slots := #[] } ∧ s.heap.get? b = some { cls := .type "list", dict := none, data := .seq items2 n2, slots := sl } ∧ R (.ok (.ret Value.none)) { s with heap := s.heap.update l (Obj.mapSeq fun x => x ++ items2), toks := s.toks }) :=
  .of_wp fun prog w A R s h => by
    obtain ⟨hp, g, d, tk, os⟩ := s
    obtain ⟨hl, hb, h⟩ := h
    have f3 := AutoSeq1.sub_list_list
    have hz' : (items ++ items2).size ≤ sizeLine + 1 := by rw [Array.size_append]; exact hs2
    wp_walk using (wpAny_updateSeq hl rfl (hz := hc1) (_hz' := hz')), AutoSeq1.wpAny_loadPart' hl, AutoSeq1.wpAny_loadPart' hb
    exact ⟨_, rfl, h⟩
def rExt (K : PySem.W.Frag) : V → List V → Hp → VK → Prop := fun x vs H Q => ∃ l b xs zs, x = .ref l ∧ vs = [.ref b] ∧ H l = some (.lst xs) ∧ SqL K H b zs ∧ xs.length + zs.length ≤ sizeLine ∧ Q .non (upd H l (.lst (xs ++ zs)))
theorem mt_ext {X : Cx} : MtM X "list.extend" (rExt X.K) := by
  intro pins s σ H x vs v us Q I rx rv h
  obtain ⟨l, b, xs, zs, rfl, rfl, hH, hB, hz, q⟩ := h
  cases rx
  obtain ⟨u, rfl, ru⟩ := rv.one
  cases ru
  obtain ⟨z, its, n, r, hl, e⟩ := I.lstM hH
  obtain ⟨its2, r2, ⟨⟨cls, dd, data, sl⟩, n2, e2, hc, hdn, hd⟩, _⟩ := I.list hB
  simp only at hc hd hdn
  subst hc hd hdn
  have hl2 := r2.length
  have hsz : its.toArray.size + its2.toArray.size ≤ sizeLine := by rw [List.size_toArray, List.size_toArray]; omega
  have hlong : ¬ (!its.toArray.isEmpty && Builtin.List.listTooLong (its.toArray.size + its2.toArray.size)) = true := by
    rw [notLongL hsz, Bool.and_false]
    exact Bool.false_ne_true
  refine call_meets F.slot_list_extend ⟨_, e, rfl⟩ F.entry_list_extend (F.args_list_extend_2 _ _)
    (ext_ll l its.toArray n b sl its2.toArray n2 hlong (by rw [List.size_toArray]; omega) (by omega)) ⟨e, e2, ?_⟩
  refine ⟨.non, _, I.lset (its' := its ++ its2) hH e (by simp) (r.append r2) ?_, rfl, q⟩
  rw [List.length_append]
  omega
/-! ### methods -/
def mmRule (K : PySem.W.Frag) : Mm → V → List V → Hp → VK → Prop
  | .extend => rExt K
  | .append => rAppend | .pop => rPop | .popAt => rPopAt | .reverse => rReverse | .clear => rClear
  | _ => fun _ _ _ _ => False
theorem lo_ref {ad : Nat → Addr} {σ : L2.St} {H : Hp} {s : S} {F : Addr → Prop} {pv : PV} {v : V} {l : Lo} {a : Addr} (hl : pv.lo = some l) (r : RepPV N ad σ H s F v pv) (e : adr ad σ l = some a) : v = .ref a := by
  cases pv with
  | own i =>
    cases hl
    have r : σ[i]? = some (some v) := r
    have e := adr_sl.mp e
    rw [r] at e; cases e; rfl
  | d x =>
    cases x <;> cases hl
    have r : RepD N s.cel.length ad (msk H (Mk ad σ s F)) v (.ref _) := r
    cases r
    have e : some (ad _) = some a := e
    cases e; rfl
theorem lstM_inv {ad : Nat → Addr} {σ : L2.St} {H : Hp} {s : S} {F : Addr → Prop} {pv : PV} {v : V} {K : Unit → S → (Nat → Addr) → Hp → Prop} (R : Rel N ad σ H s F) (r : RepPV N ad σ H s F v pv) (h : Gar N W ad σ H s F (lstM pv s) K) :
    ∃ a xs, v = .ref a ∧ H a = some (.lst xs) ∧ K () s ad H := by
  unfold lstM at h
  cases hl : pv.lo with
  | none => rw [hl] at h; exact h.elim
  | some l =>
    rw [hl] at h
    simp only at h
    split at h
    · rename_i ts hg
      obtain ⟨a, e, ok⟩ := R.own l _ hg
      obtain ⟨xs, hx, rx⟩ := ok
      refine ⟨a, xs, ?_, hx, h ad H R Post.refl⟩
      exact lo_ref hl r e
    · exact h.elim
/-- a list at hand -/
theorem lst_at {ad : Nat → Addr} {σ : L2.St} {H : Hp} {s : S} {F : Addr → Prop} {pv : PV} {v : V} {l : Lo} {c : Cell} (R : Rel N ad σ H s F) (r : RepPV N ad σ H s F v pv) (hl : pv.lo = some l) (hg : s.get l = some c) :
    ∃ a, v = .ref a ∧ adr ad σ l = some a ∧ CelOk N s.cel.length ad (msk H (Mk ad σ s F)) H a c := by
  obtain ⟨a, e, ok⟩ := R.own l _ hg
  exact ⟨a, lo_ref hl r e, e, ok⟩
theorem doMm_ok {mm : Mm} (hm : mmOk mm = true) {ad : Nat → Addr} {σ : L2.St} {H : Hp} {s : S} {F : Addr → Prop} {pv : PV} {v : V} {as : List D} {vs : List V} {Q : VK} (R : Rel N ad σ H s F) (r : RepPV N ad σ H s F v pv)
    (ra : RepDs N s.cel.length ad (msk H (Mk ad σ s F)) vs as) (h : Gar N W ad σ H s F (doMm mm pv as s) fun x s' ad' H' => ∀ v, RepD N s'.cel.length ad' (msk H' (Mk ad' σ s' F)) v x → Q v H') : mmRule N.K mm v vs H Q := by
  unfold doMm at h
  cases hl : pv.lo with
  | none => rw [hl] at h; exact h.elim
  | some l =>
    rw [hl] at h
    simp only at h
    cases hg : s.get l with
    | none => rw [hg] at h; exact h.elim
    | some c =>
      rw [hg] at h
      simp only at h
      obtain ⟨a, rfl, e, ok⟩ := lst_at R r hl hg
      cases hf : mmF mm c as with
      | none => rw [hf] at h; exact h.elim
      | some q =>
        obtain ⟨x, c'⟩ := q
        rw [hf] at h
        -- the change
        have fin : ∀ {xs' : List V} {ts' : List D} {w : V}, c' = .lst ts' → RepDs N s.cel.length ad (msk H (Mk ad σ s F)) xs' ts' → RepD N s.cel.length ad (msk H (Mk ad σ s F)) w x → Q w (upd H a (.lst xs')) := fun {xs' ts' w} e1 rx rw' => by
          subst e1
          obtain ⟨R', P'⟩ := R.put (o := .lst xs') hg e (c := .lst ts') ⟨xs', upd_same, rx⟩
          exact h ad _ R' P' w (P'.rep rw')
        cases c with
        | lst ts =>
          obtain ⟨xs, hx, rx⟩ := ok
          cases mm <;> try (exact nomatch (show false = true from hm))
          · -- append
            rcases as with _ | ⟨y, _ | ⟨y2, as⟩⟩ <;> simp only [mmF] at hf <;> try (cases hf; done)
            split at hf
            · rename_i hlen
              cases hf
              cases ra with | cons ry rn => cases rn; exact ⟨a, xs, _, rfl, rfl, hx, by rw [rx.length, sizeLine_line]; exact hlen, fin rfl (rx.append (.cons ry .nil)) .non⟩
            · cases hf
          · -- extend
            rcases as with _ | ⟨y, _ | ⟨y2, as⟩⟩ <;> try (cases y <;> simp only [mmF] at hf <;> cases hf; done)
            · simp only [mmF] at hf; cases hf
            · cases y <;> simp only [mmF] at hf <;> try (cases hf; done)
              rename_i zs
              split at hf
              · rename_i hlen
                cases hf
                cases ra with | cons ry rn =>
                cases rn
                cases ry with | lst sq rz =>
                exact ⟨a, _, xs, _, rfl, rfl, hx, SqL.sm (Sm.of msk_le) sq, by rw [rx.length, rz.length, sizeLine_line]; exact hlen, fin rfl (rx.append rz) .non⟩
              · cases hf
          · -- pop
            rcases as with _ | ⟨y, as⟩ <;> simp only [mmF] at hf <;> try (cases hf; done)
            cases hla : ts.getLast? with
            | none => rw [hla] at hf; cases hf
            | some t =>
              rw [hla] at hf; cases hf
              cases ra
              rw [List.getLast?_eq_getElem?] at hla
              obtain ⟨w, e2, rw'⟩ := rx.get hla
              refine ⟨a, xs, w, rfl, rfl, hx, by rw [rx.length]; exact e2, fin rfl ?_ rw'⟩
              rw [List.dropLast_eq_take, List.dropLast_eq_take, rx.length]
              exact rx.take _
          · -- popAt
            rcases as with _ | ⟨y, _ | ⟨y2, as⟩⟩ <;> try (cases y <;> simp only [mmF] at hf <;> cases hf; done)
            · simp only [mmF] at hf; cases hf
            · cases y <;> simp only [mmF] at hf <;> try (cases hf; done)
              rename_i i
              split at hf
              · rename_i hs
                cases hn : Ev.ixN ts.length i with
                | none => rw [hn] at hf; cases hf
                | some j =>
                  rw [hn] at hf
                  have hf : (ts[j]?).map (fun t => (t, Cell.lst (ts.eraseIdx j))) = some (x, c') := hf
                  cases hj : ts[j]? with
                  | none => rw [hj] at hf; cases hf
                  | some t =>
                    rw [hj] at hf; cases hf
                    cases ra with | cons ry rn =>
                    cases rn
                    cases ry
                    obtain ⟨w, e2, rw'⟩ := rx.get hj
                    have b := sml_of hs
                    refine ⟨a, xs, i, j, w, rfl, rfl, hx, by omega, by omega, ?_, e2, fin rfl ?_ rw'⟩
                    · rw [ixN_L2] at hn
                      rw [rx.length]
                      exact (ixN_seq hn).1
                    · rw [List.eraseIdx_eq_take_drop_succ, List.eraseIdx_eq_take_drop_succ]
                      exact (rx.take _).append (rx.drop _)
              · cases hf
          · -- reverse
            rcases as with _ | ⟨y, as⟩ <;> simp only [mmF] at hf <;> try (cases hf; done)
            cases hf
            cases ra
            exact ⟨a, xs, rfl, rfl, hx, fin rfl rx.rev .non⟩
          · -- clear
            rcases as with _ | ⟨y, as⟩ <;> simp only [mmF] at hf <;> try (cases hf; done)
            cases hf
            cases ra
            exact ⟨a, xs, rfl, rfl, hx, fin rfl .nil .non⟩
        | dct _ => cases mm <;> simp only [mmF] at hf <;> cases hf
        | obj _ _ => cases mm <;> simp only [mmF] at hf <;> cases hf
theorem tX_mm {mm : Mm} (hm : mmOk mm = true) {m : M PV} {ma : M (List D)} : ∀ σ H Q, tX N W (M.bind m fun x => M.bind (lstM x) fun _ => M.bind ma fun as => M.bind (doMm mm x as) fun y => M.pure (.d y)) σ H Q →
    tBM N.K "list" (mmRule N.K mm) (tX N W m) (tAs N W ma) σ H Q := by
  rintro σ H Q ⟨ad, s, F, R, h⟩
  refine ⟨ad, s, F, R, (Gar.bind h).mono fun pv s1 ad1 H1 R1 P1 h1 v rv => ?_⟩
  obtain ⟨a, xs, rfl, hx, h1⟩ := lstM_inv R1 rv (Gar.bind h1)
  refine ⟨.inl ⟨rfl, xs, SqL.of hx⟩, ad1, s1, F, R1, (Gar.bind h1).mono fun as s2 ad2 H2 R2 P2 h2 vs rvs => ?_⟩
  exact doMm_ok hm R2 (rv.post P2) rvs ((Gar.bind h2).mono fun x s3 ad3 H3 R3 P3 k w rw' => Gar.pure R3 k w rw')
theorem tX_mm0 {mm : Mm} (hm : mmOk mm = true) {m : M PV} : ∀ σ H Q, tX N W (M.bind m fun x => M.bind (lstM x) fun _ => M.bind (M.pure []) fun as => M.bind (doMm mm x as) fun y => M.pure (.d y)) σ H Q →
    tBM0 N.K "list" (mmRule N.K mm) (tX N W m) σ H Q := by
  rintro σ H Q ⟨ad, s, F, R, h⟩
  refine ⟨ad, s, F, R, (Gar.bind h).mono fun pv s1 ad1 H1 R1 P1 h1 v rv => ?_⟩
  obtain ⟨a, xs, rfl, hx, h1⟩ := lstM_inv R1 rv (Gar.bind h1)
  refine ⟨.inl ⟨rfl, xs, SqL.of hx⟩, ?_⟩
  have h2 := Gar.pure R1 (Gar.bind h1)
  exact doMm_ok hm R1 rv .nil ((Gar.bind h2).mono fun x s3 ad3 H3 R3 P3 k w rw' => Gar.pure R3 k w rw')
end Ev

set_option autoImplicit false
set_option linter.all false
set_option maxRecDepth 100000
set_option maxHeartbeats 1000000
/-! Instances: fields, methods, C(..). -/
namespace Ev
open PySem L2 PyProof.Rows
variable {T : Nam} {N : Nms} {G : Tab} {W : WX} {F : FT}
section
variable {X : Cx}
theorem eval_meth {o : Expr} {name : Str} {apos pos : Pos} {args : List Expr} {env : Env} (hb : attributeBase o name env (eval o env) = eval o env)
    (hfew : ((backTo pos (starEach args env)).all (fun x => !x.1) && (backToKw pos (keywordEach [] env)).all (fun x => x.1.isSome) && decide (args.length + ([] : List Keyword).length + (if ([] : List Keyword).isEmpty then 0 else 1) < 30)) = true)
    (hl : (apos.endLine == pos.line) = true) : eval (.Call (.Attribute o name apos) args [] pos) env = (do
      let ov ← eval o env
      standAt apos.atName
      let (f, first) ← holding [ov] (getMethod ov name (do return (← importBound o env).getD true))
      callWith pos f first (backTo pos (starEach args env)) (backToKw pos (keywordEach [] env))) := by
  have h1 : methodCallForm (args.length + ([] : List Keyword).length) (backTo pos (starEach args env)) (backToKw pos (keywordEach [] env)) = true := hfew
  have h2 : methodCallPos true o env apos pos = pure pos := by
    unfold methodCallPos
    rw [hl]; rfl
  rw [arm_eval_Call, hb]
  unfold methodCall
  rw [h1, h2]
  rfl
section
variable {C f : Addr} {fd : FuncData} {ps : List Str} {sp : Sp} {k : Nat} {E : L2.St → XK} {m : Str} {ap cp p : Pos} {o : Expr} {l : List Expr} {ta : TE} {t : TA} {x : Str}
def tMethS (C : Addr) (m : Str) (sp : Sp) (E : L2.St → XK) (ta : TE) (t : TA) : TE := fun σ H Q => ta σ H fun x H1 => ∃ a dx fs, x = .ref a ∧ H1 a = some (.ins C dx fs) ∧ fs.lookup m = none ∧ t σ H1 fun vs H2 => sp (x :: vs) H2 Q (E σ)
theorem pe_methA {pl : Sem Bool} (pe : PE X o ta) (cl : Cls X.K C) (mt : Meth X.K C m f) (Fo : FnOk X.prog X.w X.K X.mg X.base (L2.CX X.prog X.w) k f fd ps sp) (rm : Room k X.A) (bd : Binds X.K fd ps []) (px : ∀ σ, PassesAt (L2.CX X.prog X.w) X σ (E σ)) (pa : PA X l t)
    (st : (l = [] ∧ ∀ σ H Q, t σ H Q → Q [] H) ∨ ∃ y l', l = y :: l' ∧ starEach (y :: l') X.env = (false, eval y X.env) :: starEach l' X.env ∧ (backTo cp (starEach l' X.env)).any (·.1) = false)
    (ev : eval (.Call (.Attribute o m ap) l [] cp) X.env = (do
      let ov ← eval o X.env
      standAt ap.atName
      let (f, first) ← holding [ov] (getMethod ov m pl)
      callWith cp f first (backTo cp (starEach l X.env)) (backToKw cp (keywordEach [] X.env)))) : PE X (.Call (.Attribute o m ap) l [] cp) (tMethS C m sp E ta t) := by
  refine ⟨fun pn st0 σ0 H0 Q0 I0 h0 => ?_⟩
  refine PySem.W.methodCall_KW (pl := pl) (thn (pe.run pn st0 σ0 H0 _ I0 h0) fun u0 st1 ⟨x, H1, J1, rx, a, dx, fs, ex, ea, ln, q⟩ => ?_) ev
  subst ex
  have eu : u0 = Value.ref a := rx
  subst eu
  refine getmeth_ok J1 ea cl mt ln ?_
  rcases st with ⟨rfl, ht⟩ | ⟨y, l', rfl, e1, e2⟩
  · exact PySem.W.callWith_K0 (first := [.ref a]) J1.kIn mt.kp (run_fnS (us := [.ref a]) (vs := [.ref a]) Fo rm bd (px σ0) J1 (.cons rfl .nil) (ht _ _ _ q))
  · refine PySem.W.callWith_K (first := [.ref a]) (h₀ := X.base) J1.ok.mod.kin mt.kp (thn (pa.run cp pn st1 σ0 H1 _ J1 q) fun us st2 ⟨vs, H2, J2, rv, q2⟩ => ⟨J2.kIn, ?_⟩) e1 e2
    exact run_fnS (us := .ref a :: us) (vs := .ref a :: vs) Fo rm bd (px σ0) J2 (.cons rfl rv) q2
/-- C(..) -/
def tMakeS (C : Addr) (sp : Sp) (E : L2.St → XK) (t : TA) : TE := fun σ H Q => t σ H fun vs H1 => ∀ x dx, H1 x = none → H1 dx = none → dx ≠ x → sp (.ref x :: vs) (upd (upd H1 dx (.own x)) x (.ins C dx [])) (fun v H2 => v = .non ∧ Q (.ref x) H2) (E σ)
theorem run_makeS {pn : List (Addr × Obj)} {σ0 : L2.St} {H0 : Hp} {st0 : Shared} {Q0 : VK} {us : List Value} {vs : List V} (mk : L2.Mk X.K C f) (Fo : FnOk X.prog X.w X.K X.mg X.base (L2.CX X.prog X.w) k f fd ps sp) (rm : Room (k + 1) X.A) (bd : Binds X.K fd ps []) (px : PassesAt (L2.CX X.prog X.w) X σ0 (E σ0))
    (I0 : Inv X pn σ0 H0 st0) (rv : Vals vs us) (hq : ∀ x dx, H0 x = none → H0 dx = none → dx ≠ x → sp (.ref x :: vs) (upd (upd H0 dx (.own x)) x (.ins C dx [])) (fun v H2 => v = .non ∧ Q0 (.ref x) H2) (E σ0)) :
    wpAny (model X.prog X.w) X.A (call (.ref C) us) (EP X pn σ0 Q0) X.xe st0 := by
  have q1 := hq (st0.heap.objs.size + 1) st0.heap.objs.size (I0.hok.fresh (Nat.le_succ _)) (I0.hok.fresh (Nat.le_refl _)) (Nat.ne_of_lt (Nat.lt_succ_self _))
  have J := Inv.made (C := C) I0
  have rv2 : Vals (V.ref (st0.heap.objs.size + 1) :: vs) (Value.ref (st0.heap.objs.size + 1) :: us) := .cons rfl rv
  have hl : (Value.ref (st0.heap.objs.size + 1) :: us).length = ps.length := by rw [← rv2.length]; exact Fo.len _ _ _ _ q1
  have bb := bd _ (Value.ref (st0.heap.objs.size + 1) :: us) J.kIn (by rw [List.append_nil]; exact hl)
  rw [List.append_nil] at bb
  refine wpAny_call (make_map (f := f) I0.kIn mk.makes mk.init (beq_iff_eq.mp mk.fn) (codeAny_mono (Fo.run _ X.stack _ _ ⟨Value.ref (st0.heap.objs.size + 1) :: us, []⟩ _ _ _ (E σ0) (rm.make C us []) (J.env0.make C us []) bb rv2 q1) fun res st' hr => ?_))
  cases res with
  | error e => exact px pn _ _ e st' J hr
  | ok fl =>
    cases fl with
    | ret u =>
      obtain ⟨v, H', J3, rv3, ev, q3⟩ := J.after hr
      subst ev
      exact ⟨rv3, ⟨V.ref (st0.heap.objs.size + 1), H', J3, rfl, q3⟩⟩
    | next => exact hr.elim
    | brk => exact hr.elim
    | cont => exact hr.elim
theorem pe_makeS {pos : Pos} (mk : L2.Mk X.K C f) (Fo : FnOk X.prog X.w X.K X.mg X.base (L2.CX X.prog X.w) k f fd ps sp) (rm : Room (k + 1) X.A) (hg : Gl X x) (hm : X.mg x = some (.ref C)) (bd : Binds X.K fd ps []) (px : ∀ σ, PassesAt (L2.CX X.prog X.w) X σ (E σ)) (pa : PA X l t) (hdb : (x == ("__debug__" : Str)) = false)
    (st : (l = [] ∧ ∀ σ H Q, t σ H Q → Q [] H) ∨ ∃ y l', l = y :: l' ∧ starEach (y :: l') X.env = (false, eval y X.env) :: starEach l' X.env ∧ (backTo pos (starEach l' X.env)).any (·.1) = false) : PE X (.Call (.Name x p) l [] pos) (tMakeS C sp E t) := by
  refine ⟨fun pn st0 σ0 H0 Q0 I0 h0 => ?_⟩
  refine wpAny_Call_Name_kw (ld_glob I0 hg hm ?_ hdb)
  rcases st with ⟨rfl, ht⟩ | ⟨y, l', rfl, e1, e2⟩
  · exact PySem.W.callWith_K0 I0.kIn mk.kp (run_makeS (us := []) mk Fo rm bd (px σ0) I0 .nil (ht _ _ _ h0))
  · refine PySem.W.callWith_K (h₀ := X.base) I0.ok.mod.kin mk.kp (thn (pa.run pos pn st0 σ0 H0 _ I0 h0) fun us st1 ⟨vs, H1, J1, rv, q⟩ => ⟨J1.kIn, ?_⟩) e1 e2
    exact run_makeS mk Fo rm bd (px σ0) J1 rv q
end
end
end Ev

set_option autoImplicit false
set_option linter.all false
set_option maxRecDepth 100000
set_option maxHeartbeats 1000000
/-! What the core says of instances. -/
namespace Ev
open PySem L2 PyProof.Rows
variable {T : Nam} {N : Nms} {G : Tab} {W : WX} {F : FT}
theorem RepFs.none (inj : ∀ f g, N.nm f = N.nm g → f = g) {n : Nat} {ad : Nat → Addr} {B : Hp} : ∀ {fv : List (Str × V)} {fs : List (Nat × D)} {f : Nat}, RepFs N n ad B fv fs → fs.lookup f = none → fv.lookup (N.nm f) = none
  | _, _, _, .nil, _ => rfl
  | _, _, f, .cons (f := g) a b, e => by
    rw [List.lookup_cons] at e ⊢
    by_cases h : f = g
    · subst h; simp at e
    · have h1 : (f == g) = false := by simpa using h
      have h2 : (N.nm f == N.nm g) = false := by simpa using fun q => h (inj _ _ q)
      rw [h1] at e
      rw [h2]
      exact RepFs.none inj b e
theorem insM_inv (inj : ∀ f g, N.nm f = N.nm g → f = g) {c m : Nat} {ad : Nat → Addr} {σ : L2.St} {H : Hp} {s : S} {FF : Addr → Prop} {x : D} {v : V} {K : Unit → S → (Nat → Addr) → Hp → Prop} (R : Rel N ad σ H s FF) (r : RepD N s.cel.length ad (msk H (Mk ad σ s FF)) v x) (h : Gar N W ad σ H s FF (insM c m x s) K) :
    ∃ a dx fv, v = .ref a ∧ H a = some (.ins (N.cl c) dx fv) ∧ fv.lookup (N.nm m) = none ∧ K () s ad H := by
  cases x with
  | obj c' fs =>
    replace h : Gar N W ad σ H s FF (if c' = c ∧ fs.lookup m = none then .ok () s else .stk) K := h
    split at h
    · rename_i hc
      obtain ⟨rfl, hm⟩ := hc
      cases r with
      | obj e rf => exact ⟨_, _, _, rfl, (msk_get e).1, rf.none inj hm, Gar.pure R h⟩
    · exact h.elim
  | ref k =>
    replace h : Gar N W ad σ H s FF (match s.cel[k]? with
      | some (.obj c' fs) => if c' = c ∧ fs.lookup m = none then .ok () s else .stk
      | _ => .stk) K := h
    split at h
    · rename_i c' fs hk
      split at h
      · rename_i hc
        obtain ⟨rfl, hm⟩ := hc
        cases r with
        | ref hlt =>
          obtain ⟨a', e, dx, fv, e2, rf⟩ := R.own (.id k) _ hk
          have e : some (ad k) = some a' := e
          cases e
          exact ⟨_, dx, fv, rfl, e2, rf.none inj hm, Gar.pure R h⟩
      · exact h.elim
    · exact h.elim
  | _ => exact h.elim
theorem tX_meth (inj : ∀ f g, N.nm f = N.nm g → f = g) {q : Ck} {c m f np : Nat} (hl : ∀ as c, F f as c ≠ .stk → as.length = np) {mo : M PV} {ma : M (List D)} : ∀ σ H Q, tX N W (M.bind mo fun x => M.bind x.store fun x => M.bind (insM c m x) fun _ => M.bind ma fun as => M.bind (doCall q (F f) (x :: as)) fun x => M.pure (.d x)) σ H Q →
    tMethS (N.cl c) (N.nm m) (spF N np (F f)) (WE W) (tX N W mo) (tAs N W ma) σ H Q := by
  rintro σ H Q ⟨ad, s, FF, R, h⟩
  refine ⟨ad, s, FF, R, (Gar.bind h).mono fun pv s1 ad1 H1 R1 P1 h1 v rv => ?_⟩
  obtain ⟨d, s', R', P', rd, k⟩ := store_ok R1 rv (Gar.bind h1)
  obtain ⟨a, dx, fv, rfl, e1, e2, k⟩ := insM_inv inj R' rd (Gar.bind k)
  refine ⟨a, dx, fv, rfl, e1, e2, ad1, s', FF, R', (Gar.bind k).mono fun as s2 ad2 H2 R2 P2 h2 vs rvs => ?_⟩
  have rv2 : RepDs N s2.cel.length ad2 (msk H2 (Mk ad2 σ s2 FF)) (.ref a :: vs) (d :: as) := .cons (P2.rep rd) rvs
  have h3 := Gar.bind h2
  refine call_sp (q := q) R2 rv2 ?_ (h3.mono fun x s3 ad3 H3 R3 P3 k v rx => Gar.pure R3 k v rx)
  rw [rv2.length]
  exact doCall_len hl h3
theorem new_ne {ad : Nat → Addr} {σ : L2.St} {H : Hp} {s : S} {FF : Addr → Prop} (R : Rel N ad σ H s FF) {x : Addr} (hx : H x = none) : ¬ Mk ad σ s FF x := fun m => by
  obtain ⟨o, ho⟩ := R.masked m
  rw [hx] at ho; cases ho
/-- a new object that never changes again -/
theorem tX_mk {c f np : Nat} (hl : ∀ as c, F f as c ≠ .stk → as.length = np) {ma : M (List D)} : ∀ σ H Q, tX N W (M.bind ma fun as => M.bind (mkObj F c f as) fun x => M.pure (.d x)) σ H Q →
    tMakeS (N.cl c) (spF N np (F f)) (WE W) (tAs N W ma) σ H Q := by
  rintro σ H Q ⟨ad, s0, FF, R0, h⟩
  refine ⟨ad, s0, FF, R0, (Gar.bind h).mono fun as s ad H R P1 h1 vs rv => ?_⟩
  intro x dx hx hdx hne
  have h := Gar.bind h1
  have h : Gar N W ad σ H s FF (if D.blws 0 as then (match F f (.ref 0 :: as) [.obj c []] with
    | .ok .non (.obj c' fs :: _) => if D.blwf 0 fs then Res.ok (D.obj c' fs) s else .stk
    | .exc e _ => if e.blw 0 then .exc e s else .stk
    | _ => .stk) else .stk) _ := h
  split at h
  rotate_left
  · exact h.elim
  rename_i hb
  have n1 : ∀ a o, H a = some o → a ≠ dx := fun a o e z => by rw [z, hdx] at e; cases e
  have n2 : ∀ a o, H a = some o → a ≠ x := fun a o e z => by rw [z, hx] at e; cases e
  have sm0 : Same H (upd (upd H dx (.own x)) x (.ins (N.cl c) dx [])) := fun a o e => by
    rw [upd_ne (n2 a o e), upd_ne (n1 a o e)]; exact e
  have gx : (upd (upd H dx (.own x)) x (.ins (N.cl c) dx [])) x = some (.ins (N.cl c) dx []) := upd_same
  have nx : ¬ Mk ad σ s FF x := new_ne R hx
  -- the private store
  have one : ∀ l cc, (⟨[], [.obj c []]⟩ : S).get l = some cc → l = .id 0 ∧ cc = .obj c [] := fun l cc e => by
    cases l with
    | sl i => exact absurd e noSl
    | id k =>
      replace e : ([Cell.obj c []] : List Cell)[k]? = some cc := e
      cases k with
      | zero => simp at e; exact ⟨rfl, e.symm⟩
      | succ k => simp at e
  have RR : Rel N (fun _ => x) [] (upd (upd H dx (.own x)) x (.ins (N.cl c) dx [])) ⟨[], [.obj c []]⟩ (Mk ad σ s FF) := by
    refine ⟨rfl, fun i y h => by simp at h, fun l cc e => ?_, fun l l' cc cc' a e e' _ _ => ?_, fun a m => ?_, fun a ys m z => ?_⟩
    · obtain ⟨rfl, rfl⟩ := one l cc e
      exact ⟨x, rfl, dx, [], gx, .nil⟩
    · rw [(one l cc e).1, (one l' cc' e').1]
    · obtain ⟨o, ho⟩ := R.masked m
      refine ⟨⟨o, sm0 a o ho⟩, fun l cc e z => ?_⟩
      obtain ⟨rfl, rfl⟩ := one l cc e
      have z : some x = some a := z
      cases z
      exact nx m
    · obtain ⟨o, ho⟩ := R.masked m
      have := sm0 a o ho
      rw [z] at this; cases this
      exact R.maskedT m ys ho
  have hcel : Sm (msk H (Mk ad σ s FF)) (msk (upd (upd H dx (.own x)) x (.ins (N.cl c) dx [])) (Mk (fun _ => x) [] ⟨[], [.obj c []]⟩ (Mk ad σ s FF))) := msk_sm fun a o e nm => ⟨⟨o, sm0 a o e, rfl, fun _ => rfl⟩, fun m => by
    rcases m with m | ⟨l, cc, e1, e2⟩
    · exact nm m
    · obtain ⟨rfl, rfl⟩ := one l cc e1
      have e2 : some x = some a := e2
      injection e2 with e2
      exact n2 a o e e2.symm⟩
  have rv0 : RepDs N 1 (fun _ => x) (msk (upd (upd H dx (.own x)) x (.ins (N.cl c) dx [])) (Mk (fun _ => x) [] ⟨[], [.obj c []]⟩ (Mk ad σ s FF))) vs as := by
    have := RepDs.pure (m := 1) (ad2 := fun _ => x) as hb rv
    exact this.mono (Nat.le_refl _) (fun _ _ => rfl) hcel
  refine ⟨?_, fun _ => x, [.obj c []], Mk ad σ s FF, .ref 0 :: as, RR, .cons (.ref (Nat.lt_succ_self 0)) rv0, ?_⟩
  · have e := hl (.ref 0 :: as) [.obj c []]
    have l1 : (V.ref x :: vs).length = (D.ref 0 :: as).length := by simp [rv.length]
    rw [l1]
    refine e fun z => ?_
    rw [z] at h; exact h.elim
  · cases hr : F f (.ref 0 :: as) [.obj c []] with
    | stk => rw [hr] at h; exact h
    | exc e c' =>
      rw [hr] at h
      intro ad' H' cls d R' P' re
      replace h : Gar N W ad σ H s FF (if e.blw 0 then .exc e s else .stk) _ := h
      split at h
      · rename_i hb2
        obtain ⟨R2, P2, sm⟩ := R.backP sm0 P' hcel
        exact h cls d ad H' R2 P2 ((re.mono (Nat.le_refl _) (fun _ _ => rfl) sm).pure hb2)
      · exact h.elim
    | ok r c' =>
      rw [hr] at h
      intro ad' H' v R' P' rr
      cases r with
      | non =>
        cases c' with
        | nil => exact h.elim
        | cons c0 c' =>
          cases c0 with
          | obj c2 fs =>
            replace h : Gar N W ad σ H s FF (if D.blwf 0 fs then .ok (D.obj c2 fs) s else .stk) _ := h
            split at h
            · rename_i hb2
              obtain ⟨R2, P2, sm⟩ := R.backP sm0 P' hcel
              cases rr
              refine ⟨rfl, ?_⟩
              obtain ⟨a', e, dx2, fv, e2, rf⟩ := R'.own (.id 0) (.obj c2 fs) rfl
              have e : some (ad' 0) = some a' := e
              cases e
              have ax : ad' 0 = x := P'.agr 0 (Nat.lt_succ_self 0)
              rw [ax] at e2
              have k := h ad H' R2 P2
              refine Gar.pure R2 k _ ?_
              have nx2 : ¬ Mk ad σ s FF x := nx
              refine RepD.obj (by rw [msk_of nx2]; exact e2) ?_
              exact RepFs.pure fs hb2 (rf.mono (Nat.le_refl _) (fun _ _ => rfl) sm)
            · exact h.elim
          | lst _ => exact h.elim
          | dct _ => exact h.elim
      | _ => exact h.elim
/-! ### fields that change -/
theorem RepFs.put (inj : ∀ f g, N.nm f = N.nm g → f = g) {n : Nat} {ad : Nat → Addr} {B : Hp} {f : Nat} {v : V} {d : D} (r : RepD N n ad B v d) : ∀ {fv : List (Str × V)} {fs : List (Nat × D)}, RepFs N n ad B fv fs → RepFs N n ad B (putF (N.nm f) v fv) (fldPut f d fs)
  | _, _, .nil => .cons r .nil
  | _, _, .cons (f := g) a b => by
    unfold putF fldPut
    by_cases h : g = f
    · subst h
      rw [if_pos rfl, if_pos rfl]
      exact .cons r b
    · rw [if_neg h, if_neg fun q => h (inj _ _ q)]
      exact .cons a (RepFs.put inj r b)
theorem RepFs.length {n : Nat} {ad : Nat → Addr} {B : Hp} : ∀ {fv : List (Str × V)} {fs : List (Nat × D)}, RepFs N n ad B fv fs → fv.length = fs.length
  | _, _, .nil => rfl
  | _, _, .cons _ b => by simp [RepFs.length b]
end Ev

set_option autoImplicit false
set_option linter.all false
set_option maxRecDepth 100000
set_option maxHeartbeats 1000000
/-! Dicts: {}, lookups, stores (not joined to the main theorem yet). -/
namespace Ev
open PySem L2 PyProof.Rows
variable {N : Nms} {W : WX}
theorem RepKs.anyKey {n : Nat} {ad : Nat → Addr} {B : Hp} {k : Key} : ∀ {kvs : List (Key × V)} {ds : List (D × D)}, RepKs N n ad B kvs ds → (ds.any fun q => eqB q.1 (kD k)) = kvs.any fun kv => decide (kv.1 = k)
  | _, _, .nil => rfl
  | _, _, .cons (k := k0) a b => by
    rw [List.any_cons, List.any_cons, RepKs.anyKey b]
    simp only [eqB_kD]
theorem RepKs.mapKey {n : Nat} {ad : Nat → Addr} {B : Hp} {k : Key} {v : V} {d : D} (r : RepD N n ad B v d) : ∀ {kvs : List (Key × V)} {ds : List (D × D)}, RepKs N n ad B kvs ds →
    RepKs N n ad B (kvs.map fun kv => if kv.1 = k then (kv.1, v) else kv) (ds.map fun q => if eqB q.1 (kD k) = true then (q.1, d) else q)
  | _, _, .nil => .nil
  | _, _, .cons (k := k0) a b => by
    rw [List.map_cons, List.map_cons]
    simp only [eqB_kD, decide_eq_true_eq]
    by_cases h : k0 = k
    · rw [if_pos h, if_pos h]; exact .cons r (RepKs.mapKey r b)
    · rw [if_neg h, if_neg h]; exact .cons a (RepKs.mapKey r b)
theorem RepKs.snoc {n : Nat} {ad : Nat → Addr} {B : Hp} {k : Key} {v : V} {d : D} (r : RepD N n ad B v d) : ∀ {kvs : List (Key × V)} {ds : List (D × D)}, RepKs N n ad B kvs ds → RepKs N n ad B (kvs ++ [(k, v)]) (ds ++ [(kD k, d)])
  | _, _, .nil => .cons r .nil
  | _, _, .cons a b => .cons a (RepKs.snoc r b)
theorem RepKs.put {n : Nat} {ad : Nat → Addr} {B : Hp} {k : Key} {v : V} {d : D} (r : RepD N n ad B v d) {kvs : List (Key × V)} {ds : List (D × D)} (h : RepKs N n ad B kvs ds) : RepKs N n ad B (putK kvs k v) (keyPut (kD k) d ds) := by
  unfold putK keyPut
  rw [RepKs.anyKey h]
  split
  · exact RepKs.mapKey r h
  · exact RepKs.snoc r h
/-- a new empty dict -/
theorem tN_dct : ∀ σ H Q, tN N W (M.pure (.d (.dct []))) σ H Q → tDNewK σ H Q := by
  rintro σ H Q ⟨ad, s, F, R, h⟩ p hp
  obtain ⟨R2, sm⟩ := R.addF (o := .dK []) hp
  exact h ad _ p R2 (Post.newP .refl R hp) (.dct []) rfl (.inl ⟨[], upd_same, .nil⟩)
theorem tN_dctT : ∀ σ H Q, tN N W (M.pure (.d (.dct [(.non, .non)]))) σ H Q → tDNewT σ H Q := by
  rintro σ H Q ⟨ad, s, F, R, h⟩ p hp
  obtain ⟨R2, sm⟩ := R.addF (o := .dT []) hp
  exact h ad _ p R2 (Post.newP .refl R hp) (.dct [(.non, .non)]) rfl (.inr ⟨[], upd_same, .nil⟩)
/-- d.get(k, z) -/
theorem tX_dget {mo : M PV} {ma : M (List D)} : ∀ σ H Q, tX N W (M.bind mo fun x => M.bind (bmM .get x) fun _ => M.bind ma fun as => M.bind (dgetM .get x as) fun y => M.pure (.d y)) σ H Q →
    tX N W mo σ H fun x H1 => ∃ a, x = .ref a ∧ IsD H1 a ∧ tAs N W ma σ H1 fun vs H3 => ∃ y z o, vs = [y, z] ∧ DGet H3 a y o ∧ Q (o.getD z) H3 := by
  rintro σ H Q ⟨ad, s, F, R, h⟩
  refine ⟨ad, s, F, R, (Gar.bind h).mono fun pv s1 ad1 H1 R1 P1 h1 v rv => ?_⟩
  replace h1 : Gar N W ad1 σ H1 s1 F (dctM pv s1) _ := Gar.bind h1
  unfold dctM at h1
  split at h1
  rotate_left
  · exact h1.elim
  rename_i ds0 hv0
  obtain ⟨a, rfl, hd⟩ := (rv.val R1 hv0).dctI
  refine ⟨a, rfl, hd.imp (fun ⟨kvs, h, _⟩ => ⟨kvs, h⟩) (fun ⟨kvs, h, _⟩ => ⟨kvs, h⟩), ad1, s1, F, R1, ?_⟩
  refine (Gar.bind (Gar.pure R1 h1)).mono fun as s2 ad2 H2 R2 P2 h2 vs rvs => ?_
  replace h2 : Gar N W ad2 σ H2 s2 F (getM pv as s2) _ := Gar.bind h2
  unfold getM at h2
  split at h2
  rotate_left
  · exact h2.elim
  rename_i kvs k z hv
  split at h2
  rotate_left
  · exact h2.elim
  rename_i hk
  have fin := Gar.pure R2 (Gar.pure R2 h2)
  match vs, rvs with
  | [y, z0], .cons ry (.cons rz .nil) =>
  obtain ⟨a', o, e, g, c⟩ := ((rv.post P2).val R2 hv).dget (.d ry) hk
  injection e with e
  subst e
  refine ⟨y, z0, o, rfl, g, ?_⟩
  rcases c with ⟨g1, g2⟩ | ⟨d, w, g1, g2, rw'⟩
  · rw [g2]; rw [g1] at fin; exact fin _ rz
  · rw [g2]; rw [g1] at fin; exact fin _ rw'
/-- sorted(x), a new list -/
theorem tN_sorted {m : M (List PV)} : ∀ σ H Q, tN N W (M.bind m fun xs => biM .sorted xs) σ H Q → tCB (rSrtN N) (tPs N W m) σ H Q := by
  rintro σ H Q ⟨ad, s, F, R, h⟩
  refine ⟨ad, s, F, R, (GarN.bind h).mono fun xs s2 ad2 H2 R2 P2 h2 vs rv => ?_⟩
  unfold biM at h2
  cases hx : valsOf s2 xs with
  | none => simp only [hx] at h2; exact h2.elim
  | some ds =>
    simp only [hx] at h2
    have rw' := rv.val R2 hx
    rcases ds with _ | ⟨d, _ | ⟨d2, ds⟩⟩
    · exact h2.elim
    · obtain ⟨x, rfl, w⟩ := rw'.one
      cases d <;> try (exact h2.elim)
      · rename_i es
        have e : biF .sorted [.tup es] = if (D.fins dep es && allAlk es && srtOk es && decide (es.length ≤ line)) = true then some (.lst (sortD es)) else none := rfl
        rw [e] at h2
        split at h2
        · rename_i hh
          split at hh
          · rename_i hc
            cases hh
            simp only [Bool.and_eq_true, decide_eq_true_eq] at hc
            refine ⟨x, _, _, _, es, rfl, fun p hp => R2.masked hp, .inr w, hc.1.1.1, hc.1.1.2, hc.1.2, hc.2, fun p ys hp r => ?_⟩
            obtain ⟨R3, sm⟩ := R2.addF (o := .lst ys) hp
            exact h2 ad2 _ p R3 (Post.newP .refl R2 hp) _ rfl ⟨ys, upd_same, r.mono (Nat.le_refl _) (fun _ _ => rfl) sm⟩
          · cases hh
        · exact h2.elim
      · rename_i es
        have e : biF .sorted [.lst es] = if (D.fins dep es && allAlk es && srtOk es && decide (es.length ≤ line)) = true then some (.lst (sortD es)) else none := rfl
        rw [e] at h2
        split at h2
        · rename_i hh
          split at hh
          · rename_i hc
            cases hh
            simp only [Bool.and_eq_true, decide_eq_true_eq] at hc
            refine ⟨x, _, _, _, es, rfl, fun p hp => R2.masked hp, .inl w, hc.1.1.1, hc.1.1.2, hc.1.2, hc.2, fun p ys hp r => ?_⟩
            obtain ⟨R3, sm⟩ := R2.addF (o := .lst ys) hp
            exact h2 ad2 _ p R3 (Post.newP .refl R2 hp) _ rfl ⟨ys, upd_same, r.mono (Nat.le_refl _) (fun _ _ => rfl) sm⟩
          · cases hh
        · exact h2.elim
    · have : biF .sorted (d :: d2 :: ds) = none := by cases d <;> rfl
      rw [this] at h2
      exact h2.elim
/-- list(x), a new list -/
theorem tN_list {m : M (List PV)} : ∀ σ H Q, tN N W (M.bind m fun xs => biM .list xs) σ H Q →
    tCB (fun xs H Q => ∃ p ys, xs = [.ref p] ∧ (SqL N.K H p ys ∨ SqT N.K H p ys) ∧ ∀ l, H l = none → Q (.ref l) (upd H l (.lst ys))) (tPs N W m) σ H Q := by
  rintro σ H Q ⟨ad, s, F, R, h⟩
  refine ⟨ad, s, F, R, (GarN.bind h).mono fun xs s2 ad2 H2 R2 P2 h2 vs rv => ?_⟩
  unfold biM at h2
  cases hx : valsOf s2 xs with
  | none => simp only [hx] at h2; exact h2.elim
  | some ds =>
    simp only [hx] at h2
    have rw' := rv.val R2 hx
    have fin : ∀ {ys : List V} {es : List Ev.D}, biF .list ds = some (.lst es) → RepDs N s2.cel.length ad2 (msk H2 (Mk ad2 σ s2 F)) ys es → ∀ l, H2 l = none → Q (.ref l) (upd H2 l (.lst ys)) := fun {ys es} e r l hl => by
      rw [e] at h2
      obtain ⟨R3, sm⟩ := R2.addF (o := .lst ys) hl
      exact h2 ad2 _ l R3 (Post.newP .refl R2 hl) (.lst es) rfl ⟨ys, upd_same, r.mono (Nat.le_refl _) (fun _ _ => rfl) sm⟩
    rcases ds with _ | ⟨d, _ | ⟨d2, ds⟩⟩
    · exact h2.elim
    · obtain ⟨x, rfl, w⟩ := rw'.one
      cases d with
      | lst es =>
        obtain ⟨a, ys, rfl, sq, r⟩ := w.lstI
        exact ⟨a, ys, rfl, .inl sq, fin rfl r⟩
      | tup es =>
        obtain ⟨a, ys, rfl, _, sq, r⟩ := w.tupI
        exact ⟨a, ys, rfl, .inr sq, fin rfl r⟩
      | _ => exact h2.elim
    · have : biF .list (d :: d2 :: ds) = none := by cases d <;> rfl
      rw [this] at h2
      exact h2.elim
end Ev

set_option autoImplicit false
set_option linter.all false
set_option maxRecDepth 100000
set_option maxHeartbeats 1000000
/-! d.setdefault(k, []), list.index. -/
namespace Ev
open PySem L2 PyProof.Rows
variable {N : Nms} {W : WX}
/-- a new empty list -/
def tNew0 : TE := fun σ H Q => ∀ p, H p = none → Q (.ref p) (upd H p (.lst []))
theorem pe_new0 {X : Cx} {pos : Pos} : PE X (.List [] pos) tNew0 := pe_imp (pe_lst pa_nil) fun σ H Q hq => ⟨by simp, hq⟩
theorem repD_key {n : Nat} {ad : Nat → Addr} {B : Hp} {v : V} {key : Key} (r : RepD N n ad B v (kD key)) : v = kV key := by
  cases key <;> (cases r; rfl)
theorem get_alloc {s : S} {l : Lo} {c c' : Cell} (h : s.get l = some c) : ({ s with cel := s.cel ++ [c'] } : S).get l = some c := by
  cases l with
  | sl i => exact h
  | id k =>
    have h : s.cel[k]? = some c := h
    show (s.cel ++ [c'])[k]? = some c
    obtain ⟨hk, _⟩ := List.getElem?_eq_some_iff.mp h
    rw [List.getElem?_append_left hk, h]
/-- d.setdefault(k, []) -/
theorem tX_sdef {mo mk : M PV} : ∀ σ H Q, tX N W (M.bind mo fun x => M.bind (dctM x) fun _ => M.bind mk fun k => sdefM x k) σ H Q → tDSetd (tX N W mo) (tX N W mk) tNew0 σ H Q := by
  rintro σ H Q ⟨ad, s, F, R, h⟩
  refine ⟨ad, s, F, R, (Gar.bind h).mono fun pv s1 ad1 H1 R1 P1 h1 v rv => ?_⟩
  have h1 := Gar.bind h1
  unfold dctM at h1
  split at h1
  rotate_left
  · exact h1.elim
  rename_i ds0 hv0
  obtain ⟨a, rfl, hd⟩ := (rv.val R1 hv0).dctI
  refine ⟨a, rfl, hd.imp (fun ⟨kvs, h, _⟩ => ⟨kvs, h⟩) (fun ⟨kvs, h, _⟩ => ⟨kvs, h⟩), ad1, s1, F, R1, ?_⟩
  refine (Gar.bind (Gar.pure R1 h1)).mono fun kp s2 ad2 H2 R2 P2 h2 y ry p hp => ?_
  unfold sdefM at h2
  split at h2
  rotate_left
  · exact h2.elim
  rename_i l kd hl
  split at h2
  rotate_left
  · exact h2.elim
  rename_i ds hg
  split at h2
  rotate_left
  · exact h2.elim
  rename_i hk
  simp only [Bool.and_eq_true, decide_eq_true_eq, Bool.not_eq_true'] at hk
  obtain ⟨⟨hk1, hkT⟩, hk2⟩ := hk
  obtain ⟨key, rfl⟩ := isKey_kD hk1
  obtain rfl := repD_key (show RepD N _ _ _ y (kD key) from ry)
  have rv2 := rv.post P2
  obtain ⟨a', e, ha, okc⟩ := lst_at R2 rv2 hl hg
  injection e with e
  subst e
  obtain ⟨kv, hkv, rk⟩ : ∃ kvs, H2 a = some (.dK kvs) ∧ RepKs N s2.cel.length ad2 (msk H2 (Mk ad2 σ s2 F)) kvs ds := by
    rcases okc with okc | ⟨kv, _, rt⟩
    · exact okc
    · rw [rt.isTd] at hkT; cases hkT
  have nap : a ≠ p := fun e => by subst e; rw [hp] at hkv; cases hkv
  have hkv3 : upd H2 p (.lst []) a = some (.dK kv) := by rw [upd_ne nap]; exact hkv
  have hlen : kv.length < sizeLine := by rw [sizeLine_line, rk.length]; exact hk2
  obtain ⟨R3, sm3⟩ := R2.addF (o := .lst []) hp
  refine ⟨kv, key, hkv3, rfl, hlen, fun w hw => ?_, fun hn => ?_⟩
  · -- there already
    rcases rk.get (k := key) with ⟨_, g2⟩ | ⟨d, w', g1, g2, rw'⟩
    · rw [hw] at g2; cases g2
    · rw [hw] at g2; cases g2
      rw [g1] at h2
      obtain ⟨R4, sm4⟩ := R3.dropF (F := F) fun _ h => .inl h
      have P4 : Post ad2 σ H2 s2 ad2 σ (upd H2 p (.lst [])) s2 F := ⟨fun _ _ => rfl, Nat.le_refl _, rfl, sm3.trans sm4, fun b hb => by
        obtain ⟨⟨u, hu⟩, _⟩ := R2.frn b hb
        exact upd_ne fun e => by subst e; rw [hp] at hu; cases hu⟩
      exact h2 ad2 _ R4 P4 w (P4.rep rw')
  · -- a new one
    have g1 : keyGet (kD key) ds = none := by
      rcases rk.get (k := key) with ⟨g1, _⟩ | ⟨d, w', g1, g2, rw'⟩
      · exact g1
      · rw [hn] at g2; cases g2
    rw [g1] at h2
    obtain ⟨ad3, e3, R5, P5, a5, sm5⟩ := Rel.alloc (Post.newP .refl R2 hp) R3 (c := .lst []) ⟨[], upd_same, .nil⟩
    have hg5 : ({ s2 with cel := s2.cel ++ [.lst []] } : S).get l = some (.dct ds) := get_alloc hg
    obtain ⟨a2, e2, ha2, okc2⟩ := lst_at R5 (rv2.post P5) hl hg5
    injection e2 with e2
    subst e2
    obtain ⟨kv2, hkv2, rk2⟩ : ∃ kvs, upd H2 p (.lst []) a = some (.dK kvs) ∧ RepKs N (s2.cel ++ [Cell.lst []]).length ad3 (msk (upd H2 p (.lst [])) (Mk ad3 σ { s2 with cel := s2.cel ++ [.lst []] } F)) kvs ds := by
      rcases okc2 with okc | ⟨kv, _, rt⟩
      · exact okc
      · rw [rt.isTd] at hkT; cases hkT
    rw [hkv3] at hkv2
    injection hkv2 with hkv2
    injection hkv2 with hkv2
    subst hkv2
    have rp : RepD N (s2.cel ++ [Cell.lst []]).length ad3 (msk (upd H2 p (.lst [])) (Mk ad3 σ { s2 with cel := s2.cel ++ [.lst []] } F)) (.ref p) (.ref s2.cel.length) := by
      rw [← e3]
      exact .ref (by simp)
    obtain ⟨R6, P6⟩ := R5.put (c := .dct (ds ++ [(kD key, .ref s2.cel.length)])) (o := .dK (putK kv key (.ref p))) hg5 ha2 (.inl ⟨_, upd_same, by
      rw [putK_new _ hn]
      exact rk2.snoc rp⟩)
    exact h2 ad3 _ R6 (P5.trans P6) (.ref p) (P6.rep rp)
/-! ### list.index -/
theorem fins_at {n : Nat} : ∀ {xs : List D} {i : Nat} {d : D}, D.fins n xs = true → xs[i]? = some d → d.fin n = true
  | [], _, _, _, e => by simp at e
  | x :: xs, 0, d, h, e => by
    simp only [D.fins, Bool.and_eq_true] at h
    simp at e; subst e; exact h.1
  | x :: xs, i + 1, d, h, e => by
    simp only [D.fins, Bool.and_eq_true] at h
    exact fins_at (i := i) h.2 (by simpa using e)
theorem findIdx_inv {α : Type} {f : α → Bool} {xs : List α} {j : Nat} (h : xs.findIdx? f = some j) : ∃ z, xs[j]? = some z ∧ f z = true ∧ ∀ m z', m < j → xs[m]? = some z' → f z' = false := by
  obtain ⟨h1, h2, h3⟩ := List.findIdx?_eq_some_iff_getElem.mp h
  refine ⟨xs[j], List.getElem?_eq_getElem h1, h2, fun m z' hm hz => ?_⟩
  obtain ⟨h4, h5⟩ := List.getElem?_eq_some_iff.mp hz
  have := h3 m hm
  rw [h5] at this
  simpa using this
def rIndexP (N : Nms) : V → List V → Hp → VK → Prop := fun x xs H Q => ∃ (n : Nat) (ad : Nat → Addr) (y : V) (ts : List D) (d : D) (j : Nat), xs = [y] ∧ RepD N n ad H x (.lst ts) ∧ RepD N n ad H y d ∧ d.fin dep = true ∧ D.fins dep ts = true ∧ ts.length ≤ line ∧
  ts.findIdx? (fun z => eqB z d) = some j ∧ Q (.int (j : Nat)) H
theorem mt_indexP {X : Cx} (hK : X.K = N.K) (hu : X.A.units + 200 < cLine) : MtR X "list.index" (rIndexP N) := by
  intro pins s σ H x xs v us Q I rx rxs h
  obtain ⟨n, ad, y, ts, d, j, rfl, rx', ry', f1, f2, hl, hj, q⟩ := h
  cases rxs with
  | cons ry rt =>
    rename_i uy ut
    cases rt
    obtain ⟨as, r1⟩ := RepD.reads hK I (dep + 1) (.lst ts) (by simpa [D.fin] using f2) rx' rx
    obtain ⟨bs, r2⟩ := RepD.reads hK I dep d f1 ry' ry
    have r1 : Reads s.heap v (.list (D.pys ts)) as := r1
    obtain ⟨p1, p2⟩ := fin_plain _ _ f1
    obtain ⟨p3, p4⟩ := fins_plain _ _ f2
    cases r1 with
    | list ho hc hd h4 =>
      rename_i a o vs m as
      obtain ⟨cls, dd, data, sl⟩ := o
      simp only at hc hd
      subst hc hd
      have em := SeqAt.readsAll_map_plain _ _ _ p3 h4
      rw [pys_map] at em
      have hlen : vs.size = ts.length := by
        have := congrArg List.length em
        simpa using this
      obtain ⟨z, hz, hzj, hno⟩ := findIdx_inv hj
      have hjl : j < ts.length := (List.getElem?_eq_some_iff.mp hz).1
      have hat : ∀ {k : Nat} {w : D} (hk : k < vs.size), ts[k]? = some w → SeqAt.readOf s.heap vs[k] = w.py := fun {k w} hk hw => by
        have := congrArg (fun l => l[k]?) em
        simp only [List.getElem?_map, hw, Option.map_some] at this
        rw [Array.getElem?_toList, Array.getElem?_eq_getElem hk] at this
        simpa using this
      have hsl : ts.length < 2 ^ 62 := by unfold line at hl; omega
      refine call_meets PySem.F.slot_list_index ⟨_, ho, rfl⟩ PySem.F.entry_list_index (PySem.F.args_list_index_2 _ _)
        (SeqAt.list_indexAt a vs m dd sl uy (fun z => PyData.eqv (SeqAt.readOf s.heap z) d.py) j (by omega) (by omega) ?_ ?_) ⟨ho, SeqAt.items_plain h4 r2 p3 p1 (by unfold dep at *; omega), ?_⟩
      · show PyData.eqv (SeqAt.readOf s.heap vs[j]) d.py = true
        rw [hat (by omega) hz, ← eqB_py _ _ _ _ (fins_at f2 hz) f1]
        exact hzj
      · intro k hk hkj
        have hw : ts[k]? = some ts[k] := List.getElem?_eq_getElem (by omega)
        show PyData.eqv (SeqAt.readOf s.heap vs[k]) d.py = false
        rw [hat hk hw, ← eqB_py _ _ _ _ (fins_at f2 hw) f1]
        exact hno k _ hkj hw
      · exact ⟨.int (j : Nat), H, I.tok _, ⟨_, rfl⟩, q⟩
theorem tX_index {mo : M PV} {ma : M (List D)} : ∀ σ H Q, tX N W (M.bind mo fun x => M.bind (bmM .index x) fun _ => M.bind ma fun as => M.bind (dgetM .index x as) fun y => M.pure (.d y)) σ H Q →
    tBM N.K "list" (rIndexP N) (tX N W mo) (tAs N W ma) σ H Q := by
  rintro σ H Q ⟨ad, s, F, R, h⟩
  refine ⟨ad, s, F, R, (Gar.bind h).mono fun pv s1 ad1 H1 R1 P1 h1 v rv => ?_⟩
  replace h1 : Gar N W ad1 σ H1 s1 F (lisM pv s1) _ := Gar.bind h1
  unfold lisM at h1
  split at h1
  rotate_left
  · exact h1.elim
  rename_i ds0 hv0
  obtain ⟨a, xs0, rfl, sq0, _⟩ := (rv.val R1 hv0).lstI
  refine ⟨.inl ⟨rfl, xs0, sq0⟩, ad1, s1, F, R1, ?_⟩
  refine (Gar.bind (Gar.pure R1 h1)).mono fun as s2 ad2 H2 R2 P2 h2 vs rvs => ?_
  replace h2 : Gar N W ad2 σ H2 s2 F (indM pv as s2) _ := Gar.bind h2
  unfold indM at h2
  split at h2
  rotate_left
  · exact h2.elim
  rename_i ts x hv
  split at h2
  rotate_left
  · exact h2.elim
  rename_i hf
  simp only [Bool.and_eq_true] at hf
  cases hj : ts.findIdx? (fun y => eqB y x) with
  | none => rw [hj] at h2; exact h2.elim
  | some j =>
    rw [hj] at h2
    have fin := Gar.pure R2 (Gar.pure R2 h2)
    match vs, rvs with
    | [y], .cons ry .nil =>
    exact ⟨_, _, y, ts, x, j, rfl, ((rv.post P2).val R2 hv).full, (RepW.d ry).full, hf.1.1, hf.1.2, of_decide_eq_true hf.2, hj, fin _ (.int _)⟩
/-! ### list.count -/
def rCountP (N : Nms) : V → List V → Hp → VK → Prop := fun x xs H Q => ∃ (n : Nat) (ad : Nat → Addr) (y : V) (ts : List D) (d : D), xs = [y] ∧ RepD N n ad H x (.lst ts) ∧ RepD N n ad H y d ∧ d.fin dep = true ∧ D.fins dep ts = true ∧ ts.length ≤ line ∧ Q (.int (ts.countP fun z => eqB z d : Nat)) H
theorem mt_countP {X : Cx} (hK : X.K = N.K) (hu : X.A.units + 200 < cLine) : MtR X "list.count" (rCountP N) := by
  intro pins s σ H x xs v us Q I rx rxs h
  obtain ⟨n, ad, y, ts, d, rfl, rx', ry', f1, f2, hl, q⟩ := h
  cases rxs with
  | cons ry rt =>
    rename_i uy ut
    cases rt
    obtain ⟨as, r1⟩ := RepD.reads hK I (dep + 1) (.lst ts) (by simpa [D.fin] using f2) rx' rx
    obtain ⟨bs, r2⟩ := RepD.reads hK I dep d f1 ry' ry
    have r1 : Reads s.heap v (.list (D.pys ts)) as := r1
    obtain ⟨p1, p2⟩ := fin_plain _ _ f1
    obtain ⟨p3, p4⟩ := fins_plain _ _ f2
    cases r1 with
    | list ho hc hd h4 =>
      rename_i a o vs m as
      obtain ⟨cls, dd, data, sl⟩ := o
      simp only at hc hd
      subst hc hd
      have em := SeqAt.readsAll_map_plain _ _ _ p3 h4
      rw [pys_map] at em
      refine call_meets PySem.F.slot_list_count ⟨_, ho, rfl⟩ PySem.F.entry_list_count (PySem.F.args_list_count_2 _ _)
        (SeqAt.list_countAt a vs m dd sl uy (fun z => PyData.eqv (SeqAt.readOf s.heap z) d.py)) ⟨ho, SeqAt.items_plain h4 r2 p3 p1 (by unfold dep at *; omega), ?_⟩
      refine ⟨.int (ts.countP fun z => eqB z d : Nat), H, I.tok _, ⟨s.toks, ?_⟩, q⟩
      have ec : vs.toList.countP (fun z => PyData.eqv (SeqAt.readOf s.heap z) d.py) = ts.countP fun z => eqB z d := by
        have h1 : vs.toList.countP (fun z => PyData.eqv (SeqAt.readOf s.heap z) d.py) = (vs.toList.map (SeqAt.readOf s.heap)).countP (fun z => PyData.eqv z d.py) := by
          rw [List.countP_map]; rfl
        rw [h1, em, List.countP_map]
        refine List.countP_congr fun z hz => ?_
        obtain ⟨i, hi⟩ := List.mem_iff_getElem?.mp hz
        show PyData.eqv z.py d.py = true ↔ _
        rw [← eqB_py _ _ _ _ (fins_at f2 hi) f1]
      show Value.int ((vs.toList.countP _ : Nat) : Int) s.toks = Value.int ((ts.countP fun z => eqB z d : Nat) : Int) s.toks
      rw [ec]
theorem tX_count {mo : M PV} {ma : M (List D)} : ∀ σ H Q, tX N W (M.bind mo fun x => M.bind (bmM .count x) fun _ => M.bind ma fun as => M.bind (dgetM .count x as) fun y => M.pure (.d y)) σ H Q →
    tBM N.K "list" (rCountP N) (tX N W mo) (tAs N W ma) σ H Q := by
  rintro σ H Q ⟨ad, s, F, R, h⟩
  refine ⟨ad, s, F, R, (Gar.bind h).mono fun pv s1 ad1 H1 R1 P1 h1 v rv => ?_⟩
  replace h1 : Gar N W ad1 σ H1 s1 F (lisM pv s1) _ := Gar.bind h1
  unfold lisM at h1
  split at h1
  rotate_left
  · exact h1.elim
  rename_i ds0 hv0
  obtain ⟨a, xs0, rfl, sq0, _⟩ := (rv.val R1 hv0).lstI
  refine ⟨.inl ⟨rfl, xs0, sq0⟩, ad1, s1, F, R1, ?_⟩
  refine (Gar.bind (Gar.pure R1 h1)).mono fun as s2 ad2 H2 R2 P2 h2 vs rvs => ?_
  replace h2 : Gar N W ad2 σ H2 s2 F (cntM pv as s2) _ := Gar.bind h2
  unfold cntM at h2
  split at h2
  rotate_left
  · exact h2.elim
  rename_i ts x hv
  split at h2
  rotate_left
  · exact h2.elim
  rename_i hf
  simp only [Bool.and_eq_true] at hf
  have fin := Gar.pure R2 (Gar.pure R2 h2)
  match vs, rvs with
  | [y], .cons ry .nil =>
  exact ⟨_, _, y, ts, x, rfl, ((rv.post P2).val R2 hv).full, (RepW.d ry).full, hf.1.1, hf.1.2, of_decide_eq_true hf.2, fin _ (.int _)⟩
end Ev

set_option autoImplicit false
set_option linter.all false
set_option maxRecDepth 100000
set_option maxHeartbeats 1000000
/-! Displays of dicts. -/
namespace Ev
open PySem L2 PyProof.Rows
variable {N : Nms} {W : WX}
def cV : Ex → V
  | .int i => .int i
  | .str x => .str x
  | .bl b => .bl b
  | _ => .non
theorem pe_cst {X : Cx} {e : Ex} {x : Expr} (h : okC e x = true) : PE X x (tC (cV e)) := by
  unfold okC at h
  split at h
  · obtain rfl := of_decide_eq_true h; exact pe_int
  · obtain rfl := of_decide_eq_true h; exact pe_str
  · obtain rfl := beq_iff_eq.mp h; exact pe_bl
  · exact pe_non
  · cases h
theorem rep_cst {e : Ex} {x : Expr} (h : okC e x = true) : ∃ d, cDv e = some d ∧ ∀ n ad B, RepD N n ad B (cV e) d := by
  unfold okC at h
  split at h
  · exact ⟨_, rfl, fun _ _ _ => .int _⟩
  · exact ⟨_, rfl, fun _ _ _ => .str _⟩
  · exact ⟨_, rfl, fun _ _ _ => .bl _⟩
  · exact ⟨_, rfl, fun _ _ _ => .non⟩
  · cases h
theorem key_cst {e : Ex} (h : (cDk e).isSome = true) : ∃ k : Key, cDk e = some (kD k) ∧ cV e = kV k := by
  cases e <;> first | exact ⟨.inl _, rfl, rfl⟩ | exact ⟨.inr _, rfl, rfl⟩ | cases h
theorem disp_ok {X : Cx} {pos : Pos} : ∀ (ks vs : Exs) (kl : List (Option Expr)) (vl : List Expr), okDs ks vs kl vl = true → ∃ (kvs : List (Key × V)) (trs : List (TE × TE)), PPs X pos kl vl trs ∧
    (∀ σ H (Q : List (V × V) → Hp → Prop), Q (kvs.map fun kv => (kV kv.1, kv.2)) H → tPairs trs σ H Q) ∧ kvs.length = kl.length ∧ kl.length = vl.length ∧ kl.all (·.isSome) = true ∧
    ∀ n ad B acc accD, RepKs N n ad B acc accD → ∃ l, dispD ks vs accD = some l ∧ RepKs N n ad B (mergeK acc kvs) l
  | .nil, .nil, [], [], _ => ⟨[], [], pps_nil, fun _ _ _ h => h, rfl, rfl, rfl, fun _ _ _ _ _ h => ⟨_, rfl, h⟩⟩
  | .cons k ks, .cons v vs, some x :: kl, y :: vl, h => by
    have h : (okC k x && (cDk k).isSome && okC v y && okDs ks vs kl vl) = true := h
    simp only [Bool.and_eq_true] at h
    obtain ⟨⟨⟨h1, h2⟩, h3⟩, h4⟩ := h
    obtain ⟨kvs, trs, q1, q2, q3, q4, q5, q6⟩ := disp_ok ks vs kl vl h4
    obtain ⟨key, e1, e2⟩ := key_cst h2
    obtain ⟨d, e3, e4⟩ := rep_cst (N := N) h3
    refine ⟨(key, cV v) :: kvs, _, pps_cons (pe_cst h1) (pe_cst h3) q1, fun σ H Q hq => ?_, by simp [q3], by simp [q4], by simpa using q5, fun n ad B acc accD r => ?_⟩
    · exact q2 σ H _ (by rw [e2]; exact hq)
    · obtain ⟨l, g1, g2⟩ := q6 n ad B (putK acc key (cV v)) (keyPut (kD key) d accD) (RepKs.put (e4 n ad B) r)
      refine ⟨l, ?_, g2⟩
      show (match cDk k, cDv v with
        | some a, some b => dispD ks vs (keyPut a b accD)
        | _, _ => none) = _
      rw [e1, e3]
      exact g1
  | .nil, .cons _ _, _, _, h => nomatch (show false = true from h)
  | .cons _ _, .nil, _, _, h => nomatch (show false = true from h)
  | .nil, .nil, _ :: _, _, h => nomatch (show false = true from h)
  | .nil, .nil, [], _ :: _, h => nomatch (show false = true from h)
  | .cons _ _, .cons _ _, [], _, h => nomatch (show false = true from h)
  | .cons _ _, .cons _ _, none :: _, _, h => nomatch (show false = true from h)
  | .cons _ _, .cons _ _, some _ :: _, [], h => nomatch (show false = true from h)
theorem upd_upd {H : Hp} {p : Addr} {a b : HO} : upd (upd H p a) p b = upd H p b := by
  funext q
  by_cases h : q = p
  · rw [h, upd_same, upd_same]
  · rw [upd_ne h, upd_ne h, upd_ne h]
/-- data -/
theorem new_dct {n : Nat} {ad : Nat → Addr} {H : Hp} {M : Addr → Prop} {p : Addr} {ys : List (Key × V)} {es : List (D × D)} (hM : ∀ p, M p → ∃ o, H p = some o) (hp : H p = none) (r : RepKs N n ad (msk H M) ys es) : RepD N n ad (msk (upd H p (.dK ys)) M) (.ref p) (.dct es) :=
  let ⟨h1, h2⟩ := new_msk (o := .dK ys) hM hp
  .dK (.inl h1) (RepKs.mono (Nat.le_refl _) (fun _ _ => rfl) h2 _ r)
theorem pe_dct {X : Cx} {ks vs : Exs} {kl : List (Option Expr)} {vl : List Expr} {p : Pos} (h : okDs ks vs kl vl = true) (h15 : kl.length ≤ 15) : PE X (.Dict kl vl p) (tX N W (M.of ((dispD ks vs []).map fun l => .d (.dct l)))) := by
  obtain ⟨kvs, trs, q1, q2, q3, q4, q5, q6⟩ := disp_ok (N := N) (X := X) (pos := p) ks vs kl vl h
  by_cases h0 : kl = []
  · subst h0
    cases vl with
    | cons => cases q4
    | nil =>
      cases kvs with
      | cons => cases q3
      | nil =>
        refine pe_imp pe_dnewK ?_
        rintro σ H Q ⟨ad, s, F, R, h⟩ p hp
        obtain ⟨l, e, r⟩ := q6 s.cel.length ad (msk H (Mk ad σ s F)) [] [] .nil
        rw [e] at h
        exact h ad _ (R.grow (new_same hp)) (.grow R (new_same hp)) _ (new_dct (fun p m => R.masked m) hp r)
  · refine pe_imp (pe_disp q1 q5 q4 h0 h15) ?_
    rintro σ H Q ⟨ad, s, F, R, h⟩ p hp
    refine q2 σ _ _ ⟨upd_same, kvs, rfl, by rw [q3]; exact h15, ?_⟩
    rw [upd_upd]
    obtain ⟨l, e, r⟩ := q6 s.cel.length ad (msk H (Mk ad σ s F)) [] [] .nil
    rw [e] at h
    exact h ad _ (R.grow (new_same hp)) (.grow R (new_same hp)) _ (new_dct (fun p m => R.masked m) hp r)
end Ev

set_option autoImplicit false
set_option linter.all false
set_option maxRecDepth 100000
set_option maxHeartbeats 1000000
/-! == and != of two instances of a class with an own __eq__. -/
namespace HT
open PySem PySem.Calls PySem.SeqAt PyProof.Rows
section
variable {prog : Program} {w : World} {A : Around} {E : Value → Shared → Prop} {s : Shared}
theorem sliceApplied_rev {sl : Addr} {vl vu vs : Value} {n : Nat} {Q : Int × Int × Nat → Shared → Prop} (hs : s.heap.IsSliceOf sl vl vu vs) (pl : IsPart vl none) (pu : IsPart vu none) (ps : IsPart vs (some (-1)))
    (h : Q ((n : Int) - 1, -1, n) s) : wpAny (model prog w) A (Builtin.Slice.sliceApplied (.ref sl) (pure (n : Int))) Q E s := by
  obtain ⟨os, hos, hcs, hds⟩ := id hs
  unfold Builtin.Slice.sliceApplied Builtin.Slice.sliceFields
  refine wpAny_bind (wpAny_bind (wpAny_field hos hds (x := vl) rfl (wpAny_bind (wpAny_field hos hds (x := vu) rfl (wpAny_bind (wpAny_field hos hds (x := vs) rfl (wpAny_pure ?_)))))))
  refine wpAny_bind (slicePart_ ps ?_)
  show wpAny _ _ (if ((-1 : Int) == 0) = true then _ else _) _ _ s
  rw [if_neg (by decide)]
  refine wpAny_bind (slicePart_ pl (wpAny_bind (slicePart_ pu (wpAny_bind (wpAny_pure ?_)))))
  have e : Builtin.Slice.sliceAdjust none none (-1) (n : Int) = ((n : Int) - 1, -1) := by
    unfold Builtin.Slice.sliceAdjust
    simp
  have e2 : Builtin.Slice.slicePlaces ((n : Int) - 1) (-1) (-1) = n := by
    unfold Builtin.Slice.slicePlaces
    have h1 : ¬ ((-1 : Int) > 0) := by decide
    simp only [h1, if_false]
    by_cases h0 : n = 0
    · subst h0; simp
    · rw [if_pos (by omega), show (- -1 : Int) = 1 by decide, Int.ediv_one]
      omega
  show wpAny _ _ (match Builtin.Slice.sliceAdjust none none (-1) (n : Int) with | (lo, hi) => pure (lo, (-1 : Int), Builtin.Slice.slicePlaces lo hi (-1))) _ _ s
  rw [e]
  show wpAny _ _ (pure ((n : Int) - 1, (-1 : Int), Builtin.Slice.slicePlaces ((n : Int) - 1) (-1) (-1))) _ _ s
  rw [e2]
  exact wpAny_pure h
theorem pick_rev (xs : Array Value) : ((List.range xs.size).filterMap fun (m : Nat) => xs[((xs.size : Int) - 1 + (m : Int) * (-1)).toNat]?).toArray = xs.toList.reverse.toArray := by
  have e : ((List.range xs.size).filterMap fun (m : Nat) => xs[((xs.size : Int) - 1 + (m : Int) * (-1)).toNat]?) = (List.range xs.size).reverse.filterMap (xs[·]?) := by
    rw [← PySem.W.krv_range, List.filterMap_map]
    congr 1
    funext m
    have : ((xs.size : Int) - 1 + (m : Int) * (-1)).toNat = xs.size - 1 - m := by omega
    rw [this]; rfl
  rw [e, List.filterMap_reverse, PySem.W.krv_all]
theorem getItem_tuple_rev {t sl : Addr} {items : Array Value} {vl vu vs : Value} {Q : Value → Shared → Prop} (ht : IsTup s.heap t items) (hs : s.heap.IsSliceOf sl vl vu vs) (pl : IsPart vl none) (pu : IsPart vu none) (ps : IsPart vs (some (-1)))
    (h : Q (.ref s.heap.objs.size) { s with heap := s.heap.push { cls := .type "tuple", data := .seq items.toList.reverse.toArray } })
    (hsz : items.size ≤ sizeLine) : wpAny (model prog w) A (getItem (.ref t) (.ref sl)) Q E s := by
  have htake : sizeOk (.seq items.toList.reverse.toArray) := by
    show items.toList.reverse.toArray.size ≤ sizeLine
    rw [List.size_toArray, List.length_reverse, Array.length_toList]
    exact hsz
  obtain ⟨os, hos, hcs, hds⟩ := id hs
  have hTs : s.TypeIs (.ref sl) "slice" := ⟨os, hos, hcs⟩
  unfold getItem
  try with_reducible refine wpAny_holding ?_
  first | refine wpAny_bind (wpAny_pure ?_) | skip
  refine wpAny_bind (wpAny_sequenceKey ht.typeIs (by decide) ?_)
  refine wpAny_bind (wpAny_callSpecial?_slot (name := Str.ofString "__getitem__") ht.typeIs PyProof.Rows.slot_tuple_getitem
    (wpAny_call_entry PyProof.Rows.slot_tuple_getitem ht.typeIs entry_tuple_getitem ?_ (args_tuple_getitem _ _)))
  show wpAny _ _ (Builtin.Tuple.tupleItemsOf (.ref t) >>= _) _ _ s
  refine wpAny_bind (tupleItemsOf_ ht ?_)
  refine wpAny_bind (wpAny_typeOf hTs ?_)
  rw [if_pos (by decide)]
  refine wpAny_bind (sliceApplied_rev hs pl pu ps ?_)
  have hno : ¬ (((((items.size : Int) - 1) == 0 && (-1 : Int) == 1 && items.size == items.size)) = true) := by simp
  show wpAny _ _ (if ((((items.size : Int) - 1) == 0 && (-1 : Int) == 1 && items.size == items.size)) = true then _ else _) _ _ s
  rw [if_neg hno, pick_rev]
  first
    | exact wpAny_bind (m := Builtin.Tuple.tupleExact _) (wpAny_newObj_type (wpAny_pure ⟨_, rfl, wpAny_pure h⟩) htake)
    | exact wpAny_bind (m := Builtin.Tuple.tupleExact _) (wpAny_newObj_type (wpAny_bind (wpAny_pure (wpAny_pure ⟨_, rfl, wpAny_pure h⟩))) htake)
    | exact wpAny_bind (wpAny_bind (m := Builtin.Tuple.tupleExact _) (wpAny_newObj_type (wpAny_pure (wpAny_pure ⟨_, rfl, wpAny_pure h⟩)) htake))
    | exact wpAny_bind (wpAny_bind (m := Builtin.Tuple.tupleExact _) (wpAny_newObj_type (wpAny_pure ⟨_, rfl, wpAny_pure h⟩) htake))
end
end HT
namespace L2
open PySem PySem.Spec PyProof.Rows
section
variable {X : Cx}
/-- x[::-1] -/
def rRev (K : PySem.W.Frag) : V → Hp → VK → Prop := fun x H1 Q => ∃ a xs, x = .ref a ∧ ((SqL K H1 a xs ∧ ∀ p, H1 p = none → Q (.ref p) (upd H1 p (.lst xs.reverse))) ∨ (SqT K H1 a xs ∧ ∀ p, H1 p = none → Q (.ref p) (upd H1 p (.tup xs.reverse))))
theorem pe_revA {e : Expr} {te : TE} {k : Nat} {p1 p2 p3 pos : Pos} (he : PE X e te) : PE X (.Subscript e (.Slice none none (some (.UnaryOp .USub (.Constant (.int 1) k p1) p2)) p3) pos) (tUn (rRev X.K) te) := by
  refine ⟨fun pins s σ H Q I h => ?_⟩
  refine Subscript_ (thn (he.run pins s σ H _ I h) fun v s1 ⟨x, H1, I1, r1, q1⟩ => ?_)
  obtain ⟨a, xs, ex, hq⟩ := q1
  subst ex
  cases r1
  have hst : PO X (some (.UnaryOp .USub (.Constant (.int 1) k p1) p2)) (tPart (tUn (rU fun i => .int (-i)) (tC (.int 1)))) := po_some (pe_un un_neg pe_int)
  refine wpAny_Slice (thn (po_none.run pins s1 σ H1 (fun o H2 => o = none ∧ H2 = H1) I1 ⟨rfl, rfl⟩) fun vl s2 ⟨l, H2, I2, pl, el, e2⟩ => ?_)
  subst el e2
  refine thn (po_none.run pins s2 σ H2 (fun o H3 => o = none ∧ H3 = H2) I2 ⟨rfl, rfl⟩) fun vu s3 ⟨u, H3, I3, pu, eu, e3⟩ => ?_
  subst eu e3
  refine thn (hst.run pins s3 σ H3 (fun o H4 => o = some (-1) ∧ H4 = H3) I3 ⟨1, rfl, -1, rfl, rfl, rfl⟩) fun vs s4 ⟨o, H4, I4, ps, eo, e4⟩ => ?_
  subst eo e4
  have I5 : Inv X pins σ H4 { s4 with heap := s4.heap.push { cls := .type "slice", data := .fields #[vl, vu, vs] } } := I4.kept (t' := s4.toks) fun b ob q => Heap.get?_push_of_some _ q
  show wpAny (model X.prog X.w) X.A (subscriptTail e (.Slice none none (some (.UnaryOp .USub (.Constant (.int 1) k p1) p2)) p3) (.ref a) (.ref s4.heap.objs.size)) (EP X pins σ Q) X.xe { s4 with heap := s4.heap.push { cls := .type "slice", data := .fields #[vl, vu, vs] } }
  rcases hq with ⟨hx, q⟩ | ⟨hx, q⟩
  · obtain ⟨its, r, ht, hz⟩ := I5.list hx
    have hlen := r.length
    refine tail_any (ops := [.ref a, .ref s4.heap.objs.size]) ht.isList.typeIs (PySem.slot_list_getitem.lookup) ?_ (by with_unfolding_all rfl)
    refine wpAny_getItem_list_slice ht.isList (Heap.IsSliceOf.new _ vl vu vs) pl pu ps (by decide) ?_ (by rw [List.size_toArray]; omega)
    rw [PySem.W.krv_pick]
    refine ⟨.ref _, _, I5.laid (t' := s4.toks) (o := .lst xs.reverse) (fun b ob q => Heap.get?_push_of_some _ q) (Nat.le_refl _) ?_, rfl, q _ (I5.hok.fresh (Nat.le_refl _))⟩
    exact ⟨by rw [List.length_reverse]; exact hz, _, 0, r.reverse, Heap.get?_push_size _ rfl⟩
  · obtain ⟨its, r, ht, hz⟩ := I5.tuple hx
    have hlen := r.length
    refine tail_any (ops := [.ref a, .ref s4.heap.objs.size]) ht.typeIs (PyProof.Rows.slot_tuple_getitem.lookup) ?_ (by with_unfolding_all rfl)
    refine HT.getItem_tuple_rev ht (Heap.IsSliceOf.new _ vl vu vs) pl pu ps ?_ (by rw [List.size_toArray]; omega)
    refine ⟨.ref _, _, I5.laid (t' := s4.toks) (o := .tup xs.reverse) (fun b ob q => Heap.get?_push_of_some _ q) (Nat.le_refl _) ?_, rfl, q _ (I5.hok.fresh (Nat.le_refl _))⟩
    exact ⟨by rw [List.length_reverse]; exact hz, _, r.reverse, IsTup.new _ _⟩
end
end L2
namespace PySem.W
open PySem PySem.Calls Builtin
theorem one_bind (self : Value) : bindSpecial (.builtin "object.__ne__") self = pure (.builtin "object.__ne__", [self]) :=
  (Slot.of (T := "object") (name := "__ne__") (owner := "object") (n := "__ne__") (by rw [typeLookup_type, builtinLookup_eq_fast]; kernel_rfl) (by decide +kernel) (by decide +kernel) (by decide +kernel)
    (.inl (by decide +kernel)) (by rw [isSubtype_type]; kernel_rfl)).bind self
theorem one_plain : plainId "object.__ne__" = true := by decide +kernel
theorem one_args (a b : Value) : argsOk "object.__ne__" ⟨[a, b], []⟩ := by unfold argsOk; kernel_rfl
section
variable {prog : Program} {w : World} {A : Around} {E : Value → Shared → Prop} {s : Shared} {K : Frag} {x y C C' L f : Addr} {h₀ : Heap} {m : Str → Option Value} {ox oy : Obj} {od od' : Option Obj}
theorem ifBound_ne {M : Model} {args : List Value} {Q : Option Value → Shared → Prop} (X : K.In s.heap) (I : InstAt s.heap x ox C od) (hs : findIn K (.ref C) "__ne__" = some (some (.builtin "object.__ne__")))
    (h : wpAny M A (call (.builtin "object.__ne__") (.ref x :: args)) (fun v => Q (some v)) E s) : wpAny M A (callSpecialIfBound? (.ref x) "__ne__" args) Q E s := by
  simp only [callSpecialIfBound?, bindSpecialIfBound?]
  refine wpAny_holding (wpAny_bind (wpAny_bind (wpAny_bind (I.type.here ((looks_findIn X hs).here ?_)))))
  refine wpAny_bind (wpAny_askSetting (wpAny_ite ?_))
  have fin : wpAny M A (call (.builtin "object.__ne__") ([.ref x] ++ args) >>= fun v => pure (some v)) Q E s := wpAny_bind (wpAny_mono h (fun v s' h' => wpAny_pure h') fun _ _ h' => h')
  have lb : Looks M s.heap (bindSpecial (.builtin "object.__ne__") (.ref x)) (.builtin "object.__ne__", [.ref x]) := Looks.of_pure (one_bind _)
  split
  · exact wpAny_bind (lb.here (wpAny_pure (by exact fin)))
  · exact wpAny_tryCatch (wpAny_bind (lb.here (wpAny_pure (by exact fin))))
/-- object.__ne__ of two instances of a class with an own __eq__ -/
theorem one_run (X : K.In s.heap) (I : InstAt s.heap x ox C od) (hs : findIn K (.ref C) "__eq__" = some (some (.ref f))) (hf : isFn K (.ref f) = true) (hu : A.units < cLine) {Q : Fin → Shared → Prop}
    (hcall : wpAny (model prog w) A (call (.ref f) [.ref x, .ref y]) (fun v s' => ∃ b, v = .bool b ∧ Q (.done (.ret (.bool (!b)))) s') E s) :
    wpAny (model prog w) A (Builtin.«object.__ne__» ⟨[.ref x, .ref y], []⟩) Q E s := by
  obtain ⟨hp, g, d, t, os⟩ := s
  unfold Builtin.«object.__ne__»
  repeat (first
    | with_reducible refine wpAny_cRoomFor hu ?_
    | (refine wpAny_bind (m := callSpecialIfBound? (.ref x) (Str.ofString "__eq__") [.ref y])
        (ifBound_K X I hs hf (wpAny_mono hcall (fun r s' hr => by
          obtain ⟨b, rfl, hq⟩ := hr
          repeat (first | exact hq | exact wpAny_pure hq | exact wpAny_truthy_bool hq | (refine wpAny_bind (m := truthy (.bool _)) (wpAny_truthy_bool ?_)) | wp_step)) fun _ _ e => e)))
    | wp_step)
theorem ne_own (hu : A.units + 1 < cLine) (X : K.In s.heap) (I : InstAt s.heap x ox C od) (J : InstAt s.heap y oy C' od') (hC : C' = C ∨ subIn K (.ref C') (.ref C) = some false) (hs : findIn K (.ref C) "__eq__" = some (some (.ref f))) (hn : findIn K (.ref C) "__ne__" = some (some (.builtin "object.__ne__")))
    (hf : isFn K (.ref f) = true) (ho : subIn K (.ref C) (.type "object") = some true) {Q : Value → Shared → Prop}
    (h : wpAny (model prog w) A.in1 (call (.ref f) [.ref x, .ref y]) (fun v s' => ∃ b, v = .bool b ∧ Q (.bool (!b)) s') E s) : wpAny (model prog w) A (richCompare .NotEq (.ref x) (.ref y)) Q E s := by
  have top : Looks (model prog w) s.heap (isInstance (.ref x) (.type "object")) true := I.type.andThen (looks_subIn X ho)
  have call1 : wpAny (model prog w) A (call (.builtin "object.__ne__") [.ref x, .ref y]) (fun v s' => ∃ b, v = .bool (!b) ∧ Q (.bool (!b)) s') E s := by
    refine wpAny_call (codeAny_call_builtin one_plain F.cmpEntry_ne (@check_slot (model prog w) _ _ _ "object.__ne__" "object" "__ne__" (.ref x) [.ref y] [] _ F.cmpKind_ne F.cmpSplit_ne top (one_args (.ref x) (.ref y)) ?_))
    refine one_run X I hs hf hu (wpAny_mono h (fun v s' hv => ?_) fun _ _ e => e)
    obtain ⟨b, rfl, hq⟩ := hv
    exact ⟨b, rfl, b, rfl, hq⟩
  have one : wpAny (model prog w) A (tryCompare (.ref x) "__ne__" (.ref y)) (fun r s' => ∃ b, r = some (.bool (!b)) ∧ Q (.bool (!b)) s') E s := by
    unfold tryCompare
    refine wpAny_bind (ifBound_ne X I hn (wpAny_mono call1 (fun v s' hv => ?_) fun _ _ e => e))
    obtain ⟨b, rfl, q⟩ := hv
    exact wpAny_pure ⟨b, rfl, q⟩
  unfold richCompare
  simp only [oneThing_ref]
  refine wpAny_holding (wpAny_bind (wpAny_cRoomFor (Nat.lt_of_succ_lt hu) ?_))
  refine wpAny_bind (I.type.here (wpAny_bind (J.type.here ?_)))
  rw [cmpInfo_NotEq]
  dsimp only
  split
  · rename_i q
    have e : subIn K (.ref C') (.ref C) = some false := by
      rcases hC with e | e
      · rw [e] at q; simp at q
      · exact e
    refine wpAny_bind ((looks_subIn X e).here ?_)
    simp only [Bool.false_eq_true, if_false]
    refine wpAny_bind (wpAny_mono one (fun r s' z => ?_) fun _ _ e => e)
    obtain ⟨b, rfl, q⟩ := z
    exact wpAny_pure q
  · refine wpAny_bind (wpAny_pure ?_)
    simp only [Bool.false_eq_true, if_false]
    refine wpAny_bind (wpAny_mono one (fun r s' z => ?_) fun _ _ e => e)
    obtain ⟨b, rfl, q⟩ := z
    exact wpAny_pure q
end
end PySem.W
namespace Ev
open PySem L2 PyProof.Rows
variable {T : Nam} {N : Nms} {G : Tab} {W : WX} {F : FT}
theorem rev_all {x : V} {H : Hp} {Q : VK} (h : rD1 N revF x H Q) : rRev N.K x H Q := by
  obtain ⟨n, ad, M, a, z, hM, ra, hf, q⟩ := h
  cases a <;> simp only [revF] at hf <;> try (cases hf; done)
  · cases hf
    obtain ⟨p, xs, rfl, sa', ta, sa, da⟩ := ra.tupI2
    exact ⟨p, xs, rfl, .inr ⟨sa, fun p hp => q _ _ (new_same hp) (new_tup hM hp da.rev)⟩⟩
  · cases hf
    obtain ⟨p, xs, rfl, sa, da⟩ := ra.lstI
    exact ⟨p, xs, rfl, .inl ⟨sa, fun p hp => q _ _ (new_same hp) (new_lst hM hp da.rev)⟩⟩
section
variable {X : Cx} {C f : Addr} {fd : FuncData} {ps : List Str} {sp : Sp} {k : Nat} {E : L2.St → XK} {a b : Expr} {ta tb : TE} {pos : Pos}
def rEqS (K : PySem.W.Frag) (C : Addr) (sp : Sp) (E : XK) (x y : V) (H2 : Hp) (Q : VK) : Prop := ∃ p q C' dx dy fs gs, x = .ref p ∧ y = .ref q ∧ H2 p = some (.ins C dx fs) ∧ H2 q = some (.ins C' dy gs) ∧ (C' = C ∨ PySem.W.subIn K (.ref C') (.ref C) = some false) ∧ sp [x, y] H2 Q E
def tEqS (K : PySem.W.Frag) (C : Addr) (sp : Sp) (E : L2.St → XK) (ta tb : TE) : TE := fun σ H Q => ta σ H fun x H1 => tb σ H1 fun y H2 => rEqS K C sp (E σ) x y H2 Q
theorem run_fnA {A : Around} {pn : List (Addr × Obj)} {σ0 : L2.St} {H0 : Hp} {st0 : Shared} {Q0 : VK} {us : List Value} {vs : List V} (Fo : FnOk X.prog X.w X.K X.mg X.base (L2.CX X.prog X.w) k f fd ps sp) (rm : Room k A) (fr : A.frames = X.A.frames) (bd : Binds X.K fd ps []) (px : PassesAt (L2.CX X.prog X.w) X σ0 (E σ0))
    (I0 : Inv X pn σ0 H0 st0) (rv : Vals vs us) (hq : sp vs H0 Q0 (E σ0)) : wpAny (model X.prog X.w) A (call (.ref f) us) (EP X pn σ0 Q0) X.xe st0 := by
  have hl : us.length = ps.length := by rw [← rv.length]; exact Fo.len _ _ _ _ hq
  have b := bd st0 us I0.kIn (by rw [List.append_nil]; exact hl)
  rw [List.append_nil] at b
  have e0 : Env0 X.prog X.w X.K X.mg X.base A X.stack st0 H0 := by
    have e := I0.env0
    exact ⟨by rw [fr]; exact e.frames, e.mod, e.bs, e.bsz, e.funs, e.frf, e.hok, e.bare⟩
  refine wpAny_call (codeAny_mono (Fo.run A X.stack st0 H0 ⟨us, []⟩ us vs Q0 (E σ0) rm e0 b rv hq) fun r s' hq => ?_)
  cases r with
  | error e => exact px pn H0 st0 e s' I0 hq
  | ok fl =>
    cases fl with
    | ret u => exact I0.after hq
    | next => exact False.elim hq
    | brk => exact False.elim hq
    | cont => exact False.elim hq
theorem back_of {pn : List (Addr × Obj)} {σ : L2.St} {Q : VK} {v : Value} {s' : Shared} (h : EP X pn σ Q v s') : PySem.W.CmpBack (EP X pn σ Q) v s' := by
  cases v with
  | notImplemented =>
    obtain ⟨x, H', _, rx, _⟩ := h
    cases x <;> first | exact nomatch rx | (obtain ⟨_, rx⟩ := rx; exact nomatch rx)
  | _ => exact h
theorem op_eqS (mt : Meth X.K C "__eq__" f) (Fo : FnOk X.prog X.w X.K X.mg X.base (L2.CX X.prog X.w) k f fd ps sp) (rm : Room k X.A) (bd : Binds X.K fd ps []) {σ : L2.St} {H2 : Hp} {s2 : Shared} {pins : List (Addr × Obj)} {v u : Value} {x y : V} {Q : VK} (px : PassesAt (L2.CX X.prog X.w) X σ (E σ))
    (I2 : Inv X pins σ H2 s2) (rx : RelV x v) (ry : RelV y u) (q : rEqS X.K C sp (E σ) x y H2 Q) : wpAny (model X.prog X.w) X.A (compareOp .Eq v u) (EP X pins σ Q) X.xe s2 := by
  obtain ⟨p, q, C', dx, dy, fs, gs, rfl, rfl, hp, hq, hC, hs⟩ := q
  obtain rfl : v = Value.ref p := rx
  obtain rfl : u = Value.ref q := ry
  obtain ⟨mA, J, _⟩ := ins_get I2.hok hp
  obtain ⟨mB, J', _⟩ := ins_get I2.hok hq
  obtain ⟨od, J, _⟩ := J.look
  obtain ⟨od', J', _⟩ := J'.look
  obtain ⟨m, hF⟩ := I2.fr
  refine PySem.W.cmp_ofEq (PySem.W.cmp_K (op := .Eq) (tb := .ref C') rm.units0 hF I2.ok.mod.kin J J'.type (by
    unfold PySem.W.notFirst
    rcases hC with e | e
    · rw [e]; simp
    · rw [e]; simp) mt.at_ mt.fn ?_)
  exact wpAny_mono (run_fnS (us := [.ref p, .ref q]) (vs := [.ref p, .ref q]) Fo rm bd px I2 (.cons rfl (.cons rfl .nil)) hs) (fun v s' h => back_of h) fun _ _ e => e
def rNeS (K : PySem.W.Frag) (C : Addr) (sp : Sp) (E : XK) (x y : V) (H2 : Hp) (Q : VK) : Prop := rEqS K C sp E x y H2 (fun v H' => ∃ b, v = .bl b ∧ Q (.bl (!b)) H')
theorem op_neS (mt : Meth X.K C "__eq__" f) (ec : EqC X.K C) (Fo : FnOk X.prog X.w X.K X.mg X.base (L2.CX X.prog X.w) k f fd ps sp) (rm : Room (k + 1) X.A) (bd : Binds X.K fd ps []) {σ : L2.St} {H2 : Hp} {s2 : Shared} {pins : List (Addr × Obj)} {v u : Value} {x y : V} {Q : VK} (px : PassesAt (L2.CX X.prog X.w) X σ (E σ))
    (I2 : Inv X pins σ H2 s2) (rx : RelV x v) (ry : RelV y u) (q : rNeS X.K C sp (E σ) x y H2 Q) : wpAny (model X.prog X.w) X.A (compareOp .NotEq v u) (EP X pins σ Q) X.xe s2 := by
  obtain ⟨p, q, C', dx, dy, fs, gs, rfl, rfl, hp, hq, hC, hs⟩ := q
  obtain rfl : v = Value.ref p := rx
  obtain rfl : u = Value.ref q := ry
  obtain ⟨mA, J, _⟩ := ins_get I2.hok hp
  obtain ⟨mB, J', _⟩ := ins_get I2.hok hq
  obtain ⟨od, J, _⟩ := J.look
  obtain ⟨od', J', _⟩ := J'.look
  refine PySem.W.cmp_ofNotEq (PySem.W.ne_own (by have := rm.un; omega) I2.kIn J J' hC mt.at_ ec.ne mt.fn ec.ob ?_)
  refine wpAny_mono (run_fnA (A := X.A.in1) (us := [.ref p, .ref q]) (vs := [.ref p, .ref q]) Fo rm.in1 rfl bd px I2 (.cons rfl (.cons rfl .nil)) hs) (fun v s' h => ?_) fun _ _ e => e
  obtain ⟨x, H', J, rx, b, rfl, q⟩ := h
  cases rx
  exact ⟨b, rfl, .bl (!b), H', J, rfl, q⟩
def tNeS (K : PySem.W.Frag) (C : Addr) (sp : Sp) (E : L2.St → XK) (ta tb : TE) : TE := fun σ H Q => ta σ H fun x H1 => tb σ H1 fun y H2 => rNeS K C sp (E σ) x y H2 Q
theorem pe_eqS (mt : Meth X.K C "__eq__" f) (Fo : FnOk X.prog X.w X.K X.mg X.base (L2.CX X.prog X.w) k f fd ps sp) (rm : Room k X.A) (bd : Binds X.K fd ps []) (px : ∀ σ, PassesAt (L2.CX X.prog X.w) X σ (E σ)) (ha : PE X a ta) (hb : PE X b tb) (hm : behindInMarks .Eq b = false) :
    PE X (.Compare a [.Eq] [b] pos) (tEqS X.K C sp E ta tb) :=
  ⟨fun pins s σ H Q I h => wpAny_Compare1 (binT ha hb I h fun v u s2 x y H2 I2 rx ry q => op_eqS mt Fo rm bd (px σ) I2 rx ry q) hm⟩
theorem pe_neS (mt : Meth X.K C "__eq__" f) (ec : EqC X.K C) (Fo : FnOk X.prog X.w X.K X.mg X.base (L2.CX X.prog X.w) k f fd ps sp) (rm : Room (k + 1) X.A) (bd : Binds X.K fd ps []) (px : ∀ σ, PassesAt (L2.CX X.prog X.w) X σ (E σ)) (ha : PE X a ta) (hb : PE X b tb) (hm : behindInMarks .NotEq b = false) :
    PE X (.Compare a [.NotEq] [b] pos) (tNeS X.K C sp E ta tb) :=
  ⟨fun pins s σ H Q I h => wpAny_Compare1 (binT ha hb I h fun v u s2 x y H2 I2 rx ry q => op_neS mt ec Fo rm bd (px σ) I2 rx ry q) hm⟩
theorem pt_eqS (mt : Meth X.K C "__eq__" f) (Fo : FnOk X.prog X.w X.K X.mg X.base (L2.CX X.prog X.w) k f fd ps sp) (rm : Room k X.A) (bd : Binds X.K fd ps []) (px : ∀ σ, PassesAt (L2.CX X.prog X.w) X σ (E σ)) (ha : PE X a ta) (hb : PE X b tb) (hm : behindInMarks .Eq b = false) :
    PT X (.Compare a [.Eq] [b] pos) (tTest (tEqS X.K C sp E ta tb)) := by
  refine ⟨fun pins s σ H Q I h => ?_⟩
  refine wpAny_isTrue_Compare1 (thn (ha.run pins s σ H _ I h) fun v s1 ⟨x, H1, I1, r1, q1⟩ => thn (hb.run pins s1 σ H1 _ I1 q1) fun u s2 ⟨y, H2, I2, r2, q2⟩ =>
    thn (op_eqS mt Fo rm bd (px σ) I2 r1 r2 q2) fun c s3 ⟨z, H3, I3, r3, k, e, q3⟩ => ?_) hm
  subst e
  cases r3
  exact wpAny_truthy_bool ⟨H3, I3, q3⟩
theorem pt_neS (mt : Meth X.K C "__eq__" f) (ec : EqC X.K C) (Fo : FnOk X.prog X.w X.K X.mg X.base (L2.CX X.prog X.w) k f fd ps sp) (rm : Room (k + 1) X.A) (bd : Binds X.K fd ps []) (px : ∀ σ, PassesAt (L2.CX X.prog X.w) X σ (E σ)) (ha : PE X a ta) (hb : PE X b tb) (hm : behindInMarks .NotEq b = false) :
    PT X (.Compare a [.NotEq] [b] pos) (tTest (tNeS X.K C sp E ta tb)) := by
  refine ⟨fun pins s σ H Q I h => ?_⟩
  refine wpAny_isTrue_Compare1 (thn (ha.run pins s σ H _ I h) fun v s1 ⟨x, H1, I1, r1, q1⟩ => thn (hb.run pins s1 σ H1 _ I1 q1) fun u s2 ⟨y, H2, I2, r2, q2⟩ =>
    thn (op_neS mt ec Fo rm bd (px σ) I2 r1 r2 q2) fun c s3 ⟨z, H3, I3, r3, k, e, q3⟩ => ?_) hm
  subst e
  cases r3
  exact wpAny_truthy_bool ⟨H3, I3, q3⟩
end
theorem sameC_is {ds : List Nat} {x : D} {as : List D} (h : sameC ds (x :: as) = true) : ∃ c c' fs gs, x = .obj c fs ∧ as = [.obj c' gs] ∧ (c' = c ∨ c' ∈ ds) := by
  cases x <;> try (exact nomatch (show false = true from h))
  rename_i c fs
  rcases as with _ | ⟨y, _ | ⟨z, as⟩⟩
  · exact nomatch (show false = true from h)
  · cases y <;> try (exact nomatch (show false = true from h))
    rename_i c' gs
    have h : (c == c' || ds.contains c') = true := h
    rw [Bool.or_eq_true, beq_iff_eq, List.contains_iff_mem] at h
    exact ⟨_, _, _, _, rfl, rfl, h.imp Eq.symm id⟩
  · cases y <;> exact nomatch (show false = true from h)
def eqM (G : Tab) (F : FT) (ds : List Nat) (c m f : Nat) (mo mb : M PV) : M PV := M.bind mo fun x => M.bind x.store fun x => M.bind (insM c m x) fun _ => M.bind (M.bind mb fun y => M.bind y.store fun d => M.bind (M.pure []) fun r => M.pure (d :: r)) fun as => M.bind (doCall (.eqo ds) (F f) (x :: as)) fun x => M.pure (.d x)
theorem tX_eqS (inj : ∀ f g, N.nm f = N.nm g → f = g) {ds : List Nat} {c m f np : Nat} (hds : ∀ d ∈ ds, PySem.W.subIn N.K (.ref (N.cl d)) (.ref (N.cl c)) = some false) (hl : ∀ as c, F f as c ≠ .stk → as.length = np) {mo mb : M PV} : ∀ σ H Q, tX N W (eqM G F ds c m f mo mb) σ H Q → tEqS N.K (N.cl c) (spF N np (F f)) (WE W) (tX N W mo) (tX N W mb) σ H Q := by
  rintro σ H Q ⟨ad, s, FF, R, h⟩
  refine ⟨ad, s, FF, R, (Gar.bind h).mono fun pv s1 ad1 H1 R1 P1 h1 v rv => ?_⟩
  obtain ⟨d, s', R', P', rd, k⟩ := store_ok R1 rv (Gar.bind h1)
  obtain ⟨a, dx, fv, rfl, e1, e2, k⟩ := insM_inv inj R' rd (Gar.bind k)
  refine ⟨ad1, s', FF, R', (Gar.bind (Gar.bind k)).mono fun pv2 s2 ad2 H2 R2 P2 h2 w rw => ?_⟩
  obtain ⟨d2, s3, R3, P3, rd2, k3⟩ := store_ok R2 rw (Gar.bind h2)
  have k5 := Gar.pure R3 (Gar.pure R3 (Gar.bind k3))
  have h3 := Gar.bind k5
  obtain ⟨c', c2, fs, gs, rfl, ea, hcc⟩ := sameC_is (eqo_same h3).1
  cases ea
  have rd' := P3.rep (P2.rep rd)
  have rv2 : RepDs N s3.cel.length ad2 (msk H2 (Mk ad2 σ s3 FF)) [.ref a, w] [.obj c' fs, .obj c2 gs] := .cons rd' (.cons rd2 .nil)
  have hsp : spF N np (F f) [.ref a, w] H2 Q (WE W σ) := by
    refine call_sp (q := .eqo ds) R3 rv2 ?_ (h3.mono fun x s4 ad4 H4 R4 P4 k v rx => Gar.pure R4 k v rx)
    rw [rv2.length]
    exact doCall_len hl h3
  have ec : N.cl c' = N.cl c := by
    cases rd with
    | obj e rf =>
      have e3 := (msk_get e).1
      rw [e1] at e3
      injection e3 with e3
      injection e3 with e3
      exact e3.symm
  have ec2 : N.cl c2 = N.cl c ∨ PySem.W.subIn N.K (.ref (N.cl c2)) (.ref (N.cl c)) = some false := by
    rcases hcc with rfl | hm
    · exact .inl ec
    · exact .inr (hds c2 hm)
  cases rd' with
  | obj ex rx =>
    cases rd2 with
    | obj ey ry =>
      have ex := (msk_get ex).1
      have ey := (msk_get ey).1
      rw [ec] at ex
      exact ⟨_, _, _, _, _, _, _, rfl, rfl, ex, ey, ec2, hsp⟩
/-- not (a == b), for a != b -/
theorem tX_neS (inj : ∀ f g, N.nm f = N.nm g → f = g) {ds : List Nat} {c m f np : Nat} (hds : ∀ d ∈ ds, PySem.W.subIn N.K (.ref (N.cl d)) (.ref (N.cl c)) = some false) (hl : ∀ as c, F f as c ≠ .stk → as.length = np) {mo mb : M PV} : ∀ σ H Q, tX N W (M.bind (eqM G F ds c m f mo mb) fun x => M.bind (toB x) fun b => M.pure (.d (.bl !b))) σ H Q → tNeS N.K (N.cl c) (spF N np (F f)) (WE W) (tX N W mo) (tX N W mb) σ H Q := by
  rintro σ H Q ⟨ad, s, FF, R, h⟩
  have h : tX N W (eqM G F ds c m f mo mb) σ H (fun v H' => ∃ b, v = .bl b ∧ Q (.bl (!b)) H') := by
    refine ⟨ad, s, FF, R, (Gar.bind h).mono fun pv s1 ad1 H1 R1 P1 h1 v rv => ?_⟩
    obtain ⟨b, rfl, k⟩ := toB_inv (Gar.bind h1) R1
    cases rv with
    | bl => exact ⟨b, rfl, Gar.pure R1 k _ (.bl _)⟩
  exact tX_eqS inj hds hl σ H _ h
end Ev

set_option autoImplicit false
set_option linter.all false
set_option maxRecDepth 100000
set_option maxHeartbeats 1000000
/-! sorted(set(..)) of a tuple of ints. -/
namespace L2
open PySem PySem.Spec PyProof.Rows
/-- set(t), t a tuple of ints -/
def rSetT (K : PySem.W.Frag) (w : World) : List V → Hp → VK → Prop := fun xs H Q => ∃ (p : Addr) (ns : List Int), xs = [.ref p] ∧ SqT K H p (ns.map V.int) ∧ ns.length ≤ 1000 ∧ ∀ (a : Addr) (c : Nat), H a = none → c ≤ ns.length → Q (.ref a) (upd H a (SetO w a (fun j => decide (j ∈ ns)) c))
theorem call_setT {X : Cx} (hc : X.calm = true) : CallR X (.type "set") (rSetT X.K X.w) := by
  intro pins s σ H xs us Q I r h
  obtain ⟨p, ns, rfl, hq, hl, q⟩ := h
  rw [Vals.ref1 r]
  obtain ⟨its, rv, pt, hz⟩ := I.tuple hq
  have hi : IntsAre its.toArray.toList ns := ints_of_vals rv
  refine call_set_tupI ns (I.ok.hd hc) (show s.heap.IsTuple p its.toArray from pt) hi (by unfold scanBound; omega) fun h' tk c R1 hcn k => ?_
  exact ⟨.ref _, upd H s.heap.objs.size (SetO X.w s.heap.objs.size (fun j => decide (j ∈ ns)) c), I.laid (t' := tk) k (Nat.le_refl _) (setO_new R1), rfl, q _ c (I.hok.fresh (Nat.le_refl _)) hcn⟩
end L2
namespace Ev
open PySem L2 PyProof.Rows
theorem insU_mem (k j : Int) : ∀ xs : List Int, j ∈ insU k xs ↔ j = k ∨ j ∈ xs
  | [] => by simp [insU]
  | x :: xs => by
    unfold insU
    by_cases h1 : k < x
    · rw [if_pos h1]; simp
    · rw [if_neg h1]
      by_cases h2 : k = x
      · rw [if_pos h2]; subst h2; simp
      · rw [if_neg h2, List.mem_cons, insU_mem k j xs, List.mem_cons]
        constructor
        · rintro (h | h | h)
          · exact .inr (.inl h)
          · exact .inl h
          · exact .inr (.inr h)
        · rintro (h | h | h)
          · exact .inr (.inl h)
          · exact .inl h
          · exact .inr (.inr h)
theorem insU_up (k : Int) : ∀ {xs : List Int}, xs.Pairwise (· < ·) → (insU k xs).Pairwise (· < ·)
  | [], _ => by simp [insU]
  | x :: xs, h => by
    have hx := List.pairwise_cons.mp h
    unfold insU
    by_cases h1 : k < x
    · rw [if_pos h1]
      refine List.pairwise_cons.mpr ⟨fun y hy => ?_, h⟩
      rcases List.mem_cons.mp hy with rfl | hy
      · exact h1
      · have := hx.1 y hy; omega
    · rw [if_neg h1]
      by_cases h2 : k = x
      · rw [if_pos h2]; exact h
      · rw [if_neg h2]
        refine List.pairwise_cons.mpr ⟨fun y hy => ?_, insU_up k hx.2⟩
        rcases (insU_mem k y xs).mp hy with rfl | hy
        · omega
        · exact hx.1 y hy
theorem usort_mem (j : Int) : ∀ xs : List Int, j ∈ usort xs ↔ j ∈ xs
  | [] => Iff.rfl
  | x :: xs => by
    show j ∈ insU x (usort xs) ↔ _
    rw [insU_mem, usort_mem j xs, List.mem_cons]
theorem usort_up : ∀ xs : List Int, (usort xs).Pairwise (· < ·)
  | [] => List.Pairwise.nil
  | x :: xs => insU_up x (usort_up xs)
theorem up_eq : ∀ {xs ys : List Int}, xs.Pairwise (· < ·) → ys.Pairwise (· < ·) → (∀ k, k ∈ xs ↔ k ∈ ys) → xs = ys
  | [], [], _, _, _ => rfl
  | [], y :: ys, _, _, h => absurd ((h y).mpr (List.mem_cons_self ..)) (fun z => nomatch z)
  | x :: xs, [], _, _, h => absurd ((h x).mp (List.mem_cons_self ..)) (fun z => nomatch z)
  | x :: xs, y :: ys, h1, h2, h => by
    have a := List.pairwise_cons.mp h1
    have b := List.pairwise_cons.mp h2
    have e : x = y := by
      rcases List.mem_cons.mp ((h x).mp (List.mem_cons_self ..)) with e | e
      · exact e
      · rcases List.mem_cons.mp ((h y).mpr (List.mem_cons_self ..)) with e2 | e2
        · exact e2.symm
        · have := a.1 y e2; have := b.1 x e; omega
    subst e
    congr 1
    refine up_eq a.2 b.2 fun k => ?_
    constructor
    · intro hk
      rcases List.mem_cons.mp ((h k).mp (List.mem_cons_of_mem _ hk)) with e | e
      · have := a.1 k hk; omega
      · exact e
    · intro hk
      rcases List.mem_cons.mp ((h k).mpr (List.mem_cons_of_mem _ hk)) with e | e
      · have := b.1 k hk; omega
      · exact e
variable {T : Nam} {N : Nms} {G : Tab} {W : WX} {F : FT}
/-- sorted(set(t)) -/
def rSrt (K : PySem.W.Frag) : V → Hp → VK → Prop := fun x H1 Q => ∃ (p : Addr) (ns : List Int), x = .ref p ∧ SqT K H1 p (ns.map V.int) ∧ ns.length < 60 ∧ ∀ (H2 : Hp) (q : Addr), Same H1 H2 → H2 q = none → Q (.ref q) (upd H2 q (.lst ((usort ns).map V.int)))
theorem tX_monoS {m : M PV} {σ : L2.St} {H : Hp} {Q Q' : VK} (h : tX N W m σ H Q) (i : ∀ v H, Q v H → Q' v H) : tX N W m σ H Q' := by
  obtain ⟨ad, s, F, R, hg⟩ := h
  exact ⟨ad, s, F, R, hg.mono fun pv s' ad' H' _ _ k v rv => i v H' (k v rv)⟩
theorem pe_srt {X : Cx} (hc : X.calm = true) {e : Expr} {m : M PV} {p1 p2 p3 p4 : Pos} (hg : Gl X "sorted") (hm : X.mg "sorted" = none) (hg2 : Gl X "set") (hm2 : X.mg "set" = none) (ha : PE X e (tX N W m)) (hs : starEach [e] X.env = [(false, eval e X.env)]) :
    PE X (.Call (.Name "sorted" p1) [.Call (.Name "set" p2) [e] [] p3] [] p4) (tUn (rSrt X.K) (tX N W m)) := by
  have pa1 := pa_cons ha (pa_nil (X := X)) (by rw [hs]; rfl)
  have pi := pe_callTy (p := p2) (pos := p3) (call_setT hc) hg2 hm2 PyProof.Rows.boot_set pa1 (by decide) (by decide) (by rw [hs]; rfl) rfl
  have pa2 := pa_cons pi (pa_nil (X := X)) rfl
  refine pe_imp (pe_callB (p := p1) (pos := p4) (cr_sortedSet hc) hg hm (by decide +kernel) pa2 (by decide) (by decide) rfl rfl) fun σ H Q hq => ?_
  have hq : tX N W m σ H fun x H1 => rSrt X.K x H1 Q := hq
  refine tX_monoS hq fun x H1 ⟨p, ns, hx, sq, hl, k⟩ => ?_
  refine ⟨p, ns, by rw [hx], sq, by omega, fun a c ha hcn => ⟨a, fun j => decide (j ∈ ns), c, rfl, upd_same, by omega, fun out q up mem ln hq => ?_⟩⟩
  have e : out = usort ns := up_eq up (usort_up ns) fun j => by rw [mem, usort_mem, decide_eq_true_eq]
  rw [e]
  exact k _ q (new_same ha) hq
theorem srt_all {x : V} {H : Hp} {Q : VK} (h : rD1 N srtF x H Q) : rSrt N.K x H Q := by
  obtain ⟨n, ad, M, a, z, hM, ra, hf, q⟩ := h
  cases a <;> simp only [srtF] at hf <;> try (cases hf; done)
  rename_i ds
  cases hi : D.ints ds with
  | none => rw [hi] at hf; cases hf
  | some is =>
    rw [hi] at hf
    simp only at hf
    by_cases hl : is.length < 60
    · rw [if_pos hl] at hf
      cases hf
      obtain ⟨p, xs, rfl, sa', ta, sa, da⟩ := ra.tupI2
      have e := da.intsV hi
      subst e
      refine ⟨p, is, rfl, sa, hl, fun H2 qa hs hq => ?_⟩
      have hM2 : ∀ p, M p → ∃ o, H2 p = some o := fun p m => by
        obtain ⟨o, e⟩ := hM p m
        exact ⟨o, hs p o e⟩
      exact q _ _ (fun b u e => new_same hq b u (hs b u e)) (new_lst hM2 hq (RepDs.ints (usort is)))
    · rw [if_neg hl] at hf; cases hf
/-- len(set(l)) -/
def rLns (K : PySem.W.Frag) : V → Hp → VK → Prop := fun x H1 Q => ∃ (l : Addr) (ns : List Int), x = V.ref l ∧ SqL K H1 l (ns.map V.int) ∧ ns.Nodup ∧ ns.length ≤ 4000 ∧ Q (.int (ns.length : Nat)) H1
theorem pe_lenS {X : Cx} (hc : X.calm = true) {e : Expr} {ta : TE} {p1 p2 p3 p4 : Pos} (hg : Gl X "len") (hm : X.mg "len" = none) (hg2 : Gl X "set") (hm2 : X.mg "set" = none) (ha : PE X e ta) (hs : starEach [e] X.env = [(false, eval e X.env)]) :
    PE X (.Call (.Name "len" p1) [.Call (.Name "set" p2) [e] [] p3] [] p4) (tUn (rLns X.K) ta)   := RZ.pe_lenSetI hg hm hg2 hm2 ha hc hs
theorem lns_all {x : V} {H : Hp} {Q : VK} (h : rD1 N lnsF x H Q) : rLns N.K x H Q := by
  obtain ⟨n, ad, M, a, z, hM, ra, hf, q⟩ := h
  cases a <;> simp only [lnsF] at hf <;> try (cases hf; done)
  rename_i ds
  cases hi : D.ints ds with
  | none => rw [hi] at hf; cases hf
  | some is =>
    rw [hi] at hf
    simp only at hf
    by_cases hl : is.length ≤ 4000 ∧ is.Nodup
    · rw [if_pos hl] at hf
      cases hf
      obtain ⟨p, xs, rfl, sa, da⟩ := ra.lstI
      have e := da.intsV hi
      subst e
      exact ⟨p, is, rfl, sa, hl.2, hl.1, q _ _ (Same.refl _) (.int _)⟩
    · rw [if_neg hl] at hf; cases hf
end Ev

set_option autoImplicit false
set_option linter.all false
set_option maxRecDepth 100000
set_option maxHeartbeats 2000000
/-! What the core says of an expression is so. -/
namespace Ev
open PySem L2 PyProof.Rows
variable {T : Nam} {N : Nms} {G : Tab} {F : FT}
theorem starAll {env : Env} {T : Nam} {N : Nms} {c : Sx} {pos : Pos} : ∀ (es : Exs) (l : List Expr), okXs T N c es l = true → (backTo pos (starEach l env)).any (·.1) = false
  | .nil, l, h => by
    cases l with
    | nil => rfl
    | cons => exact nomatch (show false = true from h)
  | .cons e es, l, h => by
    cases l with
    | nil => exact nomatch (show false = true from h)
    | cons x l =>
      have h : (okX T N c e x && plainE x && okXs T N c es l) = true := h
      simp only [Bool.and_eq_true] at h
      rw [starE h.1.2]
      show (false || (backTo pos (starEach l env)).any (·.1)) = false
      rw [starAll es l h.2]
      rfl
theorem okTy_pe {c : Sx} {X : Cx} {W : WX} (o : XOk T N G c X W) {t : Ty} {e : Expr} (h : okTy T c t e = true) : PE X e (tC (tyVV N t)) ∧ ∀ k, t = .cls k → k < T.cls.length := by
  cases e <;> try (cases t <;> exact nomatch (show false = true from h))
  rename_i x p
  have blt : ∀ {n : String} {y : Str}, y ∈ bltNames → bootBuiltins y = some (.type n) → y ≠ "__name__" → (y == ("__debug__" : Str)) = false → x = y → glB c.sc x = true → PE X (.Name x p) (tC (.ty n)) := fun {n y} h1 h2 h3 h4 e hg => by
    subst e
    exact pe_bltn (gl_of o.sc hg) (o.blt _ h1) h2 rfl h3 h4
  cases t with
  | cls k =>
    have h : (decide (T.cls[k]? = some x) && glB c.sc x && dbgB x) = true := h
    simp only [Bool.and_eq_true, decide_eq_true_eq] at h
    refine ⟨pe_glob (gl_of o.sc h.1.2) (o.cls k x h.1.1) rfl (dbg_of h.2).1, fun j e => ?_⟩
    cases e
    exact (List.getElem?_eq_some_iff.mp h.1.1).1
  | _ =>
    refine ⟨?_, fun j e => by cases e⟩
    have h := h
    simp only [okTy, tyName, Bool.and_eq_true, decide_eq_true_eq, Option.some.injEq] at h
    exact blt (by decide) (by decide +kernel) (by decide) (by decide) h.1.symm h.2
theorem okTys_pa {c : Sx} {X : Cx} {W : WX} (o : XOk T N G c X W) : ∀ (ts : List Ty) (es : List Expr), okTys T c ts es = true → PA X es (tTys N ts) ∧ (∀ k, Ty.cls k ∈ ts → k < T.cls.length)
  | [], [], _ => ⟨pa_nil, fun k h => by simp at h⟩
  | [], _ :: _, h => nomatch (show false = true from h)
  | _ :: _, [], h => nomatch (show false = true from h)
  | t :: ts, e :: es, h => by
    have h : (okTy T c t e && okTys T c ts es) = true := h
    simp only [Bool.and_eq_true] at h
    obtain ⟨h1, h2⟩ := okTy_pe o h.1
    obtain ⟨h3, h4⟩ := okTys_pa o ts es h.2
    refine ⟨pa_cons h1 h3 (starE ?_), fun k hk => ?_⟩
    · have := h.1
      cases e <;> first | rfl | (cases t <;> exact nomatch (show false = true from this))
    · rcases List.mem_cons.mp hk with e | hk
      · exact h2 k e.symm
      · exact h4 k hk
theorem tX_mono {W : WX} {m : M PV} {σ : L2.St} {H : Hp} {Q Q' : VK} (h : tX N W m σ H Q) (i : ∀ v H, Q v H → Q' v H) : tX N W m σ H Q' := by
  obtain ⟨ad, s, F, R, hg⟩ := h
  exact ⟨ad, s, F, R, hg.mono fun pv s' ad' H' _ _ k v rv => i v H' (k v rv)⟩
theorem part_ok {W : WX} {c : Sx} {X : Cx} (q : Ex) (l : Option Expr) (g : ∀ e, l = some e → okX T N c q e = true → Good N W X e (evX G F q)) (h : okPart (okX T N c q) q.isNon l = true) :
    ∃ tl : TO, PO X l tl ∧ ∀ σ H (R : Option Int → Hp → Prop), (tX N W (evX G F q) σ H fun v H2 => ∃ a, PartV q.isNon v a ∧ R a H2) → tl σ H R := by
  cases l with
  | none =>
    have h : q.isNon = true := h
    refine ⟨tNoPart, po_none, fun σ H R hq => ?_⟩
    cases q <;> simp [Ex.isNon] at h
    obtain ⟨a, ea, r⟩ := tX_pure (fun _ _ _ => .non) σ H _ hq
    have ea : a = none := ea
    subst ea
    exact r
  | some e =>
    have h : (okX T N c q e && !q.isNon) = true := h
    simp only [Bool.and_eq_true, Bool.not_eq_true'] at h
    refine ⟨tPart (tX N W (evX G F q)), po_some (g e rfl h.1).pe, fun σ H R hq => ?_⟩
    refine tX_mono hq fun v H' ⟨a, ea, r⟩ => ?_
    unfold PartV at ea
    rw [h.2] at ea
    simp only [Bool.false_eq_true, if_false] at ea
    obtain ⟨i, rfl, rfl⟩ := ea
    exact ⟨i, rfl, r⟩
theorem starFew {env : Env} {T : Nam} {N : Nms} {c : Sx} {pos : Pos} (es : Exs) (l : List Expr) (h : okXs T N c es l = true) (hl : l.length < 28) :
    ((backTo pos (starEach l env)).all (fun x => !x.1) && (backToKw pos (keywordEach [] env)).all (fun x => x.1.isSome) && decide (l.length + ([] : List Keyword).length + (if ([] : List Keyword).isEmpty then 0 else 1) < 30)) = true := by
  have := starAll (env := env) (pos := pos) es l h
  have h1 : (backTo pos (starEach l env)).all (fun x => !x.1) = true := by
    rw [List.all_eq_true]
    intro x hx
    rw [List.any_eq_false] at this
    simpa using this x hx
  rw [h1]
  show (true && true && decide (l.length + 0 + 0 < 30)) = true
  simp
  omega
theorem pe_mm {X : Cx} {mm : Mm} (hm : mmOk mm = true) {o y : Expr} {l : List Expr} {apos cpos : Pos} {to : TE} {t : TA} (ho : PE X o to) (ha : PA X (y :: l) t) (hb : attributeBase o (mmName mm) X.env (eval o X.env) = eval o X.env) (hl : (apos.endLine == cpos.line) = true)
    (hfew : ((backTo cpos (starEach (y :: l) X.env)).all (fun x => !x.1) && (backToKw cpos (keywordEach [] X.env)).all (fun x => x.1.isSome) && decide ((y :: l).length + ([] : List Keyword).length + (if ([] : List Keyword).isEmpty then 0 else 1) < 30)) = true)
    (hs : starEach (y :: l) X.env = (false, eval y X.env) :: starEach l X.env) (hp : (backTo cpos (starEach l X.env)).any (·.1) = false) : PE X (.Call (.Attribute o (mmName mm) apos) (y :: l) [] cpos) (tBM X.K "list" (mmRule X.K mm) to t) := by
  cases mm <;> first | (exact nomatch (show false = true from hm)) | skip
  · exact pe_bm F.plainAttrs_list F.slot_list_append rfl mt_append ho ha hb hfew hl hs hp
  · exact pe_bm F.plainAttrs_list F.slot_list_extend rfl mt_ext ho ha hb hfew hl hs hp
  · exact pe_bm F.plainAttrs_list F.slot_list_pop rfl mt_pop ho ha hb hfew hl hs hp
  · exact pe_bm F.plainAttrs_list F.slot_list_pop rfl mt_popAt ho ha hb hfew hl hs hp
  · exact pe_bm F.plainAttrs_list F.slot_list_reverse rfl mt_reverse ho ha hb hfew hl hs hp
  · exact pe_bm F.plainAttrs_list F.slot_list_clear rfl mt_clear ho ha hb hfew hl hs hp
theorem pe_mm0 {X : Cx} {W : WX} {mm : Mm} (hK : X.K = N.K) (hm : mmOk mm = true) {o : Expr} {apos cpos : Pos} {m : M PV} (ho : PE X o (tX N W m)) (hb : attributeBase o (mmName mm) X.env (eval o X.env) = eval o X.env) (hl : (apos.endLine == cpos.line) = true) :
    PE X (.Call (.Attribute o (mmName mm) apos) [] [] cpos) (tX N W (M.bind m fun x => M.bind (lstM x) fun _ => M.bind (M.pure []) fun as => M.bind (doMm mm x as) fun y => M.pure (.d y))) := by
  refine pe_imp (t := tBM0 X.K "list" (mmRule X.K mm) (tX N W m)) ?_ (by rw [hK]; exact tX_mm0 hm)
  cases mm <;> first | (exact nomatch (show false = true from hm)) | skip
  · exact pe_bm0 F.plainAttrs_list F.slot_list_append rfl mt_append ho hb hl
  · exact pe_bm0 F.plainAttrs_list F.slot_list_extend rfl mt_ext ho hb hl
  · exact pe_bm0 F.plainAttrs_list F.slot_list_pop rfl mt_pop ho hb hl
  · exact pe_bm0 F.plainAttrs_list F.slot_list_pop rfl mt_popAt ho hb hl
  · exact pe_bm0 F.plainAttrs_list F.slot_list_reverse rfl mt_reverse ho hb hl
  · exact pe_bm0 F.plainAttrs_list F.slot_list_clear rfl mt_clear ho hb hl
theorem good_stk {W : WX} {X : Cx} {e : Expr} : Good N W X e stk :=
  ⟨⟨fun _ _ σ H Q _ h => by obtain ⟨_, _, _, _, z⟩ := h; exact z.elim⟩, ⟨fun _ _ σ H Q _ h => by obtain ⟨_, _, _, _, z⟩ := h; exact z.elim⟩⟩
theorem args_of {T : Nam} {N : Nms} {W : WX} {c : Sx} {X : Cx} {pos : Pos} (es : Exs) (l : List Expr) (h : okXs T N c es l = true) :
    (l = [] ∧ ∀ σ H Q, tAs N W (evDs G F es) σ H Q → Q [] H) ∨ ∃ y l', l = y :: l' ∧ starEach (y :: l') X.env = (false, eval y X.env) :: starEach l' X.env ∧ (backTo pos (starEach l' X.env)).any (·.1) = false := by
  cases l with
  | nil =>
    cases es with
    | cons => exact nomatch (show false = true from h)
    | nil => exact .inl ⟨rfl, fun σ H Q hq => tAs_nil σ H Q hq⟩
  | cons y l =>
    cases es with
    | nil => exact nomatch (show false = true from h)
    | cons e es =>
      have h6 : (okX T N c e y && plainE y && okXs T N c es l) = true := h
      simp only [Bool.and_eq_true] at h6
      exact .inr ⟨y, l, rfl, starE h6.1.2, starAll es l h6.2⟩
theorem pe_bi {X : Cx} {b : Bi} {y : Expr} {l : List Expr} {p pos : Pos} {t : TA} {r : List V → Hp → VK → Prop} (hb : biOk b = true) (hc : CallR X (biV b) r) (hg : Gl X (biName b)) (hm : X.mg (biName b) = none) (ha : PA X (y :: l) t)
    (he : starEach (y :: l) X.env = (false, eval y X.env) :: starEach l X.env) (hpl : (backTo pos (starEach l X.env)).any (·.1) = false) : PE X (.Call (.Name (biName b) p) (y :: l) [] pos) (tCB r t) := by
  cases b <;> first | (simp [biOk] at hb; done) | exact pe_callB hc hg hm (by decide +kernel) ha (by decide) (by decide) he hpl | exact pe_callTy hc hg hm (by decide +kernel) ha (by decide) (by decide) he hpl
theorem rgArgs_inv {c : Sx} {z y : Expr} {l : List Expr} (h : rgArgs c z = y :: l) : ∃ p p3, z = .Call (.Name "range" p) (y :: l) [] p3 ∧ glB c.sc "range" = true := by
  unfold rgArgs at h
  split at h
  · split at h
    · rename_i hc
      simp only [Bool.and_eq_true, decide_eq_true_eq] at hc
      obtain ⟨rfl, h2⟩ := hc
      subst h
      exact ⟨_, _, rfl, h2⟩
    · cases h
  · cases h
mutual
theorem sndX : ∀ (x : Ex) {c : Sx} {X : Cx} {W : WX} (e : Expr), XOk T N G c X W → FnsH T N G c X F → okX T N c x e = true → Good N W X e (evX G F x)
  | .v i, c, X, W, e, o, f, h => by
    cases e <;> try (exact nomatch (show false = true from h))
    rename_i x p
    have h : (decide (c.N[i]? = some x) && visB c.sc x && dbgB x) = true := h
    simp only [Bool.and_eq_true, decide_eq_true_eq] at h
    obtain ⟨d1, d2, _⟩ := dbg_of h.2
    exact .val (pe_imp (pe_var (by rw [o.hN]; exact h.1.1) (vis_of o.sc h.1.2) d1 d2) tX_var) (fun _ => rfl)
  | .con g, c, X, W, e, o, f, h => by
    cases e <;> try (exact nomatch (show false = true from h))
    rename_i x p
    have h : (decide (T.con g = some x) && glB c.sc x && dbgB x) = true := h
    simp only [Bool.and_eq_true, decide_eq_true_eq] at h
    obtain ⟨d, v, u, e1, e2, e3, _, e4⟩ := o.con g x h.1.1
    refine .val (pe_imp (pe_glob (gl_of o.sc h.1.2) e2 e3 (dbg_of h.2).1) (t := tC v) fun σ H Q hq => ?_) (fun _ => rfl)
    have : evX G F (.con g) = M.pure (PV.d d) := by
      show M.of ((G.con[g]?).map PV.d) = _
      rw [e1]; rfl
    rw [this] at hq
    exact tX_pure e4 σ H Q hq
  | .int i, c, X, W, e, o, f, h => by
    cases e <;> try (exact nomatch (show false = true from h))
    rename_i k j p
    cases k <;> try (exact nomatch (show false = true from h))
    rename_i j
    have h : decide (i = j) = true := h
    obtain rfl := of_decide_eq_true h
    exact .val (pe_imp pe_int (tX_pure fun _ _ _ => .int _)) (fun _ => rfl)
  | .str i, c, X, W, e, o, f, h => by
    cases e <;> try (exact nomatch (show false = true from h))
    rename_i k j p
    cases k <;> try (exact nomatch (show false = true from h))
    rename_i j
    have h : decide (i = j) = true := h
    obtain rfl := of_decide_eq_true h
    exact .val (pe_imp pe_str (tX_pure fun _ _ _ => .str _)) (fun _ => rfl)
  | .bl i, c, X, W, e, o, f, h => by
    cases e <;> try (exact nomatch (show false = true from h))
    rename_i k j p
    cases k <;> try (exact nomatch (show false = true from h))
    rename_i j
    have h : (i == j) = true := h
    obtain rfl : i = j := by simpa using h
    exact .val (pe_imp pe_bl (tX_pure fun _ _ _ => .bl _)) (fun _ => rfl)
  | .non, c, X, W, e, o, f, h => by
    cases e <;> try (exact nomatch (show false = true from h))
    rename_i k j p
    cases k <;> try (exact nomatch (show false = true from h))
    exact .val (pe_imp pe_non (tX_pure fun _ _ _ => .non)) (fun _ => rfl)
  | .bin op a b, c, X, W, e, o, f, h => by
    cases e <;> try (exact nomatch (show false = true from h))
    rename_i x op' y p
    have h : (decide (op' = opS op) && okX T N c a x && okX T N c b y) = true := h
    simp only [Bool.and_eq_true, decide_eq_true_eq] at h
    obtain ⟨⟨rfl, h1⟩, h2⟩ := h
    exact .val (pe_imp (pe_op (op_bin o.hK op) (sndX a x o f h1).pe (sndX b y o f h2).pe) (tX_two fun _ _ _ _ r => r)) (fun _ => rfl)
  | .neg a, c, X, W, e, o, f, h => by
    cases e <;> try (exact nomatch (show false = true from h))
    rename_i u x p
    cases u <;> try (exact nomatch (show false = true from h))
    have h : okX T N c a x = true := h
    refine .val (pe_imp (pe_un un_neg (sndX a x o f h).pe) (tX_one fun x H Q ⟨n, ad, M, y, z, hM, ra, hf, q⟩ => ?_)) (fun _ => rfl)
    cases y <;> simp only [negF] at hf <;> cases hf
    obtain rfl := ra.intI
    exact ⟨_, rfl, q _ _ (Same.refl _) (.int _)⟩
  | .not a, c, X, W, e, o, f, h => by
    cases e <;> try (exact nomatch (show false = true from h))
    · rename_i u x p
      cases u <;> try (exact nomatch (show false = true from h))
      have h : okX T N c a x = true := h
      have g := sndX a x o f h
      exact ⟨pe_imp (pe_not g.pe) tX_not, pt_imp (pt_not g.pt) tT_not⟩
    · rename_i x ops ys p
      rcases ops with _ | ⟨op, _ | ⟨op2, ops⟩⟩
      · exact nomatch (show false = true from h)
      · cases op <;> try (exact nomatch (show false = true from h))
        rcases ys with _ | ⟨y, _ | ⟨y2, ys⟩⟩
        · exact nomatch (show false = true from h)
        · cases a <;> try (exact nomatch (show false = true from h))
          rename_i q k oo m es
          cases q <;> try (exact nomatch (show false = true from h))
          rename_i ds
          rcases es with _ | ⟨b, _ | ⟨b2, es⟩⟩
          · exact nomatch (show false = true from h)
          · have h' : (T.eqs k && ds.all (T.nsb k) && decide (N.nm m = "__eq__") && okX T N c oo x && okX T N c b y && !behindInMarks .NotEq y && !c.hot) = true := h
            simp only [Bool.and_eq_true, decide_eq_true_eq, Bool.not_eq_true'] at h'
            obtain ⟨⟨⟨⟨⟨⟨h1, h0⟩, h2⟩, h3⟩, h4⟩, h5⟩, h6⟩ := h'
            have hds : ∀ d ∈ ds, PySem.W.subIn N.K (.ref (N.cl d)) (.ref (N.cl k)) = some false := fun d hd => o.nsb k d (List.all_eq_true.mp h0 d hd)
            cases hg : G.meth k m with
            | none =>
              have ev : evX G F (.not (.meth (.eqo ds) k oo m (.cons b .nil))) = stk := by
                show M.bind (M.bind (M.of (G.meth k m)) _) _ = _
                rw [hg]; rfl
              rw [ev]
              exact good_stk
            | some g =>
              have ev : evX G F (.not (.meth (.eqo ds) k oo m (.cons b .nil))) = M.bind (eqM G F ds k m g (evX G F oo) (evX G F b)) fun x => M.bind (toB x) fun b => M.pure (.d (.bl !b)) := by
                show M.bind (M.bind (M.of (G.meth k m)) _) _ = _
                rw [hg]; rfl
              rw [ev]
              obtain ⟨fa, fd, ps, kk, m0, m1, m4, ⟨m2, m3, m5, m6⟩⟩ := (f h6).mt k m g hg
              rw [h2] at m1
              have ec : EqC X.K (N.cl k) := by rw [o.hK]; exact o.eqs k h1
              have g1 := (sndX oo x o f h3).pe
              have g2 := (sndX b y o f h4).pe
              exact ⟨pe_imp (pe_neS m1 ec m5 m4 m3 (passAt o.tk) g1 g2 h5) (by rw [o.hK]; exact tX_neS o.nm hds m6), pt_imp (pt_neS m1 ec m5 m4 m3 (passAt o.tk) g1 g2 h5) (by rw [o.hK]; exact fun σ H Q h => tX_neS o.nm hds m6 σ H _ (tX_tB σ H Q h))⟩
          · exact nomatch (show false = true from h)
        · exact nomatch (show false = true from h)
      · cases op <;> exact nomatch (show false = true from h)
  | .and es, c, X, W, e, o, f, h => by
    cases e <;> try (exact nomatch (show false = true from h))
    rename_i u l p
    cases u <;> try (exact nomatch (show false = true from h))
    have h : okBs T N c es l = true := h
    obtain ⟨h1, h2⟩ := sndAnd es l p o f h
    exact ⟨h1, h2.pt⟩
  | .or es, c, X, W, e, o, f, h => by
    cases e <;> try (exact nomatch (show false = true from h))
    rename_i u l p
    cases u <;> try (exact nomatch (show false = true from h))
    have h : okBs T N c es l = true := h
    obtain ⟨h1, h2⟩ := sndOr es l p o f h
    exact ⟨h1, h2.pt⟩
  | .ife t a b, c, X, W, e, o, f, h => by
    cases e <;> try (exact nomatch (show false = true from h))
    rename_i z x y p
    have h : (okX T N c t z && okX T N c a x && okX T N c b y) = true := h
    simp only [Bool.and_eq_true] at h
    have g1 := sndX t z o f h.1.1
    have g2 := sndX a x o f h.1.2
    have g3 := sndX b y o f h.2
    exact ⟨pe_imp (pe_ifExp g1.pt g2.pe g3.pe) tX_ife, pt_imp (pt_ifExp g1.pt g2.pt g3.pt) tT_ife⟩
  | .cmp q a b, c, X, W, e, o, f, h => by
    cases e <;> try (exact nomatch (show false = true from h))
    rename_i x ops l p
    rcases ops with _ | ⟨o', _ | ⟨o2, ops⟩⟩ <;> try (exact nomatch (show false = true from h))
    rcases l with _ | ⟨y, _ | ⟨y2, l⟩⟩ <;> try (exact nomatch (show false = true from h))
    have h : (decide (o' = cmS q) && okX T N c a x && okX T N c b y && !behindInMarks o' y) = true := h
    simp only [Bool.and_eq_true, decide_eq_true_eq, Bool.not_eq_true'] at h
    obtain ⟨⟨⟨rfl, h1⟩, h2⟩, h3⟩ := h
    exact ⟨pe_imp (pe_cmpR (op_cmp o.hK o.un q) (sndX a x o f h1).pe (sndX b y o f h2).pe h3) (tX_two fun _ _ _ _ r => r), pt_imp (pt_cmpR (op_cmp o.hK o.un q) (sndX a x o f h1).pe (sndX b y o f h2).pe h3) (tT_two fun _ _ _ _ r => r)⟩
  | .chain q q2 a b d, c, X, W, e, o, f, h => by
    cases e <;> try (exact nomatch (show false = true from h))
    rename_i x ops l p
    rcases ops with _ | ⟨o', _ | ⟨o2, _ | ⟨o3, ops⟩⟩⟩ <;> try (exact nomatch (show false = true from h))
    rcases l with _ | ⟨y, _ | ⟨z, _ | ⟨z2, l⟩⟩⟩ <;> try (exact nomatch (show false = true from h))
    have h : (decide (o' = cmS q) && decide (o2 = cmS q2) && okX T N c a x && okX T N c b y && okX T N c d z && !lastMarks [o', o2] [y, z]) = true := h
    simp only [Bool.and_eq_true, decide_eq_true_eq, Bool.not_eq_true'] at h
    obtain ⟨⟨⟨⟨⟨rfl, rfl⟩, h1⟩, h2⟩, h3⟩, h4⟩ := h
    exact ⟨pe_imp (pe_chain (op_cmp o.hK o.un q) (op_cmp o.hK o.un q2) (sndX a x o f h1).pe (sndX b y o f h2).pe (sndX d z o f h3).pe h4) tX_chain,
      pt_imp (pt_chain (op_cmp o.hK o.un q) (op_cmp o.hK o.un q2) (sndX a x o f h1).pe (sndX b y o f h2).pe (sndX d z o f h3).pe h4) fun σ H Q hq => tX_chain σ H _ (tX_tB σ H Q hq)⟩
  | .tup es, c, X, W, e, o, f, h => by
    cases e <;> try (exact nomatch (show false = true from h))
    rename_i l k p
    have h : okXs T N c es l = true := h
    exact .val (pe_imp (pe_tup (sndXs es l o f h)) tX_tup) (fun _ => rfl)
  | .lst es, c, X, W, e, o, f, h => by
    cases e <;> try (exact nomatch (show false = true from h))
    rename_i l p
    have h : okXs T N c es l = true := h
    exact .val (pe_imp (pe_lst (sndXs es l o f h)) tX_lst) (fun _ => rfl)
  | .idx a i, c, X, W, e, o, f, h => by
    cases e <;> try (exact nomatch (show false = true from h))
    rename_i x y p
    have h : (okX T N c a x && okX T N c i y && noSlice y) = true := h
    simp only [Bool.and_eq_true] at h
    have pl : PlainIx y := fun _ _ => by
      have := h.2
      cases y <;> first | rfl | (exact nomatch (show false = true from this))
    exact .val (pe_imp (pe_ix (ix_all o.hK (by have := o.un; omega)) (sndX a x o f h.1.1).pe (sndX i y o f h.1.2).pe pl) (tX_two fun _ _ _ _ r => r)) (fun _ => rfl)
  | .sl a lo hi, c, X, W, e, o, f, h => by
    cases e <;> try (exact nomatch (show false = true from h))
    rename_i x y p
    cases y <;> try (exact nomatch (show false = true from h))
    rename_i l u st p2
    cases st <;> try (exact nomatch (show false = true from h))
    have h : (okX T N c a x && okPart (okX T N c lo) lo.isNon l && okPart (okX T N c hi) hi.isNon u) = true := h
    simp only [Bool.and_eq_true] at h
    obtain ⟨⟨h1, h2⟩, h3⟩ := h
    obtain ⟨tl, pl, il⟩ := part_ok lo l (fun e _ he => sndX lo e o f he) h2
    obtain ⟨th, ph, ih⟩ := part_ok hi u (fun e _ he => sndX hi e o f he) h3
    refine .val (pe_imp (pe_slice (sl_all (X := X)) (sndX a x o f h1).pe pl ph) fun σ H Q hq => ?_) (fun _ => rfl)
    exact tX_mono (tX_sl (N := N) (W := W) σ H Q hq) fun v H1 h1 => il σ H1 _ (tX_mono h1 fun l H2 ⟨a, e1, h2⟩ => ⟨a, e1, ih σ H2 _ (tX_mono h2 fun u H3 ⟨b, e2, h3⟩ => ⟨b, e2, rSl_all o.hK h3⟩)⟩)
  | .srt a, c, X, W, e, o, f, h => by
    cases e <;> try (exact nomatch (show false = true from h))
    rename_i fn l kw p
    cases fn <;> try (exact nomatch (show false = true from h))
    rename_i x p2
    cases l with
    | nil => exact nomatch (show false = true from h)
    | cons y l =>
      cases y <;> try (cases l <;> exact nomatch (show false = true from h))
      rename_i fn2 l2 kw2 p3
      cases fn2 <;> try (cases l <;> exact nomatch (show false = true from h))
      rename_i y p4
      cases l2 with
      | nil => cases l <;> exact nomatch (show false = true from h)
      | cons z l2 =>
        cases l2 with
        | cons => cases l <;> exact nomatch (show false = true from h)
        | nil =>
          cases kw2 with
          | cons => cases l <;> exact nomatch (show false = true from h)
          | nil =>
            cases l with
            | cons => exact nomatch (show false = true from h)
            | nil =>
              cases kw with
              | cons => exact nomatch (show false = true from h)
              | nil =>
                have h' : (decide (x = "sorted") && decide (y = "set") && glB c.sc x && glB c.sc y && okX T N c a z && plainE z && !c.hot) = true := h
                simp only [Bool.and_eq_true, decide_eq_true_eq, Bool.not_eq_true'] at h'
                obtain ⟨⟨⟨⟨⟨⟨rfl, rfl⟩, h3⟩, h4⟩, h5⟩, h6⟩, h7⟩ := h'
                refine .val (pe_imp (pe_srt (o.calm h7) (gl_of o.sc h3) (o.blt _ (by decide)) (gl_of o.sc h4) (o.blt _ (by decide)) (sndX a z o f h5).pe (starE h6)) ?_) (fun _ => rfl)
                rw [o.hK]
                exact tX_one fun _ _ _ r => srt_all r
  | .lns a, c, X, W, e, o, f, h => by
    cases e <;> try (exact nomatch (show false = true from h))
    rename_i fn l kw p
    cases fn <;> try (exact nomatch (show false = true from h))
    rename_i x p2
    cases l with
    | nil => exact nomatch (show false = true from h)
    | cons y l =>
      cases y <;> try (cases l <;> exact nomatch (show false = true from h))
      rename_i fn2 l2 kw2 p3
      cases fn2 <;> try (cases l <;> exact nomatch (show false = true from h))
      rename_i y p4
      cases l2 with
      | nil => cases l <;> exact nomatch (show false = true from h)
      | cons z l2 =>
        cases l2 with
        | cons => cases l <;> exact nomatch (show false = true from h)
        | nil =>
          cases kw2 with
          | cons => cases l <;> exact nomatch (show false = true from h)
          | nil =>
            cases l with
            | cons => exact nomatch (show false = true from h)
            | nil =>
              cases kw with
              | cons => exact nomatch (show false = true from h)
              | nil =>
                have h' : (decide (x = "len") && decide (y = "set") && glB c.sc x && glB c.sc y && okX T N c a z && plainE z && !c.hot) = true := h
                simp only [Bool.and_eq_true, decide_eq_true_eq, Bool.not_eq_true'] at h'
                obtain ⟨⟨⟨⟨⟨⟨rfl, rfl⟩, h3⟩, h4⟩, h5⟩, h6⟩, h7⟩ := h'
                refine .val (pe_imp (pe_lenS (o.calm h7) (gl_of o.sc h3) (o.blt _ (by decide)) (gl_of o.sc h4) (o.blt _ (by decide)) (sndX a z o f h5).pe (starE h6)) ?_) (fun _ => rfl)
                rw [o.hK]
                exact tX_one fun _ _ _ r => lns_all r
  | .rev a, c, X, W, e, o, f, h => by
    cases e <;> try (exact nomatch (show false = true from h))
    rename_i x y p
    cases y <;> try (exact nomatch (show false = true from h))
    rename_i l u st p2
    cases l <;> try (exact nomatch (show false = true from h))
    cases u <;> try (exact nomatch (show false = true from h))
    cases st <;> try (exact nomatch (show false = true from h))
    rename_i y
    cases y <;> try (exact nomatch (show false = true from h))
    rename_i uo y p3
    cases uo <;> try (exact nomatch (show false = true from h))
    cases y <;> try (exact nomatch (show false = true from h))
    rename_i cc kk p4
    cases cc <;> try (exact nomatch (show false = true from h))
    rename_i i
    have h : (decide (i = 1) && okX T N c a x) = true := h
    simp only [Bool.and_eq_true, decide_eq_true_eq] at h
    obtain ⟨rfl, h⟩ := h
    exact .val (pe_imp (pe_revA (sndX a x o f h).pe) (tX_one fun x H Q h => by rw [o.hK]; exact rev_all h)) (fun _ => rfl)
  | .attr a g, c, X, W, e, o, f, h => by
    cases e <;> try (exact nomatch (show false = true from h))
    rename_i x y p
    have h : (okX T N c a x && decide (y = N.nm g) && noCall x) = true := h
    simp only [Bool.and_eq_true, decide_eq_true_eq] at h
    obtain ⟨⟨h1, rfl⟩, h2⟩ := h
    exact .val (pe_imp (pe_fld (sndX a x o f h1).pe (noCall_base h2)) fun σ H Q hq => by rw [o.hK]; exact tX_fld o σ H Q hq) (fun _ => rfl)
  | .dct ks vs, c, X, W, e, o, f, h => by
    cases e <;> try (exact nomatch (show false = true from h))
    rename_i kl vl p
    have h' : (okDs ks vs kl vl && decide (kl.length ≤ 15)) = true := h
    simp only [Bool.and_eq_true, decide_eq_true_eq] at h'
    have hm := okDs_mark h'.1
    have ev : evX G F (.dct ks vs) = M.of ((dispD ks vs []).map fun l => .d (.dct l)) := if_neg (by rw [hm]; decide)
    exact .val (by rw [ev]; exact pe_dct h'.1 h'.2) (fun _ => rfl)
  | .new x, c, X, W, e, o, f, h => by
    have h : okN T N c x e = true := h
    obtain ⟨g1, g2⟩ := sndN x e o f h
    exact .val (pe_imp g1 tX_new) g2
  | .bad, c, X, W, e, o, f, h => ⟨⟨fun _ _ σ H Q _ h => by obtain ⟨_, _, _, _, z⟩ := h; exact z.elim⟩, ⟨fun _ _ σ H Q _ h => by obtain ⟨_, _, _, _, z⟩ := h; exact z.elim⟩⟩
  | .mk k es, c, X, W, e, o, f, h => by
    cases hg : G.ini k with
    | none =>
      have ev : evX G F (.mk k es) = stk := by
        show M.bind (M.of (G.ini k)) _ = _
        rw [hg]; rfl
      rw [ev]
      exact good_stk
    | some g =>
      have ev : evX G F (.mk k es) = M.bind (evDs G F es) fun as => M.bind (mkObj F k g as) fun x => M.pure (.d x) := by
        show M.bind (M.of (G.ini k)) _ = _
        rw [hg]; rfl
      rw [ev]
      cases e <;> try (exact nomatch (show false = true from h))
      rename_i fn l kw p
      cases fn <;> try (exact nomatch (show false = true from h))
      rename_i x p2
      cases kw with
      | cons => exact nomatch (show false = true from h)
      | nil =>
        have h' : (decide (T.cls[k]? = some x) && glB c.sc x && dbgB x && okXs T N c es l && !c.hot) = true := h
        simp only [Bool.and_eq_true, decide_eq_true_eq, Bool.not_eq_true'] at h'
        obtain ⟨⟨⟨⟨h1, h2⟩, h3⟩, h4⟩, h5⟩ := h'
        obtain ⟨fa, fd, ps, kk, m0, m1, m4, ⟨m2, m3, m5, m6⟩⟩ := (f h5).mak k g hg
        exact .val (pe_imp (pe_makeS m1 m5 m4 (gl_of o.sc h2) (o.cls k x h1) m3 (passAt o.tk) (sndXs es l o f h4) (dbg_of h3).1 (args_of es l h4)) (tX_mk m6)) (fun _ => rfl)
  | .mkN _ _, c, X, W, e, o, f, h => nomatch (show false = true from h)
  | .meth q k a m es, c, X, W, e, o, f, h => by
    cases hg : G.meth k m with
    | none =>
      have ev : evX G F (.meth q k a m es) = stk := by
        show M.bind (M.of (G.meth k m)) _ = _
        rw [hg]; rfl
      rw [ev]
      exact good_stk
    | some g =>
      have ev : evX G F (.meth q k a m es) = M.bind (evX G F a) fun x => M.bind x.store fun x => M.bind (insM k m x) fun _ => M.bind (evDs G F es) fun as => M.bind (doCall q (F g) (x :: as)) fun x => M.pure (.d x) := by
        show M.bind (M.of (G.meth k m)) _ = _
        rw [hg]; rfl
      cases e <;> try (exact nomatch (show false = true from h))
      · rename_i x ops ys p
        rcases ops with _ | ⟨op, _ | ⟨op2, ops⟩⟩
        · exact nomatch (show false = true from h)
        · cases op <;> try (exact nomatch (show false = true from h))
          rcases ys with _ | ⟨y, _ | ⟨y2, ys⟩⟩
          · exact nomatch (show false = true from h)
          · match q, es, h with
            | .eqo ds, .cons b .nil, h =>
              have h' : (ds.all (T.nsb k) && decide (N.nm m = "__eq__") && okX T N c a x && okX T N c b y && !behindInMarks .Eq y && !c.hot) = true := h
              simp only [Bool.and_eq_true, decide_eq_true_eq, Bool.not_eq_true'] at h'
              obtain ⟨⟨⟨⟨⟨h0, h2⟩, h3⟩, h4⟩, h5⟩, h6⟩ := h'
              have hds : ∀ d ∈ ds, PySem.W.subIn N.K (.ref (N.cl d)) (.ref (N.cl k)) = some false := fun d hd => o.nsb k d (List.all_eq_true.mp h0 d hd)
              have ev2 : evX G F (.meth (.eqo ds) k a m (.cons b .nil)) = eqM G F ds k m g (evX G F a) (evX G F b) := by
                show M.bind (M.of (G.meth k m)) _ = _
                rw [hg]; rfl
              rw [ev2]
              obtain ⟨fa, fd, ps, kk, m0, m1, m4, ⟨m2, m3, m5, m6⟩⟩ := (f h6).mt k m g hg
              rw [h2] at m1
              have g1 := (sndX a x o f h3).pe
              have g2 := (sndX b y o f h4).pe
              have rm := m4.mono (Nat.le_succ kk)
              exact ⟨pe_imp (pe_eqS m1 m5 rm m3 (passAt o.tk) g1 g2 h5) (by rw [o.hK]; exact tX_eqS o.nm hds m6), pt_imp (pt_eqS m1 m5 rm m3 (passAt o.tk) g1 g2 h5) (by rw [o.hK]; exact fun σ H Q h => tX_eqS o.nm hds m6 σ H _ (tX_tB σ H Q h))⟩
          · exact nomatch (show false = true from h)
        · cases op <;> exact nomatch (show false = true from h)
      rw [ev]
      rename_i fn l kw cp
      cases fn <;> try (exact nomatch (show false = true from h))
      rename_i x n ap
      cases kw with
      | cons => exact nomatch (show false = true from h)
      | nil =>
        have h' : (decide (n = N.nm m) && noCall x && (ap.endLine == cp.line) && decide (l.length < 28) && okX T N c a x && okXs T N c es l && !c.hot) = true := h
        simp only [Bool.and_eq_true, decide_eq_true_eq, Bool.not_eq_true'] at h'
        obtain ⟨⟨⟨⟨⟨⟨rfl, h3⟩, h4⟩, h5⟩, h6⟩, h7⟩, h8⟩ := h'
        obtain ⟨fa, fd, ps, kk, m0, m1, m4, ⟨m2, m3, m5, m6⟩⟩ := (f h8).mt k m g hg
        have hb : attributeBase x (N.nm m) X.env (eval x X.env) = eval x X.env := noCall_base h3
        have hcl : Cls X.K (N.cl k) := by rw [o.hK]; exact (o.fld k (by rw [o.ncl]; exact m0)).1
        exact .val (pe_imp (pe_methA (sndX a x o f h6).pe hcl m1 m5 (m4.mono (Nat.le_succ _)) m3 (passAt o.tk) (sndXs es l o f h7) (args_of es l h7) (eval_meth hb (starFew _ _ h7 h5) h4)) (tX_meth o.nm m6)) (fun _ => rfl)
  | .bm m a es, c, X, W, e, o, f, h => by
    cases e <;> try (exact nomatch (show false = true from h))
    rename_i fn l kw cp
    cases fn <;> try (exact nomatch (show false = true from h))
    rename_i x n ap
    rcases l with _ | ⟨y, _ | ⟨z, _ | ⟨z2, l⟩⟩⟩ <;> try (cases kw <;> exact nomatch (show false = true from h))
    · cases kw with
      | cons => exact nomatch (show false = true from h)
      | nil =>
        have h' : (((decide (m = .index) && decide (n = "index")) || (decide (m = .count) && decide (n = "count"))) && noCall x && (ap.endLine == cp.line) && okX T N c a x && okXs T N c es [y]) = true := h
        simp only [Bool.and_eq_true, Bool.or_eq_true, decide_eq_true_eq] at h'
        obtain ⟨⟨⟨⟨h0, h3⟩, h4⟩, h5⟩, h6⟩ := h'
        cases es with
        | nil => exact nomatch (show false = true from h6)
        | cons e es =>
          have h8 : (okX T N c e y && plainE y && okXs T N c es []) = true := h6
          simp only [Bool.and_eq_true] at h8
          rcases h0 with ⟨rfl, rfl⟩ | ⟨rfl, rfl⟩
          rotate_left
          · exact .val (pe_imp (pe_bm PySem.F.plainAttrs_list PySem.F.slot_list_count rfl (mt_countP o.hK o.un) (sndX a x o f h5).pe (sndXs (.cons e es) [y] o f h6) (noCall_base h3) (starFew _ _ h6 (by show 1 < 28; omega)) h4 (starE h8.1.2) (starAll es [] h8.2)) (by rw [o.hK]; exact tX_count)) (fun _ => rfl)
          exact .val (pe_imp (pe_bm PySem.F.plainAttrs_list PySem.F.slot_list_index rfl (mt_indexP o.hK o.un) (sndX a x o f h5).pe (sndXs (.cons e es) [y] o f h6) (noCall_base h3) (starFew _ _ h6 (by show 1 < 28; omega)) h4 (starE h8.1.2) (starAll es [] h8.2)) (by rw [o.hK]; exact tX_index)) (fun _ => rfl)
    cases kw with
    | cons => exact nomatch (show false = true from h)
    | nil =>
      have h' : (decide (m = .get) && decide (n = "get") && noCall x && (ap.endLine == cp.line) && okX T N c a x && okXs T N c es [y, z]) = true := h
      simp only [Bool.and_eq_true, decide_eq_true_eq] at h'
      obtain ⟨⟨⟨⟨⟨rfl, rfl⟩, h3⟩, h4⟩, h5⟩, h6⟩ := h'
      rcases es with _ | ⟨e1, _ | ⟨e2, _ | ⟨e3, es⟩⟩⟩
      · exact nomatch (show false = true from h6)
      · have h7 : (okX T N c e1 y && plainE y && okXs T N c .nil [z]) = true := h6
        simp only [Bool.and_eq_true] at h7
        exact nomatch (show false = true from h7.2)
      · have h7 : (okX T N c e1 y && plainE y && (okX T N c e2 z && plainE z && okXs T N c .nil [])) = true := h6
        simp only [Bool.and_eq_true] at h7
        have hb : attributeBase x "get" X.env (eval x X.env) = eval x X.env := noCall_base h3
        have mm : M2 X x "get" ap y z cp := ⟨hb, starFew (.cons e1 (.cons e2 .nil)) [y, z] h6 (by show 2 < 28; omega), h4, by rw [starE h7.1.2, starE h7.2.1.2]; rfl⟩
        refine .val (pe_imp (pe_dget2 (by have := o.un; omega) (sndX a x o f h5).pe (sndX e1 y o f h7.1.1).pe (sndX e2 z o f h7.2.1.1).pe mm) fun σ H Q hq => ?_) (fun _ => rfl)
        refine tX_mono (tX_dget σ H Q hq) fun v H1 ⟨ad, e, d1, h8⟩ => ⟨ad, e, d1, ?_⟩
        refine tX_mono (tAs_cons σ H1 _ h8) fun v1 H2 h9 => ?_
        refine tX_mono (tAs_cons σ H2 _ h9) fun v2 H3 h10 => ?_
        obtain ⟨yy, zz, oo, e2, d2, q⟩ := tAs_nil σ H3 _ h10
        injection e2 with e2 e3
        injection e3 with e3 e4
        subst e2
        subst e3
        exact ⟨oo, d2, q⟩
      · have h7 : (okX T N c e1 y && plainE y && (okX T N c e2 z && plainE z && okXs T N c (.cons e3 es) [])) = true := h6
        simp only [Bool.and_eq_true] at h7
        exact nomatch (show false = true from h7.2.2)
  | .mm m a es, c, X, W, e, o, f, h => by
    cases e <;> try (exact nomatch (show false = true from h))
    rename_i fn l kw cp
    cases fn <;> try (exact nomatch (show false = true from h))
    rename_i x n ap
    cases kw with
    | cons => exact nomatch (show false = true from h)
    | nil =>
      have h' : (decide (n = mmName m) && mmOk m && noCall x && (ap.endLine == cp.line) && decide (l.length < 28) && okX T N c a x && okXs T N c es l) = true := h
      simp only [Bool.and_eq_true, decide_eq_true_eq] at h'
      obtain ⟨⟨⟨⟨⟨⟨rfl, h2⟩, h3⟩, h4⟩, h5⟩, h6⟩, h7⟩ := h'
      have g := sndX a x o f h6
      have as := sndXs es l o f h7
      have hb : attributeBase x (mmName m) X.env (eval x X.env) = eval x X.env := noCall_base h3
      refine .val ?_ (fun _ => rfl)
      cases l with
      | nil =>
        cases es with
        | cons => exact nomatch (show false = true from h7)
        | nil => exact pe_mm0 o.hK h2 g.pe hb h4
      | cons y l =>
        cases es with
        | nil => exact nomatch (show false = true from h7)
        | cons e es =>
          have h8 : (okX T N c e y && plainE y && okXs T N c es l) = true := h7
          simp only [Bool.and_eq_true] at h8
          exact pe_imp (pe_mm h2 g.pe as hb h4 (starFew _ _ h7 h5) (starE h8.1.2) (starAll es l h8.2)) (by rw [o.hK]; exact tX_mm h2)
  | .ext _ _, c, X, W, e, o, f, h => nomatch (show false = true from h)
  | .sdef a k, c, X, W, e, o, f, h => by
    cases e <;> try (exact nomatch (show false = true from h))
    rename_i fn l kw cp
    cases fn <;> try (exact nomatch (show false = true from h))
    rename_i x n ap
    rcases l with _ | ⟨y, _ | ⟨z, _ | ⟨z2, l⟩⟩⟩ <;> try (cases kw <;> exact nomatch (show false = true from h))
    rotate_left
    · cases z <;> try (cases kw <;> exact nomatch (show false = true from h))
      rename_i zl zp
      cases zl <;> exact nomatch (show false = true from h)
    cases z <;> try (cases kw <;> exact nomatch (show false = true from h))
    rename_i zl zp
    cases zl with
    | cons => cases kw <;> exact nomatch (show false = true from h)
    | nil =>
      cases kw with
      | cons => exact nomatch (show false = true from h)
      | nil =>
        have h' : (decide (n = "setdefault") && noCall x && (ap.endLine == cp.line) && okX T N c a x && okX T N c k y && plainE y) = true := h
        simp only [Bool.and_eq_true, decide_eq_true_eq] at h'
        obtain ⟨⟨⟨⟨⟨rfl, h3⟩, h4⟩, h5⟩, h6⟩, h7⟩ := h'
        have mm : M2 X x "setdefault" ap y (.List [] zp) cp := ⟨noCall_base h3, starFew (T := T) (N := N) (c := c) (.cons k (.cons (.lst .nil) .nil)) [y, .List [] zp] (by
          show (okX T N c k y && plainE y && true) = true
          rw [h6, h7]; rfl) (by show 2 < 28; omega), h4, by rw [starE h7, starE (e := .List [] zp) rfl]; rfl⟩
        exact .val (pe_imp (pe_dsetd (sndX a x o f h5).pe (sndX k y o f h6).pe pe_new0 mm) tX_sdef) (fun _ => rfl)
  | .call q g es, c, X, W, e, o, f, h => by
    cases e <;> try (exact nomatch (show false = true from h))
    rename_i fn l kw p
    cases fn <;> try (exact nomatch (show false = true from h))
    rename_i x p2
    cases kw with
    | cons => cases l <;> exact nomatch (show false = true from h)
    | nil =>
      have h' : (decide (T.fn g = some x) && glB c.sc x && dbgB x && okXs T N c es l && !c.hot) = true := by cases l <;> exact h
      simp only [Bool.and_eq_true, decide_eq_true_eq, Bool.not_eq_true'] at h'
      obtain ⟨⟨⟨⟨h1, h2⟩, h3⟩, h4⟩, h5⟩ := h'
      obtain ⟨fa, fd, ps, k, m1, m4, ⟨m2, m3, m5, m6⟩⟩ := (f h5).fn g x h1
      have a := sndXs es l o f h4
      refine .val (pe_imp (t := tCallS (spF N ps.length (F g)) (WE W) (tAs N W (evDs G F es))) ?_ (tX_call m6)) (fun _ => rfl)
      cases l with
      | nil =>
        cases es with
        | cons => exact nomatch (show false = true from h4)
        | nil =>
          refine pe_imp (pe_callS0 m5 m4 (gl_of o.sc h2) m1 m2 m3 (passAt o.tk) (dbg_of h3).1) fun σ H Q hq => ?_
          exact tAs_nil σ H _ hq
      | cons y l =>
        cases es with
        | nil => exact nomatch (show false = true from h4)
        | cons e es =>
          have h6 : (okX T N c e y && plainE y && okXs T N c es l) = true := h4
          simp only [Bool.and_eq_true] at h6
          exact pe_callS m5 m4 (gl_of o.sc h2) m1 m2 m3 (passAt o.tk) a (dbg_of h3).1 (starE h6.1.2) (starAll es l h6.2)
  | .bi b es, c, X, W, e, o, f, h => by
    cases e <;> try (exact nomatch (show false = true from h))
    rename_i fn l kw p
    cases fn <;> try (exact nomatch (show false = true from h))
    rename_i x p2
    cases kw with
    | cons => cases l <;> exact nomatch (show false = true from h)
    | nil =>
      cases l with
      | nil => exact nomatch (show false = true from h)
      | cons y l =>
        have h' : (decide (x = biName b) && biOk b && glB c.sc x && okXs T N c es (y :: l) && !c.hot) = true := h
        simp only [Bool.and_eq_true, decide_eq_true_eq, Bool.not_eq_true'] at h'
        obtain ⟨⟨⟨⟨rfl, h2⟩, h3⟩, h4⟩, h5⟩ := h'
        have a := sndPs es (y :: l) o f h4
        cases es with
        | nil => exact nomatch (show false = true from h4)
        | cons e es =>
          have h6 : (okX T N c e y && plainE y && okXs T N c es l) = true := h4
          simp only [Bool.and_eq_true] at h6
          exact .val (pe_imp (pe_bi h2 (call_bi o.hK o.un (o.calm h5) b h2) (gl_of o.sc h3) (o.blt _ mem_blt) a (starE h6.1.2) (starAll es l h6.2)) (tX_bi fun _ _ _ r => r)) (fun _ => rfl)
  | .rg t a b, c, X, W, e, o, f, h => by
    cases e <;> try (exact nomatch (show false = true from h))
    rename_i fn l kw p
    cases fn <;> try (exact nomatch (show false = true from h))
    rename_i x p2
    rcases l with _ | ⟨z, _ | ⟨z2, l⟩⟩ <;> try (cases kw <;> exact nomatch (show false = true from h))
    cases kw with
    | cons => exact nomatch (show false = true from h)
    | nil =>
      have h' : (decide (x = if t = true then "tuple" else "list") && glB c.sc x && !c.hot && okRg (okX T N c a) (okX T N c b) (isZero a) (rgArgs c z)) = true := h
      simp only [Bool.and_eq_true, decide_eq_true_eq, Bool.not_eq_true'] at h'
      obtain ⟨⟨⟨rfl, h3⟩, h8⟩, hr⟩ := h'
      rcases hl : rgArgs c z with _ | ⟨y, _ | ⟨y2, _ | ⟨y3, l⟩⟩⟩ <;> rw [hl] at hr <;> try (exact nomatch (show false = true from hr))
      · obtain ⟨p4, p3, rfl, h4⟩ := rgArgs_inv hl
        have hr : (isZero a && okX T N c b y && plainE y) = true := hr
        simp only [Bool.and_eq_true] at hr
        obtain ⟨⟨h5, h6⟩, h7⟩ := hr
        have ea : evX G F a = M.pure (PV.d (.int 0)) := by
          cases a <;> try (exact nomatch (show false = true from h5))
          rename_i i
          have h5 : decide (i = 0) = true := h5
          obtain rfl := of_decide_eq_true h5
          rfl
        have g := prg_1 (p := p4) (pos := p3) (gl_of o.sc h4) (o.blt _ (by decide)) (sndX b y o f h6).pe (starE h7)
        have key : ∀ σ H Q, tX N W (evX G F (.rg t a b)) σ H Q → (if t = true then tTupRg (tRg1 (tX N W (evX G F b))) else tLstRg (tRg1 (tX N W (evX G F b)))) σ H Q := fun σ H Q hq => by
          have hq : tX N W (M.bind (evX G F a) fun x => M.bind (evX G F b) fun y => M.of (((rngF x y).bind (rgF t)).map PV.d)) σ H Q := hq
          rw [ea] at hq
          exact tX_rg0 σ H Q hq
        cases t with
        | true => exact .val (pe_imp (pe_tupRg (o.calm h8) (gl_of o.sc h3) (o.blt _ (by decide)) g) key) (fun _ => rfl)
        | false => exact .val (pe_imp (pe_listRg (o.calm h8) (gl_of o.sc h3) (o.blt _ (by decide)) g) key) (fun _ => rfl)
      · obtain ⟨p4, p3, rfl, h4⟩ := rgArgs_inv hl
        have hr : (okX T N c a y && plainE y && okX T N c b y2 && plainE y2) = true := hr
        simp only [Bool.and_eq_true] at hr
        obtain ⟨⟨⟨h5, h7⟩, h6⟩, h7'⟩ := hr
        have g := prg_2 (p := p4) (pos := p3) (gl_of o.sc h4) (o.blt _ (by decide)) (sndX a y o f h5).pe (sndX b y2 o f h6).pe (starE h7) (starE h7') (by rw [starE h7']; rfl)
        have key := tX_rg (N := N) (W := W) (t := t) (ma := evX G F a) (mb := evX G F b)
        cases t with
        | true => exact .val (pe_imp (pe_tupRg (o.calm h8) (gl_of o.sc h3) (o.blt _ (by decide)) g) key) (fun _ => rfl)
        | false => exact .val (pe_imp (pe_listRg (o.calm h8) (gl_of o.sc h3) (o.blt _ (by decide)) g) key) (fun _ => rfl)
  | .rg3 a b d, c, X, W, e, o, f, h => by
    cases e <;> try (exact nomatch (show false = true from h))
    rename_i fn l kw p
    cases fn <;> try (exact nomatch (show false = true from h))
    rename_i x p2
    rcases l with _ | ⟨z, _ | ⟨z2, l⟩⟩ <;> try (cases kw <;> exact nomatch (show false = true from h))
    cases kw with
    | cons => exact nomatch (show false = true from h)
    | nil =>
      have h' : (decide (x = "tuple") && glB c.sc x && !c.hot && okRg3 (okX T N c a) (okX T N c b) (okX T N c d) (rgArgs c z)) = true := h
      simp only [Bool.and_eq_true, decide_eq_true_eq, Bool.not_eq_true'] at h'
      obtain ⟨⟨⟨rfl, h3⟩, h8⟩, hr⟩ := h'
      rcases hl : rgArgs c z with _ | ⟨y1, _ | ⟨y2, _ | ⟨y3, _ | ⟨y4, l⟩⟩⟩⟩ <;> rw [hl] at hr <;> try (exact nomatch (show false = true from hr))
      obtain ⟨p4, p3, rfl, h4⟩ := rgArgs_inv hl
      have hr : (okX T N c a y1 && plainE y1 && okX T N c b y2 && plainE y2 && okX T N c d y3 && plainE y3) = true := hr
      simp only [Bool.and_eq_true] at hr
      obtain ⟨⟨⟨⟨⟨h5, q1⟩, h6⟩, q2⟩, h7⟩, q3⟩ := hr
      have pa := pa_cons (sndX a y1 o f h5).pe (pa_cons (sndX b y2 o f h6).pe (pa_cons (sndX d y3 o f h7).pe (pa_nil (X := X)) (starE q3)) (starE q2)) (starE q1)
      exact .val (pe_imp (pe_tupRg3 (o.calm h8) (gl_of o.sc h3) (o.blt _ (by decide)) (gl_of o.sc h4) (o.blt _ (by decide)) pa (starE q1) (fun pos => by rw [starE q2, starE q3]; rfl)) tX_rg3) (fun _ => rfl)
  | .isi a ts, c, X, W, e, o, f, h => by
    cases e <;> try (exact nomatch (show false = true from h))
    rename_i fn l kw p
    cases fn <;> try (exact nomatch (show false = true from h))
    rename_i x p2
    rcases l with _ | ⟨y, _ | ⟨z, _ | ⟨z2, l⟩⟩⟩ <;> try (cases kw <;> exact nomatch (show false = true from h))
    cases kw with
    | cons => exact nomatch (show false = true from h)
    | nil =>
      have h' : (decide (x = "isinstance") && glB c.sc x && okX T N c a y && plainE y && okIsi T c ts z) = true := h
      simp only [Bool.and_eq_true, decide_eq_true_eq] at h'
      obtain ⟨⟨⟨⟨rfl, h2⟩, h3⟩, h4⟩, h5⟩ := h'
      have g := sndX a y o f h3
      have two : (∀ t, ts ≠ [t]) → ∃ l k p, z = .Tuple l k p ∧ okTys T c ts l = true ∧ ts.length ≤ 100 := fun hne => by
        have h6 : okTysE T c ts z = true := by
          rcases ts with _ | ⟨t, _ | ⟨t2, ts⟩⟩
          · exact h5
          · exact absurd rfl (hne t)
          · exact h5
        cases z <;> try (exact nomatch (show false = true from h6))
        rename_i l k p
        have h6 : (okTys T c ts l && decide (ts.length ≤ 100)) = true := h6
        simp only [Bool.and_eq_true, decide_eq_true_eq] at h6
        exact ⟨l, k, p, rfl, h6.1, h6.2⟩
      have many : (∀ t, ts ≠ [t]) → Good N W X (.Call (.Name "isinstance" p2) [y, z] [] p) (evX G F (.isi a ts)) := fun hne => by
        obtain ⟨l, k, p, rfl, h6, h7⟩ := two hne
        obtain ⟨q1, q2⟩ := okTys_pa o ts l h6
        have pa := pa_cons g.pe (pa_cons (pe_tup (x1 := k) (pos := p) q1) (pa_nil (X := X)) (starE (e := .Tuple l k p) rfl)) (starE h4)
        exact .val (pe_imp (pe_callB (call_isiT (X := X)) (gl_of o.sc h2) (o.blt _ (by decide)) (by decide +kernel) pa (by decide) (by decide) (starE h4) (by rw [starE (e := .Tuple l k p) rfl]; rfl)) (by rw [o.hK]; exact tX_isiT o q2 h7)) (fun _ => rfl)
      rcases ts with _ | ⟨t, _ | ⟨t2, ts⟩⟩
      · exact many (fun t e => by cases e)
      · have h5 : okTy T c t z = true := h5
        obtain ⟨q1, q2⟩ := okTy_pe o h5
        have pz : plainE z = true := by cases z <;> first | rfl | (cases t <;> exact nomatch (show false = true from h5))
        have pa := pa_cons g.pe (pa_cons q1 (pa_nil (X := X)) (starE pz)) (starE h4)
        exact .val (pe_imp (pe_callB (call_isi (X := X)) (gl_of o.sc h2) (o.blt _ (by decide)) (by decide +kernel) pa (by decide) (by decide) (starE h4) (by rw [starE pz]; rfl)) (by rw [o.hK]; exact tX_isi1 o q2)) (fun _ => rfl)
      · exact many (fun t e => by cases e)
  | .lc elt tg it ifs own, c, X, W, e, o, f, h => by
    cases e <;> try (exact nomatch (show false = true from h))
    rename_i x gs sc p
    rcases gs with _ | ⟨⟨t, i, l, k⟩, _ | ⟨g2, gs⟩⟩ <;> try (exact nomatch (show false = true from h))
    · have h' : (decide (k = 0) && blkC c.N c.sc sc (ownOf c.N own) && decide ((ownOf c.N own).map (·.2) = own) && (okIt T N c it t i || okKeys c it i) && okTg (c.blk sc) tg t && (tgSl tg).all (fun i => own.contains i) && okQs T N (c.blk sc) ifs l && okX T N (c.blk sc) elt x && !c.hot && noSet i) = true := h
      simp only [Bool.and_eq_true, decide_eq_true_eq, Bool.not_eq_true', Bool.or_eq_true] at h'
      obtain ⟨⟨⟨⟨⟨⟨⟨⟨⟨rfl, h1⟩, h2⟩, h3⟩, h4⟩, h5⟩, h6⟩, h7⟩, h8⟩, h9⟩ := h'
      have pl : ∀ wi : TI, PI X t i wi → PE X (.ListComp x [⟨t, i, l, 0⟩] sc p) (tLc wi (gTg N.K tg) (tT N Wf (evQs G F ifs)) (tX N Wf (evX G F elt)) own) := fun wi pi => by
        have := pe_lc (X := X) (own := ownOf c.N own) (pos := p) (o.calm h8) (by rw [o.hN]; exact o.nd) pi (blkOk_by (by rw [o.hN, o.sc]; exact h1))
          (fun s H C cl fp => pg_core (o.blk s H C cl fp sc).tok o.hK tg t h4)
          (fun s H C cl fp => sndQs ifs l (o.blk s H C cl fp sc) (f.blk s H sc _ fp) h6)
          (fun s H C cl fp => (sndX elt x (o.blk s H C cl fp sc) (f.blk s H sc _ fp) h7).pe)
          (fun y => by cases i <;> first | rfl | (exact nomatch (show false = true from h9)))
        rw [h2] at this
        exact this
      have own5 : ∀ j ∈ tgSl tg, j ∈ own := fun j hj => by
        have := List.all_eq_true.mp h5 j hj
        simpa using this
      rcases h3 with h3 | h3
      · exact .val (pe_imp (pl _ (sndIt it t i o f h3)) (tX_lc own5)) (fun _ => rfl)
      · cases it <;> try (exact nomatch (show false = true from h3))
        rename_i j
        cases i <;> try (exact nomatch (show false = true from h3))
        rename_i y q
        have h3' : (decide (c.N[j]? = some y) && visB c.sc y && dbgB y) = true := h3
        simp only [Bool.and_eq_true, decide_eq_true_eq] at h3'
        obtain ⟨d1, d2, _⟩ := dbg_of h3'.2
        exact .val (pe_imp (pe_lockOr (pl _ (pi_keys (pe_var (by rw [o.hN]; exact h3'.1.1) (vis_of o.sc h3'.1.2) d1 d2)))) (tX_lcK own5)) (fun _ => rfl)
theorem sndN : ∀ (x : Ex) {c : Sx} {X : Cx} {W : WX} (e : Expr), XOk T N G c X W → FnsH T N G c X F → okN T N c x e = true → PE X e (tN N W (evX G F x)) ∧ ∀ whole, isTrue e X.env whole = (do let v ← whole; standAt e.pos; holding [v] (truthy v))
  | .lst es, c, X, W, e, o, f, h => by
    cases e <;> try (exact nomatch (show false = true from h))
    rename_i l p
    have h : okXs T N c es l = true := h
    exact ⟨pe_imp (pe_lst (sndXs es l o f h)) tN_lst, fun _ => rfl⟩
  | .lc elt tg it ifs own, c, X, W, e, o, f, h => by
    cases e <;> try (exact nomatch (show false = true from h))
    rename_i x gs sc p
    rcases gs with _ | ⟨⟨t, i, l, k⟩, _ | ⟨g2, gs⟩⟩ <;> try (exact nomatch (show false = true from h))
    · have h' : (decide (k = 0) && blkC c.N c.sc sc (ownOf c.N own) && decide ((ownOf c.N own).map (·.2) = own) && okIt T N c it t i && okTg (c.blk sc) tg t && (tgSl tg).all (fun i => own.contains i) && okQs T N (c.blk sc) ifs l && okX T N (c.blk sc) elt x && !c.hot && noSet i) = true := h
      simp only [Bool.and_eq_true, decide_eq_true_eq, Bool.not_eq_true'] at h'
      obtain ⟨⟨⟨⟨⟨⟨⟨⟨⟨rfl, h1⟩, h2⟩, h3⟩, h4⟩, h5⟩, h6⟩, h7⟩, h8⟩, h9⟩ := h'
      have pl : PE X (.ListComp x [⟨t, i, l, 0⟩] sc p) (tLc (tI N W (evIt G F it)) (gTg N.K tg) (tT N Wf (evQs G F ifs)) (tX N Wf (evX G F elt)) own) := by
        have := pe_lc (X := X) (own := ownOf c.N own) (pos := p) (o.calm h8) (by rw [o.hN]; exact o.nd) (sndIt it t i o f h3) (blkOk_by (by rw [o.hN, o.sc]; exact h1))
          (fun s H C cl fp => pg_core (o.blk s H C cl fp sc).tok o.hK tg t h4)
          (fun s H C cl fp => sndQs ifs l (o.blk s H C cl fp sc) (f.blk s H sc _ fp) h6)
          (fun s H C cl fp => (sndX elt x (o.blk s H C cl fp sc) (f.blk s H sc _ fp) h7).pe)
          (fun y => by cases i <;> first | rfl | (exact nomatch (show false = true from h9)))
        rw [h2] at this
        exact this
      refine ⟨pe_imp pl (tN_lc fun j hj => ?_), fun _ => rfl⟩
      have := List.all_eq_true.mp h5 j hj
      simpa using this
  | .v _, c, X, W, e, o, f, h => nomatch (show false = true from h)
  | .con _, c, X, W, e, o, f, h => nomatch (show false = true from h)
  | .int _, c, X, W, e, o, f, h => nomatch (show false = true from h)
  | .str _, c, X, W, e, o, f, h => nomatch (show false = true from h)
  | .bl _, c, X, W, e, o, f, h => nomatch (show false = true from h)
  | .non, c, X, W, e, o, f, h => nomatch (show false = true from h)
  | .bin _ _ _, c, X, W, e, o, f, h => nomatch (show false = true from h)
  | .neg _, c, X, W, e, o, f, h => nomatch (show false = true from h)
  | .not _, c, X, W, e, o, f, h => nomatch (show false = true from h)
  | .and _, c, X, W, e, o, f, h => nomatch (show false = true from h)
  | .or _, c, X, W, e, o, f, h => nomatch (show false = true from h)
  | .ife _ _ _, c, X, W, e, o, f, h => nomatch (show false = true from h)
  | .cmp _ _ _, c, X, W, e, o, f, h => nomatch (show false = true from h)
  | .chain _ _ _ _ _, c, X, W, e, o, f, h => nomatch (show false = true from h)
  | .tup _, c, X, W, e, o, f, h => nomatch (show false = true from h)
  | .dct ks vs, c, X, W, e, o, f, h => by
    cases e <;> try (exact nomatch (show false = true from h))
    rename_i kl vl p
    cases kl with
    | cons => exact nomatch (show false = true from h)
    | nil =>
      cases vl with
      | cons => exact nomatch (show false = true from h)
      | nil =>
        have h : (okDs ks vs [] [] || isMark ks vs) = true := h
        cases hm : isMark ks vs with
        | true =>
          have ev : evX G F (.dct ks vs) = M.pure (PV.d (.dct [(.non, .non)])) := if_pos hm
          rw [ev]
          exact ⟨pe_imp pe_dnewT tN_dctT, fun _ => rfl⟩
        | false =>
          rw [hm, Bool.or_false] at h
          have ev : evX G F (.dct ks vs) = M.pure (PV.d (.dct [])) := by
            cases ks <;> cases vs <;> first | rfl | exact nomatch (show false = true from h)
          rw [ev]
          exact ⟨pe_imp pe_dnewK tN_dct, fun _ => rfl⟩
  | .new _, c, X, W, e, o, f, h => nomatch (show false = true from h)
  | .idx _ _, c, X, W, e, o, f, h => nomatch (show false = true from h)
  | .sl _ _ _, c, X, W, e, o, f, h => nomatch (show false = true from h)
  | .rev _, c, X, W, e, o, f, h => nomatch (show false = true from h)
  | .srt _, c, X, W, e, o, f, h => nomatch (show false = true from h)
  | .lns _, c, X, W, e, o, f, h => nomatch (show false = true from h)
  | .attr _ _, c, X, W, e, o, f, h => nomatch (show false = true from h)
  | .call _ _ _, c, X, W, e, o, f, h => nomatch (show false = true from h)
  | .mk _ _, c, X, W, e, o, f, h => nomatch (show false = true from h)
  | .mkN _ _, c, X, W, e, o, f, h => nomatch (show false = true from h)
  | .meth _ _ _ _ _, c, X, W, e, o, f, h => nomatch (show false = true from h)
  | .bi bb es, c, X, W, e, o, f, h => by
    cases e <;> try (exact nomatch (show false = true from h))
    rename_i fn l kw p
    cases fn <;> try (exact nomatch (show false = true from h))
    rename_i x p2
    cases kw with
    | cons => cases l <;> exact nomatch (show false = true from h)
    | nil =>
      cases l with
      | nil => exact nomatch (show false = true from h)
      | cons y l =>
        have h' : ((decide (bb = .list) && decide (x = "list") || decide (bb = .sorted) && decide (x = "sorted")) && glB c.sc x && okXs T N c es (y :: l)) = true := h
        simp only [Bool.and_eq_true, Bool.or_eq_true, decide_eq_true_eq] at h'
        obtain ⟨⟨hb, h3⟩, h4⟩ := h'
        have a := sndPs es (y :: l) o f h4
        cases es with
        | nil => exact nomatch (show false = true from h4)
        | cons e es =>
          have h6 : (okX T N c e y && plainE y && okXs T N c es l) = true := h4
          simp only [Bool.and_eq_true] at h6
          rcases hb with ⟨rfl, rfl⟩ | ⟨rfl, rfl⟩
          · refine ⟨pe_imp (pe_callTy call_list_of (gl_of o.sc h3) (o.blt _ (by decide)) (by decide +kernel) a (by decide) (by decide) (starE h6.1.2) (starAll es l h6.2)) ?_, fun _ => rfl⟩
            rw [o.hK]
            exact tN_list
          · exact ⟨pe_imp (pe_callB (call_srtN o.hK o.un) (gl_of o.sc h3) (o.blt _ (by decide)) (by decide +kernel) a (by decide) (by decide) (starE h6.1.2) (starAll es l h6.2)) tN_sorted, fun _ => rfl⟩
  | .bm _ _ _, c, X, W, e, o, f, h => nomatch (show false = true from h)
  | .mm _ _ _, c, X, W, e, o, f, h => nomatch (show false = true from h)
  | .ext _ _, c, X, W, e, o, f, h => nomatch (show false = true from h)
  | .sdef _ _, c, X, W, e, o, f, h => nomatch (show false = true from h)
  | .rg t a b, c, X, W, e, o, f, h => by
    cases e <;> try (exact nomatch (show false = true from h))
    rename_i fn l kw p
    cases fn <;> try (exact nomatch (show false = true from h))
    rename_i x p2
    rcases l with _ | ⟨z, _ | ⟨z2, l⟩⟩ <;> try (cases kw <;> exact nomatch (show false = true from h))
    cases kw with
    | cons => exact nomatch (show false = true from h)
    | nil =>
      have h' : (!t && decide (x = "list") && glB c.sc x && !c.hot && okRg (okX T N c a) (okX T N c b) (isZero a) (rgArgs c z)) = true := h
      simp only [Bool.and_eq_true, decide_eq_true_eq, Bool.not_eq_true'] at h'
      obtain ⟨⟨⟨⟨rfl, rfl⟩, h3⟩, h8⟩, hr⟩ := h'
      rcases hl : rgArgs c z with _ | ⟨y, _ | ⟨y2, _ | ⟨y3, l⟩⟩⟩ <;> rw [hl] at hr <;> try (exact nomatch (show false = true from hr))
      · obtain ⟨p4, p3, rfl, h4⟩ := rgArgs_inv hl
        have hr : (isZero a && okX T N c b y && plainE y) = true := hr
        simp only [Bool.and_eq_true] at hr
        obtain ⟨⟨h5, h6⟩, h7⟩ := hr
        have ea : evX G F a = M.pure (PV.d (.int 0)) := by
          cases a <;> try (exact nomatch (show false = true from h5))
          rename_i i
          have h5 : decide (i = 0) = true := h5
          obtain rfl := of_decide_eq_true h5
          rfl
        have g := prg_1 (p := p4) (pos := p3) (gl_of o.sc h4) (o.blt _ (by decide)) (sndX b y o f h6).pe (starE h7)
        refine ⟨pe_imp (pe_listRg (o.calm h8) (gl_of o.sc h3) (o.blt _ (by decide)) g) fun σ H Q hq => ?_, fun _ => rfl⟩
        have hq : tN N W (M.bind (evX G F a) fun x => M.bind (evX G F b) fun y => M.of (((rngF x y).bind (rgF false)).map PV.d)) σ H Q := hq
        rw [ea] at hq
        exact tN_rg0 σ H Q hq
      · obtain ⟨p4, p3, rfl, h4⟩ := rgArgs_inv hl
        have hr : (okX T N c a y && plainE y && okX T N c b y2 && plainE y2) = true := hr
        simp only [Bool.and_eq_true] at hr
        obtain ⟨⟨⟨h5, h7⟩, h6⟩, h7'⟩ := hr
        have g := prg_2 (p := p4) (pos := p3) (gl_of o.sc h4) (o.blt _ (by decide)) (sndX a y o f h5).pe (sndX b y2 o f h6).pe (starE h7) (starE h7') (by rw [starE h7']; rfl)
        exact ⟨pe_imp (pe_listRg (o.calm h8) (gl_of o.sc h3) (o.blt _ (by decide)) g) (tN_rg (ma := evX G F a) (mb := evX G F b)), fun _ => rfl⟩
  | .rg3 _ _ _, c, X, W, e, o, f, h => nomatch (show false = true from h)
  | .isi _ _, c, X, W, e, o, f, h => nomatch (show false = true from h)
  | .bad, c, X, W, e, o, f, h => nomatch (show false = true from h)
theorem sndXs : ∀ (es : Exs) {c : Sx} {X : Cx} {W : WX} (l : List Expr), XOk T N G c X W → FnsH T N G c X F → okXs T N c es l = true → PA X l (tAs N W (evDs G F es))
  | .nil, c, X, W, l, o, f, h => by
    cases l with
    | nil => exact pa_imp pa_nil tAs_nil
    | cons => exact nomatch (show false = true from h)
  | .cons e es, c, X, W, l, o, f, h => by
    cases l with
    | nil => exact nomatch (show false = true from h)
    | cons x l =>
      have h : (okX T N c e x && plainE x && okXs T N c es l) = true := h
      simp only [Bool.and_eq_true] at h
      exact pa_imp (pa_cons (sndX e x o f h.1.1).pe (sndXs es l o f h.2) (starE h.1.2)) tAs_cons
theorem sndPs : ∀ (es : Exs) {c : Sx} {X : Cx} {W : WX} (l : List Expr), XOk T N G c X W → FnsH T N G c X F → okXs T N c es l = true → PA X l (tPs N W (evPs G F es))
  | .nil, c, X, W, l, o, f, h => by
    cases l with
    | nil => exact pa_imp pa_nil tPs_nil
    | cons => exact nomatch (show false = true from h)
  | .cons e es, c, X, W, l, o, f, h => by
    cases l with
    | nil => exact nomatch (show false = true from h)
    | cons x l =>
      have h : (okX T N c e x && plainE x && okXs T N c es l) = true := h
      simp only [Bool.and_eq_true] at h
      exact pa_imp (pa_cons (sndX e x o f h.1.1).pe (sndPs es l o f h.2) (starE h.1.2)) tPs_cons
theorem sndAnd : ∀ (es : Exs) {c : Sx} {X : Cx} {W : WX} (l : List Expr) (p : Pos), XOk T N G c X W → FnsH T N G c X F → okBs T N c es l = true → PE X (.BoolOp .And l p) (tX N W (evAnd G F es)) ∧ PW X (.BoolOp .And l p) (tT N W (M.bind (evAnd G F es) toB))
  | .nil, c, X, W, l, p, o, f, h => by
    refine ⟨⟨fun _ _ σ H Q _ h => ?_⟩, ⟨fun _ _ _ σ H Q _ h => ?_⟩⟩
    · obtain ⟨_, _, _, _, z⟩ := h; exact z.elim
    · obtain ⟨_, _, _, _, z⟩ := h; exact z.elim
  | .cons e es, c, X, W, l, p, o, f, h => by
    cases l with
    | nil => exact nomatch (show false = true from h)
    | cons x l =>
      have h : (okX T N c e x && okBs T N c es l) = true := h
      simp only [Bool.and_eq_true] at h
      have g := sndX e x o f h.1
      cases es with
      | nil =>
        cases l with
        | nil => exact ⟨pe_one g.pe, pw_and1 g.pt⟩
        | cons => exact nomatch (show false = true from h.2)
      | cons e2 es =>
        cases l with
        | nil => exact nomatch (show false = true from h.2)
        | cons y l =>
          obtain ⟨r1, r2⟩ := sndAnd (.cons e2 es) (y :: l) p o f h.2
          refine ⟨pe_imp (pe_and g.pe r1) tX_and, ⟨fun wh pins s σ H Q I hw => ?_⟩⟩
          exact (pw_and g.pt r2).run wh pins s σ H Q I (tT_and σ H Q hw)
theorem sndOr : ∀ (es : Exs) {c : Sx} {X : Cx} {W : WX} (l : List Expr) (p : Pos), XOk T N G c X W → FnsH T N G c X F → okBs T N c es l = true → PE X (.BoolOp .Or l p) (tX N W (evOr G F es)) ∧ PW X (.BoolOp .Or l p) (tT N W (M.bind (evOr G F es) toB))
  | .nil, c, X, W, l, p, o, f, h => by
    refine ⟨⟨fun _ _ σ H Q _ h => ?_⟩, ⟨fun _ _ _ σ H Q _ h => ?_⟩⟩
    · obtain ⟨_, _, _, _, z⟩ := h; exact z.elim
    · obtain ⟨_, _, _, _, z⟩ := h; exact z.elim
  | .cons e es, c, X, W, l, p, o, f, h => by
    cases l with
    | nil => exact nomatch (show false = true from h)
    | cons x l =>
      have h : (okX T N c e x && okBs T N c es l) = true := h
      simp only [Bool.and_eq_true] at h
      have g := sndX e x o f h.1
      cases es with
      | nil =>
        cases l with
        | nil => exact ⟨pe_one g.pe, pw_or1 g.pt⟩
        | cons => exact nomatch (show false = true from h.2)
      | cons e2 es =>
        cases l with
        | nil => exact nomatch (show false = true from h.2)
        | cons y l =>
          obtain ⟨r1, r2⟩ := sndOr (.cons e2 es) (y :: l) p o f h.2
          refine ⟨pe_imp (pe_or g.pe r1) tX_or, ⟨fun wh pins s σ H Q I hw => ?_⟩⟩
          exact (pw_or g.pt r2).run wh pins s σ H Q I (tT_or σ H Q hw)
theorem sndQs : ∀ (es : Exs) {c : Sx} {X : Cx} {W : WX} (l : List Expr), XOk T N G c X W → FnsH T N G c X F → okQs T N c es l = true → PTs X l (tT N W (evQs G F es))
  | .nil, c, X, W, l, o, f, h => by
    cases l with
    | nil => exact ⟨fun pins s σ H Q I hw => pts_nil.run pins s σ H Q I (by obtain ⟨ad, st, FF, R, hg⟩ := hw; exact Gar.pure R hg)⟩
    | cons => exact nomatch (show false = true from h)
  | .cons e es, c, X, W, l, o, f, h => by
    cases es with
    | cons => exact nomatch (show false = true from h)
    | nil =>
      rcases l with _ | ⟨x, _ | ⟨x2, l⟩⟩ <;> try (exact nomatch (show false = true from h))
      have h : okX T N c e x = true := h
      have g := (sndX e x o f h).pt
      have : evQs G F (.cons e .nil) = M.bind (evX G F e) toB := by
        show M.bind (evX G F e) (fun x => M.bind (toB x) fun b => if b then M.pure true else M.pure false) = _
        congr
        funext x
        unfold toB
        split
        · rename_i b; cases b <;> rfl
        · rfl
      rw [this]
      exact pts_one g
theorem sndIt : ∀ (it : Ev.It) {c : Sx} {X : Cx} {W : WX} (t x : Expr), XOk T N G c X W → FnsH T N G c X F → okIt T N c it t x = true → PI X t x (tI N W (evIt G F it))
  | .val e, c, X, W, t, x, o, f, h => by
    have h : (okX T N c e x && noSet x) = true := h
    simp only [Bool.and_eq_true] at h
    exact pi_imp (pi_seq (sndX e x o f h.1).pe) fun σ H R hq => by rw [o.hK]; exact tI_val σ H R hq
  | .rng1 e, c, X, W, t, x, o, f, h => by
    cases x <;> try (exact nomatch (show false = true from h))
    rename_i fn l kw p
    cases fn <;> try (exact nomatch (show false = true from h))
    rename_i r p2
    rcases l with _ | ⟨y, _ | ⟨y2, l⟩⟩ <;> try (cases kw <;> exact nomatch (show false = true from h))
    cases kw with
    | cons => exact nomatch (show false = true from h)
    | nil =>
      have h : (decide (r = "range") && glB c.sc r && okX T N c e y && plainE y) = true := h
      simp only [Bool.and_eq_true, decide_eq_true_eq] at h
      obtain ⟨⟨⟨rfl, h1⟩, h2⟩, h3⟩ := h
      exact pi_imp (pi_range1 (gl_of o.sc h1) (o.blt _ (by decide)) (pa_cons (sndX e y o f h2).pe (pa_nil (X := X)) (starE h3)) (starE h3)) tI_rng1
  | .rng2 a b, c, X, W, t, x, o, f, h => by
    cases x <;> try (exact nomatch (show false = true from h))
    rename_i fn l kw p
    cases fn <;> try (exact nomatch (show false = true from h))
    rename_i r p2
    rcases l with _ | ⟨y, _ | ⟨y2, _ | ⟨y3, l⟩⟩⟩ <;> try (cases kw <;> exact nomatch (show false = true from h))
    cases kw with
    | cons => exact nomatch (show false = true from h)
    | nil =>
      have h : (decide (r = "range") && glB c.sc r && okX T N c a y && plainE y && okX T N c b y2 && plainE y2) = true := h
      simp only [Bool.and_eq_true, decide_eq_true_eq] at h
      obtain ⟨⟨⟨⟨⟨rfl, h1⟩, h2⟩, h3⟩, h4⟩, h5⟩ := h
      exact pi_imp (pi_range2 (gl_of o.sc h1) (o.blt _ (by decide)) (pa_cons (sndX a y o f h2).pe (pa_cons (sndX b y2 o f h4).pe (pa_nil (X := X)) (starE h5)) (starE h3)) (by rw [starE h3, starE h5]; rfl) (starE h5)) tI_rng2
  | .enum e n, c, X, W, t, x, o, f, h => by
    cases t <;> try (exact nomatch (show false = true from h))
    rename_i es kk tp
    cases x <;> try (exact nomatch (show false = true from h))
    rename_i fn l kw p
    cases fn <;> try (exact nomatch (show false = true from h))
    rename_i r p2
    rcases l with _ | ⟨y, _ | ⟨y2, _ | ⟨y3, l⟩⟩⟩ <;> try (cases kw <;> exact nomatch (show false = true from h))
    rotate_right
    · cases y2 <;> try (exact nomatch (show false = true from h))
      rename_i k j cp
      cases k <;> exact nomatch (show false = true from h)
    · cases kw with
      | cons => exact nomatch (show false = true from h)
      | nil =>
        have h : (decide (n = 0) && decide (r = "enumerate") && glB c.sc r && okX T N c e y && plainE y) = true := h
        simp only [Bool.and_eq_true, decide_eq_true_eq] at h
        obtain ⟨⟨⟨⟨rfl, rfl⟩, h1⟩, h2⟩, h3⟩ := h
        exact pi_imp (pi_enum1 (gl_of o.sc h1) (o.blt _ (by decide)) (sndX e y o f h2).pe (starE h3)) fun σ H R hq => by rw [o.hK]; exact tI_enum σ H R hq
    · cases y2 <;> try (cases kw <;> exact nomatch (show false = true from h))
      rename_i k j cp
      cases k <;> try (cases kw <;> exact nomatch (show false = true from h))
      rename_i k
      cases kw with
      | cons => exact nomatch (show false = true from h)
      | nil =>
        have h : (decide (n = k) && decide (0 ≤ n) && decide (n < 1000) && decide (r = "enumerate") && glB c.sc r && okX T N c e y && plainE y) = true := h
        simp only [Bool.and_eq_true, decide_eq_true_eq] at h
        obtain ⟨⟨⟨⟨⟨⟨rfl, q1⟩, q2⟩, rfl⟩, h1⟩, h2⟩, h3⟩ := h
        exact pi_imp (pi_enum2 (gl_of o.sc h1) (o.blt _ (by decide)) (sndX e y o f h2).pe ⟨q1, q2⟩ (starE h3)) fun σ H R hq => by rw [o.hK]; exact tI_enum σ H R hq
  | .zip a b, c, X, W, t, x, o, f, h => by
    cases t <;> try (exact nomatch (show false = true from h))
    rename_i es kk tp
    cases x <;> try (exact nomatch (show false = true from h))
    rename_i fn l kw p
    cases fn <;> try (exact nomatch (show false = true from h))
    rename_i r p2
    rcases l with _ | ⟨y, _ | ⟨y2, _ | ⟨y3, l⟩⟩⟩ <;> try (cases kw <;> exact nomatch (show false = true from h))
    cases kw with
    | cons => exact nomatch (show false = true from h)
    | nil =>
      have h : (decide (r = "zip") && glB c.sc r && okX T N c a y && plainE y && okX T N c b y2 && plainE y2) = true := h
      simp only [Bool.and_eq_true, decide_eq_true_eq] at h
      obtain ⟨⟨⟨⟨⟨rfl, h1⟩, h2⟩, h3⟩, h4⟩, h5⟩ := h
      refine pi_imp (pi_zipM (gl_of o.sc h1) (o.blt _ (by decide)) (pa_cons (sndX a y o f h2).pe (pa_cons (sndX b y2 o f h4).pe (pa_nil (X := X)) (starE h5)) (starE h3)) (starE h3) ?_) fun σ H R hq => by rw [o.hK]; exact tI_zip σ H R hq
      rw [starE h5]; rfl
  | .rev e, c, X, W, t, x, o, f, h => by
    cases x <;> try (exact nomatch (show false = true from h))
    rename_i fn l kw p
    cases fn <;> try (exact nomatch (show false = true from h))
    rename_i r p2
    rcases l with _ | ⟨y, _ | ⟨y2, l⟩⟩ <;> try (cases kw <;> exact nomatch (show false = true from h))
    cases kw with
    | cons => exact nomatch (show false = true from h)
    | nil =>
      have h : (decide (r = "reversed") && glB c.sc r && okX T N c e y && plainE y) = true := h
      simp only [Bool.and_eq_true, decide_eq_true_eq] at h
      obtain ⟨⟨⟨rfl, h1⟩, h2⟩, h3⟩ := h
      exact pi_imp (RT.pi_revA (gl_of o.sc h1) (o.blt _ (by decide)) (sndX e y o f h2).pe (starE h3)) fun σ H R hq => by rw [o.hK]; exact tI_rev σ H R hq
  | .revr _, c, X, W, t, x, o, f, h => nomatch (show false = true from h)
  | .items _, c, X, W, t, x, o, f, h => nomatch (show false = true from h)
  | .vals _, c, X, W, t, x, o, f, h => nomatch (show false = true from h)
  | .keys _, c, X, W, t, x, o, f, h => nomatch (show false = true from h)
end
end Ev

set_option autoImplicit false
set_option linter.all false
set_option maxRecDepth 100000
set_option maxHeartbeats 1000000
/-! What the core's statements do. -/
namespace Ev
open PySem L2 PyProof.Rows
variable {T : Nam} {N : Nms} {G : Tab} {W : WX} {F : FT}
def GarS (N : Nms) (W : WX) (ad : Nat → Addr) (σ : L2.St) (H : Hp) (s : S) (F : Addr → Prop) (r : Res Ev.Flow) (K : Ev.Flow → S → (Nat → Addr) → L2.St → Hp → Prop) : Prop := match r with
  | .ok a s' => ∀ ad' σ' H', Rel N ad' σ' H' s' F → Post ad σ H s ad' σ' H' s' F → K a s' ad' σ' H'
  | .exc e s' => ∀ cls d ad' σ' H', Rel N ad' σ' H' s' F → Post ad σ H s ad' σ' H' s' F → RepE N s'.cel.length ad' (msk H' (Mk ad' σ' s' F)) H' e cls d → W cls d σ' H'
  | .stk => False
/-- what a flow is to reach -/
def KS (N : Nms) (F : Addr → Prop) (D : Ends) : Ev.Flow → S → (Nat → Addr) → L2.St → Hp → Prop := fun fl s' ad' σ' H' => match fl with
  | .next => D.nx σ' H'
  | .brk => D.bk σ' H'
  | .cont => D.ct σ' H'
  | .ret x => ∀ v, RepD N s'.cel.length ad' (msk H' (Mk ad' σ' s' F)) v x → D.rt v H'
def tS (N : Nms) (W : WX) (m : M Ev.Flow) : TS := fun D σ H => ∃ ad s F, Rel N ad σ H s F ∧ GarS N W ad σ H s F (m s) (KS N F D)
section
variable {ad ad' ad0 : Nat → Addr} {σ σ' σ0 : L2.St} {H H' H0 : Hp} {s s' s0 : S} {F : Addr → Prop} {α β : Type} {K : Ev.Flow → S → (Nat → Addr) → L2.St → Hp → Prop}
theorem GarS.from {r : Res Ev.Flow} (P : Post ad0 σ0 H0 s0 ad σ H s F) (h : GarS N W ad0 σ0 H0 s0 F r K) : GarS N W ad σ H s F r K := by
  cases r with
  | ok a s' => exact fun ad' σ' H' R' P' => h ad' σ' H' R' (P.trans P')
  | exc e s' => exact fun cls d ad' σ' H' R' P' => h cls d ad' σ' H' R' (P.trans P')
  | stk => exact h
theorem GarS.bind {m : M α} {f : α → M Ev.Flow} (h : GarS N W ad σ H s F (M.bind m f s) K) :
    Gar N W ad σ H s F (m s) fun a s' ad' H' => GarS N W ad' σ H' s' F (f a s') K := by
  unfold M.bind at h
  cases hm : m s with
  | ok a s' => rw [hm] at h; exact fun ad' H' R' P' => h.from P'
  | exc e s' => rw [hm] at h; exact fun cls d ad' H' R' P' r => h cls d ad' σ H' R' P' r
  | stk => rw [hm] at h; exact h
theorem GarS.pure {fl : Ev.Flow} (R : Rel N ad σ H s F) (h : GarS N W ad σ H s F (.ok fl s) K) : K fl s ad σ H := h ad σ H R Post.refl
end
/-! ### small statements -/
theorem tS_next {m : M Ev.Flow} (hm : m = M.pure .next) : ∀ D σ H, tS N W m D σ H → tNext D σ H := by
  rintro D σ H ⟨ad, s, F, R, h⟩
  subst hm
  exact GarS.pure R h
theorem tS_brk : ∀ D σ H, tS N W (M.pure .brk) D σ H → tBreak D σ H := by
  rintro D σ H ⟨ad, s, F, R, h⟩
  exact GarS.pure R h
theorem tS_cnt : ∀ D σ H, tS N W (M.pure .cont) D σ H → tCont D σ H := by
  rintro D σ H ⟨ad, s, F, R, h⟩
  exact GarS.pure R h
theorem tS_retN : ∀ D σ H, tS N W (M.pure (.ret .non)) D σ H → tRetN D σ H := by
  rintro D σ H ⟨ad, s, F, R, h⟩
  exact GarS.pure R h _ .non
theorem tS_ret {m : M PV} : ∀ D σ H, tS N W (M.bind m fun x => M.bind x.store fun y => M.pure (.ret y)) D σ H → tRet (tX N W m) D σ H := by
  rintro D σ H ⟨ad, s, F, R, h⟩
  refine ⟨ad, s, F, R, (GarS.bind h).mono fun pv s1 ad1 H1 R1 P1 h1 v rv => ?_⟩
  obtain ⟨d, s', R', P', rd, k⟩ := store_ok R1 rv (GarS.bind h1)
  exact GarS.pure R' k v rd
theorem tS_ex {m : M PV} : ∀ D σ H, tS N W (M.bind m fun _ => M.pure .next) D σ H → tDrop (tX N W m) D σ H := by
  rintro D σ H ⟨ad, s, F, R, h⟩
  exact ⟨ad, s, F, R, (GarS.bind h).mono fun pv s1 ad1 H1 R1 P1 h1 v rv => GarS.pure R1 h1⟩
theorem tS_seq {m1 m2 : M Ev.Flow} : ∀ D σ H, tS N W (fun st => match m1 st with | .ok .next st' => m2 st' | r => r) D σ H → tSeq (tS N W m1) (tS N W m2) D σ H := by
  rintro D σ H ⟨ad, s, F, R, h⟩
  refine ⟨ad, s, F, R, ?_⟩
  have h : GarS N W ad σ H s F (match m1 s with | .ok .next st' => m2 st' | r => r) (KS N F D) := h
  cases hm : m1 s with
  | ok a s' =>
    rw [hm] at h
    cases a with
    | next => exact fun ad' σ' H' R' P' => ⟨ad', s', F, R', h.from P'⟩
    | brk => exact h
    | cont => exact h
    | ret t => exact h
  | exc e s' => rw [hm] at h; exact h
  | stk => rw [hm] at h; exact h
theorem tS_ife {mc : M PV} {ma mb : M Ev.Flow} : ∀ D σ H, tS N W (M.bind mc fun x => M.bind (toB x) fun k => if k then ma else mb) D σ H → tIfS (tT N W (M.bind mc toB)) (tS N W ma) (tS N W mb) D σ H := by
  rintro D σ H ⟨ad, s, F, R, h⟩
  refine ⟨ad, s, F, R, ?_⟩
  have e : (M.bind mc fun x => M.bind (toB x) fun k => if k then ma else mb) = M.bind (M.bind mc toB) fun k => if k then ma else mb := (bind_assoc _ _ _).symm
  rw [e] at h
  refine (GarS.bind h).mono fun b s1 ad1 H1 R1 P1 h1 => ?_
  cases b with
  | true => exact ⟨ad1, s1, F, R1, h1⟩
  | false => exact ⟨ad1, s1, F, R1, h1⟩
theorem tS_asg {m : M PV} {t : Tg} : ∀ D σ H, tS N W (M.bind m fun x => M.bind x.store fun y => bindM t y) D σ H → tAsg (tX N W m) (gTg N.K t) D σ H := by
  rintro D σ H ⟨ad, s, F, R, h⟩
  refine ⟨ad, s, F, R, (GarS.bind h).mono fun pv s1 ad1 H1 R1 P1 h1 v rv => ?_⟩
  obtain ⟨d, s', R', P', rd, k⟩ := store_ok R1 rv (GarS.bind h1)
  have k : GarS N W ad1 σ H1 s' F (bindM t d s') (KS N F D) := k
  unfold bindM at k
  cases hb : bindT t d s' with
  | none => rw [hb] at k; exact k.elim
  | some s2 =>
    rw [hb] at k
    exact bind_ok t d v (vs := tgSl t) (fun _ h => h) hb R' rd fun σ1 R2 P2 _ => k ad1 σ1 H1 R2 P2
theorem tS_asgO {m : M PV} {i : Nat} : ∀ D σ H, tS N W (M.bind m fun x => asgOM i x) D σ H → tAsg (tN N W m) (gName i) D σ H := by
  rintro D σ H ⟨ad, s, F, R, h⟩
  refine ⟨ad, s, F, R, ?_⟩
  have h : GarS N W ad σ H s F (M.bind m (fun x => asgOM i x) s) (KS N F D) := h
  unfold M.bind at h
  cases hm : m s with
  | stk => rw [hm] at h; exact h
  | exc e s' => rw [hm] at h; exact fun cls d ad' H' R' P' r => h cls d ad' σ H' R' P' r
  | ok pv s' =>
    rw [hm] at h
    intro ad' H' p R' P' c hc ok
    have h : GarS N W ad σ H s F (asgOM i pv s') (KS N F D) := h
    unfold asgOM at h
    rw [hc] at h
    simp only at h
    split at h
    · rename_i hi
      obtain ⟨R2, P2⟩ := Rel.setOwn P' R' hi ok
      exact h ad' _ H' R2 P2
    · exact h.elim
/-- o[i] = v of a list, of a dict -/
def rSetX : TSet := fun o i v H Q => rSetL o i v H Q ∨ rSetD o i v H Q
theorem set_x {X : Cx} (hu : X.A.units + 1 < cLine) : PSet X rSetX := by
  intro pins s σ H o i v ov iv u Q I ro ri rv h
  rcases h with h | h
  · exact set_list pins s σ H o i v ov iv u Q I ro ri rv h
  · exact set_dict hu pins s σ H o i v ov iv u Q I ro ri rv h
theorem tS_asgI {m mo mi : M PV} : ∀ D σ H, tS N W (M.bind m fun t => M.bind t.store fun t => M.bind mo fun x => M.bind mi fun y => asgXM x y t) D σ H → tAsg (tX N W m) (gSub (tX N W mo) (tX N W mi) rSetX) D σ H := by
  rintro D σ H ⟨ad, s, F, R, h⟩
  refine ⟨ad, s, F, R, (GarS.bind h).mono fun pv s1 ad1 H1 R1 P1 h1 v rv => ?_⟩
  obtain ⟨d, s', R', P', rd, k⟩ := store_ok R1 rv (GarS.bind h1)
  refine ⟨ad1, s', F, R', (GarS.bind k).mono fun po s2 ad2 H2 R2 P2 h2 o ro => ?_⟩
  refine ⟨ad2, s2, F, R2, (GarS.bind h2).mono fun pi s3 ad3 H3 R3 P3 h3 i ri => ?_⟩
  have h3 : GarS N W ad3 σ H3 s3 F (asgXM po pi d s3) (KS N F D) := h3
  have ro3 := ro.post P3
  have rd3 := P3.rep (P2.rep rd)
  unfold asgXM at h3
  split at h3
  · right
    unfold asgDM at h3
    cases hl : po.lo with
    | none => rw [hl] at h3; exact h3.elim
    | some l =>
      rw [hl] at h3
      cases hv : pi.val s3 with
      | none => rw [hv] at h3; exact h3.elim
      | some y =>
        rw [hv] at h3
        simp only at h3
        split at h3
        · rename_i ds hg
          have hg : s3.get l = some (.dct ds) := hg
          split at h3
          · rename_i hc
            rw [Bool.and_eq_true, decide_eq_true_eq] at hc
            obtain ⟨hk, hlen⟩ := hc
            obtain ⟨a, rfl, e, okc⟩ := lst_at R3 ro3 hl hg
            have rk := ri.val R3 hv
            rcases okc with ⟨kv, hx, rx⟩ | ⟨kv, hx, rx⟩
            · have hT := rx.isTd
              unfold keyFor at hk
              rw [hT] at hk h3
              have hk : isKey y = true := by simpa using hk
              obtain ⟨key, rfl⟩ := isKey_kD hk
              have ei : i = kV key := by
                cases key with
                | inl j => exact rk.intI
                | inr x => exact rk.strI
              obtain ⟨R4, P4⟩ := R3.put (o := .dK (putK kv key v)) (c := .dct (keyPut (kD key) d ds)) hg e (.inl ⟨_, upd_same, rx.put rd3⟩)
              exact ⟨a, _, rfl, .inl ⟨kv, key, hx, ei, by rw [sizeLine_line, rx.length]; exact hlen, rfl⟩, h3 ad3 σ _ R4 P4⟩
            · have hT := rx.isTd
              unfold keyFor at hk
              rw [hT] at hk h3
              have hk : isTup y = true := by simpa using hk
              obtain ⟨key, rfl, hik⟩ := isTup_inv hk
              obtain ⟨b, xs, rfl, hb, rb⟩ := rk.keyI hik
              rw [rb.keyV] at hb
              obtain ⟨R4, P4⟩ := R3.put (o := .dT (putK kv (key.map Sum.inl) v)) (c := .dct (keyPutT (.tup (key.map .int)) d ds)) hg e (.inr ⟨_, upd_same, rx.put hik rd3⟩)
              have hl2 := rx.length
              exact ⟨a, _, rfl, .inr ⟨kv, _, b, hx, rfl, hb, by rw [sizeLine_line]; omega, rfl⟩, h3 ad3 σ _ R4 P4⟩
          · exact h3.elim
        · exact h3.elim
  left
  unfold asgIM at h3
  cases hl : po.lo with
  | none => rw [hl] at h3; exact h3.elim
  | some l =>
    rw [hl] at h3
    cases hv : pi.val s3 with
    | none => rw [hv] at h3; exact h3.elim
    | some y =>
      rw [hv] at h3
      simp only at h3
      split at h3
      · rename_i ts j hg
        have hg : s3.get l = some (.lst ts) := hg
        cases hn : Ev.ixN ts.length j with
        | none => rw [hn] at h3; exact h3.elim
        | some n =>
          rw [hn] at h3
          obtain ⟨a, rfl, e, xs, hx, rx⟩ := lst_at R3 ro3 hl hg
          have rj := (ri.val R3 hv).intI
          subst rj
          obtain ⟨R4, P4⟩ := R3.put (o := .lst (xs.set n v)) (c := .lst (ts.set n d)) hg e ⟨_, upd_same, rx.set rd3 n⟩
          refine ⟨a, xs, j, n, rfl, rfl, hx, ?_, h3 ad3 σ _ R4 P4⟩
          rw [← ixN_L2, rx.length]; exact hn
      · exact h3.elim
theorem tS_asgF {K : PySem.W.Frag} (hK : K = N.K) (inj : ∀ f g, N.nm f = N.nm g → f = g) {f : Nat} (cls : ∀ k, k < G.ncls ∧ G.isf k f = true → Cls N.K (N.cl k) ∧ NoAttr N.K (N.cl k) (N.nm f)) {m mo : M PV} : ∀ D σ H, tS N W (M.bind m fun t => M.bind t.store fun t => M.bind mo fun x => asgFM G x f t) D σ H → sFld K (tX N W mo) (tX N W m) (N.nm f) D σ H := by
  subst hK
  rintro D σ H ⟨ad, s, F, R, h⟩
  refine ⟨ad, s, F, R, (GarS.bind h).mono fun pv s1 ad1 H1 R1 P1 h1 v rv => ?_⟩
  obtain ⟨d, s', R', P', rd, k⟩ := store_ok R1 rv (GarS.bind h1)
  refine ⟨ad1, s', F, R', (GarS.bind k).mono fun po s2 ad2 H2 R2 P2 h2 o ro => ?_⟩
  have h2 : GarS N W ad2 σ H2 s2 F (asgFM G po f d s2) (KS N F D) := h2
  unfold asgFM at h2
  cases hl : po.lo with
  | none => rw [hl] at h2; exact h2.elim
  | some l =>
    rw [hl] at h2
    simp only at h2
    split at h2
    · rename_i c fs hg
      split at h2
      · rename_i hc
        obtain ⟨a, rfl, e, dx, fv, hx, rf⟩ := lst_at R2 ro hl hg
        obtain ⟨R4, P4⟩ := R2.put (o := .ins (N.cl c) dx (putF (N.nm f) v fv)) (c := .obj c (fldPut f d fs)) hg e ⟨dx, _, upd_same, rf.put inj (P2.rep rd)⟩
        exact ⟨a, _, dx, fv, rfl, hx, (cls c hc.1).1, (cls c hc.1).2, by rw [rf.length]; exact hc.2, h2 ad2 σ _ R4 P4⟩
      · exact h2.elim
    · exact h2.elim
theorem tS_aug {m : M PV} {i : Nat} {op : Op} {f : Int → Int → Int} (hf : ∀ x y z, augI op x y = some z → ∃ a b, x = .int a ∧ y = .d (.int b) ∧ z = .int (f a b)) : ∀ D σ H, tS N W (M.bind (augV i) fun x => M.bind m fun y => augB i op x y) D σ H → tAug i (tX N W m) (ipI f) D σ H := by
  rintro D σ H ⟨ad, s, F, R, h⟩
  have h0 := GarS.bind h
  unfold augV at h0
  cases hl : s.loc1 i with
  | none => rw [hl] at h0; exact h0.elim
  | some lv =>
    rw [hl] at h0
    cases lv with
    | own c => exact h0.elim
    | d x =>
      obtain ⟨v, e, r⟩ := R.dat i x (loc1_some.mp hl)
      refine ⟨v, e, ad, s, F, R, ?_⟩
      have h1 : GarS N W ad σ H s F (M.bind m (fun y => augB i op x y) s) (KS N F D) := by
        cases x <;> first | exact h0.elim | exact Gar.pure R h0
      refine (GarS.bind h1).mono fun pv s1 ad1 H1 R1 P1 h1 w rw' => ?_
      have h1 : GarS N W ad1 σ H1 s1 F (augB i op x pv s1) (KS N F D) := h1
      unfold augB at h1
      cases ha : augI op x pv with
      | none => rw [ha] at h1; exact h1.elim
      | some z =>
        rw [ha] at h1
        obtain ⟨a, b, rfl, rfl, rfl⟩ := hf _ _ _ ha
        cases r
        cases rw'
        obtain ⟨R2, P2⟩ := R1.setD i (v := .int (f a b)) (d := .int (f a b)) (.int _)
        exact ⟨a, b, rfl, rfl, h1 ad1 _ H1 R2 P2⟩
theorem aug_add : ∀ x y z, augI .add x y = some z → ∃ a b, x = .int a ∧ y = .d (.int b) ∧ z = .int (a + b) := fun x y z h => by
  unfold augI at h
  split at h <;> cases h
  · exact ⟨_, _, rfl, rfl, rfl⟩
  · rename_i h; cases h
theorem aug_sub : ∀ x y z, augI .sub x y = some z → ∃ a b, x = .int a ∧ y = .d (.int b) ∧ z = .int (a - b) := fun x y z h => by
  unfold augI at h
  split at h <;> cases h
  · rename_i h; cases h
  · exact ⟨_, _, rfl, rfl, rfl⟩
theorem augIV_inv {x n : PV} {s : S} (h : augIV x n s ≠ .stk) : ∃ ts i a, x.val s = some (.lst ts) ∧ n = .d (.int i) ∧ pickI ts i = some (.int a) ∧ augIV x n s = .ok (.int a) s := by
  unfold augIV at h ⊢
  split at h
  · rename_i e1
    split at h
    · rename_i e2
      exact ⟨_, _, _, e1, rfl, e2, by simp only [e1, e2]⟩
    · exact absurd rfl h
  · exact absurd rfl h
theorem tS_augI {K : PySem.W.Frag} (hK : K = N.K) {m mo mi : M PV} {op : Op} {f : Int → Int → Int} (hf : ∀ a y z, binF op (.int a) y = some z → ∃ b, y = .int b ∧ z = .int (f a b)) : ∀ D σ H, tS N W (M.bind mo fun x => M.bind mi fun n => M.bind (augIV x n) fun a => M.bind m fun y => M.bind (augOp op a y) fun z => asgIM x n z) D σ H →
    tAugS (tX N W mo) (tX N W mi) (tX N W m) (rIxL K) (ipI f) rSetL D σ H := by
  subst hK
  rintro D σ H ⟨ad, s, F, R, h⟩
  refine ⟨ad, s, F, R, (GarS.bind h).mono fun po s1 ad1 H1 R1 P1 h1 o ro => ?_⟩
  refine ⟨ad1, s1, F, R1, (GarS.bind h1).mono fun pi s2 ad2 H2 R2 P2 h2 i ri => ?_⟩
  have ro2 := ro.post P2
  have h2 := GarS.bind h2
  by_cases hs : augIV po pi s2 = .stk
  · rw [hs] at h2; exact h2.elim
  obtain ⟨ts, i0, a, e1, rfl, e3, e4⟩ := augIV_inv hs
  rw [e4] at h2
  have h2 := Gar.pure R2 h2
  cases ri
  obtain ⟨p, xs, rfl, sa, da⟩ := (ro2.val R2 e1).lstI
  unfold pickI at e3
  cases hp : Ev.ixN ts.length i0 with
  | none => rw [hp] at e3; cases e3
  | some j =>
    rw [hp] at e3
    obtain ⟨w, ew, rw'⟩ := da.get e3
    cases rw'
    refine ⟨p, xs, i0, .int a, rfl, rfl, sa, ?_, ad2, s2, F, R2, (GarS.bind h2).mono fun py s3 ad3 H3 R3 P3 h3 y ry => ?_⟩
    · unfold atI
      rw [← ixN_L2, da.length, hp]
      exact ew
    have h3 := GarS.bind h3
    cases py with
    | own q => exact h3.elim
    | d yd =>
      obtain ⟨z, hz, h3⟩ := of_inv R3 (show Gar N W ad3 σ H3 s3 F (M.of (binF op (.int a) yd) s3) _ from h3)
      obtain ⟨b, rfl, rfl⟩ := hf _ _ _ hz
      cases ry
      refine ⟨a, b, rfl, rfl, ?_⟩
      have h3 : GarS N W ad3 σ H3 s3 F (asgIM po (.d (.int i0)) (.int (f a b)) s3) (KS N F D) := h3
      have ro3 := ro2.post P3
      unfold asgIM at h3
      cases hl : po.lo with
      | none => rw [hl] at h3; exact h3.elim
      | some l =>
        rw [hl] at h3
        simp only [PV.val] at h3
        split at h3
        · rename_i ts' j' hg hj
          cases hj
          have hg : s3.get l = some (.lst ts') := hg
          cases hn : Ev.ixN ts'.length i0 with
          | none => rw [hn] at h3; exact h3.elim
          | some n =>
            rw [hn] at h3
            obtain ⟨a', e', e, xs', hx, rx⟩ := lst_at R3 ro3 hl hg
            cases e'
            obtain ⟨R4, P4⟩ := R3.put (o := .lst (xs'.set n (.int (f a b)))) (c := .lst (ts'.set n (.int (f a b)))) hg e ⟨_, upd_same, rx.set (.int _) n⟩
            refine ⟨p, xs', i0, n, rfl, rfl, hx, ?_, h3 ad3 σ _ R4 P4⟩
            rw [← ixN_L2, rx.length]; exact hn
        · exact h3.elim
theorem bin_add : ∀ a y z, binF .add (.int a) y = some z → ∃ b, y = .int b ∧ z = .int (a + b) := fun a y z h => by
  cases y <;> simp only [binF] at h <;> cases h
  exact ⟨_, rfl, rfl⟩
theorem bin_sub : ∀ a y z, binF .sub (.int a) y = some z → ∃ b, y = .int b ∧ z = .int (a - b) := fun a y z h => by
  cases y <;> simp only [binF] at h <;> cases h
  exact ⟨_, rfl, rfl⟩
theorem get_list {X : Cx} : PGet X (rIxL X.K) := by
  intro pins s σ H x y v u Q I rx ry h
  obtain ⟨p, xs, i, z, rfl, rfl, hq, he, q⟩ := h
  cases rx
  obtain ⟨t, rfl⟩ := ry
  obtain ⟨its, r, pl, hz⟩ := I.list hq
  obtain ⟨j, h1, h2, h3, h4, h5⟩ := atI_get he
  obtain ⟨w, ew, rw'⟩ := r.get h2
  have hl := r.length
  have hn := line63
  have fin : EP X pins σ Q w s := ⟨z, H, I, rw', q⟩
  by_cases h0 : 0 ≤ i
  · have hj : i.toNat = j := by
      rw [seqIndex_of h0 h5] at h1
      exact Option.some.inj h1
    exact wpAny_getItem_list pl.isList h0 (by omega) (by rw [hj]; simpa using ew) fin
  · have hj : (i + (its.toArray.size : Int)).toNat = j := by
      rw [seqIndex_neg (by omega) h4] at h1
      rw [List.size_toArray, ← hl]
      exact Option.some.inj h1
    exact wpAny_getItem_list_neg pl.isList (by omega) (by rw [List.size_toArray] <;> omega) (by omega) (by rw [hj]; simpa using ew) fin
/-! ### loops -/
section
variable {tg : Tg} {bd : M Ev.Flow} {kl : List Nat} {ad : Nat → Addr} {σ : L2.St} {H : Hp} {s : S} {F : Addr → Prop} {D : Ends}
/-- one turn -/
theorem turn_ok {x : Ev.D} {v : V} {k : S → Res Ev.Flow} {Pv : L2.St → Hp → Prop} (R : Rel N ad σ H s F) (r : RepD N s.cel.length ad (msk H (Mk ad σ s F)) v x)
    (h : GarS N W ad σ H s F (match turnM tg bd x s with
      | .ok .next s' | .ok .cont s' => k (wipe kl s')
      | .ok .brk s' => .ok .next (wipe kl s')
      | .ok (.ret t) s' => .ok (.ret t) s'
      | .exc e s' => .exc e s'
      | .stk => .stk) (KS N F D))
    (hk : ∀ ad' σ' H' s', Rel N ad' σ' H' s' F → Post ad σ H s ad' σ' H' s' F → GarS N W ad' σ' H' s' F (k s') (KS N F D) → Pv σ' H') :
    gTg N.K tg v σ H fun σ2 H2 => tS N W bd { D with nx := Pv, ct := Pv, bk := D.nx } σ2 H2 := by
  unfold turnM at h
  cases hb : bindT tg x s with
  | none => rw [hb] at h; exact h.elim
  | some s1 =>
    rw [hb] at h
    simp only at h
    refine bind_ok tg x v (vs := tgSl tg) (fun _ h => h) hb R r fun σ1 R1 P1 _ => ⟨ad, s1, F, R1, ?_⟩
    cases hm : bd s1 with
    | stk => rw [hm] at h; exact h
    | exc e s2 => rw [hm] at h; exact fun cls d ad' σ' H' R' P' => h cls d ad' σ' H' R' (P1.trans P')
    | ok fl s2 =>
      rw [hm] at h
      intro ad' σ' H' R' P'
      cases fl with
      | next =>
        obtain ⟨R2, P2⟩ := R'.wipe kl
        exact hk ad' σ' H' _ R2 ((P1.trans P').trans P2) (h.from ((P1.trans P').trans P2))
      | cont =>
        obtain ⟨R2, P2⟩ := R'.wipe kl
        exact hk ad' σ' H' _ R2 ((P1.trans P').trans P2) (h.from ((P1.trans P').trans P2))
      | brk =>
        obtain ⟨R2, P2⟩ := R'.wipe kl
        exact h ad' σ' H' R2 ((P1.trans P').trans P2)
      | ret t => exact h ad' σ' H' R' (P1.trans P')
theorem for_core {J : L2.It} {ds : List Ev.D} (R : Rel N ad σ H s F) (wk : Wlk N s.cel.length ad (msk H (Mk ad σ s F)) J ds) (h : GarS N W ad σ H s F (loopF (turnM tg bd) kl ds s) (KS N F D)) :
    ∃ Wm : Nat → Nat → L2.St → Hp → Prop, (∃ m, Wm 0 m σ H) ∧ ∀ i m σ H, Wm i m σ H →
      (J.stop i H ∧ D.nx σ H) ∨ (J.go i H ∧ ∃ Nx : L2.St → Hp → Prop, (∀ σ' H', Nx σ' H' → ∃ m', m' < m ∧ Wm (i + 1) m' σ' H') ∧ ∀ x H', J.yld i H x H' → gTg N.K tg x σ H' fun σ2 H2 => tS N W bd { D with nx := Nx, ct := Nx, bk := D.nx } σ2 H2) := by
  obtain ⟨g, Y, w, hg, hY⟩ := wk
  refine for_it w (fun i σ' H' => ∃ ad' s', Rel N ad' σ' H' s' F ∧ Post ad σ H s ad' σ' H' s' F ∧ GarS N W ad' σ' H' s' F (loopF (turnM tg bd) kl (ds.drop i) s') (KS N F D))
    ⟨ad, s, R, Post.refl, h⟩ (fun i σ' H' _ ⟨ad', s', R', P', _⟩ => hg _ (P'.sm.trans sm_le)) ?_ ?_
  · rintro i x σ1 H1 H2 hi ⟨ad1, s1, R1, P1, h1⟩ y
    obtain ⟨d, hd, sm, rd⟩ := hY i H1 x H2 y _ _ _ P1.len P1.agr P1.sm (fun p m => R1.masked m) fun p ys m => R1.maskedT m ys
    have e : ds.drop i = d :: ds.drop (i + 1) := by
      have hlt := (List.getElem?_eq_some_iff.mp hd).1
      rw [List.drop_eq_getElem_cons hlt]
      congr 1
      have := List.getElem?_eq_getElem hlt
      rw [hd] at this; cases this; rfl
    rw [e] at h1
    exact turn_ok (R1.grow sm) rd (h1.from (.grow R1 sm)) fun ad' σ' H' s' R' P' k => ⟨ad', s', R', (P1.trans (.grow R1 sm)).trans P', k⟩
  · rintro σ' H' ⟨ad', s', R', P', h'⟩
    rw [List.drop_length] at h'
    obtain ⟨R2, P2⟩ := R'.wipe kl
    exact h' ad' σ' H' R2 P2
/-- over a list of the store -/
theorem forR_core {k n : Nat} {a : Addr} (R : Rel N ad σ H s F) (hk : k < s.cel.length) (ha : ad k = a) (h : GarS N W ad σ H s F (loopR (turnM tg bd) kl k n 0 n s) (KS N F D)) :
    ∃ Wm : Nat → Nat → L2.St → Hp → Prop, (∃ m, Wm 0 m σ H) ∧ ∀ i m σ H, Wm i m σ H →
      ((Itl N.K a).stop i H ∧ D.nx σ H) ∨ ((Itl N.K a).go i H ∧ ∃ Nx : L2.St → Hp → Prop, (∀ σ' H', Nx σ' H' → ∃ m', m' < m ∧ Wm (i + 1) m' σ' H') ∧ ∀ x H', (Itl N.K a).yld i H x H' → gTg N.K tg x σ H' fun σ2 H2 => tS N W bd { D with nx := Nx, ct := Nx, bk := D.nx } σ2 H2) := by
  refine ⟨fun i m σ' H' => i + m = n ∧ ∃ ad' s', Rel N ad' σ' H' s' F ∧ Post ad σ H s ad' σ' H' s' F ∧ GarS N W ad' σ' H' s' F (loopR (turnM tg bd) kl k n i m s') (KS N F D), ⟨n, by simp, ad, s, R, Post.refl, h⟩, ?_⟩
  rintro i m σ1 H1 ⟨him, ad1, s1, R1, P1, h1⟩
  have at1 : ad1 k = a := (P1.agr k hk).trans ha
  have lst : ∀ xs, s1.cel[k]? = some (.lst xs) → ∃ vs, H1 a = some (.lst vs) ∧ RepDs N s1.cel.length ad1 (msk H1 (Mk ad1 σ1 s1 F)) vs xs := fun xs hc => by
    obtain ⟨a', e, vs, e2, r⟩ := R1.own (.id k) _ hc
    have e : some (ad1 k) = some a' := e
    rw [at1] at e; cases e
    exact ⟨vs, e2, r⟩
  cases m with
  | zero =>
    unfold loopR at h1
    split at h1
    · rename_i xs hc
      split at h1
      · rename_i hn
        obtain ⟨vs, e2, r⟩ := lst xs hc
        obtain ⟨R2, P2⟩ := R1.wipe kl
        exact .inl ⟨⟨vs, SqL.of e2, by rw [r.length, hn.1, hn.2]; exact Nat.le_refl _⟩, h1 ad1 σ1 H1 R2 P2⟩
      · exact h1.elim
    · exact h1.elim
  | succ m =>
    unfold loopR at h1
    split at h1
    · rename_i xs hc
      split at h1
      · rename_i hn
        obtain ⟨vs, e2, r⟩ := lst xs hc
        cases hx : xs[i]? with
        | none => rw [hx] at h1; exact h1.elim
        | some x =>
          rw [hx] at h1
          simp only at h1
          obtain ⟨v, ev, rv⟩ := r.get hx
          refine .inr ⟨⟨vs, v, SqL.of e2, ev⟩, fun σ' H' => i + 1 + m = n ∧ ∃ ad' s', Rel N ad' σ' H' s' F ∧ Post ad σ H s ad' σ' H' s' F ∧ GarS N W ad' σ' H' s' F (loopR (turnM tg bd) kl k n (i + 1) m s') (KS N F D), fun σ' H' q => ⟨m, Nat.lt_succ_self m, q⟩, fun x2 H2 y => ?_⟩
          obtain ⟨rfl, y⟩ := y
          have e3 := y vs (SqL.of e2)
          rw [ev] at e3; cases e3
          exact turn_ok R1 rv h1 fun ad' σ' H' s' R' P' k => ⟨by omega, ad', s', R', P1.trans P', k⟩
      · exact h1.elim
    · exact h1.elim
end
theorem tS_for {mi : M (List Ev.D)} {tg : Tg} {bd : M Ev.Flow} {kl : List Nat} : ∀ D σ H, tS N W (M.bind mi fun l => loopF (turnM tg bd) kl l) D σ H → tFor (tI N W mi) (gTg N.K tg) (tS N W bd) D σ H := by
  rintro D σ H ⟨ad, s, F, R, h⟩
  exact ⟨ad, s, F, R, (GarS.bind h).mono fun ds s1 ad1 H1 R1 P1 h1 J wk => for_core R1 wk h1⟩
/-- over a dict's keys: the dict is locked meanwhile -/
theorem tS_forK {i : Nat} {tg : Tg} {bd : M Ev.Flow} {kl : List Nat} : ∀ D σ H, tS N W (M.bind (keysM i) fun l => noX (loopF (turnM tg bd) kl l)) D σ H →
    tLock (tFor (iKeys (tVar i)) (gTg N.K tg) (tS N W bd)) D σ H ∨ tFor (iKeys (tVar i)) (gTg N.K tg) (tS N W bd) D σ H := by
  rintro D σ H ⟨ad, s, F, R, h⟩
  obtain ⟨kvs, s1, v, R1, P1, hv, rd, h1⟩ := keys_ok R (GarS.bind h)
  unfold noX at h1
  cases hl : loopF (turnM tg bd) kl (keysD kvs) s1 with
  | exc e s' => rw [hl] at h1; exact h1.elim
  | stk => rw [hl] at h1; exact h1.elim
  | ok fl s2 =>
    rw [hl] at h1
    have right : ∀ (J : L2.It), Wlk N s1.cel.length ad (msk H (Mk ad σ s1 F)) J (keysD kvs) → _ := fun J wk => for_core (W := W) (tg := tg) (bd := bd) (kl := kl) (D := D) R1 wk (by rw [hl]; exact h1)
    have left : ∀ (d : Addr) (od : Obj) (u : HO) (J : L2.It), isDk u = true → msk H (Mk ad σ s1 F) d = some u → Wlk N s1.cel.length ad (msk (upd H d (.frz od u)) (Mk ad σ s1 F)) J (keysD kvs) →
        _ := fun d od u J hk hB wk => by
      obtain ⟨Hd, nm⟩ := msk_get hB
      have R2 := R1.chg (u := .frz od u) Hd (core_frz hk) nm
      have hB2 : msk (upd H d (.frz od u)) (Mk ad σ s1 F) d = some (.frz od u) := by rw [msk_of nm]; exact upd_same
      refine for_core (W := W) (tg := tg) (bd := bd) (kl := kl) (D := ⟨fun σ' H' => H' d = some (.frz od u) ∧ D.nx σ' (upd H' d u), fun v H' => H' d = some (.frz od u) ∧ D.rt v (upd H' d u), fun σ' H' => H' d = some (.frz od u) ∧ D.bk σ' (upd H' d u), fun σ' H' => H' d = some (.frz od u) ∧ D.ct σ' (upd H' d u)⟩) R2 wk ?_
      rw [hl]
      intro ad' σ' H' R' P'
      obtain ⟨hd', nm'⟩ := msk_get (frz_sm hB2 P'.sm)
      have Ru := R'.chg (u := u) hd' (core_frz hk).symm nm'
      have Pu : Post ad σ H s1 ad' σ' (upd H' d u) s2 F := ⟨P'.agr, P'.len, P'.ll, sm_unlock Hd P'.sm nm', fun a h => by
        have hne : a ≠ d := fun z => nm (.inl (by rw [← z]; exact h))
        rw [upd_ne hne, P'.frn a h, upd_ne hne]⟩
      have k := h1 ad' σ' (upd H' d u) Ru Pu
      cases fl with
      | next => exact ⟨hd', k⟩
      | brk => exact ⟨hd', k⟩
      | cont => exact ⟨hd', k⟩
      | ret x => exact fun w rw' => ⟨hd', k w (rw'.monoW (Nat.le_refl _) (fun _ _ => rfl) (sw_chg hd' (core_frz hk).symm))⟩
    cases rd with
    | dK s r =>
      rename_i d kv
      have ek : keysD kvs = kvs.map (·.1) := by
        unfold keysD; rw [r.isTd]; rfl
      rcases s with s | ⟨od, s⟩
      · obtain ⟨Hd, nm⟩ := msk_get s
        refine .inl ⟨d, _, Hd, trivial, fun od => ⟨_, hv, d, od, rfl, .inl ⟨kv, upd_same, left d od (.dK kv) _ rfl s ?_⟩⟩⟩
        rw [ek]
        exact wlk_keysK (by rw [msk_of nm]; exact upd_same) (r.mono (Nat.le_refl _) (fun _ _ => rfl) (sm_lock Hd rfl))
      · refine .inr ⟨_, hv, d, od, rfl, .inl ⟨kv, (msk_get s).1, right _ ?_⟩⟩
        rw [ek]
        exact wlk_keysK s r
    | dT s r =>
      rename_i d kv
      have ek : keysD kvs = keysT kvs := by
        unfold keysD; rw [r.isTd]; rfl
      rcases s with s | ⟨od, s⟩
      · obtain ⟨Hd, nm⟩ := msk_get s
        refine .inl ⟨d, _, Hd, trivial, fun od => ⟨_, hv, d, od, rfl, .inr ⟨kv, upd_same, left d od (.dT kv) _ rfl s ?_⟩⟩⟩
        rw [ek]
        exact wlk_keysT (by rw [msk_of nm]; exact upd_same) (r.mono (Nat.le_refl _) (fun _ _ => rfl) (sm_lock Hd rfl))
      · refine .inr ⟨_, hv, d, od, rfl, .inr ⟨kv, (msk_get s).1, right _ ?_⟩⟩
        rw [ek]
        exact wlk_keysT s r
theorem ps_lockOr {X : Cx} {e : Stmt} {t : TS} (h : PS X e t) : PS X e fun D σ H => tLock t D σ H ∨ t D σ H := by
  have l := ps_lock h
  refine ⟨fun pins s σ H D I hw => ?_⟩
  rcases hw with hw | hw
  · exact l.run pins s σ H D I hw
  · exact h.run pins s σ H D I hw
theorem tS_forV {m : M PV} {tg : Tg} {bd : M Ev.Flow} {kl : List Nat} : ∀ D σ H, tS N W (M.bind m fun x => M.bind (walk x) fun wk => loopA (turnM tg bd) kl wk) D σ H →
    tFor (fun σ H R => (tX N W m) σ H fun x H1 => ∃ a xs, x = .ref a ∧ ((SqL N.K H1 a xs ∧ R (Itl N.K a) H1) ∨ (SqT N.K H1 a xs ∧ R (Itt N.K a) H1))) (gTg N.K tg) (tS N W bd) D σ H := by
  rintro D σ H ⟨ad, s, F, R, h⟩
  refine ⟨ad, s, F, R, (GarS.bind h).mono fun pv s1 ad1 H1 R1 P1 h1 v rv => ?_⟩
  by_cases hne : ∃ k, pv = .d (.ref k)
  · obtain ⟨k, rfl⟩ := hne
    have hw := GarS.bind h1
    unfold walk at hw
    simp only at hw
    split at hw
    · rename_i xs hc
      have k2 := Gar.pure R1 hw
      have rv : RepD N s1.cel.length ad1 (msk H1 (Mk ad1 σ s1 F)) v (.ref k) := rv
      cases rv with
      | ref hk =>
        obtain ⟨a', e, vs, e2, r⟩ := R1.own (.id k) _ hc
        have e : some (ad1 k) = some a' := e
        cases e
        exact ⟨_, vs, rfl, .inl ⟨SqL.of e2, forR_core R1 hk rfl k2⟩⟩
    · exact hw.elim
  · have e : walk pv = M.bind pv.store fun x => M.of (x.items.map .xs) := by
      unfold walk
      split
      · rename_i k; exact absurd ⟨k, rfl⟩ hne
      · rfl
    rw [e] at h1
    obtain ⟨d, s', R', P', rd, k⟩ := store_ok R1 rv (Gar.bind (GarS.bind h1))
    obtain ⟨wk, ew, k⟩ := of_inv R' k
    cases d with
    | lst ds =>
      cases ew
      cases rd with
      | lst q1 q2 => exact ⟨_, _, rfl, .inl ⟨SqL.sm sm_le q1, for_core R' (wlk_list q1 q2) k⟩⟩
    | tup ds =>
      cases ew
      cases rd with
      | tup q1 _ q2 => exact ⟨_, _, rfl, .inr ⟨SqT.sm sm_le q1, for_core R' (wlk_tup q1 q2) k⟩⟩
    | _ => cases ew
theorem tS_whl {mc : M Bool} {bd : M Ev.Flow} {kl : List Nat} {n : Nat} : ∀ D σ H, tS N W (loopW mc bd kl n) D σ H → tWhile (tT N W mc) (tS N W bd) D σ H := by
  rintro D σ H ⟨ad, s, F, R, h⟩
  refine ⟨fun m σ' H' => ∃ ad' s', Rel N ad' σ' H' s' F ∧ GarS N W ad' σ' H' s' F (loopW mc bd kl m s') (KS N F D), ⟨n, ad, s, R, h⟩, ?_⟩
  rintro m σ1 H1 ⟨ad1, s1, R1, h1⟩
  refine ⟨ad1, s1, F, R1, ?_⟩
  cases m with
  | zero => exact h1.elim
  | succ m =>
    unfold loopW at h1
    cases hc : mc s1 with
    | stk => rw [hc] at h1; exact h1
    | exc e s2 => rw [hc] at h1; exact fun cls d ad' H' R' P' r => h1 cls d ad' σ1 H' R' P' r
    | ok b s2 =>
      rw [hc] at h1
      intro ad2 H2 R2 P2
      cases b with
      | false => exact h1 ad2 σ1 H2 R2 P2
      | true =>
        rw [if_pos rfl]
        refine ⟨fun σ' H' => ∃ ad' s', Rel N ad' σ' H' s' F ∧ GarS N W ad' σ' H' s' F (loopW mc bd kl m s') (KS N F D), fun σ' H' q => ⟨m, Nat.lt_succ_self m, q⟩, ad2, s2, F, R2, ?_⟩
        simp only at h1
        cases hm : bd s2 with
        | stk => rw [hm] at h1; exact h1
        | exc e s3 => rw [hm] at h1; exact fun cls d ad' σ' H' R' P' => h1 cls d ad' σ' H' R' (P2.trans P')
        | ok fl s3 =>
          rw [hm] at h1
          intro ad' σ' H' R' P'
          cases fl with
          | next =>
            obtain ⟨R3, P3⟩ := R'.wipe kl
            exact ⟨ad', _, R3, h1.from ((P2.trans P').trans P3)⟩
          | cont =>
            obtain ⟨R3, P3⟩ := R'.wipe kl
            exact ⟨ad', _, R3, h1.from ((P2.trans P').trans P3)⟩
          | brk =>
            obtain ⟨R3, P3⟩ := R'.wipe kl
            exact h1 ad' σ' H' R3 ((P2.trans P').trans P3)
          | ret t => exact h1 ad' σ' H' R' (P2.trans P')
end Ev

set_option autoImplicit false
set_option linter.all false
set_option maxRecDepth 100000
set_option maxHeartbeats 1000000
/-! Exceptions: raise X(), try .. except X. -/
namespace Ev
open PySem PySem.Spec L2 PyProof.Rows
variable {T : Nam} {N : Nms} {G : Tab} {W : WX} {F : FT}
/-- X(), X an own class of exceptions without an __init__ of its own -/
theorem pmk_own0 {X : Cx} {C : Addr} {x : Str} {p pos : Pos} (q : ExcP X.K C) (gC : X.mg x = some (.ref C)) (hg : Gl X x) (hdb : (x == ("__debug__" : Str)) = false) : PMk X (.Call (.Name x p) [] [] pos) (fun _ H Q => Q (.ref C) none H) := by
  intro pins s σ H Q I h
  refine wpAny_Call_Name_kw (ld_glob I hg gC ?_ hdb)
  refine PySem.W.callWith_K0 I.kIn q.kp ?_
  obtain ⟨bm, N, nm, qn, bs, hdct, sn, sub, ab, col, dd, k0, k1, k2, k3, k5, mN, hC, hN, hni, TT⟩ := exc_obj I.kIn q.ex
  refine wpAny_call_exc_subT F.excBase_ValueError TT hC hN hni (fun h' e hm => ?_) (by show 0 ≤ sizeLine; exact Nat.zero_le _)
  exact mk_of I hm (raises_own q.sb q.ty) h (I.hok.gone hm.new)
theorem tS_rais {c : Nat} {es : Exs} {C : Addr} (hes : es = .nil) (hC : C = N.cl c) : ∀ D σ H, tS N W (M.bind (evDs G F es) (raisM G c)) D σ H → G.exf c = some [] ∧ W (.ref C) none σ H := by
  rintro D σ H ⟨ad, s, FF, R, h⟩
  subst hes hC
  have h : GarS N W ad σ H s FF (raisM G c [] s) (KS N FF D) := h
  unfold raisM at h
  cases he : G.exf c with
  | none => rw [he] at h; exact h.elim
  | some fs =>
    rw [he] at h
    cases fs with
    | nil => exact ⟨rfl, h (.ref (N.cl c)) none ad σ H R Post.refl ⟨rfl, .inl ⟨rfl, rfl⟩⟩⟩
    | cons => exact h.elim
/-- a clause's reading: plain, or with a name (its slot) -/
inductive Cl where
  | pl (c : Value) (ts : Addr → Value → Option Addr → TS)
  | nm (c : Value) (i : Nat) (ts : Addr → Value → Option Addr → TS)
/-- what all clauses wish of an exception of the body -/
def wCl (K : PySem.W.Frag) (Wo : WX) (D : Ends) : List Cl → WX
  | [] => Wo
  | .pl c ts :: r => fun cls d σ H => ∃ b, PySem.W.exmOne K cls c = some b ∧ (b = true → ∀ a, H a = none → ts a cls d D σ H) ∧ (b = false → wCl K Wo D r cls d σ H)
  | .nm c i ts :: r => fun cls d σ H => ∃ b, PySem.W.exmOne K cls c = some b ∧
      (b = true → ∀ a, H a = none → ts a cls d { nx := fun σ' H' => D.nx (σ'.set i none) H', rt := D.rt, bk := fun σ' H' => D.bk (σ'.set i none) H', ct := fun σ' H' => D.ct (σ'.set i none) H' } (σ.set i (some (.ref a))) H) ∧
      (b = false → wCl K Wo D r cls d σ H)
inductive ClsOk (X : Cx) : List ExceptHandler → List Cl → Prop
  | nil : ClsOk X [] []
  | pl {x : Str} {c : Value} {ts : Addr → Value → Option Addr → TS} {b0 : Stmt} {su : List Stmt} {np p : Pos} {hds : List ExceptHandler} {l : List Cl} (hc : Names X x c)
      (hsu : ∀ (a : Addr) (oe : Obj) (cls : Value) (d : Option Addr) (pn : List (Addr × Obj)), Zc cls d oe → (∃ vs, oe.data = .fields vs) → PSs (X.suite a ((a, oe) :: pn)) (b0 :: su) (ts a cls d)) (r : ClsOk X hds l) :
      ClsOk X (.ExceptHandler (some (.Name x np)) none (b0 :: su) p :: hds) (.pl c ts :: l)
  | nm {x n : Str} {c : Value} {i : Nat} {ts : Addr → Value → Option Addr → TS} {b0 : Stmt} {su : List Stmt} {np p : Pos} {hds : List ExceptHandler} {l : List Cl} (hc : Names X x c) (hi : X.N[i]? = some n) (hl : X.env.kindOf n = some .local)
      (hsu : ∀ (a : Addr) (oe : Obj) (cls : Value) (d : Option Addr) (pn : List (Addr × Obj)), Zc cls d oe → (∃ vs, oe.data = .fields vs) → PSs (X.suite a ((a, oe) :: pn)) (b0 :: su) (ts a cls d)) (r : ClsOk X hds l) :
      ClsOk X (.ExceptHandler (some (.Name x np)) (some n) (b0 :: su) p :: hds) (.nm c i ts :: l)
section
variable {X : Cx} {body : List Stmt} {h0 : ExceptHandler} {hds : List ExceptHandler} {l : List Cl} {pos : Pos} {tb : WX → TS} {Wo : WX}
/-- try with clauses of both kinds -/
theorem ps_tryC (hs : X.stack = X.env :: X.outer) (hf : X.env.frame = some X.env.locals) (hN : X.N.Nodup) (tk : Takes X Wo)
    (hb : ∀ (W : WX) (pn : List (Addr × Obj)) (xe : Value → Shared → Prop), Takes (X.tr pn xe) W → PassesOwn (model X.prog X.w) X.A X.env xe → PSs (X.tr pn xe) body (tb W))
    (hh : ClsOk X (h0 :: hds) l) : PS X (.Try body (h0 :: hds) [] [] pos) (fun D σ H => tb (wCl X.K Wo D l) D σ H) := by
  refine ⟨fun pins s σ H D I h => ?_⟩
  have ok := I.ok
  have hfr : X.A.frames = some (X.env :: X.outer) := by rw [ok.frames, hs]
  refine wpAny_Try_except ?_
  refine wpAny_mono ((hb (wCl X.K Wo D l) (X.pn ++ pins) (fun e s1 => wpAny (model X.prog X.w) X.A (noteFrame e X.env) (fun _ s2 => wpAny (model X.prog X.w) X.A (setFlight e none) (fun _ s3 =>
    wpAny (model X.prog X.w) X.A (handleBy e X.env (h0 :: hds)) (SP X pins D) X.xe s3) X.xe s2) X.xe s1) (fun u s' xx => ?_) PassesOwn.looking).run [] s σ H D (I.toTry _) h) (fun f s1 hsp => ?_) (fun e s1 he => he)
  · obtain ⟨a, B, sI, pins', σ', H', cls, d, rfl, J', nb, up, sky, na, os, ag, w⟩ := xx
    have J : Inv X pins σ' H' sI := J'.ofTry ok
    have sky' : Sky B (X.env :: X.outer) a (Zc cls d) X.env.locals s'.heap := by rw [← hs]; exact sky
    show wpAny (model X.prog X.w) X.A (noteFrame (.ref a) X.env) _ _ _
    refine Sky.land Zc.steady hfr hf sky' fun h3 fl3 up3 => ?_
    have J3 : Inv X pins σ' H' { s' with heap := h3 } := J.landed nb fl3.1 (up.trans up3) os ag
    obtain ⟨oe3, vs3, he3, hz3, hd3⟩ := fl3.there
    have nfr : a ∉ frs (X.env :: X.outer) := fun hm => by
      obtain ⟨_, o', e', hnf⟩ := fl3.2.2.1.mem hm
      rw [he3] at e'; cases e'
      exact hnf _ hd3
    have nL : a ≠ X.env.locals := fun z => nfr (List.mem_filterMap.mpr ⟨X.env, List.mem_cons_self, by rw [hf, z]⟩)
    have nF : a ∉ X.fs := fun hm => by
      obtain ⟨e, he, q⟩ := List.mem_filterMap.mp hm
      exact nfr (List.mem_filterMap.mpr ⟨e, List.mem_cons_of_mem _ he, q⟩)
    have S3 := J3.suite he3 hd3 na nL nF
    have LT : PySem.W.Looks (model X.prog X.w) h3 (typeOf (.ref a)) cls := fun A Q E s k q => wpAny_typeOf_ref (k _ _ he3) (by rw [hz3.1]; exact q)
    have test : ∀ {x : Str} {c : Value} {np : Pos} {Q : Value → Shared → Prop} {E : Value → Shared → Prop}, Names X x c → Q c { s' with heap := h3 } → wpAny (model X.prog X.w) (X.A.mark (some (.ref a))) (eval (.Name x np) X.env) Q E { s' with heap := h3 } := fun {x c np Q E} hc q => by
      obtain ⟨hg, hdbg, hm | ⟨hm, hv, hnn⟩⟩ := hc
      · exact ld_glob (X := X.suite a ((a, oe3) :: (X.pn ++ pins))) S3 hg hm q hdbg
      · exact ld_blt (X := X.suite a ((a, oe3) :: (X.pn ++ pins))) S3 hg hm hv q hnn hdbg
    have go : ∀ {hds' : List ExceptHandler} {l' : List Cl}, ClsOk X hds' l' → wCl X.K Wo D l' cls d σ' H' →
        wpAny (model X.prog X.w) X.A (handleBy (.ref a) X.env hds') (SP X pins D) X.xe { s' with heap := h3 } := by
      intro hds' l' hk
      induction hk with
      | nil =>
        intro w
        refine wpAny_handleBy_nil ?_
        obtain ⟨k1, k2, k3, oe, vs, Tr, oT, ts', he, hz, hd, h1, hr⟩ := id fl3
        unfold PySem.passOn
        refine wpAny_bind (wpAny_field he hd h1 ?_)
        rw [if_neg (show ¬ ((Value.ref Tr == Value.none) = true) from by simp)]
        have fin : wpAny (model X.prog X.w) X.A (setFlight (.ref a) X.env.frame) (fun _ s4 => wpAny (model X.prog X.w) X.A (throw (.ref a) : Sem PySem.Flow) (SP X pins D) X.xe s4) X.xe { s' with heap := h3 } := by
          rw [hf]
          refine HandSPX.setFlight_upZ fl3 fun h4 hh4 up4 => wpAny_throw (tk _ _ ?_)
          exact ⟨a, B, sI, pins, σ', H', cls, d, rfl, J, nb, (up.trans up3).trans up4, .inr (.inr (by rw [hs]; exact hh4)), na, os, ag, w⟩
        first
          | exact wpAny_bind (wpAny_pure (wpAny_bind fin))
          | exact wpAny_bind fin
      | @pl x c ts b0 su np p hds2 l2 hc hsu r ih =>
        intro w
        obtain ⟨b, hb1, hyes, hno⟩ := w
        refine wpAny_handleBy_cons (codeAny_handlers_test ?_) (by intro q; cases q)
        refine test hc ((PySem.W.exm_one (M := model X.prog X.w) (J3.kIn) LT hb1).here ?_)
        cases b with
        | true =>
          refine codeAny_handlers_suite ?_
          refine HandSPX.lands_againZ fl3 fun h4 fl4 up4 => ?_
          have J4 : Inv X pins σ' H' { s' with heap := h4 } := J.landed nb fl4.1 ((up.trans up3).trans up4) os ag
          obtain ⟨oe4, vs4, he4, hz4, hd4⟩ := fl4.there
          have S4 := J4.suite he4 hd4 na nL nF
          refine wpAny_mono ((hsu a oe4 cls d (X.pn ++ pins) hz4 ⟨_, hd4⟩).run [] _ _ H' _ S4 (hyes rfl a na)) (fun f s6 hsp => ?_) (fun _ _ z => False.elim z)
          cases f with
          | ret u =>
            obtain ⟨v6, σ6, H6, S6, r6, q6⟩ := hsp
            exact ⟨_, _, _, S6.unsuite ok, r6, q6⟩
          | _ =>
            obtain ⟨σ6, H6, S6, q6⟩ := hsp
            exact ⟨_, _, S6.unsuite ok, q6⟩
        | false =>
          show wpAny _ X.A (handleBy (.ref a) X.env hds2) _ _ _
          exact ih (hno rfl)
      | @nm x n c i ts b0 su np p hds2 l2 hc hi hln hsu r ih =>
        intro w
        obtain ⟨b, hb1, hyes, hno⟩ := w
        refine wpAny_handleBy_cons (codeAny_handlers_test ?_) (by intro q; cases q)
        refine test hc ((PySem.W.exm_one (M := model X.prog X.w) (J3.kIn) LT hb1).here ?_)
        cases b with
        | true =>
          refine codeAny_handlers_suite_as ?_
          refine HandSPX.lands_againZ fl3 fun h4 fl4 up4 => ?_
          have J4 : Inv X pins σ' H' { s' with heap := h4 } := J.landed nb fl4.1 ((up.trans up3).trans up4) os ag
          obtain ⟨oe4, vs4, he4, hz4, hd4⟩ := fl4.there
          have S4 := J4.suite he4 hd4 na nL nF
          refine L2.store_ok (X := X.suite a ((a, oe4) :: (X.pn ++ pins))) (v := .ref a) S4 hN hi (.inl hln) rfl (fun s5 S5 => ?_) (.inr hln)
          refine wpAny_mono ((hsu a oe4 cls d (X.pn ++ pins) hz4 ⟨_, hd4⟩).run [] s5 _ H' _ S5 (hyes rfl a na)) (fun f s6 hsp => ?_) (fun _ _ z => False.elim z)
          have end_ : ∀ {σ6 : L2.St} {H6 : Hp} {Q : Shared → Prop}, Inv (X.suite a ((a, oe4) :: (X.pn ++ pins))) [] σ6 H6 s6 → (∀ s7, Inv X pins (σ6.set i none) H6 s7 → Q s7) →
              wpAny (model X.prog X.w) X.A (do bindName X.env n .none; unbindBehindTheSuite X.env n p) (fun _ s7 => Q s7) X.xe s6 := fun {σ6 H6 Q} S6 hq => gone_ok (S6.unsuite ok) hN hi hln hq
          cases f with
          | ret u =>
            obtain ⟨v6, σ6, H6, S6, r6, q6⟩ := hsp
            exact end_ S6 fun s7 J7 => ⟨_, _, _, J7, r6, q6⟩
          | _ =>
            obtain ⟨σ6, H6, S6, q6⟩ := hsp
            exact end_ S6 fun s7 J7 => ⟨_, _, J7, q6⟩
        | false =>
          show wpAny _ X.A (handleBy (.ref a) X.env hds2) _ _ _
          exact ih (hno rfl)
    exact go hh w
  · cases f with
    | ret u =>
      obtain ⟨v, σ', H', J', r, q⟩ := hsp
      exact ⟨v, σ', H', J'.ofTry ok, r, q⟩
    | next =>
      obtain ⟨σ', H', J', q⟩ := hsp
      exact wpAny_execs_nil ⟨σ', H', J'.ofTry ok, q⟩
    | _ =>
      obtain ⟨σ', H', J', q⟩ := hsp
      exact ⟨σ', H', J'.ofTry ok, q⟩
end
/-- how the caught error's question is read -/
def heT (N : Nms) (G : Tab) (a : Addr) (cls : Value) (d : Option Addr) (i : Nat) : HE → TE
  | .is ks => fun σ H Q => ∃ c, (G.exf c).isSome = true ∧ cls = .ref (N.cl c) ∧ d = none ∧ σ[i]? = some (some (.ref a)) ∧ Q (.bl (ks.all fun k => match k with | some k => G.sub c k | none => true)) H
  | .fld f => fun σ H Q => ∃ c fs, G.exf c = some fs ∧ f ∈ fs ∧ cls = .ref (N.cl c) ∧ σ[i]? = some (some (.ref a)) ∧ ∃ (dd : Addr) (fv : List (Str × V)) (v : V), d = some dd ∧ H dd = some (.xd fv) ∧ fv.lookup (N.nm f) = some v ∧ Q v H
def heTS (N : Nms) (G : Tab) (q : Nat × Nat × HE) (a : Addr) (cls : Value) (d : Option Addr) : TS := tAsg (heT N G a cls d q.1 q.2.2) (gName q.2.1)
/-- the clauses, as they are read -/
def hdL (N : Nms) (G : Tab) (F : FT) : Hds → List Cl
  | .nil => []
  | .cons k none b r => .pl (.ref (N.cl k)) (fun _ _ _ => tS N Wf (evSs G F b)) :: hdL N G F r
  | .cons k (some q) _ r => .nm (.ref (N.cl k)) q.1 (heTS N G q) :: hdL N G F r
def hdK : Hds → List Nat
  | .nil => []
  | .cons k _ _ r => k :: hdK r
def hdN : Hds → Bool
  | .nil => true
  | .cons _ bd _ r => (match bd with | none => true | some q => decide (q.1 ≠ q.2.1)) && hdN r
theorem he_ok {ad' : Nat → Addr} {σ' : L2.St} {H' : Hp} {s' : S} {FF : Addr → Prop} {D : Ends} {e : Exc} {d : Option Addr} {a : Addr} {q : Nat × Nat × HE} (inj : ∀ f g, N.nm f = N.nm g → f = g) (hq : q.1 ≠ q.2.1) (he : (G.exf e.c).isSome = true)
    (R' : Rel N ad' σ' H' s' FF) (re : RepE N s'.cel.length ad' (msk H' (Mk ad' σ' s' FF)) H' e (.ref (N.cl e.c)) d) (h : GarS N W ad' σ' H' s' FF (hdE G e q s') (KS N FF D)) :
    heTS N G q a (.ref (N.cl e.c)) d { nx := fun σ' H' => D.nx (σ'.set q.1 none) H', rt := D.rt, bk := fun σ' H' => D.bk (σ'.set q.1 none) H', ct := fun σ' H' => D.ct (σ'.set q.1 none) H' } (σ'.set q.1 (some (.ref a))) H' := by
  obtain ⟨i, j, x⟩ := q
  have hq : i ≠ j := hq
  unfold hdE at h
  simp only at h
  have fin : ∀ (v : V) (y : Ev.D), RepD N s'.cel.length ad' (msk H' (Mk ad' σ' s' FF)) v y → GarS N W ad' σ' H' s' FF (if i < s'.loc.length then Res.ok Ev.Flow.next { s' with loc := (s'.loc.set i none).set j (some (.d y)) } else .stk) (KS N FF D) →
      (σ'.set i (some (.ref a)))[i]? = some (some (.ref a)) ∧ D.nx (((σ'.set i (some (.ref a))).set j (some v)).set i none) H' := fun v y r h => by
    by_cases hi : i < s'.loc.length
    · rw [if_pos hi] at h
      obtain ⟨R1, P1⟩ := R'.unset i (none : Option V)
      obtain ⟨R2, P2⟩ := R1.setD j (v := v) (d := y) (r.mono (Nat.le_refl _) (fun _ _ => rfl) P1.sm)
      have := h ad' _ H' R2 (P1.trans P2)
      have e1 : (((σ'.set i (some (V.ref a))).set j (some v)).set i none) = (σ'.set i none).set j (some v) := by
        rw [List.set_comm _ _ (Ne.symm hq), List.set_set]
      exact ⟨by rw [List.getElem?_set]; simp [R'.len, hi], by rw [e1]; exact this⟩
    · rw [if_neg hi] at h; exact h.elim
  cases x with
  | is ks =>
    have ev : (HE.is ks).ev G e = if e.fs.isEmpty then some (.bl (ks.all fun k => match k with | some k => G.sub e.c k | none => true)) else none := rfl
    rw [ev] at h
    by_cases z : e.fs.isEmpty = true
    · rw [if_pos z] at h
      have hd : d = none := by
        rcases re.2 with ⟨_, q⟩ | ⟨ne, _⟩
        · exact q
        · exact absurd (List.isEmpty_iff.mp z) ne
      obtain ⟨at1, q⟩ := fin _ _ (.bl _) h
      exact ⟨e.c, he, rfl, hd, at1, q⟩
    · rw [if_neg z] at h
      exact h.elim
  | fld f =>
    obtain ⟨fs, hfe⟩ := Option.isSome_iff_exists.mp he
    have ev : (HE.fld f).ev G e = match G.exf e.c with
      | some fs => if f ∈ fs then e.fs.lookup f else none
      | none => none := rfl
    rw [ev, hfe] at h
    simp only at h
    by_cases hf : f ∈ fs
    · rw [if_pos hf] at h
      cases hl : e.fs.lookup f with
      | none => rw [hl] at h; exact h.elim
      | some y =>
        rw [hl] at h
        rcases re.2 with ⟨q, _⟩ | ⟨_, dd, fv, e1, e2, rf⟩
        · rw [q] at hl; cases hl
        · obtain ⟨v, lv, rv⟩ := rf.lookup inj hl
          obtain ⟨at1, q⟩ := fin _ _ rv h
          exact ⟨e.c, fs, hfe, hf, rfl, at1, dd, fv, v, e1, e2, lv, q⟩
    · rw [if_neg hf] at h; exact h.elim
theorem many_ok {K : PySem.W.Frag} (inj : ∀ f g, N.nm f = N.nm g → f = g) {ad ad' : Nat → Addr} {σ σ' : L2.St} {H H' : Hp} {s s' : S} {FF : Addr → Prop} {D : Ends} {e : Exc} {d : Option Addr} (R' : Rel N ad' σ' H' s' FF) (P' : Post ad σ H s ad' σ' H' s' FF) (re : RepE N s'.cel.length ad' (msk H' (Mk ad' σ' s' FF)) H' e (.ref (N.cl e.c)) d) :
    ∀ (hs : Hds), hdN hs = true → (∀ k ∈ hdK hs, ∀ j, (G.exf j).isSome = true → PySem.W.exmOne K (.ref (N.cl j)) (.ref (N.cl k)) = some (G.sub j k)) → GarS N W ad σ H s FF (evHs G F hs e s') (KS N FF D) → wCl K W D (hdL N G F hs) (.ref (N.cl e.c)) d σ' H'
  | .nil, _, _, h => h _ d ad' σ' H' R' P' re
  | .cons k bd b r, hn, hm, h => by
    by_cases he : (G.exf e.c).isSome = true
    · cases bd with
      | some q =>
        have h : GarS N W ad σ H s FF ((if (G.exf e.c).isSome = true then (if G.sub e.c k = true then hdE G e q else evHs G F r e) else stk : M Ev.Flow) s') (KS N FF D) := h
        rw [if_pos he] at h
        have hn : (decide (q.1 ≠ q.2.1) && hdN r) = true := hn
        rw [Bool.and_eq_true, decide_eq_true_eq] at hn
        refine ⟨_, hm k (List.mem_cons_self ..) e.c he, fun hb x _ => ?_, fun hb => ?_⟩
        · rw [if_pos hb] at h
          exact he_ok inj hn.1 he R' re (GarS.from P' h)
        · rw [if_neg (by rw [hb]; simp)] at h
          exact many_ok inj R' P' re r hn.2 (fun k hk => hm k (List.mem_cons_of_mem _ hk)) h
      | none =>
        have h : GarS N W ad σ H s FF ((if (G.exf e.c).isSome = true then (if G.sub e.c k = true then noX (evSs G F b) else evHs G F r e) else stk : M Ev.Flow) s') (KS N FF D) := h
        rw [if_pos he] at h
        have hn : hdN r = true := hn
        refine ⟨_, hm k (List.mem_cons_self ..) e.c he, fun hb x _ => ?_, fun hb => ?_⟩
        · rw [if_pos hb] at h
          refine ⟨ad', s', FF, R', ?_⟩
          have h : GarS N W ad σ H s FF (noX (evSs G F b) s') (KS N FF D) := h
          unfold noX at h
          cases hq : evSs G F b s' with
          | ok f s2 =>
            rw [hq] at h
            exact fun ad2 σ2 H2 R2 P2 => h ad2 σ2 H2 R2 (P'.trans P2)
          | exc e2 s2 => rw [hq] at h; exact h.elim
          | stk => rw [hq] at h; exact h
        · rw [if_neg (by rw [hb]; simp)] at h
          exact many_ok inj R' P' re r hn (fun k hk => hm k (List.mem_cons_of_mem _ hk)) h
    · have h : GarS N W ad σ H s FF ((if (G.exf e.c).isSome = true then (if G.sub e.c k = true then (match bd with
      | none => noX (evSs G F b)
      | some q => hdE G e q) else evHs G F r e) else stk : M Ev.Flow) s') (KS N FF D) := by cases bd <;> exact h
      rw [if_neg he] at h
      exact h.elim
theorem tS_tryx {K : PySem.W.Frag} (inj : ∀ f g, N.nm f = N.nm g → f = g) {a : Sts} {hs : Hds} (hn : hdN hs = true) (hm : ∀ k ∈ hdK hs, ∀ j, (G.exf j).isSome = true → PySem.W.exmOne K (.ref (N.cl j)) (.ref (N.cl k)) = some (G.sub j k)) :
    ∀ D σ H, tS N W (evS G F (.tryx a hs)) D σ H → tS N (wCl K W D (hdL N G F hs)) (evSs G F a) D σ H := by
  rintro D σ H ⟨ad, s, FF, R, h⟩
  refine ⟨ad, s, FF, R, ?_⟩
  have h : GarS N W ad σ H s FF (match evSs G F a s with
    | .exc e s' => evHs G F hs e s'
    | r => r) (KS N FF D) := h
  cases hr : evSs G F a s with
  | ok f s' => rw [hr] at h; exact h
  | stk => rw [hr] at h; exact h
  | exc e s' =>
    rw [hr] at h
    intro cls d ad' σ' H' R' P' re
    obtain ⟨rfl, _⟩ := id re
    exact many_ok inj R' P' re hs hn hm h
/-- the context of a try's body, of an except suite -/
theorem XOk.tr {c : Sx} {X : Cx} (o : XOk T N G c X W) {W' : WX} {pn : List (Addr × Obj)} {xe : Value → Shared → Prop} (tk : Takes (X.tr pn xe) W') : XOk T N G c (X.tr pn xe) W' where
  hK := o.hK
  hN := o.hN
  nd := o.nd
  sc := o.sc
  un := o.un
  calm := o.calm
  fnc := o.fnc
  tk := tk
  blt := o.blt
  con := o.con
  cls := o.cls
  exn := o.exn
  hdn := o.hdn
  exo := o.exo
  exm := o.exm
  exi := o.exi
  exf := o.exf
  rm := o.rm
  eqs := o.eqs
  nsb := o.nsb
  ncl := o.ncl
  nm := o.nm
  kit := o.kit
  fld := o.fld
  ist := o.ist
def Sx.ht (c : Sx) : Sx := { c with hot := true }
theorem XOk.suite {c : Sx} {X : Cx} (o : XOk T N G c X W) (a : Addr) (pn : List (Addr × Obj)) : XOk T N G c.ht (X.suite a pn) Wf where
  hK := o.hK
  hN := o.hN
  nd := o.nd
  sc := o.sc
  un := o.un
  calm := fun h => nomatch (show true = false from h)
  fnc := o.fnc
  tk := fun u s' x => by
    obtain ⟨_, _, _, _, _, _, _, _, _, _, _, _, _, _, _, _, z⟩ := x
    exact z.elim
  blt := o.blt
  con := o.con
  cls := o.cls
  exn := o.exn
  hdn := o.hdn
  exo := o.exo
  exm := o.exm
  exi := o.exi
  exf := o.exf
  rm := fun h => nomatch (show true = false from h)
  eqs := o.eqs
  nsb := o.nsb
  ncl := o.ncl
  nm := o.nm
  kit := o.kit
  fld := o.fld
  ist := o.ist
theorem FnsH.tr {c : Sx} {X : Cx} (f : FnsH T N G c X F) {pn : List (Addr × Obj)} {xe : Value → Shared → Prop} : FnsH T N G c (X.tr pn xe) F := fun h => by
  have f := f h
  exact ⟨fun g x e => by
    obtain ⟨fa, fd, ps, k, q1, q2, q3⟩ := f.fn g x e
    exact ⟨fa, fd, ps, k, q1, q2, ⟨q3.kp, q3.bd, q3.ok, q3.ln⟩⟩, fun k m g e => by
    obtain ⟨fa, fd, ps, kk, q0, q1, q2, q3⟩ := f.mt k m g e
    exact ⟨fa, fd, ps, kk, q0, q1, q2, ⟨q3.kp, q3.bd, q3.ok, q3.ln⟩⟩, fun k g e => by
    obtain ⟨fa, fd, ps, kk, q0, q1, q2, q3⟩ := f.mak k g e
    exact ⟨fa, fd, ps, kk, q0, q1, q2, ⟨q3.kp, q3.bd, q3.ok, q3.ln⟩⟩⟩
theorem FnsH.hot {c : Sx} {X X' : Cx} : FnsH T N G c.ht X' F := fun h => nomatch (show true = false from h)
/-! ### what an except suite asks of the caught error -/
def okIs1 (T : Nam) (c : Sx) (i : Nat) (k : Option Nat) (e : Expr) : Bool := match e with
  | .Call (.Name f _) [.Name n _, .Name x _] [] _ => decide (f = "isinstance") && glB c.sc f && decide (c.N[i]? = some n) && visB c.sc n && dbgB n && (match k with
    | some k => decide (T.hnd k = some x) && glB c.sc x && dbgB x
    | none => decide (x = "ValueError") && glB c.sc x)
  | _ => false
def okIsL (T : Nam) (c : Sx) (i : Nat) : List (Option Nat) → List Expr → Bool
  | [k], [e] => okIs1 T c i k e
  | k :: ks, e :: es => okIs1 T c i k e && okIsL T c i ks es
  | _, _ => false
def okHE (T : Nam) (N : Nms) (c : Sx) (i : Nat) (h : HE) (e : Expr) : Bool := match h, e with
  | .is [k], .Call f l ks p => okIs1 T c i k (.Call f l ks p)
  | .is ks, .BoolOp .And l _ => okIsL T c i ks l
  | .fld f, .Attribute (.Name n _) m _ => decide (N.nm f = m) && decide (c.N[i]? = some n) && visB c.sc n && dbgB n
  | _, _ => false
section
variable {c : Sx} {X : Cx} {W : WX} {a : Addr} {oe : Obj} {pn : List (Addr × Obj)} {i : Nat}
def isT (G : Tab) (a : Addr) (j i : Nat) (ks : List (Option Nat)) : TE := fun σ H Q => σ[i]? = some (some (.ref a)) ∧ Q (.bl (ks.all fun k => match k with | some k => G.sub j k | none => true)) H
theorem is1_pe (o : XOk T N G c (X.suite a ((a, oe) :: pn)) W) {j : Nat} (hx : HxC N.K (N.cl j)) (hk : ∀ k x, T.hnd k = some x → PySem.W.kitOne N.K (.ref (N.cl j)) (.ref (N.cl k)) = some (G.sub j k)) (hz : Zc (.ref (N.cl j)) none oe) (hf : ∃ vs, oe.data = .fields vs) {k : Option Nat} {e : Expr} (h : okIs1 T c i k e = true) :
    PE (X.suite a ((a, oe) :: pn)) e (isT G a j i [k]) := by
  unfold okIs1 at h
  split at h
  · rename_i f p1 n p2 x p3 p4
    simp only [Bool.and_eq_true, decide_eq_true_eq] at h
    obtain ⟨⟨⟨⟨⟨rfl, h2⟩, h3⟩, h4⟩, h5⟩, h6⟩ := h
    obtain ⟨d1, d2, _⟩ := dbg_of h5
    have p1' : PE (X.suite a ((a, oe) :: pn)) (.Name n p2) (tVar i) := pe_var (by rw [o.hN]; exact h3) (vis_of o.sc h4) d1 d2
    have hK : X.K = N.K := o.hK
    have ci : CallR (X.suite a ((a, oe) :: pn)) (.builtin "isinstance") (rIsE X.K (N.cl j) a) := call_isE (by rw [hK]; exact hx.e) hz hf
    have fin : ∀ (v : V) (cv : Value) (b : Bool), (∀ u, RelV v u → u = cv) → PySem.W.kitOne N.K (.ref (N.cl j)) cv = some b → PE (X.suite a ((a, oe) :: pn)) (.Name x p3) (tC v) → PE (X.suite a ((a, oe) :: pn)) (.Call (.Name "isinstance" p1) [.Name n p2, .Name x p3] [] p4) (fun σ H Q => σ[i]? = some (some (.ref a)) ∧ Q (.bl b) H) := fun v cv b hv hkit pv => by
      have pa := pa_cons p1' (pa_cons pv (pa_nil (X := X.suite a ((a, oe) :: pn))) (starE rfl)) (starE rfl)
      refine pe_imp (pe_callB ci (gl_of o.sc h2) (o.blt _ (by decide)) (by decide +kernel) pa (by decide) (by decide) (starE rfl) (by rw [starE (e := .Name x p3) rfl]; rfl)) fun σ H Q hq => ?_
      refine ⟨.ref a, hq.1, ?_⟩
      exact ⟨v, cv, b, rfl, hv, by rw [hK]; exact hkit, hq.2⟩
    cases k with
    | some k =>
      simp only [Bool.and_eq_true, decide_eq_true_eq] at h6
      refine pe_imp (fin (.ref (N.cl k)) (.ref (N.cl k)) (G.sub j k) (fun u r => r) (hk k x h6.1.1) (pe_glob (gl_of o.sc h6.1.2) (o.hdn k x h6.1.1) rfl (dbg_of h6.2).1)) fun σ H Q hq => ⟨hq.1, ?_⟩
      have q := hq.2
      simp only [List.all_cons, List.all_nil, Bool.and_true] at q
      exact q
    | none =>
      simp only [Bool.and_eq_true, decide_eq_true_eq] at h6
      obtain ⟨rfl, h7⟩ := h6
      refine pe_imp (fin (.ty "ValueError") (.type "ValueError") true (fun u r => r) hx.v (pe_bltn (gl_of o.sc h7) (o.blt _ (by decide)) (by decide +kernel) rfl (by decide) (by decide))) fun σ H Q hq => ⟨hq.1, ?_⟩
      have q := hq.2
      simp only [List.all_cons, List.all_nil, Bool.and_true] at q
      exact q
  · cases h
theorem isL_pe (o : XOk T N G c (X.suite a ((a, oe) :: pn)) W) {j : Nat} (hx : HxC N.K (N.cl j)) (hk : ∀ k x, T.hnd k = some x → PySem.W.kitOne N.K (.ref (N.cl j)) (.ref (N.cl k)) = some (G.sub j k)) (hz : Zc (.ref (N.cl j)) none oe) (hf : ∃ vs, oe.data = .fields vs) {p : Pos} :
    ∀ (ks : List (Option Nat)) (es : List Expr), okIsL T c i ks es = true → PE (X.suite a ((a, oe) :: pn)) (.BoolOp .And es p) (isT G a j i ks)
  | [], es, h => by cases es <;> exact nomatch (show false = true from h)
  | [k], [], h => nomatch (show false = true from h)
  | [k], [e], h => pe_one (is1_pe o hx hk hz hf h)
  | [k], e :: e2 :: es, h => by
    have h : (okIs1 T c i k e && okIsL T c i [] (e2 :: es)) = true := h
    rw [Bool.and_eq_true] at h
    exact nomatch (show false = true from h.2)
  | k :: k2 :: ks, [], h => nomatch (show false = true from h)
  | k :: k2 :: ks, [e], h => by
    have h : (okIs1 T c i k e && okIsL T c i (k2 :: ks) []) = true := h
    rw [Bool.and_eq_true] at h
    have h2 := h.2
    cases ks <;> exact nomatch (show false = true from h2)
  | k :: k2 :: ks, e :: e2 :: es, h => by
    have h : (okIs1 T c i k e && okIsL T c i (k2 :: ks) (e2 :: es)) = true := h
    rw [Bool.and_eq_true] at h
    have r := isL_pe o hx hk hz hf (p := p) (k2 :: ks) (e2 :: es) h.2
    refine pe_imp (pe_and (is1_pe o hx hk hz hf h.1) r) fun σ H Q hq => ?_
    refine ⟨hq.1, _, rfl, ?_⟩
    have q := hq.2
    simp only [List.all_cons, List.all_nil, Bool.and_true] at q ⊢
    cases hb : (match k with | some k => G.sub j k | none => true) with
    | false => rw [hb] at q; exact q
    | true => rw [hb] at q; exact ⟨hq.1, by simpa using q⟩
/-- the question is answered -/
theorem he_pe (o : XOk T N G c (X.suite a ((a, oe) :: pn)) W) (hT : T.exi = true) {cls : Value} {d : Option Addr} (hz : Zc cls d oe) (hf : ∃ vs, oe.data = .fields vs) {h : HE} {e : Expr} (hh : okHE T N c i h e = true) : PE (X.suite a ((a, oe) :: pn)) e (heT N G a cls d i h) := by
  have hK : X.K = N.K := o.hK
  cases h with
  | is ks =>
    by_cases hj : ∃ j, (G.exf j).isSome = true ∧ cls = .ref (N.cl j) ∧ d = none
    · refine ⟨fun pins s σ H Q I hq => ?_⟩
      obtain ⟨j, h1, rfl, rfl, h4, hq⟩ := hq
      obtain ⟨x1, x2, _⟩ := o.exi hT j h1
      have pe : PE (X.suite a ((a, oe) :: pn)) e (isT G a j i ks) := by
        unfold okHE at hh
        split at hh
        · rename_i e1
          cases e1
          exact is1_pe o x1 x2 hz hf hh
        · rename_i e1
          cases e1
          exact isL_pe o x1 x2 hz hf _ _ hh
        · rename_i e1
          cases e1
        · cases hh
      exact pe.run pins s σ H Q I ⟨h4, hq⟩
    · refine ⟨fun pins s σ H Q I hq => ?_⟩
      obtain ⟨j, h1, h2, h3, _⟩ := hq
      exact absurd ⟨j, h1, h2, h3⟩ hj
  | fld f =>
    refine ⟨fun pins s σ H Q I hq => ?_⟩
    obtain ⟨j, fs, h1, h2, rfl, h4, dd, fv, v, rfl, h5, h6, hq⟩ := hq
    obtain ⟨x1, _, x3⟩ := o.exi hT j (by rw [h1]; rfl)
    unfold okHE at hh
    split at hh
    · rename_i e1; cases e1
    · rename_i e1; cases e1
    · rename_i f' n p1 m p2 e1
      cases e1
      simp only [Bool.and_eq_true, decide_eq_true_eq] at hh
      obtain ⟨⟨⟨rfl, g2⟩, g3⟩, g4⟩ := hh
      obtain ⟨d1, d2, _⟩ := dbg_of g4
      have p1' : PE (X.suite a ((a, oe) :: pn)) (.Name n p1) (tVar i) := pe_var (by rw [o.hN]; exact g2) (vis_of o.sc g3) d1 d2
      have pe : PE (X.suite a ((a, oe) :: pn)) (.Attribute (.Name n p1) (N.nm f) p2) (tXf a (.ref (N.cl j)) (some dd) (N.cl j) (N.nm f) (tVar i)) := pe_xf (by rw [hK]; exact x1.x) (by rw [hK]; exact x3 fs h1 f h2) hz hf p1'
      exact pe.run pins s σ H Q I ⟨.ref a, h4, rfl, rfl, dd, fv, v, rfl, h5, h6, hq⟩
    · cases hh
end
/-- where a def's frame stands -/
structure Stk (X : Cx) : Prop where
  st : X.stack = X.env :: X.outer
  fr : X.env.frame = some X.env.locals
end Ev

set_option autoImplicit false
set_option linter.all false
set_option maxRecDepth 100000
set_option maxHeartbeats 2000000
/-! Exceptions with fields: the __init__ says super().__init__(text), then self.f = x. -/
namespace Ev
open PySem PySem.Spec L2 PyProof.Rows NdefX
/-- what is asked of the body of such an __init__: self, its parameters, their fields -/
def ib1 (ini : Stmt) : Bool := match ini with
  | .Expr (.Call (.Attribute (.Call (.Name su _) [] [] _) i pa) [.Constant (.str _) _ _] [] pc) _ => decide (su = "super") && decide (i = "__init__") && (pa.endLine == pc.line)
  | _ => false
def ib2 (se f x : Str) (st : Stmt) : Bool := match st with
  | .Assign [.Attribute (.Name se' _) f' _] (.Name x' _) _ => decide (se' = se) && decide (f' = f) && decide (x' = x) && dbgB se && dbgB x
  | _ => false
def ibB : List Str → List Str → List Stmt → Bool
  | [se, x], [f], [a, b] => ib1 a && ib2 se f x b
  | [se, x, y], [f, g], [a, b, c] => ib1 a && ib2 se f x b && ib2 se g y c && decide (f ≠ g)
  | _, _, _ => false
/-- what the written part says of it: C the class, fI its __init__, ps its parameters, F its words -/
structure XiC (P : Program) (K : PySem.W.Frag) (C fI : Addr) (ps fs : List Str) (F : NF) : Prop where
  oex : OexC K C
  lk : ∃ (oc : Value) (od : Option Addr) (doc pm ctv : Value) (osl : Array (Option Value)), K.lookup fI = some ⟨oc, od, .func (F.fd doc pm ctv), osl⟩
  code : PySem.W.codeIn K (.ref F.c) F.qual = true
  file : ∃ (ccl : Value) (cdd : Option Addr) (vs : Array Value) (ccs : Array (Option Value)) (fl : Str) (tf : Tok), K.lookup F.c = some ⟨ccl, cdd, .fields vs, ccs⟩ ∧ vs[2]? = some (.str fl tf) ∧ ((P.main.file : Str) == fl) = true
  cell : ∃ cc, F.cl = [(("__class__" : Str), cc)] ∧ ∃ (cl : Value) (cld : Option Addr) (csl : Array (Option Value)), K.lookup cc = some ⟨cl, cld, .cell (some (.ref C)), csl⟩
  sc : ∃ N, NScope N ps ["__class__"] F.scope
  sup : F.scope.names.lookup ("super" : Str) = some .globalImplicit
  top : (P.main.scope.names.lookup ("super" : Str)).isSome = false
  par : ∃ ar : Arg, (F.params.posonlyargs ++ F.params.args).head? = some ar ∧ ps.head? = some ar.arg
  stat : PySem.W.nsIn K cStatics "thirdparty.any" = some none
  ini : PySem.W.ks_superIn K C C "__init__" = some (some (.builtin "ValueError.__init__"))
  sub : PySem.W.mroIn K C (.ref C) = some true
  val : PySem.W.subIn K (.ref C) (.type "ValueError") = some true
  fnd : PySem.W.findIn K (.ref C) "__init__" = some (some (.ref fI))
  typ : PySem.W.typeIn K (.ref fI) = some (.type "function")
  bind : ∀ (doc pm ctv : Value) (us : List Value), us.length = ps.length → bindArgs (F.fd doc pm ctv) ⟨us, []⟩ = pure (ps.zip us)
  noat : ∀ f ∈ fs, PySem.W.findIn K (.ref C) f = some none
  body : ibB ps fs F.body = true
section
variable {P : Program} {w : World} {K : PySem.W.Frag} {mg : Str → Option Value} {base : Heap} {C fI : Addr} {ps fs : List Str} {F : NF}
theorem ib_inv {ps fs : List Str} {b : List Stmt} (h : ibB ps fs b = true) : ∃ (se : Str) (xs : List Str) (m : Str) (j : Nat) (p0 p1 p2 p3 p4 p5 : Pos) (r : List Stmt), ps = se :: xs ∧ (p2.endLine == p4.line) = true ∧ b = .Expr (.Call (.Attribute (.Call (.Name "super" p0) [] [] p1) "__init__" p2) [.Constant (.str m) j p3] [] p4) p5 :: r ∧
    ((∃ x f s1, xs = [x] ∧ fs = [f] ∧ r = [s1] ∧ ib2 se f x s1 = true) ∨ (∃ x y f g s1 s2, xs = [x, y] ∧ fs = [f, g] ∧ r = [s1, s2] ∧ ib2 se f x s1 = true ∧ ib2 se g y s2 = true ∧ f ≠ g)) := by
  unfold ibB at h
  have one : ∀ {a : Stmt}, ib1 a = true → ∃ (m : Str) (j : Nat) (p0 p1 p2 p3 p4 p5 : Pos), (p2.endLine == p4.line) = true ∧ a = .Expr (.Call (.Attribute (.Call (.Name "super" p0) [] [] p1) "__init__" p2) [.Constant (.str m) j p3] [] p4) p5 := fun {a} h => by
    unfold ib1 at h
    split at h
    · simp only [Bool.and_eq_true, decide_eq_true_eq] at h
      obtain ⟨⟨rfl, rfl⟩, h3⟩ := h
      exact ⟨_, _, _, _, _, _, _, _, h3, rfl⟩
    · cases h
  split at h
  · rename_i se x f a b
    simp only [Bool.and_eq_true] at h
    obtain ⟨m, j, p0, p1, p2, p3, p4, p5, hp, rfl⟩ := one h.1
    exact ⟨se, _, m, j, p0, p1, p2, p3, p4, p5, _, rfl, hp, rfl, .inl ⟨x, f, b, rfl, rfl, rfl, h.2⟩⟩
  · rename_i se x y f g a b c
    simp only [Bool.and_eq_true, decide_eq_true_eq] at h
    obtain ⟨m, j, p0, p1, p2, p3, p4, p5, hp, rfl⟩ := one h.1.1.1
    exact ⟨se, _, m, j, p0, p1, p2, p3, p4, p5, _, rfl, hp, rfl, .inr ⟨x, y, f, g, b, c, rfl, rfl, rfl, h.1.1.2, h.1.2, h.2⟩⟩
  · cases h
theorem ib2_inv {se f x : Str} {st : Stmt} (h : ib2 se f x st = true) : dbgB se = true ∧ dbgB x = true ∧ ∃ p1 p2 p3 p4, st = .Assign [.Attribute (.Name se p1) f p2] (.Name x p3) p4 := by
  unfold ib2 at h
  split at h
  · simp only [Bool.and_eq_true, decide_eq_true_eq] at h
    obtain ⟨⟨⟨⟨rfl, rfl⟩, rfl⟩, h4⟩, h5⟩ := h
    exact ⟨h4, h5, _, _, _, _, rfl⟩
  · cases h
theorem cells_ok (T : XiC P K C fI ps fs F) {A : Around} {outer : List Env} {s : Shared} {H : Hp} (e0 : Env0 P w K mg base A outer s H) : CellsAt F.cl ["__class__"] [some (.ref C)] s.heap H := by
  obtain ⟨cc, hc, cl, cld, csl, lk⟩ := T.cell
  have KX : K.In s.heap := e0.mod.kin.keeps fun b o e => (e0.bs b o e).1
  have hb : ∀ y c, F.cl.lookup y = some c → y = "__class__" ∧ c = cc := fun y c e => by
    rw [hc] at e
    unfold List.lookup at e
    split at e
    · rename_i h; cases e; exact ⟨by simpa using h, rfl⟩
    · cases e
  have ic : s.heap.IsCell cc (some (.ref C)) := ⟨_, KX _ _ lk, rfl⟩
  refine ⟨rfl, fun y c e => ?_, fun x y c e1 e2 => (hb x c e1).1.trans (hb y c e2).1.symm, fun i y e => ?_⟩
  · obtain ⟨_, rfl⟩ := hb y c e
    exact ⟨(e0.bs _ _ (e0.mod.kin _ _ lk)).2, _, ic⟩
  · cases i with
    | zero =>
      cases e
      refine ⟨cc, by rw [hc]; rfl, fun v e => ?_⟩
      cases e
      exact ⟨.ref C, rfl, ic⟩
    | succ n => cases e
theorem call_mw {prog : Program} {A : Around} {E : Value → Shared → Prop} {h : Heap} {g : Array GenState} {d : Drawn} {t : Nat} {os : OsState} {nm q : Str} {C N : Addr} {bs bm : List Value} {hdct : Bool} {sn : List Str} {sub : List Value} {ab : Bool} {col : Option Bool} {dd : Option Addr} {k0 k1 k2 k3 k5 : Option Value}
    {u e t0 : Addr} {rest : List Value} {Q : Value → Shared → Prop}
    (hC : h.get? C = some (excClassObj nm q C N bs bm hdct sn sub ab col dd k0 k1 k2 k3 k5 "ValueError.__new__")) (he : h.get? e = some (PySem.HandSPX.excO C t0)) (hu : h.get? u = some (PySem.W.kxs_mw "ValueError.__init__" e)) (hrest : rest.length ≤ sizeLine)
    (hq : ∀ h' t1, (∀ b o, b ≠ e → h.get? b = some o → h'.get? b = some o) → h'.get? e = some (PySem.HandSPX.excO C t1) → Q .none ⟨h', g, d, t, os⟩) :
    wpAny (model prog w) A (call (.ref u) rest) Q E ⟨h, g, d, t, os⟩ := by
  refine wpAny_call (codeAny_of_tree ?_)
  show wpAny _ A.in1 (callAny (.ref u) ⟨rest, []⟩) _ _ _
  simp only [callAny]
  refine wpAny_bind (wpAny_load hu ?_)
  simp only [PySem.W.kxs_mw, show (Value.type "method-wrapper" == Value.type "method" || Value.type "method-wrapper" == Value.type "builtin_function_or_method" || Value.type "method-wrapper" == Value.type "method-wrapper") = true by decide, if_true]
  refine PySem.W.KFB.if_so (by decide) ?_
  refine wpAny_bind (PySem.W.check_bound_init F.excBase_ValueError.toExcCallFacts hC he rfl ?_)
  refine wpAny_bind (wpAny_pure (wpAny_pure ?_))
  refine ⟨plainId_quiet F.excBase_ValueError.init.plain _, codeAny_builtin F.excBase_ValueError.initEntry ?_⟩
  exact PySem.W.exc_init_tree (cls := .ref C) (t0 := t0) (dv := none) (c2 := .none) (c3 := .none) (b4 := .bool false) he hrest fun h' k e' _ => hq h' _ k e'
theorem exd_swap {d : Addr} {f g : Str} {v u : V} (h : f ≠ g) : exd d [(g, u), (f, v)] = exd d [(f, v), (g, u)] := by
  have e : ∀ k : Str, List.lookup k [(g, u), (f, v)] = List.lookup k [(f, v), (g, u)] := fun k => by
    rw [lookup_put, lookup_put, lookup_put, lookup_put]
    by_cases h1 : k = g
    · rw [if_pos h1, if_neg (by rw [h1]; exact fun z => h z.symm), if_pos h1]
    · rw [if_neg h1, if_neg h1]
  unfold exd
  congr 1
  funext h
  congr 1
  funext mA
  congr 1
  exact propext (forall_congr' fun k => by rw [e k])
theorem init_ok (T : XiC P K C fI ps fs F) (hmg : mg "super" = none) : ∃ fd, FnOk P w K mg base (L2.CX P w) 1 fI fd ps (spXI C fs) ∧ Binds K fd ps [] := by
  obtain ⟨oc, od, doc, pm, ctv, osl, hlk⟩ := T.lk
  obtain ⟨se, xs, m, j, p0, p1, p2, p3, p4, p5, rst, rfl, hline, hb, hr2⟩ := ib_inv T.body
  obtain ⟨N, S⟩ := T.sc
  have hxl : xs.length = fs.length := by rcases hr2 with ⟨x, f, s1, rfl, rfl, _⟩ | ⟨x, y, f, g, s1, s2, rfl, rfl, _⟩ <;> rfl
  refine ⟨F.fd doc pm ctv, ⟨fun vs H Q E h => ?_, fun A outer s H args us vs Q E hr e0 hbd r hsp => ?_⟩, .all (T.bind doc pm ctv)⟩
  · obtain ⟨a, ws, rfl, hl, _⟩ := h
    simp [hl, hxl]
  have KX : K.In s.heap := e0.mod.kin.keeps fun b o e => (e0.bs b o e).1
  have lim : s.heap.NoLimit := e0.mod.nolimit.keeps fun b o e => (e0.bs b o e).1
  obtain ⟨a, ws, rfl, hl, ha, hq⟩ := hsp
  have hpl : (V.ref a :: ws).length = (se :: xs).length := by simp [hl, hxl]
  refine ks_codeAny_call_defAt (fd := F.fd doc pm ctv) hr.depth (KX _ _ hlk) rfl lim (PySem.W.codeRec_of KX T.code) rfl hbd S.nocell (fun ⟨n, _⟩ hy => S.par n (List.of_mem_zip hy).1) (fun h₀ hns kp => ?_) S.co S.gen S.kind
  have I := inv_startN (CX := L2.CX P w) (F := F) (f := fI) (E := E) (tk := s.toks + ((se :: xs).zip us).length) S hr.hd e0 hpl r (cells_ok (w := w) T e0) hns kp
  have hret : ∀ {σ' : L2.St} {H' : Hp} {s' : Shared}, Inv (ncx (L2.CX P w) P w K mg base N F fI A outer s H E) [] σ' H' s' → Q .non H' → CE outer P w H s Q .none s' := fun {σ' H' s'} J q => ⟨.non, H', J.os, J.bare, J.base, J.hok, rfl, q⟩
  have hns' := hns
  have loc0 : ∀ {y : Str} {i : Nat} {u : Value}, (se :: xs)[i]? = some y → us[i]? = some u → (((se :: xs).zip us).reverse.lookup y) = some u := fun {y i u} h1 h2 => zip_look (by
    have q := S.nd.sublist (List.take_sublist ((se :: xs).length + (["__class__"] : List Str).length) N)
    rw [S.pre] at q
    exact (List.nodup_append.mp q).1) h1 h2
  obtain ⟨u0, ur, rfl⟩ : ∃ u0 ur, us = u0 :: ur := by
    cases r with
    | cons _ _ => exact ⟨_, _, rfl⟩
  have ru0 : u0 = Value.ref a := by cases r with | cons h _ => exact h
  subst ru0
  obtain ⟨oD, hD1, hD2⟩ : ∃ oD cdD, K.lookup C = some oD ∧ oD.data = .cls cdD := by
    obtain ⟨nm, q, N', bs, bm, sn, sub, ab, col, dd, k0, k1, k2, k3, k5, hC, hbm⟩ := T.oex.cls
    exact ⟨_, _, hC, rfl⟩
  obtain ⟨hD1, hD2⟩ := hD2
  obtain ⟨t1, hoa⟩ := exo_at I.hok ha
  obtain ⟨ccl, cdd, vs, ccs, fl, tf, hcode, hvs, hfile⟩ := T.file
  obtain ⟨cc, hcl, cl, cld, csl, hcell⟩ := T.cell
  obtain ⟨ar, hpar, har⟩ := T.par
  have har : ar.arg = se := by cases har; rfl
  obtain ⟨mb, hmb1, hmb2⟩ := e0.mod.blt
  have bk : ∀ b o, base.get? b = some o → h₀.get? b = some o := fun b o e => kp b o (e0.bs b o e).1
  have X0 : K.In h₀ := I.kIn
  have hbody : F.body = .Expr (.Call (.Attribute (.Call (.Name "super" p0) [] [] p1) "__init__" p2) [.Constant (.str m) j p3] [] p4) p5 :: rst := hb
  rw [hbody]
  have he : ∀ env : Env, eval (.Call (.Attribute (.Call (.Name "super" p0) [] [] p1) "__init__" p2) [.Constant (.str m) j p3] [] p4) env = (do
      let ov ← attributeBase (.Call (.Name "super" p0) [] [] p1) "__init__" env (eval (.Call (.Name "super" p0) [] [] p1) env)
      standAt p2.atName
      let (f, first) ← holding [ov] (getMethod ov "__init__" (do return (← importBound (.Call (.Name "super" p0) [] [] p1) env).getD true))
      callWith p4 f first (backTo p4 (starEach [.Constant (.str m) j p3] env)) []) := fun env => by
    rw [arm_eval_Call]
    have hf : methodCallForm ([Expr.Constant (.str m) j p3].length + ([] : List Keyword).length) (backTo p4 (starEach [.Constant (.str m) j p3] env)) (backToKw p4 (keywordEach [] env)) = true := rfl
    unfold methodCall
    rw [hf]
    simp only [calleeOf, methodCallPos, if_true, Bool.not_true, Bool.false_or, hline]
    rfl
  refine ks_wpAt_execs_cons (ks_wpAt_Expr_any (ks_wpAt_MethodCall (ks_wpAt_super_base T.sup (S.frk "__class__" (by simp)) (by decide) rfl (X0 _ _ hlk) rfl hpar rfl (X0 _ _ hcode) rfl hvs hfile T.top ?_) (he _)) I.quiet)
  refine PySem.W.ks_loadName_global S.kind T.sup (Calls.loadGlobal_builtin (e0.mod.glob.keeps bk) hmg (hmb1.keeps bk) ((hmb2 _ (by decide)).trans (by decide +kernel)) ⟨rfl, ?_⟩)
  refine wpAny_loadName_free S.kind (S.frk "__class__" (by simp)) (c := cc) (by show F.cl.lookup _ = _; rw [hcl]; rfl) ⟨_, X0 _ _ hcell, rfl⟩ ?_
  refine wpAny_loadName_local S.kind (by rw [har]; exact S.par se (by simp)) hns (by rw [har]; exact loc0 (i := 0) rfl rfl) ?_
  refine ks_wpAny_isType_cls (X0 _ _ hD1) hD2 ⟨rfl, ?_⟩
  refine ks_wpAny_call_super (C := C) (X0 _ _ hD1) hD2 hoa rfl (fun c e => by cases e) (PySem.W.looks_mroIn X0 T.sub) (fun h1 e1 k1 => ?_)
  have I1 := I.kept (h' := h1) (t' := s.toks + ((se :: xs).zip (Value.ref a :: ur)).length) k1
  have X1 : K.In h1 := I1.kIn
  have at1 : PySem.W.InstAt h1 a ({ cls := .ref C, dict := none, data := .fields #[.ref t1, .none, .none, .none, .bool false, .none] } : Obj) C none := ⟨k1 _ _ hoa, rfl, rfl, trivial⟩
  have hsi := T.ini
  unfold PySem.W.ks_superIn at hsi
  obtain ⟨cd, hcd, hsi⟩ := Option.bind_eq_some_iff.mp hsi
  refine PySem.W.kxs_getMethod PySem.W.kxs_ValueError e1 (PySem.W.looks_opaque X1 T.stat) (l₀ := cd.mro) (fun A Q E s k q => wpAny_bind ((PySem.W.looks_clsIn X1 hcd) A _ E s k (wpAny_pure q))) rfl X1 hsi (at1.type.andThen (PySem.W.looks_subIn X1 T.val)) (PySem.W.ks_ne X1 at1 hcd) (by decide) ?_
  have k2 : ∀ b o, h1.get? b = some o → (h1.push (PySem.W.kxs_mw "ValueError.__init__" a)).get? b = some o := fun b o e => Heap.get?_push_of_some _ e
  have I2 := I1.kept (h' := h1.push (PySem.W.kxs_mw "ValueError.__init__" a)) (t' := s.toks + ((se :: xs).zip (Value.ref a :: ur)).length + 1) k2
  have hmw : (h1.push (PySem.W.kxs_mw "ValueError.__init__" a)).get? h1.objs.size = some (PySem.W.kxs_mw "ValueError.__init__" a) := Heap.get?_push_at rfl rfl
  refine PySem.W.kxs_callWith (i := "ValueError.__init__") (x := a) rfl (Calls.evalArgs_plain ?_)
  refine Calls.spliced_cons (Calls.Constant_str (x := m) (k := j) (pos := p3) (env := callEnv (F.fd doc pm ctv) s.heap.objs.size fI) (Calls.spliced_nil ⟨hmw, ?_⟩))
  obtain ⟨nm, q, N', bs, bm, sn, sub, ab, col, dd, k0, k1', k2', k3, k5, hC, hbm⟩ := T.oex.cls
  refine call_mw (rest := [.str m _]) (X1.keeps k2 _ _ hC) (k2 _ _ (k1 _ _ hoa)) hmw (by show 1 ≤ sizeLine; rw [sizeLine_eq]; omega) (fun h3 t3 k3 e3 => ?_)
  have J := I2.write (h' := h3) (t' := s.toks + ((se :: xs).zip (Value.ref a :: ur)).length + 2) (x := a) (e := a) (o := exo a C none) (by rw [ha]; exact True.intro) (.inl rfl) k3 ⟨_, e3⟩ (exo_ok e3)
  have eu : upd H a (exo a C none) = H := by
    funext b
    by_cases hb : b = a
    · rw [hb, upd_same, ha]
    · rw [upd_ne hb]
  rw [eu] at J
  refine wpAt_of_wpAny ?_
  have pre := S.pre
  have atN : ∀ (i : Nat) (y : Str), (se :: xs)[i]? = some y → N[i]? = some y := fun i y e => by
    have h1 : (N.take ((se :: xs).length + (["__class__"] : List Str).length))[i]? = some y := by
      rw [pre, List.getElem?_append_left (List.getElem?_eq_some_iff.mp e).1]; exact e
    rw [List.getElem?_take_of_lt (by have := (List.getElem?_eq_some_iff.mp e).1; simp at this ⊢; omega)] at h1
    exact h1
  have atS : ∀ (i : Nat) (v : V), (V.ref a :: ws)[i]? = some v → (startF N (V.ref a :: ws) [some (V.ref C)])[i]? = some (some v) := fun i v e => by
    unfold startF
    rw [List.getElem?_append_left (by rw [List.length_map]; exact (List.getElem?_eq_some_iff.mp e).1), List.getElem?_map, e]; rfl
  let X := ncx (L2.CX P w) P w K mg base N F fI A outer s H E
  have pv : ∀ (i : Nat) (y : Str) (p : Pos), (se :: xs)[i]? = some y → dbgB y = true → PE X (.Name y p) (tVar i) := fun i y p e hd => by
    obtain ⟨d1, d2, _⟩ := dbg_of hd
    exact pe_var (atN i y e) (.inl (S.par y (List.mem_of_getElem? e))) d1 d2
  have body : ∃ tt : TS, PSs X rst tt ∧ tt { nx := fun _ H' => Q .non H', rt := Q } (startF N (V.ref a :: ws) [some (V.ref C)]) H := by
    rcases hr2 with ⟨x, f, s1, rfl, rfl, rfl, h1⟩ | ⟨x, y, f, g, s1, s2, rfl, rfl, rfl, h1, h2, hne⟩
    · obtain ⟨d1, d2, q1, q2, q3, q4, rfl⟩ := ib2_inv h1
      obtain ⟨v1, rfl⟩ : ∃ v1, ws = [v1] := by
        cases ws with
        | nil => cases hl
        | cons v ws => cases ws with
          | nil => exact ⟨v, rfl⟩
          | cons => cases hl
      refine ⟨_, pss_one (ps_ost (pv 0 se q1 rfl d1) (pv 1 x q3 rfl d2)), ?_⟩
      exact ⟨v1, atS 1 v1 rfl, .ref a, atS 0 _ rfl, a, C, rfl, T.oex, T.noat f (by simp), .inl ⟨ha, fun dx n ne => hq dx n ne⟩⟩
    · obtain ⟨d1, d2, q1, q2, q3, q4, rfl⟩ := ib2_inv h1
      obtain ⟨_, d3, q5, q6, q7, q8, rfl⟩ := ib2_inv h2
      obtain ⟨v1, v2, rfl⟩ : ∃ v1 v2, ws = [v1, v2] := by
        cases ws with
        | nil => cases hl
        | cons v ws => cases ws with
          | nil => cases hl
          | cons v' ws => cases ws with
            | nil => exact ⟨v, v', rfl⟩
            | cons => cases hl
      refine ⟨_, pss_cons (ps_ost (pv 0 se q1 rfl d1) (pv 1 x q3 rfl d2)) (pss_one (ps_ost (pv 0 se q5 rfl d1) (pv 2 y q7 rfl d3))), ?_⟩
      refine ⟨v1, atS 1 v1 rfl, .ref a, atS 0 _ rfl, a, C, rfl, T.oex, T.noat f (by simp), .inl ⟨ha, fun dx n ne => ?_⟩⟩
      refine ⟨v2, atS 2 v2 rfl, .ref a, atS 0 _ rfl, a, C, rfl, T.oex, T.noat g (by simp), .inr ⟨dx, [(f, v1)], upd_same, by rw [upd_ne ne, upd_same], by simp, ?_⟩⟩
      have e : upd (upd (upd H dx (exd dx [(f, v1)])) a (exo a C (some dx))) dx (exd dx ((g, v2) :: [(f, v1)])) = upd (upd H dx (exd dx [(f, v1), (g, v2)])) a (exo a C (some dx)) := by
        rw [exd_swap hne]
        funext b
        by_cases hb : b = dx
        · subst hb
          rw [upd_same, upd_ne ne, upd_same]
        · rw [upd_ne hb]
          by_cases hb2 : b = a
          · rw [hb2, upd_same, upd_same]
          · rw [upd_ne hb2, upd_ne hb, upd_ne hb2, upd_ne hb]
      show Q .non (upd (upd (upd H dx (exd dx [(f, v1)])) a (exo a C (some dx))) dx (exd dx ((g, v2) :: [(f, v1)])))
      rw [e]
      exact hq dx n ne
  obtain ⟨tt, hps, htt⟩ := body
  refine wpAny_mono (hps.run [] _ _ H _ J htt) (fun fl s' hs => ?_) fun e s' hs => hs
  cases fl with
  | ret u =>
    obtain ⟨v, σ', H', J', rv, q⟩ := hs
    exact ⟨v, H', J'.os, J'.bare, J'.base, J'.hok, rv, q⟩
  | next =>
    obtain ⟨σ', H', J', q⟩ := hs
    exact ⟨.non, H', J'.os, J'.bare, J'.base, J'.hok, rfl, q⟩
  | brk =>
    obtain ⟨_, _, _, q⟩ := hs
    exact False.elim q
  | cont =>
    obtain ⟨_, _, _, q⟩ := hs
    exact False.elim q
theorem xf_ok (T : XiC P K C fI ps fs F) (hmg : mg "super" = none) : XfP P w K mg base C fs := by
  obtain ⟨fd, h1, h2⟩ := init_ok (w := w) (base := base) T hmg
  exact ⟨T.oex, fI, ps, fd, T.fnd, T.typ, h1, h2⟩
end
/-! ### raise X(e, ..) -/
section
variable {T : Nam} {N : Nms} {G : Tab} {W : WX} {F : FT}
theorem repFs_zip {n : Nat} {ad : Nat → Addr} {B : Hp} : ∀ {fs : List Nat} {vs : List V} {ds : List D}, RepDs N n ad B vs ds → fs.length = ds.length → RepFs N n ad B ((fs.map N.nm).zip vs) (fs.zip ds)
  | [], _, _, _, _ => .nil
  | f :: fs, _, _, .nil, h => by cases h
  | f :: fs, _, _, .cons r rs, h => .cons r (repFs_zip rs (by simpa using h))
theorem tS_raisF {c : Nat} {es : Exs} {C : Addr} {fs : List Nat} (hC : C = N.cl c) (hf : G.exf c = some fs) (hne : fs ≠ []) (hl : fs.length ≤ 1000) : ∀ D σ H, tS N W (M.bind (evDs G F es) (raisM G c)) D σ H →
    tMkO C (spXI C (fs.map N.nm)) [] (tAs N W (evDs G F es)) σ H (fun cls d H' => W cls d σ H') := by
  rintro D σ H ⟨ad, s, FF, R, h⟩
  subst hC
  refine ⟨ad, s, FF, R, h.bind.mono fun ds s' ad' H1 R1 P1 h1 vs rv => ?_⟩
  unfold raisM at h1
  rw [hf] at h1
  simp only at h1
  by_cases hlen : fs.length = ds.length
  · rw [if_pos hlen] at h1
    have lv := rv.length
    refine ⟨by omega, fun a ha => ⟨a, vs, by rw [List.append_nil], by rw [List.length_map]; omega, upd_same, fun d hd ne => ⟨rfl, d, _, upd_same, by rw [upd_ne ne, upd_same], ?_, ?_⟩⟩⟩
    · rw [upd_ne ne] at hd; exact hd
    · have hd1 : H1 d = none := by rw [upd_ne ne] at hd; exact hd
      have e : upd (del (upd (upd (upd H1 a (exo a (N.cl c) none)) d (exd d ((fs.map N.nm).zip vs))) a (exo a (N.cl c) (some d))) a) d (.xd ((fs.map N.nm).zip vs)) = upd H1 d (.xd ((fs.map N.nm).zip vs)) := by
        funext b
        by_cases hb : b = d
        · rw [hb, upd_same, upd_same]
        · rw [upd_ne hb, upd_ne hb]
          by_cases hb2 : b = a
          · rw [hb2, del_same, ha]
          · rw [del_ne hb2, upd_ne hb2, upd_ne hb, upd_ne hb2]
      rw [e]
      have sm : Same H1 (upd H1 d (.xd ((fs.map N.nm).zip vs))) := fun b o q => by
        rw [upd_ne (ne_of_none q hd1)]; exact q
      have R2 := R1.grow sm
      have P2 := Post.grow R1 sm
      refine h1 (.ref (N.cl c)) (some d) ad' σ _ R2 P2 ⟨rfl, .inr ⟨?_, d, _, rfl, upd_same, repFs_zip (P2.reps rv) hlen⟩⟩
      intro z
      have := congrArg List.length z
      rw [List.length_zip, ← hlen] at this
      exact hne (List.length_eq_zero_iff.mp (by simpa using this))
  · rw [if_neg hlen] at h1
    exact h1.elim
theorem raise_ok {c : Sx} {X : Cx} {k : Nat} {x : Str} {e : Expr} {es : List Expr} {xs : Exs} {p p2 p3 : Pos} (o : XOk T N G c X W) (hf : T.exfn k = true) (hx : T.exc k = some x) (hg : Gl X x) (hd : dbgB x = true) (hh : c.hot = false)
    (ha : PA X (e :: es) (tAs N W (evDs G F xs))) (he : starEach (e :: es) X.env = (false, eval e X.env) :: starEach es X.env) (hpl : (backTo p3 (starEach es X.env)).any (·.1) = false) :
    PS X (.Raise (some (.Call (.Name x p2) (e :: es) [] p3)) none p) (tS N W (M.bind (evDs G F xs) (raisM G k))) := by
  obtain ⟨fs, hf, hne, hl, T1, fI, ps, fd, h1, h2, h3, h4⟩ := o.exf k hf
  refine ps_imp (ps_raise (W := W) (o.calm hh) o.tk (pmk_oex (dvs := []) T1 h1 h2 h3 (o.rm hh) h4 .nil (fun _ _ _ _ _ _ _ z => by obtain ⟨_, _, _, _, _, _, _, _, _, _, _, _, z⟩ := z; exact z.elim) hg (o.exn k x hx) ha (dbg_of hd).1 he hpl)) fun D σ H hq => ?_
  exact tS_raisF rfl hf hne hl D σ H hq
end
end Ev

set_option autoImplicit false
set_option linter.all false
set_option maxRecDepth 100000
set_option maxHeartbeats 2000000
/-! What the core says of a def's body is so. -/
namespace Ev
open PySem L2 PyProof.Rows
def isCp : Expr → Bool
  | .ListComp _ _ _ _ | .SetComp _ _ _ _ | .DictComp _ _ _ _ _ => true
  | _ => false
/-- name = [..] on one line -/
def swapB (sc scope : Scope) (t : Str) (p vp : Pos) : Bool :=
  (if sc.kind.isAnnotationScope then ScopeKind.function else sc.kind) == .function && sc.names.lookup t == some .local && p.line == vp.line && !(scope.names.any fun (n, k) => n == t && (k == .local || k == .cell))
def isLcE : Ex → Bool
  | .lc _ _ it _ _ => !isKeysI it
  | _ => false
def isNm (c : Sx) : Expr → Bool
  | .Name y _ => locB c.sc y || celB c.sc y && celB c.ow y
  | _ => false
def noTup : Expr → Bool
  | .Tuple _ _ _ | .List _ _ => false
  | _ => true
/-- how the value is stored -/
def okStore (c : Sx) (e : Ex) (tg : Expr) : Expr → Bool
  | .ListComp _ _ _ _ => isNm c tg && isLcE e
  | .SetComp _ _ _ _ | .DictComp _ _ _ _ _ => false
  | .Tuple _ _ _ => noTup tg
  | _ => true
def isBad : Ev.St → Bool
  | .bad => true
  | _ => false
mutual
def okS (T : Nam) (N : Nms) (c : Sx) : Ev.St → Stmt → Bool
  | .asg t e, st => match st with
    | .Assign [tg] v _ => okTg c t tg && okX T N c e v && okStore c e tg v
    | _ => false
  | .asgO i e, st => match st with
    | .Assign [tg] v _ => okTg c (.v i) tg && okN T N c e v && okStore c e tg v
    | _ => false
  | .asgI o i e, st => match st with
    | .Assign [.Subscript a b _] v _ => okX T N c o a && okX T N c i b && noSlice b && okX T N c e v && !isCp v
    | _ => false
  | .asgF o f e, st => match st with
    | .Assign [.Attribute a g _] v _ => decide (g = N.nm f) && okX T N c o a && okX T N c e v && !isCp v
    | _ => false
  | .aug i op e, st => match st with
    | .AugAssign (.Name x _) o v _ => decide (c.N[i]? = some x) && (locB c.sc x || celB c.sc x && celB c.ow x) && decide (o = opS op) && (decide (op = .add) || decide (op = .sub)) && okX T N c e v
    | _ => false
  | .augF _ _ _ _, _ => false
  | .augI o i op e, st => match st with
    | .AugAssign (.Subscript a b _) o2 v _ => okX T N c o a && okX T N c i b && noSlice b && decide (o2 = opS op) && (decide (op = .add) || decide (op = .sub)) && okX T N c e v
    | _ => false
  | .ex e, st => match st with
    | .Expr v _ => okX T N c e v && !isCp v
    | _ => false
  | .ife q a b, st => match st with
    | .If z x y _ => okX T N c q z && okSs T N c a x && okSs T N c b y
    | _ => false
  | .whl _ q a _, st => match st with
    | .While z x [] _ => okX T N c q z && okSs T N c a x
    | _ => false
  | .for tg it a _, st => match st with
    | .For t x b [] _ => okTg c tg t && (okIt T N c it t x || okKeys c it x) && okSs T N c a b && !c.hot && noSet x
    | _ => false
  | .ret e, st => match st with
    | .Return (some v) _ => okX T N c e v
    | _ => false
  | .retN, st => match st with
    | .Return none _ => true
    | _ => false
  | .brk, st => match st with
    | .Break _ => true
    | _ => false
  | .cnt, st => match st with
    | .Continue _ => true
    | _ => false
  | .pass, st => match st with
    | .Pass _ => true
    | .Expr (.Constant (.str _) _ _) _ => true
    | _ => false
  | .rais k es, st => match es with
    | .nil => (match st with
      | .Raise (some (.Call (.Name x _) [] [] _)) none _ => decide (T.exc k = some x) && glB c.sc x && dbgB x && !c.hot
      | _ => false)
    | .cons e es => (match st with
      | .Raise (some (.Call (.Name x _) (y :: l) [] _)) none _ => T.exfn k && decide (T.exc k = some x) && glB c.sc x && dbgB x && !c.hot && okXs T N c (.cons e es) (y :: l)
      | _ => false)
  | .tryx a hs, st => match st with
    | .Try body (h0 :: hds) [] [] _ => !c.hot && okSs T N c a body && okHs T N c hs (h0 :: hds)
    | _ => false
  | .bad, _ => true
def okSs (T : Nam) (N : Nms) (c : Sx) : Sts → List Stmt → Bool
  | .nil, l => match l with
    | [] => true
    | _ => false
  | .cons s ss, l => isBad s || match l with
    | x :: l => okS T N c s x && okSs T N c ss l
    | _ => false
def okHs (T : Nam) (N : Nms) (c : Sx) : Hds → List ExceptHandler → Bool
  | .nil, l => match l with
    | [] => true
    | _ => false
  | .cons k bd b r, l => match bd, l with
    | none, .ExceptHandler (some (.Name x _)) none (b0 :: su) _ :: l => decide (T.hnd k = some x) && glB c.sc x && dbgB x && okSs T N c.ht b (b0 :: su) && okHs T N c r l
    | some (i, j, h), .ExceptHandler (some (.Name x _)) (some n) [.Assign [.Name y py] e _] _ :: l => T.exi && decide (T.hnd k = some x) && glB c.sc x && dbgB x && decide (c.N[i]? = some n) && locB c.sc n && decide (i ≠ j) && okTg c (.v j) (.Name y py) && okHE T N c.ht i h e && !isCp e && okHs T N c r l
    | _, _ => false
end
variable {T : Nam} {N : Nms} {G : Tab} {F : FT}
theorem swaps_eq {env : Env} {sc : Scope} (h : env.scope = sc) {x : Expr} {gs : List Comprehension} {s : Scope} {p py : Pos} {y : Str} {line : Nat} : swapsWith (.ListComp x gs s p) (some (.Name y py)) line env = pure (swapB sc s y py p) := by
  subst h; rfl
/-- the parts of a comprehension -/
theorem okKeys_inv {c : Sx} {j : Nat} {x : Expr} (h : okKeys c (.keys j) x = true) : ∃ y q, x = .Name y q ∧ (decide (c.N[j]? = some y) && visB c.sc y && dbgB y) = true := by
  cases x <;> first | exact ⟨_, _, rfl, h⟩ | exact nomatch (show false = true from h)
theorem lc_okN {T : Nam} {N : Nms} {c : Sx} {elt : Ex} {tg : Tg} {it : Ev.It} {ifs : Exs} {own : List Nat} {x : Expr} {gs : List Comprehension} {s : Scope} {p : Pos} (hk : isKeysI it = false)
    (h : okX T N c (.lc elt tg it ifs own) (.ListComp x gs s p) = true) : okN T N c (.lc elt tg it ifs own) (.ListComp x gs s p) = true := by
  rcases gs with _ | ⟨⟨t, i, l, k⟩, _ | ⟨g2, gs⟩⟩ <;> try (exact nomatch (show false = true from h))
  have h' : (decide (k = 0) && blkC c.N c.sc s (ownOf c.N own) && decide ((ownOf c.N own).map (·.2) = own) && (okIt T N c it t i || okKeys c it i) && okTg (c.blk s) tg t && (tgSl tg).all (fun i => own.contains i) && okQs T N (c.blk s) ifs l && okX T N (c.blk s) elt x && !c.hot && noSet i) = true := h
  have e : okKeys c it i = false := by cases it <;> first | rfl | exact nomatch hk
  rw [e, Bool.or_false] at h'
  exact h'
theorem lc_parts {c : Sx} {X : Cx} {W : WX} {elt : Ex} {tg : Tg} {it : Ev.It} {ifs : Exs} {own : List Nat} {x : Expr} {gs : List Comprehension} {sc : Scope} {p : Pos} (o : XOk T N G c X W) (f : FnsH T N G c X F)
    (h : okN T N c (.lc elt tg it ifs own) (.ListComp x gs sc p) = true) : ∃ t i l, gs = [⟨t, i, l, 0⟩] ∧ (ownOf c.N own).map (·.2) = own ∧ X.calm = true ∧ PI X t i (tI N W (evIt G F it)) ∧ BlkOk X.N X.env.scope sc (ownOf c.N own) ∧ (∀ j ∈ tgSl tg, j ∈ own) ∧
      (∀ (s : Shared) (H : Hp) (C : Addr) (cl : List (Str × Addr)) (fp : List Addr), PG (X.blk s H sc (compEnvC sc cl C X.env) fp) t (gTg N.K tg)) ∧
      (∀ (s : Shared) (H : Hp) (C : Addr) (cl : List (Str × Addr)) (fp : List Addr), PTs (X.blk s H sc (compEnvC sc cl C X.env) fp) l (tT N Wf (evQs G F ifs))) ∧
      (∀ (s : Shared) (H : Hp) (C : Addr) (cl : List (Str × Addr)) (fp : List Addr), PE (X.blk s H sc (compEnvC sc cl C X.env) fp) x (tX N Wf (evX G F elt))) ∧ ∀ y, foldedSetIterable i X.env y = pure y := by
  rcases gs with _ | ⟨⟨t, i, l, k⟩, _ | ⟨g2, gs⟩⟩ <;> try (exact nomatch (show false = true from h))
  have h' : (decide (k = 0) && blkC c.N c.sc sc (ownOf c.N own) && decide ((ownOf c.N own).map (·.2) = own) && okIt T N c it t i && okTg (c.blk sc) tg t && (tgSl tg).all (fun i => own.contains i) && okQs T N (c.blk sc) ifs l && okX T N (c.blk sc) elt x && !c.hot && noSet i) = true := h
  simp only [Bool.and_eq_true, decide_eq_true_eq, Bool.not_eq_true'] at h'
  obtain ⟨⟨⟨⟨⟨⟨⟨⟨⟨rfl, h1⟩, h2⟩, h3⟩, h4⟩, h5⟩, h6⟩, h7⟩, h8⟩, h9⟩ := h'
  refine ⟨t, i, l, rfl, h2, o.calm h8, sndIt it t i o f h3, blkOk_by (by rw [o.hN, o.sc]; exact h1), fun j hj => ?_, fun s H C cl fp => pg_core (o.blk s H C cl fp sc).tok o.hK tg t h4,
    fun s H C cl fp => sndQs ifs l (o.blk s H C cl fp sc) (f.blk s H sc _ fp) h6, fun s H C cl fp => (sndX elt x (o.blk s H C cl fp sc) (f.blk s H sc _ fp) h7).pe, fun y => ?_⟩
  · have := List.all_eq_true.mp h5 j hj
    simpa using this
  · cases i <;> first | rfl | (exact nomatch (show false = true from h9))
/-- name = [..] -/
theorem set_lc {c : Sx} {X : Cx} {W : WX} {elt : Ex} {tg : Tg} {it : Ev.It} {ifs : Exs} {own : List Nat} {x : Expr} {gs : List Comprehension} {sc : Scope} {p py sp : Pos} {y : Str} {i : Nat} (o : XOk T N G c X W) (f : FnsH T N G c X F)
    (h : okN T N c (.lc elt tg it ifs own) (.ListComp x gs sc p) = true) (hi : c.N[i]? = some y) (hl : (locB c.sc y || celB c.sc y && celB c.ow y) = true) :
    PS X (.Assign [.Name y py] (.ListComp x gs sc p) sp) (tAsg (tLc (tI N W (evIt G F it)) (gTg N.K tg) (tT N Wf (evQs G F ifs)) (tX N Wf (evX G F elt)) own) (gName i)) := by
  obtain ⟨t, it', l, rfl, ho, hc, q1, q2, q3, q4, q5, q6, q7⟩ := lc_parts o f h
  have hN : X.N.Nodup := by rw [o.hN]; exact o.nd
  have hi' : X.N[i]? = some y := by rw [o.hN]; exact hi
  by_cases hl1 : locB c.sc y = true
  rotate_left
  · simp only [Bool.or_eq_true, Bool.and_eq_true] at hl
    have hl := hl.resolve_left hl1
    have cl : ∀ {sc : Scope}, celB sc y = true → sc.names.lookup y = some .cell := fun {sc} h => by
      unfold celB at h
      split at h
      · assumption
      · cases h
    have hy : X.env.scope.names.lookup y = some .cell := by rw [o.sc]; exact cl hl.1
    have hs : swapB c.sc sc y py p = false := by
      unfold swapB
      rw [cl hl.1]
      simp
    have pe := pe_lc (pos := p) hc hN q1 q2 q4 q5 q6 q7
    rw [ho] at pe
    exact ps_set hN hi' (.inr hy) pe (by rw [swaps_eq o.sc, hs]) (.inl (o.fnc y (cl hl.2)))
  have hy : X.env.scope.names.lookup y = some .local := by
    rw [o.sc]
    unfold locB at hl1
    split at hl1
    · assumption
    · exact absurd hl1 (by simp)
  by_cases hs : swapB c.sc sc y py p = true
  · have := ps_setLc (py := py) (pos := p) (spos := sp) hc hN hi' hy (by rw [swaps_eq o.sc, hs]) q1 q2 q4 q5 q6 q7
    rw [ho] at this
    exact this
  · have pe := pe_lc (pos := p) hc hN q1 q2 q4 q5 q6 q7
    rw [ho] at pe
    refine ps_set hN hi' (.inl hy) pe (by rw [swaps_eq o.sc]; simp only [Bool.not_eq_true] at hs; rw [hs]) (.inr hy)
theorem okTg_v {c : Sx} {i : Nat} {tg : Expr} (h : okTg c (.v i) tg = true) : ∃ y py, tg = .Name y py ∧ c.N[i]? = some y := by
  cases tg <;> try (exact nomatch (show false = true from h))
  rename_i x p
  have h : (decide (c.N[i]? = some x) && (locB c.sc x || celB c.sc x && celB c.ow x)) = true := h
  simp only [Bool.and_eq_true, decide_eq_true_eq] at h
  exact ⟨x, p, rfl, h.1⟩
/-- stored the plain way -/
theorem asg_plain {c : Sx} {X : Cx} {W : WX} (o : XOk T N G c X W) {t : Tg} {tg v : Expr} {sp : Pos} {te : TE} {e : Ex} (h1 : okTg c t tg = true) (pe : PE X v te) (h3 : okStore c e tg v = true) (hc : isCp v = false) :
    PS X (.Assign [tg] v sp) (tAsg te (gTg N.K t)) := by
  have pg := pg_core o.tok o.hK t tg h1
  refine ps_asg pe pg ?_ ?_ ?_
  · cases v <;> first | rfl | (exact nomatch (show true = false from hc))
  · have : noTup tg = true ∨ ∀ es k p, v ≠ .Tuple es k p := by
      cases v <;> first | exact .inl h3 | exact .inr (fun es k p z => by cases z)
    rcases this with z | z
    · cases tg <;> first | rfl | (exact nomatch (show false = true from z))
    · cases v <;> first | (cases tg <;> rfl) | exact absurd rfl (z _ _ _)
  · cases t with
    | v i => obtain ⟨y, py, rfl, _⟩ := okTg_v h1; rfl
    | tup ts => cases tg <;> first | rfl | (exact nomatch (show false = true from h1))
mutual
theorem sndS : ∀ (x : Ev.St) {c : Sx} {X : Cx} {W : WX} (st : Stmt), XOk T N G c X W → FnsH T N G c X F → Stk X → PassesOwn (model X.prog X.w) X.A X.env X.xe → okS T N c x st = true → PS X st (tS N W (evS G F x))
  | .asg t e, c, X, W, st, o, f, sk, hp, h => by
    cases st <;> try (exact nomatch (show false = true from h))
    rename_i tgs v sp
    rcases tgs with _ | ⟨tg, _ | ⟨tg2, tgs⟩⟩ <;> try (exact nomatch (show false = true from h))
    have h' : (okTg c t tg && okX T N c e v && okStore c e tg v) = true := h
    simp only [Bool.and_eq_true] at h'
    obtain ⟨⟨h1, h2⟩, h3⟩ := h'
    refine ps_imp (t := tAsg (tX N W (evX G F e)) (gTg N.K t)) ?_ tS_asg
    by_cases hc : isCp v = true
    · cases v <;> try (exact nomatch (show false = true from hc))
      · rename_i x gs s p
        have h3 : (isNm c tg && isLcE e) = true := h3
        simp only [Bool.and_eq_true] at h3
        cases e <;> try (exact nomatch (show false = true from h3.2))
        rename_i elt tg' it ifs own _
        cases tg <;> try (exact nomatch (show false = true from h3.1))
        rename_i y py
        cases t with
        | tup ts => exact nomatch (show false = true from h1)
        | v i =>
          obtain ⟨_, _, e1, hi⟩ := okTg_v h1
          cases e1
          have h2 : okN T N c (.lc elt tg' it ifs own) (.ListComp x gs s p) = true := lc_okN (by simpa [isLcE] using h3.2) h2
          refine ps_imp (set_lc o f h2 hi h3.1) fun D σ H hq => ?_
          obtain ⟨_, _, _, _, _, _, _, _, q, _⟩ := lc_parts o f h2
          exact tX_lc q σ H _ hq
      · exact nomatch (show false = true from h3)
      · exact nomatch (show false = true from h3)
    · exact asg_plain o h1 (sndX e v o f h2).pe h3 (by simpa using hc)
  | .asgO i e, c, X, W, st, o, f, sk, hp, h => by
    cases st <;> try (exact nomatch (show false = true from h))
    rename_i tgs v sp
    rcases tgs with _ | ⟨tg, _ | ⟨tg2, tgs⟩⟩ <;> try (exact nomatch (show false = true from h))
    have h' : (okTg c (.v i) tg && okN T N c e v && okStore c e tg v) = true := h
    simp only [Bool.and_eq_true] at h'
    obtain ⟨⟨h1, h2⟩, h3⟩ := h'
    refine ps_imp (t := tAsg (tN N W (evX G F e)) (gName i)) ?_ tS_asgO
    by_cases hc : isCp v = true
    · cases v <;> try (exact nomatch (show false = true from hc))
      · rename_i x gs s p
        have h3 : (isNm c tg && isLcE e) = true := h3
        simp only [Bool.and_eq_true] at h3
        cases e <;> try (exact nomatch (show false = true from h3.2))
        rename_i elt tg' it ifs own
        obtain ⟨y, py, rfl, hi⟩ := okTg_v h1
        refine ps_imp (set_lc o f h2 hi h3.1) fun D σ H hq => ?_
        obtain ⟨_, _, _, _, _, _, _, _, q, _⟩ := lc_parts o f h2
        exact tN_lc q σ H _ hq
      · exact nomatch (show false = true from h3)
      · exact nomatch (show false = true from h3)
    · exact asg_plain o h1 (sndN e v o f h2).1 h3 (by simpa using hc)
  | .asgI a i e, c, X, W, st, o, f, sk, hp, h => by
    cases st <;> try (exact nomatch (show false = true from h))
    rename_i tgs v sp
    rcases tgs with _ | ⟨tg, _ | ⟨tg2, tgs⟩⟩ <;> try (exact nomatch (show false = true from h))
    · cases tg <;> try (exact nomatch (show false = true from h))
      rename_i x y p
      have h' : (okX T N c a x && okX T N c i y && noSlice y && okX T N c e v && !isCp v) = true := h
      simp only [Bool.and_eq_true, Bool.not_eq_true'] at h'
      obtain ⟨⟨⟨⟨h1, h2⟩, h3⟩, h4⟩, h5⟩ := h'
      refine ps_imp (ps_asg (sndX e v o f h4).pe (pg_sub (sndX a x o f h1).pe (sndX i y o f h2).pe (set_x (by have := o.un; omega)) fun v => ?_) ?_ ?_ rfl) tS_asgI
      · cases y <;> first | rfl | (exact nomatch (show false = true from h3))
      · cases v <;> first | rfl | (exact nomatch (show true = false from h5))
      · cases v <;> rfl
    · cases tg <;> exact nomatch (show false = true from h)
  | .asgF a g e, c, X, W, st, o, f, sk, hp, h => by
    cases st <;> try (exact nomatch (show false = true from h))
    rename_i tgs v sp
    rcases tgs with _ | ⟨tg, _ | ⟨tg2, tgs⟩⟩ <;> try (exact nomatch (show false = true from h))
    · cases tg <;> try (exact nomatch (show false = true from h))
      rename_i x y p
      have h' : (decide (y = N.nm g) && okX T N c a x && okX T N c e v && !isCp v) = true := h
      simp only [Bool.and_eq_true, Bool.not_eq_true', decide_eq_true_eq] at h'
      obtain ⟨⟨⟨rfl, h1⟩, h4⟩, h5⟩ := h'
      refine ps_imp (ps_fld (sndX a x o f h1).pe (sndX e v o f h4).pe ?_) (tS_asgF o.hK o.nm fun k hk => ?_)
      · cases v <;> first | rfl | (exact nomatch (show true = false from h5))
      · obtain ⟨q1, q2⟩ := o.fld k (by rw [o.ncl]; exact hk.1)
        exact ⟨q1, q2 g hk.2⟩
    · cases tg <;> exact nomatch (show false = true from h)
  | .aug i op e, c, X, W, st, o, f, sk, hp, h => by
    cases st <;> try (exact nomatch (show false = true from h))
    rename_i tg op' v sp
    cases tg <;> try (exact nomatch (show false = true from h))
    rename_i x p
    have h' : (decide (c.N[i]? = some x) && (locB c.sc x || celB c.sc x && celB c.ow x) && decide (op' = opS op) && (decide (op = .add) || decide (op = .sub)) && okX T N c e v) = true := h
    simp only [Bool.and_eq_true, Bool.or_eq_true, decide_eq_true_eq] at h'
    obtain ⟨⟨⟨⟨h1, h2⟩, rfl⟩, h4⟩, h5⟩ := h'
    have hN : X.N.Nodup := by rw [o.hN]; exact o.nd
    have hi : X.N[i]? = some x := by rw [o.hN]; exact h1
    have lk : ∀ {b : NameKind}, c.sc.names.lookup x = some b → X.env.scope.names.lookup x = some b := fun e => by rw [o.sc]; exact e
    have hx : Loc X.env.scope x ∧ (X.fn x = true ∨ X.env.scope.names.lookup x = some .local) := by
      rcases h2 with h2 | ⟨h2, h3⟩
      · unfold locB at h2
        split at h2
        · rename_i e; exact ⟨.inl (lk e), .inr (lk e)⟩
        · cases h2
      · unfold celB at h2 h3
        split at h2
        · rename_i e
          split at h3
          · rename_i e2; exact ⟨.inr (lk e), .inl (o.fnc x e2)⟩
          · cases h3
        · cases h2
    have pe := (sndX e v o f h5).pe
    rcases h4 with rfl | rfl
    · exact ps_imp (ps_aug hN hi hx.1 pe ip_add hx.2) (tS_aug aug_add)
    · exact ps_imp (ps_aug hN hi hx.1 pe ip_sub hx.2) (tS_aug aug_sub)
  | .augF _ _ _ _, c, X, W, st, o, f, sk, hp, h => nomatch (show false = true from h)
  | .augI a i op e, c, X, W, st, o, f, sk, hp, h => by
    cases st <;> try (exact nomatch (show false = true from h))
    rename_i tg op' v sp
    cases tg <;> try (exact nomatch (show false = true from h))
    rename_i x y p
    have h' : (okX T N c a x && okX T N c i y && noSlice y && decide (op' = opS op) && (decide (op = .add) || decide (op = .sub)) && okX T N c e v) = true := h
    simp only [Bool.and_eq_true, Bool.or_eq_true, decide_eq_true_eq] at h'
    obtain ⟨⟨⟨⟨⟨h1, h2⟩, h3⟩, rfl⟩, h4⟩, h5⟩ := h'
    have ha : ∀ ov iv new, augStore y ov iv new = (do holding [new, ov, iv] (setItem ov iv new); release [new, ov, iv] []; pure .next) := by
      intros
      cases y <;> first | rfl | (exact nomatch (show false = true from h3))
    have pa := (sndX a x o f h1).pe
    have pi := (sndX i y o f h2).pe
    have pe := (sndX e v o f h5).pe
    rcases h4 with rfl | rfl
    · exact ps_imp (ps_augS pa pi get_list pe ip_add set_list ha) (tS_augI o.hK bin_add)
    · exact ps_imp (ps_augS pa pi get_list pe ip_sub set_list ha) (tS_augI o.hK bin_sub)
  | .ex e, c, X, W, st, o, f, sk, hp, h => by
    cases st <;> try (exact nomatch (show false = true from h))
    rename_i v sp
    have h' : (okX T N c e v && !isCp v) = true := h
    simp only [Bool.and_eq_true, Bool.not_eq_true'] at h'
    refine ps_imp (ps_expr (sndX e v o f h'.1).pe ?_) tS_ex
    have := h'.2
    cases v <;> first | rfl | (exact nomatch (show true = false from this))
  | .ife q a b, c, X, W, st, o, f, sk, hp, h => by
    cases st <;> try (exact nomatch (show false = true from h))
    rename_i z x y sp
    have h' : (okX T N c q z && okSs T N c a x && okSs T N c b y) = true := h
    simp only [Bool.and_eq_true] at h'
    exact ps_imp (ps_if (sndX q z o f h'.1.1).pt (sndSs a x o f sk hp h'.1.2) (sndSs b y o f sk hp h'.2)) tS_ife
  | .whl n q a kl, c, X, W, st, o, f, sk, hp, h => by
    cases st <;> try (exact nomatch (show false = true from h))
    rename_i z x y sp
    cases y with
    | cons => exact nomatch (show false = true from h)
    | nil =>
      have h' : (okX T N c q z && okSs T N c a x) = true := h
      simp only [Bool.and_eq_true] at h'
      exact ps_imp (ps_while hp (sndX q z o f h'.1).pt (sndSs a x o f sk hp h'.2)) tS_whl
  | .for tg it a kl, c, X, W, st, o, f, sk, hp, h => by
    cases st <;> try (exact nomatch (show false = true from h))
    rename_i t x b y sp
    cases y with
    | cons => exact nomatch (show false = true from h)
    | nil =>
      have h' : (okTg c tg t && (okIt T N c it t x || okKeys c it x) && okSs T N c a b && !c.hot && noSet x) = true := h
      simp only [Bool.and_eq_true, Bool.not_eq_true', Bool.or_eq_true] at h'
      obtain ⟨⟨⟨⟨h1, h2⟩, h3⟩, h4⟩, h5⟩ := h'
      have pg := pg_core o.tok o.hK tg t h1
      have hs : ∀ y, foldedSetIterable x X.env y = pure y := fun y => by cases x <;> first | rfl | (exact nomatch (show false = true from h5))
      have pb := sndSs a b o f sk hp h3
      by_cases hk : isKeysI it = true
      · cases it <;> try (exact nomatch (show false = true from hk))
        rename_i j
        have h2 : okKeys c (.keys j) x = true := by
          rcases h2 with h2 | h2
          · exact nomatch (show false = true from h2)
          · exact h2
        obtain ⟨y, q, rfl, h3'⟩ := okKeys_inv h2
        simp only [Bool.and_eq_true, decide_eq_true_eq] at h3'
        obtain ⟨d1, d2, _⟩ := dbg_of h3'.2
        exact ps_imp (ps_lockOr (ps_for hp (o.calm h4) (pi_keys (pe_var (by rw [o.hN]; exact h3'.1.1) (vis_of o.sc h3'.1.2) d1 d2)) pg pb hs)) tS_forK
      have h2 : okIt T N c it t x = true := by
        rcases h2 with h2 | h2
        · exact h2
        · cases it <;> first | exact nomatch (show false = true from h2) | exact absurd rfl hk
      by_cases hv : ∃ e, it = .val e
      · obtain ⟨e, rfl⟩ := hv
        have h2' : (okX T N c e x && noSet x) = true := h2
        simp only [Bool.and_eq_true] at h2'
        refine ps_imp (ps_for hp (o.calm h4) (pi_seq (sndX e x o f h2'.1).pe) pg pb hs) fun D σ H hq => ?_
        have := tS_forV D σ H hq
        rw [o.hK]; exact this
      · have e : evS G F (.for tg it a kl) = M.bind (evIt G F it) fun l => loopF (turnM tg (evSs G F a)) kl l := by
          cases it <;> first | rfl | exact absurd ⟨_, rfl⟩ hv | exact absurd rfl hk
        rw [e]
        exact ps_imp (ps_for hp (o.calm h4) (sndIt it t x o f h2) pg pb hs) tS_for
  | .ret e, c, X, W, st, o, f, sk, hp, h => by
    cases st <;> try (exact nomatch (show false = true from h))
    rename_i v sp
    cases v with
    | none => exact nomatch (show false = true from h)
    | some v =>
      have h' : okX T N c e v = true := h
      exact ps_imp (ps_ret (sndX e v o f h').pe) tS_ret
  | .retN, c, X, W, st, o, f, sk, hp, h => by
    cases st <;> try (exact nomatch (show false = true from h))
    rename_i v sp
    cases v with
    | some v => exact nomatch (show false = true from h)
    | none => exact ps_imp ps_retN tS_retN
  | .brk, c, X, W, st, o, f, sk, hp, h => by
    cases st <;> try (exact nomatch (show false = true from h))
    exact ps_imp ps_break tS_brk
  | .cnt, c, X, W, st, o, f, sk, hp, h => by
    cases st <;> try (exact nomatch (show false = true from h))
    exact ps_imp ps_continue tS_cnt
  | .pass, c, X, W, st, o, f, sk, hp, h => by
    cases st <;> try (exact nomatch (show false = true from h))
    · rename_i v sp
      cases v <;> try (exact nomatch (show false = true from h))
      rename_i k j p
      cases k <;> try (exact nomatch (show false = true from h))
      exact ps_imp ps_doc (tS_next rfl)
    · exact ps_imp ps_pass (tS_next rfl)
  | .rais k es, c, X, W, st, o, f, sk, hp, h => by
    cases es with
    | cons e0 es0 =>
      cases st <;> try (exact nomatch (show false = true from h))
      rename_i e fr sp
      cases e with
      | none => exact nomatch (show false = true from h)
      | some e =>
        cases e <;> try (exact nomatch (show false = true from h))
        rename_i fn l kw p
        cases fn <;> try (exact nomatch (show false = true from h))
        rename_i x p2
        cases l with
        | nil => exact nomatch (show false = true from h)
        | cons y l =>
          cases kw with
          | cons => exact nomatch (show false = true from h)
          | nil =>
            cases fr with
            | some => exact nomatch (show false = true from h)
            | none =>
              have h' : (T.exfn k && decide (T.exc k = some x) && glB c.sc x && dbgB x && !c.hot && okXs T N c (.cons e0 es0) (y :: l)) = true := h
              simp only [Bool.and_eq_true, decide_eq_true_eq, Bool.not_eq_true'] at h'
              obtain ⟨⟨⟨⟨⟨h0, h1⟩, h2⟩, h3⟩, h4⟩, h5⟩ := h'
              have h6 : (okX T N c e0 y && plainE y && okXs T N c es0 l) = true := h5
              simp only [Bool.and_eq_true] at h6
              exact raise_ok o h0 h1 (gl_of o.sc h2) h3 h4 (sndXs (.cons e0 es0) (y :: l) o f h5) (starE h6.1.2) (starAll es0 l h6.2)
    | nil =>
      cases st <;> try (exact nomatch (show false = true from h))
      rename_i e fr sp
      cases e with
      | none => exact nomatch (show false = true from h)
      | some e =>
        cases e <;> try (exact nomatch (show false = true from h))
        rename_i fn l kw p
        cases fn <;> try (exact nomatch (show false = true from h))
        rename_i x p2
        cases l with
        | cons => exact nomatch (show false = true from h)
        | nil =>
          cases kw with
          | cons => exact nomatch (show false = true from h)
          | nil =>
            cases fr with
            | some => exact nomatch (show false = true from h)
            | none =>
              have h' : (decide (T.exc k = some x) && glB c.sc x && dbgB x && !c.hot) = true := h
              simp only [Bool.and_eq_true, decide_eq_true_eq, Bool.not_eq_true'] at h'
              obtain ⟨⟨⟨h1, h2⟩, h3⟩, h4⟩ := h'
              by_cases hx : G.exf k = some []
              · have q := o.exo k hx
                rw [← o.hK] at q
                refine ps_imp (ps_raise (W := W) (o.calm h4) o.tk (pmk_own0 q (o.exn k x h1) (gl_of o.sc h2) (dbg_of h3).1)) fun D σ H hq => ?_
                exact (tS_rais (F := F) rfl rfl D σ H hq).2
              · exact ⟨fun _ _ σ H D _ hq => absurd (tS_rais (F := F) rfl rfl D σ H hq).1 hx⟩
  | .tryx a hs, c, X, W, st, o, f, sk, hp, h => by
    cases st <;> try (exact nomatch (show false = true from h))
    rename_i body hds orelse fin sp
    rcases hds with _ | ⟨h0, hds⟩
    · exact nomatch (show false = true from h)
    · cases orelse with
      | cons => exact nomatch (show false = true from h)
      | nil =>
        cases fin with
        | cons => exact nomatch (show false = true from h)
        | nil =>
          have h' : (!c.hot && okSs T N c a body && okHs T N c hs (h0 :: hds)) = true := h
          simp only [Bool.and_eq_true, Bool.not_eq_true'] at h'
          obtain ⟨⟨h4, h5⟩, h6⟩ := h'
          obtain ⟨q1, q2, q3⟩ := sndHs hs (h0 :: hds) o sk h6
          refine ps_imp (ps_tryC (tb := fun W' => tS N W' (evSs G F a)) (Wo := W) sk.st sk.fr (by rw [o.hN]; exact o.nd) o.tk (fun W' pn xe tk hpp => sndSs a body (o.tr tk) f.tr ⟨sk.st, sk.fr⟩ hpp h5) q1) ?_
          rw [o.hK]
          exact tS_tryx o.nm q2 q3
  | .bad, c, X, W, st, o, f, sk, hp, h => ⟨fun _ _ σ H D _ h => by obtain ⟨_, _, _, _, z⟩ := h; exact z.elim⟩
theorem sndSs : ∀ (x : Sts) {c : Sx} {X : Cx} {W : WX} (l : List Stmt), XOk T N G c X W → FnsH T N G c X F → Stk X → PassesOwn (model X.prog X.w) X.A X.env X.xe → okSs T N c x l = true → PSs X l (tS N W (evSs G F x))
  | .nil, c, X, W, l, o, f, sk, hp, h => by
    cases l with
    | nil => exact pss_imp pss_nil (tS_next rfl)
    | cons => exact nomatch (show false = true from h)
  | .cons s ss, c, X, W, l, o, f, sk, hp, h => by
    by_cases hbad : isBad s = true
    · cases s <;> try (exact nomatch (show false = true from hbad))
      exact ⟨fun _ _ σ H D _ h => by obtain ⟨_, _, _, _, z⟩ := h; exact z.elim⟩
    · cases l with
      | nil =>
        have h' : (isBad s || false) = true := h
        rw [Bool.or_false] at h'
        exact absurd h' hbad
      | cons x l =>
        have h' : (isBad s || (okS T N c s x && okSs T N c ss l)) = true := h
        simp only [Bool.not_eq_true] at hbad
        rw [hbad, Bool.false_or, Bool.and_eq_true] at h'
        exact pss_imp (pss_cons (sndS s x o f sk hp h'.1) (sndSs ss l o f sk hp h'.2)) tS_seq
theorem sndHs : ∀ (x : Hds) {c : Sx} {X : Cx} {W : WX} (l : List ExceptHandler), XOk T N G c X W → Stk X → okHs T N c x l = true →
    ClsOk X l (hdL N G F x) ∧ hdN x = true ∧ ∀ k ∈ hdK x, ∀ j, (G.exf j).isSome = true → PySem.W.exmOne N.K (.ref (N.cl j)) (.ref (N.cl k)) = some (G.sub j k)
  | .nil, c, X, W, l, o, sk, h => by
    cases l with
    | nil => exact ⟨.nil, rfl, fun k hk => by simp [hdK] at hk⟩
    | cons => exact nomatch (show false = true from h)
  | .cons k (some (i, j, he)) b r, c, X, W, l, o, sk, h => by
    rcases l with _ | ⟨⟨_ | ty, _ | nm, su, hp'⟩, l⟩
    · exact nomatch (show false = true from h)
    · exact nomatch (show false = true from h)
    · exact nomatch (show false = true from h)
    · cases ty <;> exact nomatch (show false = true from h)
    · cases ty <;> try (exact nomatch (show false = true from h))
      rename_i x np
      rcases su with _ | ⟨st, _ | ⟨st2, su⟩⟩
      · exact nomatch (show false = true from h)
      · cases st <;> try (exact nomatch (show false = true from h))
        rename_i tgs e sp
        rcases tgs with _ | ⟨tg, _ | ⟨tg2, tgs⟩⟩
        · exact nomatch (show false = true from h)
        · cases tg <;> try (exact nomatch (show false = true from h))
          rename_i y py
          have h' : (T.exi && decide (T.hnd k = some x) && glB c.sc x && dbgB x && decide (c.N[i]? = some nm) && locB c.sc nm && decide (i ≠ j) && okTg c (.v j) (.Name y py) && okHE T N c.ht i he e && !isCp e && okHs T N c r l) = true := h
          simp only [Bool.and_eq_true, decide_eq_true_eq, Bool.not_eq_true'] at h'
          obtain ⟨⟨⟨⟨⟨⟨⟨⟨⟨⟨h1, h2⟩, h3⟩, h4⟩, h5⟩, h6⟩, h7⟩, h8⟩, h9⟩, h10⟩, h11⟩ := h'
          obtain ⟨q1, q2, q3⟩ := sndHs r l o sk h11
          have kl : X.env.kindOf nm = some .local := by
            show X.env.scope.names.lookup nm = some .local
            rw [o.sc]
            unfold locB at h6
            split at h6
            · assumption
            · cases h6
          refine ⟨.nm (ts := heTS N G (i, j, he)) ⟨gl_of o.sc h3, (dbg_of h4).1, .inl (o.hdn k x h2)⟩ (by rw [o.hN]; exact h5) kl (fun ad oe cls d pn hz hf => ?_) q1, ?_, fun k' hk j hj => ?_⟩
          · have o2 := o.suite ad ((ad, oe) :: pn)
            refine pss_one (ps_asg (he_pe o2 h1 hz hf h9) (pg_core o2.tok o2.hK (.v j) (.Name y py) h8) ?_ ?_)
            · cases e <;> first | rfl | (exact nomatch (show true = false from h10))
            · cases e <;> first | rfl | (exact nomatch (show true = false from h10))
          · show (decide (i ≠ j) && hdN r) = true
            rw [Bool.and_eq_true, decide_eq_true_eq]; exact ⟨h7, q2⟩
          · rcases List.mem_cons.mp hk with rfl | hk
            · exact o.exm j _ x hj h2
            · exact q3 k' hk j hj
        · cases tg <;> exact nomatch (show false = true from h)
      · cases st <;> try (exact nomatch (show false = true from h))
        rename_i tgs e sp
        rcases tgs with _ | ⟨tg, _ | ⟨tg2, tgs⟩⟩
        · exact nomatch (show false = true from h)
        · cases tg <;> exact nomatch (show false = true from h)
        · cases tg <;> exact nomatch (show false = true from h)
  | .cons k none b r, c, X, W, l, o, sk, h => by
    rcases l with _ | ⟨hd, l⟩
    · exact nomatch (show false = true from h)
    · obtain ⟨ty, nm, su, hp'⟩ := hd
      cases ty with
      | none => exact nomatch (show false = true from h)
      | some ty =>
        cases ty <;> try (exact nomatch (show false = true from h))
        rename_i x np
        cases nm with
        | some => exact nomatch (show false = true from h)
        | none =>
          cases su with
          | nil => exact nomatch (show false = true from h)
          | cons b0 su =>
            have h' : (decide (T.hnd k = some x) && glB c.sc x && dbgB x && okSs T N c.ht b (b0 :: su) && okHs T N c r l) = true := h
            simp only [Bool.and_eq_true, decide_eq_true_eq] at h'
            obtain ⟨⟨⟨⟨h1, h2⟩, h3⟩, h4⟩, h5⟩ := h'
            obtain ⟨q1, q2, q3⟩ := sndHs r l o sk h5
            refine ⟨.pl (ts := fun _ _ _ => tS N Wf (evSs G F b)) ⟨gl_of o.sc h2, (dbg_of h3).1, .inl (o.hdn k x h1)⟩ (fun ad oe cls d pn _ _ => sndSs b (b0 :: su) (o.suite ad ((ad, oe) :: pn)) (FnsH.hot (X := X)) ⟨sk.st, sk.fr⟩ (fun _ _ z => z.elim) h4) q1, q2, fun k' hk j hj => ?_⟩
            rcases List.mem_cons.mp hk with rfl | hk
            · exact o.exm j _ x hj h1
            · exact q3 k' hk j hj
end
end Ev

set_option autoImplicit false
set_option linter.all false
set_option maxRecDepth 100000
set_option maxHeartbeats 1000000
/-! Each def keeps what the core gives; the law. -/
namespace Ev
open PySem L2 PyProof.Rows
variable {N : Nms}
section
variable {ad ad' : Nat → Addr} {σ : L2.St} {H : Hp} {s : S} {F : Addr → Prop} {cel : List Cell}
def startS (n : Nat) (as : List Ev.D) (cel : List Cell) : S := { loc := as.map (fun x => some (.d x)) ++ List.replicate n none, cel := cel }
theorem startS_get {n : Nat} {as : List Ev.D} {i : Nat} {lv : LV} (h : (startS n as cel).loc[i]? = some (some lv)) : ∃ x, as[i]? = some x ∧ lv = .d x := by
  unfold startS at h
  simp only at h
  by_cases hi : i < as.length
  · rw [List.getElem?_append_left (by simpa using hi), List.getElem?_map] at h
    cases ha : as[i]? with
    | none => rw [ha] at h; cases h
    | some x => rw [ha] at h; cases h; exact ⟨x, rfl, rfl⟩
  · rw [List.getElem?_append_right (by simpa using hi), List.getElem?_replicate] at h
    split at h <;> cases h
theorem startS_sl {n : Nat} {as : List Ev.D} {i : Nat} {c : Cell} : ¬ (startS n as cel).get (.sl i) = some c := fun h => by
  rw [get_sl] at h
  obtain ⟨x, _, e⟩ := startS_get h
  cases e
theorem Mk_start {n : Nat} {as : List Ev.D} (a : Addr) : Mk ad σ (startS n as cel) F a ↔ Mk ad [] ⟨[], cel⟩ F a := by
  constructor
  · rintro (m | ⟨l, c, h1, h2⟩)
    · exact .inl m
    · cases l with
      | sl i => exact absurd h1 startS_sl
      | id k => exact .inr ⟨.id k, c, h1, h2⟩
  · rintro (m | ⟨l, c, h1, h2⟩)
    · exact .inl m
    · cases l with
      | sl i => exact absurd h1 noSl
      | id k => exact .inr ⟨.id k, c, h1, h2⟩
/-- at a def's entry -/
theorem Rel.enter {Nm : List Str} {vs : List V} {as : List Ev.D} {n : Nat} (R : Rel N ad [] H ⟨[], cel⟩ F) (r : RepDs N cel.length ad (msk H (Mk ad [] ⟨[], cel⟩ F)) vs as) (hn : n = Nm.length - vs.length) :
    Rel N ad (L2.start Nm vs) H (startS n as cel) F := by
  have em : msk H (Mk ad (L2.start Nm vs) (startS n as cel) F) = msk H (Mk ad [] ⟨[], cel⟩ F) := msk_congr fun a => Mk_start a
  refine ⟨?_, ?_, ?_, ?_, ?_, R.nt⟩
  · unfold L2.start startS
    simp [r.length, hn]
  · intro i x h
    obtain ⟨y, e1, e2⟩ := startS_get h
    cases e2
    obtain ⟨v, e3, rv⟩ := r.get e1
    refine ⟨v, ?_, ?_⟩
    · unfold L2.start
      rw [List.getElem?_append_left (by have := (List.getElem?_eq_some_iff.mp e3).1; simpa using this), List.getElem?_map, e3]
      rfl
    · rw [em]; exact rv
  · intro l c h
    cases l with
    | sl i => exact absurd h startS_sl
    | id k =>
      obtain ⟨a, e, ok⟩ := R.own (.id k) c h
      refine ⟨a, e, ?_⟩
      rw [em]; exact ok
  · intro l l' c c' a h h' e e'
    cases l with
    | sl i => exact absurd h startS_sl
    | id k =>
      cases l' with
      | sl i => exact absurd h' startS_sl
      | id k' => exact R.inj (.id k) (.id k') c c' a h h' e e'
  · intro a h
    obtain ⟨q1, q2⟩ := R.frn a h
    refine ⟨q1, fun l c h' => ?_⟩
    cases l with
    | sl i => exact absurd h' startS_sl
    | id k => exact q2 (.id k) c h'
theorem Mk_leave {a : Addr} (m : Mk ad [] ⟨[], s.cel⟩ F a) : Mk ad σ s F a := by
  rcases m with m | ⟨l, c, h1, h2⟩
  · exact .inl m
  · cases l with
    | sl i => exact absurd h1 noSl
    | id k => exact .inr ⟨.id k, c, h1, h2⟩
/-- at its end: the slots are gone -/
theorem Rel.leave (R : Rel N ad σ H s F) : Rel N ad [] H ⟨[], s.cel⟩ F ∧ Sm (msk H (Mk ad σ s F)) (msk H (Mk ad [] ⟨[], s.cel⟩ F)) := by
  have sm : Sm (msk H (Mk ad σ s F)) (msk H (Mk ad [] ⟨[], s.cel⟩ F)) := sm_sub fun a m => Mk_leave m
  refine ⟨⟨rfl, fun i x h => by simp at h, ?_, ?_, ?_, R.nt⟩, sm⟩
  · intro l c h
    cases l with
    | sl i => exact absurd h noSl
    | id k =>
      obtain ⟨a, e, ok⟩ := R.own (.id k) c h
      exact ⟨a, e, ok.mono (Nat.le_refl _) (fun _ _ => rfl) sm rfl⟩
  · intro l l' c c' a h h' e e'
    cases l with
    | sl i => exact absurd h noSl
    | id k =>
      cases l' with
      | sl i => exact absurd h' noSl
      | id k' => exact R.inj (.id k) (.id k') c c' a h h' e e'
  · intro a h
    obtain ⟨q1, q2⟩ := R.frn a h
    refine ⟨q1, fun l c h' => ?_⟩
    cases l with
    | sl i => exact absurd h' noSl
    | id k => exact q2 (.id k) c h'
theorem Post.leave {n : Nat} {as : List Ev.D} {σ0 : L2.St} {H' : Hp} {s' : S} {σ' : L2.St} (P : Post ad σ0 H (startS n as cel) ad' σ' H' s' F) (R' : Rel N ad' σ' H' s' F) : Post ad [] H ⟨[], cel⟩ ad' [] H' ⟨[], s'.cel⟩ F :=
  ⟨P.agr, P.len, rfl, by
    rw [← msk_congr (Mk_start (ad := ad) (σ := σ0) (F := F) (cel := cel) (n := n) (as := as))]
    exact P.sm.trans R'.leave.2, P.frn⟩
end
/-! ### the program -/
structure PrF (T : Nam) (N : Nms) (G : Tab) (Pc : List Ev.Def) (K : PySem.W.Frag) (mg : Str → Option Value) (A : Nat → Addr) (okf : Nat → Bool) (Pg : Program) : Prop where
  hK : K = N.K
  defs : ∀ (f : Nat), okf f = true → ∃ (d : Ev.Def) (fd : FuncData) (nm : List Str) (x qual : Str) (args : Arguments) (body : List Stmt) (scope : Scope), Pc[f]? = some d ∧
    FunD K x qual args body scope [] [] (A f) fd ∧ FnScope nm (T.par f) scope ∧ (T.par f).length = d.np ∧ nm.length = d.n ∧ okSs T N ⟨nm, scope, scope, false⟩ d.body body = true ∧ Binds K fd (T.par f) []
  fns : ∀ (f : Nat) (x : Str), T.fn f = some x → okf f = true ∧ mg x = some (.ref (A f))
  mts : ∀ (c m f : Nat), G.meth c m = some f → okf f = true ∧ c < G.ncls ∧ Meth K (N.cl c) (N.nm m) (A f)
  inis : ∀ (c f : Nat), G.ini c = some f → okf f = true ∧ c < G.ncls ∧ L2.Mk K (N.cl c) (A f)
  blt : ∀ x ∈ bltNames, mg x = none
  con : ∀ (g : Nat) (x : Str), T.con g = some x → ∃ d v u, G.con[g]? = some d ∧ mg x = some u ∧ RelV v u ∧ (match d with | .ref _ => False | _ => True) ∧ ∀ n ad B, RepD N n ad B v d
  cls : ∀ (k : Nat) (x : Str), T.cls[k]? = some x → mg x = some (.ref (N.cl k))
  exn : ∀ (k : Nat) (x : Str), T.exc k = some x → mg x = some (.ref (N.cl k))
  hdn : ∀ (k : Nat) (x : Str), T.hnd k = some x → mg x = some (.ref (N.cl k))
  exo : ∀ (k : Nat), G.exf k = some [] → ExcP N.K (N.cl k)
  exm : ∀ (j k : Nat) (x : Str), (G.exf j).isSome = true → T.hnd k = some x → PySem.W.exmOne N.K (.ref (N.cl j)) (.ref (N.cl k)) = some (G.sub j k)
  exi : T.exi = true → ∀ j, (G.exf j).isSome = true → HxC N.K (N.cl j) ∧ (∀ k x, T.hnd k = some x → PySem.W.kitOne N.K (.ref (N.cl j)) (.ref (N.cl k)) = some (G.sub j k)) ∧ ∀ fs, G.exf j = some fs → ∀ f ∈ fs, PySem.W.findIn N.K (.ref (N.cl j)) (N.nm f) = some none
  exf : ∀ k, T.exfn k = true → ∃ fs, G.exf k = some fs ∧ fs ≠ [] ∧ fs.length ≤ 1000 ∧ ∃ fI ps Fn, XiC Pg K (N.cl k) fI ps (fs.map N.nm) Fn
  eqs : ∀ k, T.eqs k = true → EqC N.K (N.cl k)
  nsb : ∀ k d, T.nsb k d = true → PySem.W.subIn N.K (.ref (N.cl d)) (.ref (N.cl k)) = some false
  ncl : T.cls.length = G.ncls
  nm : ∀ f g, N.nm f = N.nm g → f = g
  kit : ∀ tg ty, (match tg with | .obj c => c < T.cls.length ∧ G.isa c = true | _ => True) → (match ty with | .cls c => c < T.cls.length ∧ G.isa c = true | _ => True) → PySem.W.kitOne N.K (tagV N tg) (tyV1 N ty) = some (isTag G.sub tg ty)
  fld : ∀ k < T.cls.length, Cls N.K (N.cl k) ∧ (∀ f, G.isf k f = true → NoAttr N.K (N.cl k) (N.nm f))
  ist : ∀ k < T.cls.length, G.isa k = true → PySem.W.findIn N.K (.ref (N.cl k)) "__class__" = some (some (.builtin "object.__class__")) ∧
    PySem.W.specialIn N.K (.builtin "object.__class__") "__get__" = some (some (.builtin "getset_descriptor.__get__")) ∧ PySem.W.takesIn N.K (.builtin "object.__class__") = some true ∧ PySem.W.mroIn N.K (N.cl k) (.type "object") = some true
theorem run_ok {T : Nam} {G : Tab} {Pc : List Ev.Def} {P : Program} {w : World} {K : PySem.W.Frag} {mg : Str → Option Value} {base : Heap} {A : Nat → Addr} {okf : Nat → Bool} (pf : PrF T N G Pc K mg A okf P) : ∀ (n f : Nat), okf f = true →
    ∃ (fd : FuncData), PySem.W.keepIn K (.ref (A f)) = true ∧ Binds K fd (T.par f) [] ∧ FnOk P w K mg base (L2.CX P w) (2 * n + 2) (A f) fd (T.par f) (spF N (T.par f).length (run G Pc n f)) ∧ (∀ as c, run G Pc n f as c ≠ .stk → as.length = (T.par f).length) ∧
      ∃ x qual args body scope, FunD K x qual args body scope [] [] (A f) fd
  | 0, f, hf => by
    obtain ⟨d, fd, nm, x, qual, args, body, scope, h1, h3, h4, h5, h6, h7, h8⟩ := pf.defs f hf
    refine ⟨fd, h3.kp, h8, ⟨fun vs H Q E h => h.1, fun A outer s H a us vs Q E _ _ _ _ h => ?_⟩, fun as c h => absurd rfl h, _, _, _, _, _, h3⟩
    obtain ⟨_, _, _, _, _, _, _, z⟩ := h
    exact z.elim
  | n + 1, f, hf => by
    obtain ⟨d, fd, nm, x, qual, args, body, scope, h1, h3, h4, h5, h6, h7, h8⟩ := pf.defs f hf
    have er : run G Pc (n + 1) f = runDef G (run G Pc n) d := by
      funext as c
      show (match Pc[f]? with | some d => runDef G (run G Pc n) d as c | none => .stk) = _
      rw [h1]
    refine ⟨fd, h3.kp, h8, ?_, fun as c h => ?_, _, _, _, _, _, h3⟩
    · refine h3.ok h4 (fun vs H Q E h => h.1) (fun cdv Ar outer s H vs Q E hr h => ?_)
      obtain ⟨hl, ad, cel, FF, as, R, rv, h⟩ := h
      rw [er] at h
      unfold runDef at h
      have la : as.length = (T.par f).length := by rw [← rv.length]; exact hl
      rw [if_pos (by rw [la, h5])] at h
      let X := cxOf (L2.CX P w) P w K mg base nm qual scope (A f) cdv Ar outer s H E
      let W : WX := fun cls d _ H => E cls d H
      have o : XOk T N G ⟨nm, scope, scope, false⟩ X W := {
        hK := pf.hK
        hN := rfl
        nd := h4.nd
        sc := rfl
        un := by have := hr.un; show (Ar.deeper (envOfC qual scope s.heap.objs.size (A f) cdv)).units + 200 < cLine; omega
        calm := fun _ => rfl
        fnc := fun _ _ => rfl
        tk := takes_of rfl rfl rfl rfl
        blt := pf.blt
        con := pf.con
        cls := pf.cls
        exn := pf.exn
        hdn := pf.hdn
        exo := pf.exo
        exm := pf.exm
        exi := pf.exi
        exf := fun k hk => by
          obtain ⟨fs, e1, e2, e3, fI, ps, Fn, T1⟩ := pf.exf k hk
          exact ⟨fs, e1, e2, e3, xf_ok T1 (pf.blt _ (by decide))⟩
        rm := fun _ => hr.mono (by omega)
        eqs := pf.eqs
        nsb := pf.nsb
        ncl := pf.ncl
        nm := pf.nm
        kit := pf.kit
        fld := pf.fld
        ist := pf.ist }
      have at_ : ∀ g, okf g = true → ∃ fd, FnAt N X (run G Pc n) g (A g) (2 * n + 2) fd (T.par g) := fun g hg => by
        obtain ⟨gd, q2, q3, q4, q5, _⟩ := run_ok (P := P) (w := w) (base := base) pf n g hg
        exact ⟨gd, q2, q3, q4, q5⟩
      have fs : Fns T N G X (run G Pc n) := ⟨fun g y hy => by
        obtain ⟨hg, q1⟩ := pf.fns g y hy
        obtain ⟨gd, q⟩ := at_ g hg
        exact ⟨A g, gd, _, 2 * n + 2, q1, hr.mono (by omega), q⟩, fun c m g hy => by
        obtain ⟨hg, q0, q1⟩ := pf.mts c m g hy
        obtain ⟨gd, q⟩ := at_ g hg
        exact ⟨A g, gd, _, 2 * n + 2, q0, q1, hr.mono (by omega), q⟩, fun c g hy => by
        obtain ⟨hg, q0, q1⟩ := pf.inis c g hy
        obtain ⟨gd, q⟩ := at_ g hg
        exact ⟨A g, gd, _, 2 * n + 2, q0, q1, hr.mono (by omega), q⟩⟩
      have hp : PassesOwn (model X.prog X.w) X.A X.env X.xe := passes_of (X := X) (K := fun e s'' => L2.CX P w outer H s E e s'') rfl
      refine ⟨tS N W (evSs G (run G Pc n) d.body), sndSs d.body body o (fun _ => fs) ⟨rfl, rfl⟩ hp h7, ad, startS (d.n - d.np) as cel, FF, R.enter rv (by rw [h6, hl, h5]), ?_⟩
      have h : (match finish (evSs G (run G Pc n) d.body (startS (d.n - d.np) as cel)) with
        | .ok x c' => ∀ ad' H' v, Rel N ad' [] H' ⟨[], c'⟩ FF → Post ad [] H ⟨[], cel⟩ ad' [] H' ⟨[], c'⟩ FF → RepD N c'.length ad' (msk H' (Mk ad' [] ⟨[], c'⟩ FF)) v x → Q v H'
        | .exc e c' => ∀ ad' H' cls d, Rel N ad' [] H' ⟨[], c'⟩ FF → Post ad [] H ⟨[], cel⟩ ad' [] H' ⟨[], c'⟩ FF → RepE N c'.length ad' (msk H' (Mk ad' [] ⟨[], c'⟩ FF)) H' e cls d → E cls d H'
        | .stk => False) := h
      cases hm : evSs G (run G Pc n) d.body (startS (d.n - d.np) as cel) with
      | stk => rw [hm] at h; exact h
      | exc e s' =>
        rw [hm] at h
        exact fun cls dd ad' σ' H' R' P' re => h ad' H' cls dd R'.leave.1 (P'.leave R') (re.mono (Nat.le_refl _) (fun _ _ => rfl) R'.leave.2)
      | ok fl s' =>
        rw [hm] at h
        intro ad' σ' H' R' P'
        cases fl with
        | next => exact h ad' H' .non R'.leave.1 (P'.leave R') .non
        | ret t => exact fun v rt => h ad' H' v R'.leave.1 (P'.leave R') (rt.mono (Nat.le_refl _) (fun _ _ => rfl) R'.leave.2)
        | brk => exact h.elim
        | cont => exact h.elim
    · rw [er] at h
      unfold runDef at h
      by_cases hl : as.length = d.np
      · rw [hl, h5]
      · rw [if_neg hl] at h; exact absurd rfl h
theorem fd_same {K : PySem.W.Frag} {x x' q q' : Str} {a a' : Arguments} {b b' : List Stmt} {sc sc' : Scope} {f : Addr} {fd fd' : FuncData} (F1 : FunD K x q a b sc [] [] f fd) (F2 : FunD K x' q' a' b' sc' [] [] f fd') : fd = fd' := by
  obtain ⟨_, _, _, _, _, _, _, _, _, _, _, l1, _⟩ := F1.ex
  obtain ⟨_, _, _, _, _, _, _, _, _, _, _, l2, _⟩ := F2.ex
  rw [l1] at l2
  injection l2 with l2
  injection l2 with _ _ l2 _
  injection l2
/-- a promise that lets nothing out -/
theorem FnOk.calm {P : Program} {w : World} {K : PySem.W.Frag} {mg : Str → Option Value} {base : Heap} {k : Nat} {f : Addr} {fd : FuncData} {ps : List Str} {sp sp' : Sp} (F : FnOk P w K mg base (L2.CX P w) k f fd ps sp)
    (h : ∀ vs H Q E, sp' vs H Q E → sp vs H Q fun _ _ _ => False) : FnOk P w K mg base L2.CX0 k f fd ps sp' :=
  ⟨fun vs H Q E q => F.len vs H Q _ (h _ _ _ _ q), fun A outer s H args us vs Q E hr he hb hv hs => codeAny_mono (F.run A outer s H args us vs Q _ hr he hb hv (h _ _ _ _ hs)) fun r s' hq => by
    cases r with
    | ok fl => cases fl <;> exact hq
    | error e =>
      obtain ⟨_, _, _, _, _, _, _, _, _, _, _, _, z⟩ := hq
      exact z.elim⟩
/-- names by number -/
def nmOf (l : List Str) (f : Nat) : Str := (l[f]?).getD ⟨Array.replicate (1000 + f) 0⟩
theorem nmOf_inj {l : List Str} (h1 : l.Nodup) (h2 : l.all (fun x => decide (x.cps.size < 1000)) = true) (f g : Nat) (h : nmOf l f = nmOf l g) : f = g := by
  have sz : ∀ {x : Str} {i : Nat}, l[i]? = some x → x.cps.size < 1000 := fun {x i} e => by
    have := List.all_eq_true.mp h2 x (List.mem_of_getElem? e)
    simpa using this
  unfold nmOf at h
  cases hf : l[f]? with
  | some x =>
    cases hg : l[g]? with
    | some y =>
      rw [hf, hg] at h
      have h : x = y := h
      subst h
      obtain ⟨a1, a2⟩ := List.getElem?_eq_some_iff.mp hf
      obtain ⟨b1, b2⟩ := List.getElem?_eq_some_iff.mp hg
      exact (List.getElem_inj h1).mp (a2.trans b2.symm)
    | none =>
      rw [hf, hg] at h
      have h : x = ⟨Array.replicate (1000 + g) 0⟩ := h
      have := sz hf
      rw [h] at this
      simp at this
      omega
  | none =>
    cases hg : l[g]? with
    | some y =>
      rw [hf, hg] at h
      have h : (⟨Array.replicate (1000 + f) 0⟩ : Str) = y := h
      have := sz hg
      rw [← h] at this
      simp at this
      omega
    | none =>
      rw [hf, hg] at h
      have h : (⟨Array.replicate (1000 + f) 0⟩ : Str) = ⟨Array.replicate (1000 + g) 0⟩ := h
      have := congrArg (fun z : Str => z.cps.size) h
      simp at this
      exact this
/-- what a law's def promises -/
def spLaw (K : PySem.W.Frag) (m : Nat) : Sp := fun vs H Q _ => ∃ (a : Addr) (ns : List Int), vs = [.ref a] ∧ ns.length ≤ m ∧ SqL K H a (ns.map V.int) ∧ ∀ H', Q (.bl true) H'
theorem law_ok {m : Nat} {r : List Ev.D → List Cell → FRes} {ps : List Str} (hp : ps.length = 1) (law : ∀ ns : List Int, ns.length ≤ m → ∃ c, r [.lst (ns.map .int)] [] = .ok (.bl true) c) :
    ∀ vs H Q E, spLaw N.K m vs H Q E → spF N ps.length r vs H Q fun _ _ _ => False := by
  rintro vs H Q E ⟨a, ns, rfl, hl, hS, hQ⟩
  obtain ⟨c, e⟩ := law ns hl
  have em : msk H (Mk (fun _ => 0) [] ⟨[], []⟩ fun _ => False) = H := by
    funext a
    exact msk_of fun h => (Mk_fresh a).mp h
  refine ⟨hp.symm, fun _ => 0, [], fun _ => False, [.lst (ns.map .int)], ⟨rfl, fun i x h => by simp at h, fun l c h => ?_, fun l l' c c' a h => ?_, fun a h => h.elim, fun a ys h => h.elim⟩, ?_, ?_⟩
  · cases l with
    | sl i => exact absurd h noSl
    | id k => have h : ([] : List Cell)[k]? = some c := h; simp at h
  · cases l with
    | sl i => exact absurd h noSl
    | id k => have h : ([] : List Cell)[k]? = some c := h; simp at h
  · rw [em]
    exact .cons (.lst hS (RepDs.ints ns)) .nil
  · rw [e]
    intro ad' H' v R' P' rv
    cases rv
    exact hQ H'
end Ev
namespace Ev
theorem lookup_mem {α : Type} {k : Nat} {x : α} : ∀ {l : List (Nat × α)}, l.lookup k = some x → (k, x) ∈ l
  | [], h => by cases h
  | (a, b) :: l, h => by
    rw [List.lookup_cons] at h
    by_cases e : k = a
    · subst e
      simp at h
      subst h
      exact List.mem_cons_self ..
    · have e2 : (k == a) = false := by simpa using e
      rw [e2] at h
      exact List.mem_cons_of_mem _ (lookup_mem h)
theorem find_mem {k m f : Nat} {l : List (Nat × Nat × Nat)} (h : (l.find? fun q => q.1 == k && q.2.1 == m).map (·.2.2) = some f) : (k, m, f) ∈ l := by
  cases hf : l.find? fun q => q.1 == k && q.2.1 == m with
  | none => rw [hf] at h; cases h
  | some q =>
    rw [hf] at h
    have h1 := List.find?_some hf
    have h2 := List.mem_of_find?_eq_some hf
    obtain ⟨a, b, c⟩ := q
    simp only [Bool.and_eq_true, beq_iff_eq] at h1
    obtain ⟨rfl, rfl⟩ := h1
    cases h
    exact h2
end Ev

set_option autoImplicit false
set_option linter.all false
set_option maxRecDepth 100000
/-! More facts of the head: a module's own tuples. -/
namespace Ev
open PySem L2 PyProof.Rows
mutual
/-- the value stands for the data -/
def kcD (K : PySem.W.Frag) : D → Value → Bool
  | .non, v => match v with | .none => true | _ => false
  | .bl b, v => match v with | .bool c => b == c | _ => false
  | .int i, v => match v with | .int j _ => decide (i = j) | _ => false
  | .str x, v => match v with | .str y _ => decide (x = y) | _ => false
  | .tup ds, v => match v with
    | .ref a => (match K.lookup a with
      | some ⟨c, _, .seq its _, _⟩ => decide (c = .type "tuple") && decide (its.size ≤ sizeLine) && kcDs K ds its.toList && !intK ds
      | _ => false)
    | _ => false
  | _, _ => false
def kcDs (K : PySem.W.Frag) : List D → List Value → Bool
  | [], vs => match vs with | [] => true | _ => false
  | d :: ds, vs => match vs with
    | v :: vs => kcD K d v && kcDs K ds vs
    | [] => false
end
mutual
theorem kcD_ok {N : Nms} : ∀ (d : D) (v : Value), kcD N.K d v = true → ∃ x, RelV x v ∧ ∀ n ad B, RepD N n ad B x d
  | .non, v, h => by
    cases v <;> try (exact nomatch (show false = true from h))
    exact ⟨.non, rfl, fun _ _ _ => .non⟩
  | .bl b, v, h => by
    cases v <;> try (exact nomatch (show false = true from h))
    rename_i c
    have h : (b == c) = true := h
    obtain rfl := beq_iff_eq.mp h
    exact ⟨.bl b, rfl, fun _ _ _ => .bl b⟩
  | .int i, v, h => by
    cases v <;> try (exact nomatch (show false = true from h))
    rename_i j t
    obtain rfl := of_decide_eq_true (show decide (i = j) = true from h)
    exact ⟨.int i, ⟨t, rfl⟩, fun _ _ _ => .int i⟩
  | .str i, v, h => by
    cases v <;> try (exact nomatch (show false = true from h))
    rename_i j t
    obtain rfl := of_decide_eq_true (show decide (i = j) = true from h)
    exact ⟨.str i, ⟨t, rfl⟩, fun _ _ _ => .str i⟩
  | .tup ds, v, h => by
    cases v <;> try (exact nomatch (show false = true from h))
    rename_i a
    have h : (match N.K.lookup a with
      | some ⟨c, _, .seq its _, _⟩ => decide (c = .type "tuple") && decide (its.size ≤ sizeLine) && kcDs N.K ds its.toList && !intK ds
      | _ => false) = true := h
    cases e : N.K.lookup a with
    | none => rw [e] at h; cases h
    | some o =>
      obtain ⟨c, dd, dt, sl⟩ := o
      rw [e] at h
      cases dt <;> try (exact nomatch (show false = true from h))
      rename_i its k
      simp only [Bool.and_eq_true, decide_eq_true_eq] at h
      obtain ⟨⟨⟨rfl, h2⟩, h3⟩, h4⟩ := h
      obtain ⟨xs, r, rs⟩ := kcDs_ok ds its.toList h3
      exact ⟨.ref a, rfl, fun n ad B => .tup (.inr ⟨_, its, k, e, rfl, rfl, h2, r⟩) (fun z => by rw [z] at h4; cases h4) (rs n ad B)⟩
  | .lst _, v, h => nomatch (show false = true from h)
  | .dct _, v, h => nomatch (show false = true from h)
  | .obj _ _, v, h => nomatch (show false = true from h)
  | .ref _, v, h => nomatch (show false = true from h)
theorem kcDs_ok {N : Nms} : ∀ (ds : List D) (vs : List Value), kcDs N.K ds vs = true → ∃ xs, Vals xs vs ∧ ∀ n ad B, RepDs N n ad B xs ds
  | [], vs, h => by
    cases vs with
    | nil => exact ⟨[], .nil, fun _ _ _ => .nil⟩
    | cons => exact nomatch (show false = true from h)
  | d :: ds, vs, h => by
    cases vs with
    | nil => exact nomatch (show false = true from h)
    | cons v vs =>
      have h : (kcD N.K d v && kcDs N.K ds vs) = true := h
      simp only [Bool.and_eq_true] at h
      obtain ⟨x, r, rx⟩ := kcD_ok d v h.1
      obtain ⟨xs, r2, rxs⟩ := kcDs_ok ds vs h.2
      exact ⟨x :: xs, .cons r r2, fun n ad B => .cons (rx n ad B) (rxs n ad B)⟩
end
/-- a module's own data -/
def conB (K : PySem.W.Frag) (x : Str) (d : D) : Bool := match PySem.W.nsIn K mainGlobals x with
  | some (some v) => kcD K d v
  | _ => false
theorem conB_ok {N : Nms} {h : Heap} {mg : Str → Option Value} (X : N.K.In h) (Gm : h.Ns mainGlobals mg) {x : Str} {d : D} (c : conB N.K x d = true) : ∃ v u, mg x = some u ∧ RelV v u ∧ ∀ n ad B, RepD N n ad B v d := by
  unfold conB at c
  split at c
  · rename_i v e
    obtain ⟨y, r, ry⟩ := kcD_ok d v c
    exact ⟨y, v, PySem.W.mg_of X Gm e, r, ry⟩
  · cases c
/-- a method of a base class -/
def mthB (K : PySem.W.Frag) (C : Addr) (m : Str) (f : Addr) : Bool := decide (PySem.W.findIn K (.ref C) m = some (some (.ref f))) && (PySem.W.isFn K (.ref f) && PySem.W.keepIn K (.ref f))
theorem mthB_ok {K : PySem.W.Frag} {C : Addr} {m : Str} {f : Addr} (h : mthB K C m f = true) : Meth K C m f := by
  unfold mthB at h
  simp only [Bool.and_eq_true, decide_eq_true_eq] at h
  exact ⟨h.1, h.2.1, h.2.2⟩
/-! ### own classes in isinstance -/
def tg0 : List Tag := [.non, .bl, .int, .str, .tup, .lst, .dct]
def ty0 : List Ty := [.int, .bool, .str, .tuple, .list, .dict]
def tagV0 (cl : Nat → Addr) : Tag → Value
  | .non => .type "NoneType" | .bl => .type "bool" | .int => .type "int" | .str => .type "str" | .tup => .type "tuple" | .lst => .type "list" | .dct => .type "dict" | .obj c => .ref (cl c)
def tyV0 (cl : Nat → Addr) : Ty → Value
  | .int => .type "int" | .bool => .type "bool" | .str => .type "str" | .tuple => .type "tuple" | .list => .type "list" | .dict => .type "dict" | .cls c => .ref (cl c)
theorem tagV_0 {N : Nms} (tg : Tag) : tagV N tg = tagV0 N.cl tg := by cases tg <;> rfl
theorem tyV_0 {N : Nms} (ty : Ty) : tyV1 N ty = tyV0 N.cl ty := by cases ty <;> rfl
def istB (K : PySem.W.Frag) (C : Addr) : Bool := decide (PySem.W.findIn K (.ref C) "__class__" = some (some (.builtin "object.__class__"))) &&
  decide (PySem.W.specialIn K (.builtin "object.__class__") "__get__" = some (some (.builtin "getset_descriptor.__get__"))) && decide (PySem.W.takesIn K (.builtin "object.__class__") = some true) && decide (PySem.W.mroIn K C (.type "object") = some true)
def kitB (K : PySem.W.Frag) (cl : Nat → Addr) (n : Nat) (sub : Nat → Nat → Bool) : Bool := (List.range n).all fun c => istB K (cl c) && (ty0.all fun ty => decide (PySem.W.kitOne K (.ref (cl c)) (tyV0 cl ty) = some false)) &&
  (tg0.all fun tg => decide (PySem.W.kitOne K (tagV0 cl tg) (.ref (cl c)) = some false)) && (List.range n).all fun d => decide (PySem.W.kitOne K (.ref (cl c)) (.ref (cl d)) = some (sub c d))
theorem kitB_at {K : PySem.W.Frag} {cl : Nat → Addr} {n : Nat} {sub : Nat → Nat → Bool} (h : kitB K cl n sub = true) {c : Nat} (hc : c < n) : istB K (cl c) = true ∧ (∀ ty ∈ ty0, PySem.W.kitOne K (.ref (cl c)) (tyV0 cl ty) = some false) ∧
    (∀ tg ∈ tg0, PySem.W.kitOne K (tagV0 cl tg) (.ref (cl c)) = some false) ∧ ∀ d, d < n → PySem.W.kitOne K (.ref (cl c)) (.ref (cl d)) = some (sub c d) := by
  have h := List.all_eq_true.mp h c (List.mem_range.mpr hc)
  simp only [Bool.and_eq_true, List.all_eq_true, decide_eq_true_eq] at h
  exact ⟨h.1.1.1, h.1.1.2, h.1.2, fun d hd => h.2 d (List.mem_range.mpr hd)⟩
theorem istB_ok {K : PySem.W.Frag} {C : Addr} (h : istB K C = true) : PySem.W.findIn K (.ref C) "__class__" = some (some (.builtin "object.__class__")) ∧
    PySem.W.specialIn K (.builtin "object.__class__") "__get__" = some (some (.builtin "getset_descriptor.__get__")) ∧ PySem.W.takesIn K (.builtin "object.__class__") = some true ∧ PySem.W.mroIn K C (.type "object") = some true := by
  unfold istB at h
  simp only [Bool.and_eq_true, decide_eq_true_eq] at h
  exact ⟨h.1.1.1, h.1.1.2, h.1.2, h.2⟩
theorem kit_plain {K : PySem.W.Frag} {cl : Nat → Addr} {sub : Nat → Nat → Bool} : ∀ tg ∈ tg0, ∀ ty ∈ ty0, PySem.W.kitOne K (tagV0 cl tg) (tyV0 cl ty) = some (isTag sub tg ty) := by
  intro tg htg ty hty
  simp only [tg0, ty0, List.mem_cons, List.not_mem_nil, or_false] at htg hty
  rcases htg with rfl | rfl | rfl | rfl | rfl | rfl | rfl <;> rcases hty with rfl | rfl | rfl | rfl | rfl | rfl <;> first | rfl | decide +kernel
theorem kit_of {N : Nms} {n : Nat} {sub : Nat → Nat → Bool} (h : kitB N.K N.cl n sub = true) (tg : Tag) (ty : Ty) (h1 : match tg with | .obj c => c < n | _ => True) (h2 : match ty with | .cls c => c < n | _ => True) : PySem.W.kitOne N.K (tagV N tg) (tyV1 N ty) = some (isTag sub tg ty) := by
  rw [tagV_0, tyV_0]
  cases tg with
  | obj c =>
    have k := kitB_at h (c := c) h1
    cases ty with
    | cls d => exact k.2.2.2 d h2
    | _ => exact k.2.1 _ (by simp [ty0])
  | _ =>
    cases ty with
    | cls d => exact (kitB_at h (c := d) h2).2.2.1 _ (by simp [tg0])
    | _ => exact kit_plain _ (by simp [tg0]) _ (by simp [ty0])
/-- own classes of exceptions: what isinstance says of them (hs: a class and those below it), their fields -/
def exiB (K : PySem.W.Frag) (ga : Str → Addr) (xs : List Str) (hs : List (Str × List Str)) (fs : List (Str × Str)) : Bool := (xs.all fun x => hxB K (ga x) && hs.all fun h => decide (PySem.W.kitOne K (.ref (ga x)) (.ref (ga h.1)) = some (h.2.contains x))) &&
  fs.all fun f => decide (PySem.W.findIn K (.ref (ga f.1)) f.2 = some none)
theorem exiB_ok {K : PySem.W.Frag} {ga : Str → Addr} {xs : List Str} {hs : List (Str × List Str)} {fs : List (Str × Str)} (h : exiB K ga xs hs fs = true) : (∀ x ∈ xs, HxC K (ga x) ∧ ∀ q ∈ hs, PySem.W.kitOne K (.ref (ga x)) (.ref (ga q.1)) = some (q.2.contains x)) ∧ ∀ f ∈ fs, PySem.W.findIn K (.ref (ga f.1)) f.2 = some none := by
  unfold exiB at h
  simp only [Bool.and_eq_true, List.all_eq_true, decide_eq_true_eq] at h
  exact ⟨fun x hx => ⟨hxB_ok (h.1 x hx).1, (h.1 x hx).2⟩, h.2⟩
/-! ### own classes of exceptions with an __init__ -/
def oexB (K : PySem.W.Frag) (C : Addr) : Bool := (match K.lookup C with
  | some ⟨.type "type", _, .cls cd, sl⟩ => (match cd.mro, sl.toList with
    | .ref C' :: bm, [_, _, _, _, some (.builtin n), _] => decide (C' = C) && decide (n = "ValueError.__new__") && !cd.hasDel && cd.hasDict && PySem.HandSPX.refsVE bm
    | _, _ => false)
  | _ => false) && (decide (PySem.W.findIn K (.ref C) "__setattr__" = some (some (.builtin "object.__setattr__"))) && decide (PySem.W.subIn K (.ref C) (.type "BaseException") = some true) && decide (PySem.W.typeIn K (.ref C) = some (.type "type")) && PySem.W.keepIn K (.ref C))
theorem oexB_ok {K : PySem.W.Frag} {C : Addr} (h : oexB K C = true) : OexC K C := by
  unfold oexB at h
  rw [Bool.and_eq_true] at h
  obtain ⟨q, h⟩ := h
  simp only [Bool.and_eq_true, decide_eq_true_eq] at h
  obtain ⟨⟨⟨h1, h2⟩, h3⟩, h4⟩ := h
  refine ⟨?_, h1, h2, h3, h4⟩
  split at q
  · rename_i dd cd sl ho
    split at q
    · rename_i C' bm k0 k1 k2 k3 n k5 hm hs
      simp only [Bool.and_eq_true, decide_eq_true_eq, Bool.not_eq_true'] at q
      obtain ⟨⟨⟨⟨rfl, rfl⟩, hdel⟩, hdd⟩, hr⟩ := q
      obtain ⟨nm, bs, mro, ns, qn, hd, sn, sub, ab, col, del⟩ := cd
      dsimp only at hm hdel hdd
      subst hm hdel hdd
      have hsl : sl = #[k0, k1, k2, k3, some (.builtin "ValueError.__new__"), k5] := by
        obtain ⟨l⟩ := sl
        simp only at hs
        rw [hs]
      subst hsl
      exact ⟨_, _, _, _, _, _, _, _, _, _, _, _, _, _, _, ho, hr⟩
    · cases q
  · cases q
/-- the words of a function, its closure left out -/
abbrev XnW : Type := Option (Str × Str × Arguments × FuncBody × Scope × Addr × Addr)
def xnW (K : PySem.W.Frag) (f : Addr) : XnW := match K.lookup f with
  | some ⟨_, _, .func fd, _⟩ => some (fd.name, fd.qualname, fd.params, fd.body, fd.scope, fd.globals, fd.builtins)
  | _ => none
def cloB (K : PySem.W.Frag) (C f : Addr) (fl : Str) : Bool := match K.lookup f with
  | some ⟨_, _, .func fd, _⟩ => (match fd.closure, fd.defaults, fd.kwdefaults, fd.annotations, fd.code with
    | [(x, cc)], .none, .none, none, .ref ca => decide (x = "__class__") && (match K.lookup cc with
      | some ⟨_, _, .cell (some (.ref D)), _⟩ => decide (D = C)
      | _ => false) && (match K.lookup ca with
      | some ⟨_, _, .fields vs, _⟩ => (match (vs[2]? : Option Value) with
        | some (Value.str g _) => decide (g = fl)
        | _ => false)
      | _ => false) && PySem.W.codeIn K (.ref ca) fd.qualname
    | _, _, _, _, _ => false)
  | _ => false
def xinB (K : PySem.W.Frag) (C f : Addr) (fl : Str) (fs : List Str) : Bool := cloB K C f fl && (oexB K C && decide (PySem.W.findIn K (.ref C) "__init__" = some (some (.ref f))) && decide (PySem.W.typeIn K (.ref f) = some (.type "function")) &&
  decide (PySem.W.nsIn K cStatics "thirdparty.any" = some none) && decide (PySem.W.ks_superIn K C C "__init__" = some (some (.builtin "ValueError.__init__"))) && decide (PySem.W.mroIn K C (.ref C) = some true) && decide (PySem.W.subIn K (.ref C) (.type "ValueError") = some true) &&
  fs.all fun x => decide (PySem.W.findIn K (.ref C) x = some none))
/-- one such def: its class, its words, the program's file, the fields -/
structure XnD where
  at_ : Str
  name : Str
  qual : Str
  params : Arguments
  body : List Stmt
  scope : Scope
  file : Str
  flds : List Str
def XnD.f (K : PySem.W.Frag) (x : XnD) : Addr := He.ma K (He.ga K x.at_) "__init__"
def XnD.val (x : XnD) : XnW := some (x.name, x.qual, x.params, .stmts x.body, x.scope, mainGlobals, builtinsNs)
def XnD.ok (K : PySem.W.Frag) (x : XnD) : Bool := xinB K (He.ga K x.at_) (x.f K) x.file x.flds
theorem xin_ok {P : Program} {K : PySem.W.Frag} {x : XnD} {ps N : List Str} {ar : Arg} (h : x.ok K = true) (e : xnW K (x.f K) = x.val) (hP : ((P.main.file : Str) == x.file) = true) (htop : (P.main.scope.names.lookup ("super" : Str)).isSome = false)
    (sc : NdefX.nscB N ps ["__class__"] x.scope = true) (sup : x.scope.names.lookup ("super" : Str) = some .globalImplicit) (par : (x.params.posonlyargs ++ x.params.args).head? = some ar) (par2 : ps.head? = some ar.arg)
    (bind : ∀ (cl : List (Str × Addr)) (c : Addr) (doc pm ctv : Value) (us : List Value), us.length = ps.length → bindArgs (PySem.W.fnX x.name x.qual x.params x.body x.scope cl .none .none doc pm none (.ref c) ctv) ⟨us, []⟩ = pure (ps.zip us))
    (body : ibB ps x.flds x.body = true) : ∃ F, XiC P K (He.ga K x.at_) (x.f K) ps x.flds F := by
  unfold XnD.ok xinB at h
  rw [Bool.and_eq_true] at h
  obtain ⟨h1, h2⟩ := h
  simp only [Bool.and_eq_true, decide_eq_true_eq, List.all_eq_true] at h2
  obtain ⟨⟨⟨⟨⟨⟨⟨g1, g2⟩, g3⟩, g4⟩, g5⟩, g6⟩, g7⟩, g8⟩ := h2
  unfold cloB at h1
  unfold xnW XnD.val at e
  split at h1
  · rename_i oc od fd osl lk
    rw [lk] at e
    obtain ⟨n1, n2, n3, n4, n5, n6, n7, n8, n9, n10, n11, n12, n13, n14, n15⟩ := fd
    simp only [Option.some.injEq, Prod.mk.injEq] at e
    obtain ⟨rfl, rfl, rfl, rfl, rfl, rfl, rfl⟩ := e
    simp only at h1
    split at h1
    · rename_i y cc ca
      simp only [Bool.and_eq_true, decide_eq_true_eq] at h1
      obtain ⟨⟨⟨rfl, k1⟩, k2⟩, k3⟩ := h1
      refine ⟨⟨x.name, x.qual, x.params, x.body, x.scope, [(("__class__" : Str), cc)], ca⟩, ?_⟩
      refine ⟨oexB_ok g1, ⟨_, _, _, _, _, _, lk⟩, k3, ?_, ?_, ⟨N, NdefX.nscope_by sc⟩, sup, htop, ⟨ar, par, par2⟩, g4, g5, g6, g7, g2, g3, fun doc pm ctv us hl => bind _ _ doc pm ctv us hl, g8, body⟩
      · split at k2
        · rename_i ccl cdd vs ccs lk2
          split at k2
          · rename_i g tf hv
            obtain rfl := of_decide_eq_true k2
            exact ⟨ccl, cdd, vs, ccs, _, tf, lk2, hv, hP⟩
          · cases k2
        · cases k2
      · split at k1
        · rename_i cl cld D csl lk2
          obtain rfl := of_decide_eq_true k1
          exact ⟨cc, rfl, cl, cld, csl, lk2⟩
        · cases k1
    · cases h1
  · cases h1
/-! ### the Hook -/
/-- a further fact -/
inductive Fx where
  | con (x : Str) (d : D)
  | kit (cs : List Str) (n : Nat) (sub : List (Nat × Nat))
  | eqs (x : Str)
  | nsb (x y : Str)
  | mth (x b m : Str)
  | exi (xs : List Str) (hs : List (Str × List Str)) (fs : List (Str × Str))
def Fx.ok (K : PySem.W.Frag) : Fx → Bool
  | .con x d => conB K x d
  | .kit cs n sub => kitB K (fun k => He.ga K ((cs[k]?).getD "object")) n fun c d => sub.contains (c, d)
  | .eqs x => eqcB K (He.ga K x)
  | .nsb x y => decide (PySem.W.subIn K (.ref (He.ga K y)) (.ref (He.ga K x)) = some false)
  | .mth x b m => mthB K (He.ga K x) m (He.ma K (He.ga K b) m)
  | .exi xs hs fs => exiB K (He.ga K) xs hs fs
abbrev AlX : Type := He.AlD × Bool × List XnW
def obsX (fa : List He.Fa) (fn : List He.DefD) (fx : List Fx) (xn : List XnD) (K : PySem.W.Frag) : AlX := (He.obsD fa fn K, (fx.all fun f => f.ok K) && xn.all fun x => x.ok K, xn.map fun x => xnW K (x.f K))
def valX (fn : List He.DefD) (xn : List XnD) : AlX := (He.valD fn, true, xn.map XnD.val)
def SaysX (fa : List He.Fa) (fn : List He.DefD) (fx : List Fx) (xn : List XnD) (K : PySem.W.Frag) : Prop := obsX fa fn fx xn K = valX fn xn
def obsXG (n : Nat) (fa : List He.Fa) (fn : List He.DefD) (fx : List Fx) (xn : List XnD) (g : Addr → Option Obj) : AlX := obsX fa fn fx xn (He.frG g (He.asD g n ++ [cStatics]))
def hookX (n : Nat) (fa : List He.Fa) (fn : List He.DefD) (fx : List Fx) (xn : List XnD) : PySem.W.Hook where
  α := AlX
  obs := fun s => obsXG n fa fn fx xn s.heap.get?
  val := fun _ => valX fn xn
  says := fun _ h => ∃ K : PySem.W.Frag, K.In h ∧ SaysX fa fn fx xn K
  of := fun _ _ e => ⟨_, He.frG_in, e⟩
  keeps := fun _ _ _ ⟨K, hK, c⟩ k => ⟨K, PySem.W.Frag.In.keeps hK k, c⟩
theorem obsXG_eq {n : Nat} {fa : List He.Fa} {fn : List He.DefD} {fx : List Fx} {xn : List XnD} {g : Addr → Option Obj} {s : Shared} (h : ∀ a, g a = s.heap.get? a) : obsXG n fa fn fx xn g = (hookX n fa fn fx xn).obs s := by
  have e : g = s.heap.get? := funext h
  rw [e] <;> rfl
section
variable {fa : List He.Fa} {fn : List He.DefD} {fx : List Fx} {xn : List XnD} {K : PySem.W.Frag}
theorem SaysX.base (c : SaysX fa fn fx xn K) : He.SaysD fa fn K := congrArg (fun z : AlX => z.1) c
theorem SaysX.both (c : SaysX fa fn fx xn K) : ((fx.all fun f => f.ok K) && xn.all fun x => x.ok K) = true := congrArg (fun z : AlX => z.2.1) c
theorem SaysX.more (c : SaysX fa fn fx xn K) (i : Nat) {f : Fx} (h : fx[i]? = some f := by rfl) : f.ok K = true := by
  have q := c.both
  rw [Bool.and_eq_true] at q
  exact List.all_eq_true.mp q.1 f (List.mem_of_getElem? h)
theorem SaysX.xin (c : SaysX fa fn fx xn K) (i : Nat) {x : XnD} (h : xn[i]? = some x := by rfl) : x.ok K = true ∧ xnW K (x.f K) = x.val := by
  have q := c.both
  rw [Bool.and_eq_true] at q
  refine ⟨List.all_eq_true.mp q.2 x (List.mem_of_getElem? h), ?_⟩
  have e : xn.map (fun x => xnW K (x.f K)) = xn.map XnD.val := congrArg (fun z : AlX => z.2.2) c
  have e2 : (xn.map fun x => xnW K (x.f K))[i]? = (xn.map XnD.val)[i]? := by rw [e]
  rw [List.getElem?_map, List.getElem?_map, h] at e2
  exact Option.some.inj e2
end
end Ev

set_option linter.all false
set_option maxRecDepth 100000
set_option maxHeartbeats 1000000
/-! Plain laws: how runs are read. -/
namespace Ev
open PySem
theorem line_eq : line = 16777216 := rfl
section
variable {G : Tab} {F : FT}
theorem loopC_cons {tg : Tg} {tt : M Bool} {el : M D} {own : List Nat} {acc : List D} {x : D} {xs : List D} {s s1 s2 s3 : S} {t : D} (h1 : bindT tg x (wipe own s) = some s1) (h2 : tt s1 = .ok true s2) (h3 : el s2 = .ok t s3) (h4 : acc.length < line) :
    loopC tg tt el own acc (x :: xs) s = loopC tg tt el own (acc ++ [t]) xs s3 := by
  conv => lhs; unfold loopC
  simp only [h1, h2, h3, if_pos h4]
theorem loopF_next {bd : D → M Ev.Flow} {kl : List Nat} {x : D} {xs : List D} {s s' : S} (h : bd x s = .ok .next s') : loopF bd kl (x :: xs) s = loopF bd kl xs (wipe kl s') := by
  conv => lhs; unfold loopF
  simp only [h]
theorem loopF_ret {bd : D → M Ev.Flow} {kl : List Nat} {x t : D} {xs : List D} {s s' : S} (h : bd x s = .ok (.ret t) s') : loopF bd kl (x :: xs) s = .ok (.ret t) s' := by
  conv => lhs; unfold loopF
  simp only [h]
theorem loopW_next {c : M Bool} {bd : M Ev.Flow} {kl : List Nat} {n : Nat} {s s1 s2 : S} (h1 : c s = .ok true s1) (h2 : bd s1 = .ok .next s2) : loopW c bd kl (n + 1) s = loopW c bd kl n (wipe kl s2) := by
  conv => lhs; unfold loopW
  simp only [h1, h2]
theorem loopW_end {c : M Bool} {bd : M Ev.Flow} {kl : List Nat} {n : Nat} {s s1 : S} (h1 : c s = .ok false s1) : loopW c bd kl (n + 1) s = .ok .next s1 := by
  conv => lhs; unfold loopW
  simp only [h1]
theorem lc_eval {it : It} {tg : Tg} {elt : Ex} {ifs : Exs} {own : List Nat} {s s1 s2 : S} {xs ts : List D} (h1 : evIt G F it s = .ok xs s1) (h2 : loopC tg (evQs G F ifs) (M.bind (evX G F elt) PV.store) own [] xs s1 = .ok ts s2) :
    evX G F (.lc elt tg it ifs own) s = .ok (.d (.lst ts)) (unown own s1.loc s2) := by
  show M.bind (evIt G F it) (fun xs => M.bind (lcM own (loopC tg (evQs G F ifs) (M.bind (evX G F elt) PV.store) own [] xs)) fun ts => M.pure (PV.d (.lst ts))) s = _
  simp only [M.bind, h1, lcM, h2, M.pure]
theorem asg_eval {t : Tg} {e : Ex} {s s1 s2 : S} {x : D} (h1 : evX G F e s = .ok (.d x) s1) (h2 : bindT t x s1 = some s2) : evS G F (.asg t e) s = .ok .next s2 := by
  show M.bind (evX G F e) (fun x => M.bind x.store fun y => bindM t y) s = _
  simp only [M.bind, h1, PV.store, M.pure, bindM, h2]
theorem ret_eval {e : Ex} {s s1 : S} {x : D} (h1 : evX G F e s = .ok (.d x) s1) : evS G F (.ret e) s = .ok (.ret x) s1 := by
  show M.bind (evX G F e) (fun x => M.bind x.store fun y => M.pure (Ev.Flow.ret y)) s = _
  simp only [M.bind, h1, PV.store, M.pure]
theorem ex_eval {e : Ex} {s s1 : S} {x : PV} (h1 : evX G F e s = .ok x s1) : evS G F (.ex e) s = .ok .next s1 := by
  show M.bind (evX G F e) (fun _ => M.pure Ev.Flow.next) s = _
  simp only [M.bind, h1, M.pure]
theorem ife_eval {c : Ex} {a b : Sts} {s s1 : S} {q : Bool} (h : evX G F c s = .ok (.d (.bl q)) s1) : evS G F (.ife c a b) s = if q = true then evSs G F a s1 else evSs G F b s1 := by
  show M.bind (evX G F c) (fun x => M.bind (toB x) fun k => if k then evSs G F a else evSs G F b) s = _
  simp only [M.bind, h, toB, M.pure]
  cases q <;> rfl
theorem sts_nil {s : S} : evSs G F .nil s = .ok .next s := rfl
theorem sts_next {st : St} {ss : Sts} {s s1 : S} (h : evS G F st s = .ok .next s1) : evSs G F (.cons st ss) s = evSs G F ss s1 := by
  show (match evS G F st s with | .ok .next st' => evSs G F ss st' | r => r) = _
  rw [h]
theorem sts_ret {st : St} {ss : Sts} {s s1 : S} {t : D} (h : evS G F st s = .ok (.ret t) s1) : evSs G F (.cons st ss) s = .ok (.ret t) s1 := by
  show (match evS G F st s with | .ok .next st' => evSs G F ss st' | r => r) = _
  rw [h]
theorem for_eval {it : It} {tg : Tg} {a : Sts} {kl : List Nat} {s s1 : S} {xs : List D} (hn : isLoop it = none) (hi : evIt G F it s = .ok xs s1) (hk : isKeysI it = false := by rfl) : evS G F (.for tg it a kl) s = loopF (turnM tg (evSs G F a)) kl xs s1 := by
  have e : evS G F (.for tg it a kl) = M.bind (evIt G F it) fun l => loopF (turnM tg (evSs G F a)) kl l := by
    show (match isLoop it with | some e => _ | none => _) = _
    rw [hn]
    simp only
    rw [hk]
    rfl
  rw [e]
  simp only [M.bind, hi]
theorem turn_v {i : Nat} {bd : M Ev.Flow} {x : D} {s : S} : turnM (.v i) bd x s = bd { s with loc := s.loc.set i (some (.d x)) } := rfl
theorem or1 {e : Ex} : evOr G F (.cons e .nil) = evX G F e := rfl
theorem and1 {e : Ex} : evAnd G F (.cons e .nil) = evX G F e := rfl
theorem or_eq {es : Exs} : evX G F (.or es) = evOr G F es := rfl
theorem and_eq {es : Exs} : evX G F (.and es) = evAnd G F es := rfl
theorem not_eval {e : Ex} {s s' : S} {b : Bool} (h : evX G F e s = .ok (.d (.bl b)) s') : evX G F (.not e) s = .ok (.d (.bl !b)) s' := by
  show M.bind (evX G F e) (fun x => M.bind (toB x) fun b => M.pure (PV.d (.bl !b))) s = _
  simp only [M.bind, h, toB, M.pure]
theorem or2 {e e2 : Ex} {es : Exs} {s s' : S} {b : Bool} (h : evX G F e s = .ok (.d (.bl b)) s') : evOr G F (.cons e (.cons e2 es)) s = (if b then .ok (.d (.bl true)) s' else evOr G F (.cons e2 es) s') := by
  show M.bind (evX G F e) (fun x => M.bind (toB x) fun c => if c then M.pure (PV.d (.bl true)) else evOr G F (.cons e2 es)) s = _
  simp only [M.bind, h]
  cases b <;> rfl
theorem and2 {e e2 : Ex} {es : Exs} {s s' : S} {b : Bool} (h : evX G F e s = .ok (.d (.bl b)) s') : evAnd G F (.cons e (.cons e2 es)) s = (if b then evAnd G F (.cons e2 es) s' else .ok (.d (.bl false)) s') := by
  show M.bind (evX G F e) (fun x => M.bind (toB x) fun c => if c then evAnd G F (.cons e2 es) else M.pure (PV.d (.bl false))) s = _
  simp only [M.bind, h]
  cases b <;> rfl
theorem rg0 (k : Nat) : (rangeL 0 k).map D.int = (List.range' 0 k).map fun (j : Nat) => D.int (j : Int) := by
  simp [rangeL, List.range_eq_range']
theorem it_rng1 {ex : Ex} {s s1 : S} {l : Nat} {v : Int} (h : evX G F ex s = .ok (.d (.int v)) s1) (e : rngF (.d (.int 0)) (.d (.int v)) = some (0, (l : Int))) : evIt G F (.rng1 ex) s = .ok ((List.range' 0 l).map fun (j : Nat) => D.int (j : Int)) s1 := by
  show M.bind (evX G F ex) (fun x => M.of ((rngF (.d (.int 0)) x).map fun q => (rangeL q.1 q.2).map D.int)) s = _
  simp only [M.bind, h, e, Option.map, M.of, M.pure]
  rw [rg0]
/-- a call that keeps the store's form -/
theorem call_plain {f : Nat} {es : Exs} {s s1 : S} {as : List D} {r : D} {c : List Cell} (h1 : evDs G F es s = .ok as s1) (h2 : F f as s1.cel = .ok r c) : evX G F (.call .plain f es) s = .ok (.d r) { s1 with cel := c } := by
  show M.bind (evDs G F es) (fun as => M.bind (doCall .plain (F f) as) fun x => M.pure (PV.d x)) s = _
  simp only [M.bind, h1, doCall, h2, endC, M.pure]
end
end Ev

set_option linter.all false
set_option maxRecDepth 100000
set_option maxHeartbeats 1000000
set_option autoImplicit false
/-! Plain laws: loops by what they keep. -/
namespace Ev
open PySem
inductive F2 {α β : Type} (R : α → β → Prop) : List α → List β → Prop
  | nil : F2 R [] []
  | cons {x : α} {t : β} {xs : List α} {ts : List β} : R x t → F2 R xs ts → F2 R (x :: xs) (t :: ts)
theorem F2.length {α β : Type} {R : α → β → Prop} : ∀ {xs : List α} {ts : List β}, F2 R xs ts → ts.length = xs.length
  | _, _, .nil => rfl
  | _, _, .cons _ h => by simp [F2.length h]
theorem F2.eq_map {α β : Type} {f : α → β} : ∀ {xs : List α} {ts : List β}, F2 (fun x t => t = f x) xs ts → ts = xs.map f
  | _, _, .nil => rfl
  | _, _, .cons h r => by rw [List.map_cons, h, F2.eq_map r]
/-- what each item is, is chosen -/
theorem F2.pick {α β γ : Type} {Q : α → γ → Prop} {g : γ → β} : ∀ {xs : List α} {ts : List β}, F2 (fun x t => ∃ y, Q x y ∧ t = g y) xs ts → ∃ ys : List γ, ts = ys.map g ∧ F2 Q xs ys
  | _, _, .nil => ⟨[], rfl, .nil⟩
  | _, _, .cons ⟨y, h, e⟩ r => by
    obtain ⟨ys, e2, h2⟩ := F2.pick r
    exact ⟨y :: ys, by rw [List.map_cons, e, e2], .cons h h2⟩
theorem F2.all {α β : Type} {R : α → β → Prop} {P : β → Prop} (i : ∀ x t, R x t → P t) : ∀ {xs : List α} {ts : List β}, F2 R xs ts → ∀ t ∈ ts, P t
  | _, _, .nil, t, h => by simp at h
  | _, _, .cons h r, t, ht => by
    rcases List.mem_cons.mp ht with rfl | ht
    · exact i _ _ h
    · exact F2.all i r t ht
theorem sml_nat {n : Nat} (h : n ≤ 1000000) : sml (n : Int) = true := by
  unfold sml big; simp; omega
section
variable {G : Tab} {F : FT}
theorem loopC_rel {α : Type} {g : α → D} {tg : Tg} {tt : M Bool} {el : M D} {own : List Nat} (I : S → Prop) (R : α → D → Prop) (p : α → Bool) : ∀ (xs : List α) (acc : List D) (s : S),
    (∀ x ∈ xs, ∀ s, I s → ∃ s1 s2, bindT tg (g x) (wipe own s) = some s1 ∧ tt s1 = .ok (p x) s2 ∧ (p x = false → I s2) ∧ (p x = true → ∃ t s3, el s2 = .ok t s3 ∧ R x t ∧ I s3)) →
    acc.length + xs.length ≤ line → I s → ∃ ts s', loopC tg tt el own acc (xs.map g) s = .ok (acc ++ ts) s' ∧ F2 R (xs.filter p) ts ∧ I s'
  | [], acc, s, _, _, hs => ⟨[], s, by simp [loopC, M.pure], .nil, hs⟩
  | x :: xs, acc, s, h, hl, hs => by
    obtain ⟨s1, s2, b, t1, n, y⟩ := h x (List.mem_cons_self ..) s hs
    have hr := fun z hz => h z (List.mem_cons_of_mem _ hz)
    have e : loopC tg tt el own acc ((x :: xs).map g) s = match bindT tg (g x) (wipe own s) with
      | none => .stk
      | some s1 => match tt s1 with
        | .ok true s2 => (match el s2 with
          | .ok t s3 => if acc.length < line then loopC tg tt el own (acc ++ [t]) (xs.map g) s3 else .stk
          | _ => .stk)
        | .ok false s2 => loopC tg tt el own acc (xs.map g) s2
        | _ => .stk := by
      rw [List.map_cons]
      conv => lhs; unfold loopC
      all_goals rfl
    rw [e, b]
    simp only [t1]
    cases hp : p x with
    | false =>
      simp only []
      obtain ⟨ts, s', e, f, i⟩ := loopC_rel I R p xs acc s2 hr (by simp at hl; omega) (n hp)
      exact ⟨ts, s', e, by rw [List.filter_cons_of_neg (by simp [hp])]; exact f, i⟩
    | true =>
      obtain ⟨t, s3, e1, r, i⟩ := y hp
      have ha : acc.length < line := by simp at hl; omega
      simp only [e1, if_pos ha]
      obtain ⟨ts, s', e, f, i⟩ := loopC_rel I R p xs (acc ++ [t]) s3 hr (by simp at hl ⊢; omega) i
      refine ⟨t :: ts, s', by rw [e, List.append_assoc]; rfl, by rw [List.filter_cons_of_pos hp]; exact .cons r f, i⟩
/-- a comprehension without a test -/
theorem lc_run {α : Type} {g : α → D} {it : It} {tg : Tg} {elt : Ex} {own : List Nat} {s s1 : S} {xs : List α} (I : S → Prop) (R : α → D → Prop) (h1 : evIt G F it s = .ok (xs.map g) s1) (hl : xs.length ≤ line) (h0 : I s1)
    (h : ∀ x ∈ xs, ∀ s, I s → ∃ s1 t s3, bindT tg (g x) (wipe own s) = some s1 ∧ M.bind (evX G F elt) PV.store s1 = .ok t s3 ∧ R x t ∧ I s3) :
    ∃ ts s2, evX G F (.lc elt tg it .nil own) s = .ok (.d (.lst ts)) (unown own s1.loc s2) ∧ F2 R xs ts ∧ I s2 := by
  obtain ⟨ts, s', e, f, i⟩ := loopC_rel (g := g) (tg := tg) (tt := evQs G F .nil) (el := M.bind (evX G F elt) PV.store) (own := own) I R (fun _ => true) xs [] s1 (fun x hx s hs => by
    obtain ⟨s1, t, s3, a, b, r, i⟩ := h x hx s hs
    exact ⟨s1, s1, a, rfl, fun z => (by cases z), fun _ => ⟨t, s3, b, r, i⟩⟩) (by simpa using hl) h0
  refine ⟨ts, s', lc_eval h1 e, ?_, i⟩
  rw [List.filter_eq_self.mpr (by simp)] at f
  exact f
/-- with one test -/
theorem lcq_run {α : Type} {g : α → D} {it : It} {tg : Tg} {elt q : Ex} {own : List Nat} {s s1 : S} {xs : List α} (I : S → Prop) (R : α → D → Prop) (p : α → Bool) (h1 : evIt G F it s = .ok (xs.map g) s1) (hl : xs.length ≤ line) (h0 : I s1)
    (h : ∀ x ∈ xs, ∀ s, I s → ∃ s1 s2, bindT tg (g x) (wipe own s) = some s1 ∧ evX G F q s1 = .ok (.d (.bl (p x))) s2 ∧ (p x = false → I s2) ∧ (p x = true → ∃ t s3, M.bind (evX G F elt) PV.store s2 = .ok t s3 ∧ R x t ∧ I s3)) :
    ∃ ts s2, evX G F (.lc elt tg it (.cons q .nil) own) s = .ok (.d (.lst ts)) (unown own s1.loc s2) ∧ F2 R (xs.filter p) ts ∧ I s2 := by
  obtain ⟨ts, s', e, f, i⟩ := loopC_rel (g := g) (tg := tg) (tt := evQs G F (.cons q .nil)) (el := M.bind (evX G F elt) PV.store) (own := own) I R p xs [] s1 (fun x hx s hs => by
    obtain ⟨s1, s2, a, b, n, y⟩ := h x hx s hs
    refine ⟨s1, s2, a, ?_, n, y⟩
    show M.bind (evX G F q) (fun x => M.bind (toB x) fun b => if b then evQs G F .nil else M.pure false) s1 = _
    simp only [M.bind, b, toB, M.pure]
    cases p x <;> rfl) (by simpa using hl) h0
  exact ⟨ts, s', lc_eval h1 e, f, i⟩
/-- a loop that goes through -/
theorem loopF_map {α : Type} {g : α → D} {bd : D → M Ev.Flow} {kl : List Nat} (I : List α → S → Prop) : ∀ (xs done : List α) (s : S),
    (∀ done x s, x ∈ xs → I done s → ∃ s', bd (g x) s = .ok .next s' ∧ I (done ++ [x]) (wipe kl s')) → I done s → ∃ s', loopF bd kl (xs.map g) s = .ok .next (wipe kl s') ∧ I (done ++ xs) s'
  | [], done, s, _, hs => ⟨s, rfl, by simpa using hs⟩
  | x :: xs, done, s, h, hs => by
    obtain ⟨s1, e, i⟩ := h done x s (List.mem_cons_self ..) hs
    obtain ⟨s2, e2, i2⟩ := loopF_map I xs (done ++ [x]) _ (fun d x s hx => h d x s (List.mem_cons_of_mem _ hx)) i
    exact ⟨s2, (loopF_next e).trans e2, by simpa using i2⟩
theorem loopF_mapl {α : Type} {g : α → D} {bd : D → M Ev.Flow} {kl : List Nat} (I : List α → S → Prop) (N : Nat) : ∀ (xs done : List α) (s : S), done.length + xs.length = N →
    (∀ done x s, x ∈ xs → done.length < N → I done s → ∃ s', bd (g x) s = .ok .next s' ∧ I (done ++ [x]) (wipe kl s')) → I done s → ∃ s', loopF bd kl (xs.map g) s = .ok .next (wipe kl s') ∧ I (done ++ xs) s'
  | [], done, s, _, _, hs => ⟨s, rfl, by simpa using hs⟩
  | x :: xs, done, s, hN, h, hs => by
    obtain ⟨s1, e, i⟩ := h done x s (List.mem_cons_self ..) (by simp at hN; omega) hs
    obtain ⟨s2, e2, i2⟩ := loopF_mapl I N xs (done ++ [x]) _ (by simp at hN ⊢; omega) (fun d x s hx => h d x s (List.mem_cons_of_mem _ hx)) i
    exact ⟨s2, (loopF_next e).trans e2, by simpa using i2⟩
/-- over a, a + 1, .. -/
theorem loopF_rng {bd : D → M Ev.Flow} {kl : List Nat} (I : Nat → S → Prop) : ∀ (n a : Nat) (s : S),
    (∀ j s, a ≤ j → j < a + n → I j s → ∃ s', bd (.int (j : Int)) s = .ok .next s' ∧ I (j + 1) (wipe kl s')) → I a s → ∃ s', loopF bd kl ((List.range' a n).map fun (j : Nat) => D.int (j : Int)) s = .ok .next (wipe kl s') ∧ I (a + n) s'
  | 0, a, s, _, hs => ⟨s, rfl, hs⟩
  | n + 1, a, s, h, hs => by
    obtain ⟨s1, e, i⟩ := h a s (by omega) (by omega) hs
    obtain ⟨s2, e2, i2⟩ := loopF_rng I n (a + 1) _ (fun j s h1 h2 => h j s (by omega) (by omega)) i
    rw [List.range'_succ, List.map_cons]
    exact ⟨s2, (loopF_next e).trans e2, by rw [show a + (n + 1) = a + 1 + n by omega]; exact i2⟩
/-- over a list, numbered -/
theorem loopF_enum {α : Type} {g : α → D} {bd : D → M Ev.Flow} {kl : List Nat} (I : Nat → S → Prop) : ∀ (xs : List α) (k : Nat) (s : S),
    (∀ j x s, xs[j]? = some x → I (k + j) s → ∃ s', bd (.tup [.int ((k + j : Nat) : Int), g x]) s = .ok .next s' ∧ I (k + j + 1) (wipe kl s')) → I k s → ∃ s', loopF bd kl (enumFrom k (xs.map g)) s = .ok .next (wipe kl s') ∧ I (k + xs.length) s'
  | [], k, s, _, hs => ⟨s, rfl, hs⟩
  | x :: xs, k, s, h, hs => by
    obtain ⟨s1, e, i⟩ := h 0 x s rfl hs
    obtain ⟨s2, e2, i2⟩ := loopF_enum I xs (k + 1) _ (fun j y s h1 h2 => by
      have := h (j + 1) y s (by simpa using h1) (by rw [show k + (j + 1) = k + 1 + j by omega]; exact h2)
      rw [show k + (j + 1) = k + 1 + j by omega] at this
      exact this) i
    refine ⟨s2, ?_, by rw [show k + (x :: xs).length = k + 1 + xs.length by simp; omega]; exact i2⟩
    show loopF bd kl (.tup [.int (k : Int), g x] :: enumFrom ((k : Int) + 1) (xs.map g)) s = _
    have e : bd (.tup [.int (k : Int), g x]) s = .ok .next s1 := e
    rw [loopF_next e]
    have : ((k : Int) + 1) = ((k + 1 : Nat) : Int) := rfl
    rw [this]
    exact e2
theorem for_val {e : Ex} {tg : Tg} {a : Sts} {kl : List Nat} {s s1 s2 : S} {pv : PV} {l : List D} (h1 : evX G F e s = .ok pv s1) (h2 : walk pv s1 = .ok (.xs l) s2) : evS G F (.for tg (.val e) a kl) s = loopF (turnM tg (evSs G F a)) kl l s2 := by
  have e : evS G F (.for tg (.val e) a kl) = M.bind (evX G F e) fun x => M.bind (walk x) fun wk => loopA (turnM tg (evSs G F a)) kl wk := rfl
  rw [e]
  simp only [M.bind, h1, h2, loopA]
theorem asgO_eval {i : Nat} {e : Ex} {s s1 : S} {x : D} {c : Cell} (h1 : evX G F e s = .ok (.d x) s1) (h2 : thaw (.d x) = some c) (h3 : i < s1.loc.length) : evS G F (.asgO i e) s = .ok .next { s1 with loc := s1.loc.set i (some (.own c)) } := by
  show M.bind (evX G F e) (fun x => asgOM i x) s = _
  simp only [M.bind, h1, asgOM, h2, if_pos h3]
theorem tuple_eval {e : Ex} {s s1 : S} {xs : List D} (h : evX G F e s = .ok (.d (.lst xs)) s1) : evX G F (.bi .tuple (.cons e .nil)) s = .ok (.d (.tup xs)) s1 := by
  show M.bind (M.bind (evX G F e) fun x => M.bind (M.pure []) fun r => M.pure (x :: r)) (fun xs => biM .tuple xs) s = _
  simp only [M.bind, h, M.pure, biM, valsOf, PV.val, Option.map, biF]
theorem new_eval {e : Ex} {s s1 : S} {xs : List D} (h : evX G F e s = .ok (.d (.lst xs)) s1) : evX G F (.new e) s = .ok (.d (.ref s1.cel.length)) { s1 with cel := s1.cel ++ [.lst xs] } := by
  show M.bind (evX G F e) newM s = _
  simp only [M.bind, h, newM, thaw]
theorem doMm_eval {m : Mm} {pv : PV} {as : List D} {s : S} {l : Lo} {c c' : Cell} {x : D} (h1 : pv.lo = some l) (h2 : s.get l = some c) (h3 : mmF m c as = some (x, c')) : doMm m pv as s = .ok x (s.put c' l) := by
  unfold doMm
  rw [h1]
  simp only
  rw [h2]
  simp only
  rw [h3]
theorem mm_eval {m : Mm} {o : Ex} {es : Exs} {s s1 s2 : S} {pv : PV} {as : List D} {l : Lo} {c : Cell} {ts : List D} {c' : Cell} {x : D} (h1 : evX G F o s = .ok pv s1) (hl : pv.lo = some l) (hc : s1.get l = some (.lst ts)) (h2 : evDs G F es s1 = .ok as s2) (h3 : s2.get l = some c) (h4 : mmF m c as = some (x, c')) :
    evX G F (.mm m o es) s = .ok (.d x) (s2.put c' l) := by
  show M.bind (evX G F o) (fun x => M.bind (lstM x) fun _ => M.bind (evDs G F es) fun as => M.bind (doMm m x as) fun y => M.pure (PV.d y)) s = _
  have h5 := doMm_eval hl h3 h4
  have h6 : lstM pv s1 = .ok () s1 := by
    unfold lstM
    rw [hl]
    simp only
    rw [hc]
  simp only [M.bind, h1, h6, h2, h5, M.pure]
theorem pop_at {ts : List D} {d : Nat} (h1 : d < ts.length) (h2 : ts.length ≤ 1000000) : mmF .popAt (.lst ts) [.int d] = some (ts[d], .lst (ts.eraseIdx d)) := by
  have g : sml (d : Int) = true := sml_nat (by omega)
  have e : Ev.ixN ts.length (d : Int) = some d := by
    unfold Ev.ixN
    rw [if_pos (Int.natCast_nonneg d), if_pos (by omega)]
    simp
  simp [mmF, g, e, List.getElem?_eq_getElem h1]
theorem rg_eval {t : Bool} {a b : Ex} {s s1 s2 : S} {x y : PV} {q : Int × Int} {z : D} (h1 : evX G F a s = .ok x s1) (h2 : evX G F b s1 = .ok y s2) (h3 : rngF x y = some q) (h4 : rgF t q = some z) : evX G F (.rg t a b) s = .ok (.d z) s2 := by
  show M.bind (evX G F a) (fun x => M.bind (evX G F b) fun y => M.of (((rngF x y).bind (rgF t)).map PV.d)) s = _
  simp only [M.bind, h1, h2, h3, Option.bind, h4, Option.map, M.of, M.pure]
/-- what a statement list does, its parts named -/
def nthS : Sts → Nat → St
  | .cons s _, 0 => s
  | .cons _ ss, n + 1 => nthS ss n
  | .nil, _ => .pass
def dropS : Sts → Nat → Sts
  | ss, 0 => ss
  | .cons _ ss, n + 1 => dropS ss n
  | .nil, _ => .nil
def forB : St → Sts
  | .for _ _ a _ => a
  | .whl _ _ a _ => a
  | _ => .nil
def ifT : St → Sts
  | .ife _ a _ => a
  | _ => .nil
def ifE : St → Sts
  | .ife _ _ b => b
  | _ => .nil
def stE : St → Ex
  | .asg _ e | .asgO _ e | .ret e | .ex e | .asgF _ _ e | .asgI _ _ e => e
  | _ => .non
end
theorem pickI_nat {α : Type} {xs : List α} {n : Nat} : pickI xs (n : Int) = xs[n]? := by
  unfold pickI ixN
  rw [if_pos (Int.natCast_nonneg n)]
  by_cases h : (n : Int) < xs.length
  · rw [if_pos h]; simp
  · rw [if_neg h]
    have : xs.length ≤ n := by omega
    simp [List.getElem?_eq_none this]
theorem rng_nat {n : Nat} (h : n ≤ 1000000) : rngF (.d (.int 0)) (.d (.int n)) = some (0, (n : Int)) := by
  have z : sml 0 = true := by decide
  simp [rngF, sml_nat h, z]
section
variable {G : Tab} {F : FT}
theorem rgF_nat {t : Bool} {n : Nat} (h : n ≤ 1000000) : rgF t ((0 : Int), (n : Int)) = some (if t then .tup ((List.range' 0 n).map fun (j : Nat) => D.int (j : Int)) else .lst ((List.range' 0 n).map fun (j : Nat) => D.int (j : Int))) := by
  have : (n : Int) - 0 ≤ (line : Int) := by rw [line_eq]; omega
  unfold rgF
  rw [if_pos this, rg0]
theorem rng2_nat {n k : Nat} (h3 : k ≤ n) (h4 : n ≤ 1000000) : rngF (.d (.int k)) (.d (.int n)) = some ((k : Int), (n : Int)) := by simp [rngF, sml_nat h4, sml_nat (Nat.le_trans h3 h4)]
theorem rangeL_nat {n k : Nat} : (rangeL (k : Int) (n : Int)).map D.int = (List.range' k (n - k)).map fun (j : Nat) => D.int (j : Int) := by
  have : rangeL (k : Int) (n : Int) = (List.range' k (n - k)).map fun (j : Nat) => (j : Int) := by
    unfold rangeL
    rw [show ((n : Int) - (k : Int)).toNat = n - k by omega]
    apply List.ext_getElem
    · simp
    · intro i h1 h2
      simp
  rw [this, List.map_map]; rfl
theorem it_rng2a {a b : Ex} {s : S} : evIt G F (.rng2 a b) s = M.bind (evX G F a) (fun x => M.bind (evX G F b) fun y => M.of ((rngF x y).map fun q => (rangeL q.1 q.2).map D.int)) s := rfl
theorem it_rng2b {a b : Ex} {s s1 s2 : S} {q : Int × Int} {x y : D} (h1 : evX G F a s = .ok (.d x) s1) (h2 : evX G F b s1 = .ok (.d y) s2) (h : rngF (.d x) (.d y) = some q) : M.bind (evX G F a) (fun x => M.bind (evX G F b) fun y => M.of ((rngF x y).map fun q => (rangeL q.1 q.2).map D.int)) s = .ok ((rangeL q.1 q.2).map D.int) s2 := by
  simp only [M.bind, h1, h2, h, Option.map, M.of, M.pure]
theorem it_rng2 {a b : Ex} {s s1 s2 : S} {n k : Nat} (h1 : evX G F a s = .ok (.d (.int k)) s1) (h2 : evX G F b s1 = .ok (.d (.int n)) s2) (h3 : k ≤ n) (h4 : n ≤ 1000000) : evIt G F (.rng2 a b) s = .ok ((List.range' k (n - k)).map fun (j : Nat) => D.int (j : Int)) s2 :=
  it_rng2a.trans ((it_rng2b h1 h2 (rng2_nat h3 h4)).trans (by rw [rangeL_nat]))
end
end Ev

set_option linter.all false
set_option maxRecDepth 100000
set_option maxHeartbeats 1000000
set_option autoImplicit false
/-! Plain laws: dicts, numbered comprehensions, all and any. -/
namespace Ev
open PySem
section
variable {G : Tab} {F : FT}
theorem keyGet_snoc {α : Type} {k k' : D} {v : α} : ∀ {l : List (D × α)}, keyGet k (l ++ [(k', v)]) = match keyGet k l with
    | some z => some z
    | none => if eqB k' k then some v else none
  | [] => by simp [keyGet]
  | (a, b) :: l => by
    simp only [List.cons_append, keyGet]
    split
    · rfl
    · exact keyGet_snoc
theorem isTd_snoc {k x : D} (hk : isKey k = true) : ∀ {l : List (D × D)}, isTd (l ++ [(k, x)]) = isTd l
  | [] => by cases k <;> first | rfl | exact nomatch hk
  | (a, b) :: l => by
    have := isTd_snoc (x := x) hk (l := l)
    cases a <;> first | rfl | exact this
theorem sdef_old {o k : Ex} {s s1 s2 : S} {pv : PV} {kd x : D} {l : Lo} {kvs0 kvs : List (D × D)} (h1 : evX G F o s = .ok pv s1) (h0 : pv.val s1 = some (.dct kvs0)) (h2 : evX G F k s1 = .ok (.d kd) s2) (hl : pv.lo = some l) (hg : s2.get l = some (.dct kvs)) (hk : isKey kd = true) (hT : isTd kvs = false) (hn : kvs.length < line) (h : keyGet kd kvs = some x) :
    evX G F (.sdef o k) s = .ok (.d x) s2 := by
  show M.bind (evX G F o) (fun x => M.bind (dctM x) fun _ => M.bind (evX G F k) fun k => sdefM x k) s = _
  have e : dctM pv s1 = .ok () s1 := by unfold dctM; rw [h0]
  simp only [M.bind, h1, e, h2]
  unfold sdefM
  rw [hl]
  simp only
  rw [hg]
  simp only [hk, hn, hT, Bool.not_false, decide_true, Bool.and_self, if_true, h]
theorem sdef_new {o k : Ex} {s s1 s2 : S} {pv : PV} {kd : D} {l : Lo} {kvs0 kvs : List (D × D)} (h1 : evX G F o s = .ok pv s1) (h0 : pv.val s1 = some (.dct kvs0)) (h2 : evX G F k s1 = .ok (.d kd) s2) (hl : pv.lo = some l) (hg : s2.get l = some (.dct kvs)) (hk : isKey kd = true) (hT : isTd kvs = false) (hn : kvs.length < line) (h : keyGet kd kvs = none) :
    evX G F (.sdef o k) s = .ok (.d (.ref s2.cel.length)) (({ s2 with cel := s2.cel ++ [.lst []] } : S).put (.dct (kvs ++ [(kd, .ref s2.cel.length)])) l) := by
  show M.bind (evX G F o) (fun x => M.bind (dctM x) fun _ => M.bind (evX G F k) fun k => sdefM x k) s = _
  have e : dctM pv s1 = .ok () s1 := by unfold dctM; rw [h0]
  simp only [M.bind, h1, e, h2]
  unfold sdefM
  rw [hl]
  simp only
  rw [hg]
  simp only [hk, hn, hT, Bool.not_false, decide_true, Bool.and_self, if_true, h]
theorem asgF_eval {o e : Ex} {f c : Nat} {t : D} {x : PV} {l : Lo} {fs : List (Nat × D)} {s s1 s2 : S} (h1 : evX G F e s = .ok (.d t) s1) (h2 : evX G F o s1 = .ok x s2) (hl : x.lo = some l) (hg : s2.get l = some (.obj c fs)) (hc : c < G.ncls) (hf : G.isf c f = true) (hn : fs.length < 1000) :
    evS G F (.asgF o f e) s = .ok .next (s2.put (.obj c (fldPut f t fs)) l) := by
  show M.bind (evX G F e) (fun t => M.bind t.store fun t => M.bind (evX G F o) fun x => asgFM G x f t) s = _
  simp only [M.bind, h1, PV.store, M.pure, h2]
  unfold asgFM
  rw [hl]
  simp only
  rw [hg]
  simp only [hc, hf, hn, and_self, if_true]
theorem attr_eval {a : Ex} {f : Nat} {x : PV} {y z : D} {s s1 : S} (h1 : evX G F a s = .ok x s1) (h2 : x.val s1 = some y) (h3 : fldF G f y = some z) : evX G F (.attr a f) s = .ok (.d z) s1 := by
  show one (evX G F a) (fldF G f) s = _
  unfold one
  simp only [M.bind, h1, h2, h3]
theorem it_val {e : Ex} {pv : PV} {xs : List D} {s s1 s2 : S} (h1 : evX G F e s = .ok pv s1) (h2 : walkD pv s1 = .ok xs s2) : evIt G F (.val e) s = .ok xs s2 := by
  show M.bind (evX G F e) walkD s = _
  simp only [M.bind, h1, h2]
theorem it_enum {e : Ex} {n : Int} {pv : PV} {xs : List D} {s s1 s2 : S} (h1 : evX G F e s = .ok pv s1) (h2 : walkD pv s1 = .ok xs s2) : evIt G F (.enum e n) s = .ok (enumFrom n xs) s2 := by
  show M.bind (evX G F e) (fun x => M.bind (walkD x) fun xs => M.pure (enumFrom n xs)) s = _
  simp only [M.bind, h1, h2, M.pure]
theorem mk_eval {c c' f : Nat} {es : Exs} {as : List D} {fs : List (Nat × D)} {r : List Cell} {s s1 : S} (h1 : G.ini c = some f) (h2 : evDs G F es s = .ok as s1) (h3 : D.blws 0 as = true) (h4 : F f (.ref 0 :: as) [.obj c []] = .ok .non (.obj c' fs :: r)) (h5 : D.blwf 0 fs = true) :
    evX G F (.mk c es) s = .ok (.d (.obj c' fs)) s1 := by
  show M.bind (M.of (G.ini c)) (fun f => M.bind (evDs G F es) fun as => M.bind (mkObj F c f as) fun x => M.pure (PV.d x)) s = _
  simp only [M.bind, h1, M.of, M.pure, h2, mkObj, h3, if_true, h4, h5]
theorem meth_eval {c m f : Nat} {o : Ex} {es : Exs} {pv : PV} {x r : D} {as : List D} {c' : List Cell} {s s1 s2 s3 : S} (h1 : G.meth c m = some f) (h2 : evX G F o s = .ok pv s1) (h3 : pv.store s1 = .ok x s2) (h4 : insM c m x s2 = .ok () s2) (h5 : evDs G F es s2 = .ok as s3) (h6 : F f (x :: as) s3.cel = .ok r c') :
    evX G F (.meth .plain c o m es) s = .ok (.d r) { s3 with cel := c' } := by
  show M.bind (M.of (G.meth c m)) (fun f => M.bind (evX G F o) fun x => M.bind x.store fun x => M.bind (insM c m x) fun _ => M.bind (evDs G F es) fun as => M.bind (doCall .plain (F f) (x :: as)) fun x => M.pure (PV.d x)) s = _
  simp only [M.bind, h1, M.of, M.pure, h2, h3, h4, h5, doCall, h6, endC]
theorem ife_t {c : Ex} {a b : Sts} {s s1 : S} (h : evX G F c s = .ok (.d (.bl true)) s1) : evS G F (.ife c a b) s = evSs G F a s1 := by
  rw [ife_eval h, if_pos rfl]
theorem ife_f {c : Ex} {a b : Sts} {s s1 : S} (h : evX G F c s = .ok (.d (.bl false)) s1) : evS G F (.ife c a b) s = evSs G F b s1 := by
  rw [ife_eval h]; rfl
theorem index_eval {o k : Ex} {pv : PV} {ts : List D} {x : D} {n : Nat} {s s1 s2 : S} (h1 : evX G F o s = .ok pv s1) (v1 : pv.val s1 = some (.lst ts)) (h2 : evX G F k s1 = .ok (.d x) s2) (v2 : pv.val s2 = some (.lst ts)) (f1 : x.fin dep = true) (f2 : D.fins dep ts = true) (f3 : ts.length ≤ line) (hi : ts.findIdx? (fun y => eqB y x) = some n) :
    evX G F (.bm .index o (.cons k .nil)) s = .ok (.d (.int n)) s2 := by
  show M.bind (evX G F o) (fun x => M.bind (lisM x) fun _ => M.bind (evDs G F (.cons k .nil)) fun as => M.bind (indM x as) fun y => M.pure (PV.d y)) s = _
  have a1 : lisM pv s1 = .ok () s1 := by unfold lisM; rw [v1]
  have a2 : evDs G F (.cons k .nil) s1 = .ok [x] s2 := by
    show M.bind (evX G F k) (fun x => M.bind x.store fun d => M.bind (M.pure []) fun r => M.pure (d :: r)) s1 = _
    simp only [M.bind, h2, PV.store, M.pure]
  have a3 : indM pv [x] s2 = .ok (.int n) s2 := by
    unfold indM
    rw [v2]
    simp only [f1, f2, decide_eq_true f3, Bool.and_self, if_true, hi]
  simp only [M.bind, h1, a1, a2, a3, M.pure]
theorem turn_of {tg : Tg} {bd : M Ev.Flow} {x : D} {s s1 : S} (h : bindT tg x s = some s1) : turnM tg bd x s = bd s1 := by
  unfold turnM
  rw [h]
theorem app_at {ts : List D} {x : D} (h : ts.length < line) : mmF .append (.lst ts) [x] = some (.non, .lst (ts ++ [x])) := by
  simp [mmF, h]
/-- a comprehension over 0, 1, .., its item known -/
theorem loopC_rngi {tg : Tg} {el : M D} {own : List Nat} (I : Nat → S → Prop) (f : Nat → D) : ∀ (n a : Nat) (acc : List D) (s : S),
    (∀ j s, a ≤ j → j < a + n → I j s → ∃ s1 s3, bindT tg (.int (j : Int)) (wipe own s) = some s1 ∧ el s1 = .ok (f j) s3 ∧ I (j + 1) s3) → acc.length + n ≤ line → I a s →
    ∃ s', loopC tg (evQs G F .nil) el own acc ((List.range' a n).map fun (j : Nat) => D.int (j : Int)) s = .ok (acc ++ (List.range' a n).map f) s' ∧ I (a + n) s'
  | 0, a, acc, s, _, _, hs => ⟨s, by simp [loopC, M.pure], hs⟩
  | n + 1, a, acc, s, h, hl, hs => by
    obtain ⟨s1, s3, e1, e2, i⟩ := h a s (by omega) (by omega) hs
    obtain ⟨s', e, i'⟩ := loopC_rngi I f n (a + 1) (acc ++ [f a]) s3 (fun j s h1 h2 => h j s (by omega) (by omega)) (by simp; omega) i
    rw [List.range'_succ, List.map_cons, List.map_cons]
    refine ⟨s', (loopC_cons (tt := evQs G F .nil) (s2 := s1) e1 rfl e2 (by omega)).trans ?_, by rw [show a + (n + 1) = a + 1 + n by omega]; exact i'⟩
    rw [e, List.append_assoc]
    rfl
theorem lc_rngi {it : It} {tg : Tg} {elt : Ex} {own : List Nat} {s s1 : S} {n : Nat} (I : Nat → S → Prop) (f : Nat → D) (h1 : evIt G F it s = .ok ((List.range' 0 n).map fun (j : Nat) => D.int (j : Int)) s1) (hl : n ≤ line) (h0 : I 0 s1)
    (h : ∀ j s, j < n → I j s → ∃ s1 s3, bindT tg (.int (j : Int)) (wipe own s) = some s1 ∧ M.bind (evX G F elt) PV.store s1 = .ok (f j) s3 ∧ I (j + 1) s3) :
    ∃ s2, evX G F (.lc elt tg it .nil own) s = .ok (.d (.lst ((List.range' 0 n).map f))) (unown own s1.loc s2) ∧ I n s2 := by
  obtain ⟨s', e, i⟩ := loopC_rngi (G := G) (F := F) (tg := tg) (el := M.bind (evX G F elt) PV.store) (own := own) I f n 0 [] s1 (fun j s _ hj => h j s (by omega)) (by simpa using hl) h0
  exact ⟨s', lc_eval h1 e, by simpa using i⟩
theorem bls_map {α : Type} {p : α → Bool} : ∀ {xs : List α}, D.bls (xs.map fun x => D.bl (p x)) = some (xs.map p)
  | [] => rfl
  | x :: xs => by rw [List.map_cons]; unfold D.bls; rw [bls_map]; rfl
theorem all_eval {α : Type} {p : α → Bool} {xs : List α} {e : Ex} {s s1 : S} (h : evX G F e s = .ok (.d (.lst (xs.map fun x => .bl (p x)))) s1) : evX G F (.bi .all (.cons e .nil)) s = .ok (.d (.bl (xs.all p))) s1 := by
  show M.bind (M.bind (evX G F e) fun x => M.bind (M.pure []) fun r => M.pure (x :: r)) (fun xs => biM .all xs) s = _
  simp only [M.bind, h, M.pure, biM, valsOf, PV.val, Option.map, biF, bls_map]
  simp
theorem any_eval {α : Type} {p : α → Bool} {xs : List α} {e : Ex} {s s1 : S} (h : evX G F e s = .ok (.d (.lst (xs.map fun x => .bl (p x)))) s1) : evX G F (.bi .any (.cons e .nil)) s = .ok (.d (.bl (xs.any p))) s1 := by
  show M.bind (M.bind (evX G F e) fun x => M.bind (M.pure []) fun r => M.pure (x :: r)) (fun xs => biM .any xs) s = _
  simp only [M.bind, h, M.pure, biM, valsOf, PV.val, Option.map, biF, bls_map]
  simp
theorem blws_map {α : Type} {g : α → D} {n : Nat} : ∀ {xs : List α}, (∀ x ∈ xs, (g x).blw n = true) → D.blws n (xs.map g) = true
  | [], _ => rfl
  | x :: xs, h => by
    rw [List.map_cons]
    unfold D.blws
    rw [h x (List.mem_cons_self ..), blws_map fun y hy => h y (List.mem_cons_of_mem _ hy)]
    rfl
end
end Ev

set_option linter.all false
set_option maxRecDepth 100000
set_option maxHeartbeats 1000000
set_option autoImplicit false
/-! Plain laws: what a run reaches. -/
namespace Ev
open PySem
def Res.bind {α β : Type} (r : Res α) (f : α → S → Res β) : Res β := match r with
  | .ok a s => f a s
  | .exc e s => .exc e s
  | .stk => .stk
def seqR (r : Res Ev.Flow) (k : S → Res Ev.Flow) : Res Ev.Flow := match r with
  | .ok .next s => k s
  | r => r
/-- what is still to come -/
def kComp {α β γ : Type} (f : α → S → Res β) (g : β → S → Res γ) : α → S → Res γ := fun a s => Res.bind (f a s) g
def kSeq {α : Type} (f : α → S → Res Ev.Flow) (k : S → Res Ev.Flow) : α → S → Res Ev.Flow := fun a s => seqR (f a s) k
def kThen (k k' : S → Res Ev.Flow) : S → Res Ev.Flow := fun s => seqR (k s) k'
@[simp] theorem kComp_eq {α β γ : Type} {f : α → S → Res β} {g : β → S → Res γ} {a : α} {s : S} : kComp f g a s = Res.bind (f a s) g := (rfl)
@[simp] theorem kSeq_eq {α : Type} {f : α → S → Res Ev.Flow} {k : S → Res Ev.Flow} {a : α} {s : S} : kSeq f k a s = seqR (f a s) k := (rfl)
@[simp] theorem kThen_eq {k k' : S → Res Ev.Flow} {s : S} : kThen k k' s = seqR (k s) k' := (rfl)
def callR (r : FRes) (s : S) : Res D := match r with
  | .ok x c => .ok x { s with cel := c }
  | .exc e c => .exc e { s with cel := c }
  | .stk => .stk
def optR {α : Type} (o : Option α) (s : S) : Res α := match o with
  | some a => .ok a s
  | none => .stk
def optD (o : Option D) (s : S) : Res PV := match o with
  | some a => .ok (.d a) s
  | none => .stk
def Runs {α : Type} (r : Res α) (Q : α → S → Prop) (E : Exc → S → Prop) : Prop := match r with
  | .ok a s => Q a s
  | .exc e s => E e s
  | .stk => False
def FRuns (r : FRes) (Q : D → List Cell → Prop) (E : Exc → List Cell → Prop) : Prop := match r with
  | .ok a s => Q a s
  | .exc e s => E e s
  | .stk => False
section
variable {α β γ : Type}
@[simp] theorem Res.bind_ok {a : α} {s : S} {f : α → S → Res β} : Res.bind (.ok a s) f = f a s := (rfl)
@[simp] theorem Res.bind_exc {e : Exc} {s : S} {f : α → S → Res β} : Res.bind (.exc e s) f = .exc e s := (rfl)
@[simp] theorem Res.bind_stk {f : α → S → Res β} : Res.bind .stk f = .stk := (rfl)
@[simp] theorem Res.bind_assoc {r : Res α} {f : α → S → Res β} {g : β → S → Res γ} : Res.bind (Res.bind r f) g = Res.bind r (kComp f g) := by cases r <;> rfl
@[simp] theorem seqR_next {s : S} {k : S → Res Ev.Flow} : seqR (.ok .next s) k = k s := (rfl)
@[simp] theorem seqR_ret {t : D} {s : S} {k : S → Res Ev.Flow} : seqR (.ok (.ret t) s) k = .ok (.ret t) s := (rfl)
@[simp] theorem seqR_brk {s : S} {k : S → Res Ev.Flow} : seqR (.ok .brk s) k = .ok .brk s := (rfl)
@[simp] theorem seqR_cont {s : S} {k : S → Res Ev.Flow} : seqR (.ok .cont s) k = .ok .cont s := (rfl)
@[simp] theorem seqR_exc {e : Exc} {s : S} {k : S → Res Ev.Flow} : seqR (.exc e s) k = .exc e s := (rfl)
@[simp] theorem seqR_stk {k : S → Res Ev.Flow} : seqR .stk k = .stk := (rfl)
@[simp] theorem seqR_bind {r : Res α} {f : α → S → Res Ev.Flow} {k : S → Res Ev.Flow} : seqR (Res.bind r f) k = Res.bind r (kSeq f k) := by cases r <;> rfl
@[simp] theorem seqR_seqR {r : Res Ev.Flow} {k k' : S → Res Ev.Flow} : seqR (seqR r k) k' = seqR r (kThen k k') := by
  unfold seqR
  rcases r with ⟨_ | _ | _ | _, _⟩ | _ | _ <;> rfl
@[simp] theorem callR_ok {x : D} {c c0 : List Cell} {l : List (Option LV)} : callR (.ok x c) ⟨l, c0⟩ = .ok x ⟨l, c⟩ := (rfl)
@[simp] theorem callR_exc {e : Exc} {c c0 : List Cell} {l : List (Option LV)} : callR (.exc e c) ⟨l, c0⟩ = .exc e ⟨l, c⟩ := (rfl)
@[simp] theorem callR_stk {s : S} : callR .stk s = .stk := (rfl)
@[simp] theorem optR_some {a : α} {s : S} : optR (some a) s = .ok a s := (rfl)
@[simp] theorem optD_some {a : D} {s : S} : optD (some a) s = .ok (.d a) s := (rfl)
@[simp] theorem Runs_ok {a : α} {s : S} {Q : α → S → Prop} {E : Exc → S → Prop} : Runs (.ok a s) Q E = Q a s := (rfl)
@[simp] theorem Runs_exc {e : Exc} {s : S} {Q : α → S → Prop} {E : Exc → S → Prop} : Runs (.exc e s) Q E = E e s := (rfl)
@[simp] theorem FRuns_ok {a : D} {s : List Cell} {Q : D → List Cell → Prop} {E : Exc → List Cell → Prop} : FRuns (.ok a s) Q E = Q a s := (rfl)
@[simp] theorem FRuns_exc {e : Exc} {s : List Cell} {Q : D → List Cell → Prop} {E : Exc → List Cell → Prop} : FRuns (.exc e s) Q E = E e s := (rfl)
theorem rok {a : α} {s : S} {Q : α → S → Prop} {E : Exc → S → Prop} (h : Q a s) : Runs (.ok a s) Q E := h
theorem rexc {e : Exc} {s : S} {Q : α → S → Prop} {E : Exc → S → Prop} (h : E e s) : Runs (.exc e s) Q E := h
theorem runs_bind {r : Res α} {f : α → S → Res β} {Q1 : α → S → Prop} {Q : β → S → Prop} {E : Exc → S → Prop} (h : Runs r Q1 E) (k : ∀ a s, Q1 a s → Runs (f a s) Q E) : Runs (Res.bind r f) Q E := by
  cases r with
  | ok a s => exact k a s h
  | exc e s => exact h
  | stk => exact h
theorem runs_mono {r : Res α} {Q1 Q : α → S → Prop} {E E1 : Exc → S → Prop} (h : Runs r Q1 E1) (k : ∀ a s, Q1 a s → Q a s) (k2 : ∀ e s, E1 e s → E e s) : Runs r Q E := by
  cases r with
  | ok a s => exact k a s h
  | exc e s => exact k2 e s h
  | stk => exact h
theorem runs_call {r : FRes} {s : S} {f : D → S → Res β} {Q1 : D → List Cell → Prop} {Q : β → S → Prop} {E : Exc → S → Prop} (h : FRuns r Q1 fun e c => E e { s with cel := c }) (k : ∀ x c, Q1 x c → Runs (f x { s with cel := c }) Q E) : Runs (Res.bind (callR r s) f) Q E := by
  cases r with
  | ok a s => exact k a s h
  | exc e s => exact h
  | stk => exact h
/-- what is wanted behind a statement, K: what holds if it goes on -/
structure ThK (P : S → Prop) (Q K : Ev.Flow → S → Prop) : Prop where
  nx : ∀ s, P s → K .next s
  rt : ∀ t s, Q (.ret t) s → K (.ret t) s
  bk : ∀ s, Q .brk s → K .brk s
  ct : ∀ s, Q .cont s → K .cont s
theorem runs_seq {r : Res Ev.Flow} {k : S → Res Ev.Flow} {P : S → Prop} {Q : Ev.Flow → S → Prop} {E : Exc → S → Prop} (h : ∀ K, ThK P Q K → Runs r K E) (hk : ∀ s, P s → Runs (k s) Q E) : Runs (seqR r k) Q E := by
  have h := h (fun fl s => match fl with | .next => P s | fl => Q fl s) ⟨fun _ h => h, fun _ _ h => h, fun _ h => h, fun _ h => h⟩
  rcases r with ⟨_ | _ | _ | _, s⟩ | _ | _ <;> first | exact hk s h | exact h
/-- a def's end -/
def Fin (Q : D → List Cell → Prop) : Ev.Flow → S → Prop := fun fl s => match fl with
  | .next => Q .non s.cel
  | .ret t => Q t s.cel
  | _ => False
@[simp] theorem Fin_next {Q : D → List Cell → Prop} {l : List (Option LV)} {c : List Cell} : Fin Q .next ⟨l, c⟩ = Q .non c := (rfl)
@[simp] theorem Fin_ret {Q : D → List Cell → Prop} {l : List (Option LV)} {c : List Cell} {t : D} : Fin Q (.ret t) ⟨l, c⟩ = Q t c := (rfl)
theorem FRuns_finish {r : Res Ev.Flow} {Q : D → List Cell → Prop} {E : Exc → List Cell → Prop} : FRuns (finish r) Q E ↔ Runs r (Fin Q) fun e s => E e s.cel := by
  rcases r with ⟨_ | _ | _ | _, s⟩ | _ | _ <;> rfl
def noE : Exc → List Cell → Prop := fun _ _ => False
theorem frun_ok {r : FRes} {Q : D → List Cell → Prop} (h : FRuns r Q noE) : ∃ x c, r = .ok x c ∧ Q x c := by
  cases r with
  | ok a s => exact ⟨_, _, rfl, h⟩
  | exc e s => exact h.elim
  | stk => exact h.elim
theorem frun_eq {r : FRes} {x : D} {c : List Cell} (h : FRuns r (fun y d => y = x ∧ d = c) noE) : r = .ok x c := by
  obtain ⟨_, _, e, rfl, rfl⟩ := frun_ok h
  exact e
theorem frun_exc {r : FRes} {x : Exc} {c : List Cell} (h : FRuns r (fun _ _ => False) (fun e d => e = x ∧ d = c)) : r = .exc x c := by
  cases r with
  | ok a s => exact h.elim
  | exc e s => obtain ⟨rfl, rfl⟩ := h; rfl
  | stk => exact h.elim
theorem frun_of {r : FRes} {x : D} {c : List Cell} {Q : D → List Cell → Prop} {E : Exc → List Cell → Prop} (h : r = .ok x c) (q : Q x c) : FRuns r Q E := by subst h; exact q
end
/-! ### one step -/
section
variable {G : Tab} {F : FT}
theorem runDef_eq {d : Def} {ts : List D} {c : List Cell} (h : ts.length = d.np) : runDef G F d ts c = Ev.finish (evSs G F d.body ⟨ts.map (fun x => some (.d x)) ++ List.replicate (d.n - d.np) none, c⟩) := if_pos h
@[simp] theorem M_bind {α β : Type} {m : M α} {f : α → M β} {s : S} : M.bind m f s = Res.bind (m s) f := (rfl)
@[simp] theorem M_pure {α : Type} {a : α} {s : S} : M.pure a s = .ok a s := (rfl)
theorem M_of {α : Type} {o : Option α} {s : S} : M.of o s = optR o s := by cases o <;> rfl
def D.isRef : D → Bool
  | .ref _ => true
  | _ => false
@[simp] theorem val_d {x : D} {s : S} (h : x.isRef = false) : PV.val s (.d x) = some x := by cases x <;> first | rfl | cases h
@[simp] theorem val_ref {k : Nat} {s : S} : PV.val s (.d (.ref k)) = (s.cel[k]?).map Cell.toD := (rfl)
@[simp] theorem store_d {x : D} {s : S} : PV.store (.d x) s = .ok x s := (rfl)
def twoR (x y : Option D) (f : D → D → Option D) (s : S) : Res PV := match x, y with
  | some x, some y => optD (f x y) s
  | _, _ => .stk
def oneR (x : Option D) (f : D → Option D) (s : S) : Res PV := match x with
  | some x => optD (f x) s
  | _ => .stk
@[simp] theorem twoR_some {x y : D} {f : D → D → Option D} {s : S} : twoR (some x) (some y) f s = optD (f x y) s := (rfl)
@[simp] theorem oneR_some {x : D} {f : D → Option D} {s : S} : oneR (some x) f s = optD (f x) s := (rfl)
def kOne (f : D → Option D) : PV → S → Res PV := fun x s => oneR (x.val s) f s
def kTwo2 (f : D → D → Option D) (x : PV) : PV → S → Res PV := fun y s => twoR (x.val s) (y.val s) f s
def kTwo1 (G : Tab) (F : FT) (b : Ex) (f : D → D → Option D) : PV → S → Res PV := fun x s => Res.bind (evX G F b s) (kTwo2 f x)
@[simp] theorem kOne_eq {f : D → Option D} {x : PV} {s : S} : kOne f x s = oneR (x.val s) f s := (rfl)
@[simp] theorem kTwo2_eq {f : D → D → Option D} {x y : PV} {s : S} : kTwo2 f x y s = twoR (x.val s) (y.val s) f s := (rfl)
@[simp] theorem kTwo1_eq {f : D → D → Option D} {b : Ex} {x : PV} {s : S} : kTwo1 G F b f x s = Res.bind (evX G F b s) (kTwo2 f x) := (rfl)
theorem two_eq {ma : M PV} {b : Ex} {f : D → D → Option D} {s : S} : two ma (evX G F b) f s = Res.bind (ma s) (kTwo1 G F b f) := by
  show M.bind ma (fun a => M.bind (evX G F b) fun b => fun s => _) s = _
  rw [M_bind]; congr
theorem one_eq {ma : M PV} {f : D → Option D} {s : S} : one ma f s = Res.bind (ma s) (kOne f) := by
  show M.bind ma (fun a => fun s => _) s = _
  rw [M_bind]; congr; funext a s1
  rw [kOne_eq]; unfold oneR optD
  cases a.val s1 <;> rfl
@[simp] theorem toB_bl {b : Bool} {s : S} : toB (.d (.bl b)) s = .ok b s := (rfl)
def varR (i : Nat) (o : Option LV) (s : S) : Res PV := match o with
  | some (.d x) => .ok (.d x) s
  | some (.own _) => .ok (.own i) s
  | none => .stk
@[simp] theorem varR_d {i : Nat} {x : D} {s : S} : varR i (some (.d x)) s = .ok (.d x) s := (rfl)
@[simp] theorem varR_own {i : Nat} {x : Cell} {s : S} : varR i (some (.own x)) s = .ok (.own i) s := (rfl)
@[simp] theorem loc1_eq {l : List (Option LV)} {c : List Cell} {i : Nat} : S.loc1 ⟨l, c⟩ i = (l[i]?).bind id := (rfl)
@[simp] theorem evX_v {i : Nat} {s : S} : evX G F (.v i) s = varR i (s.loc1 i) s := by
  show varM i s = _
  unfold varM varR
  split <;> simp_all
@[simp] theorem evX_con {g : Nat} {s : S} : evX G F (.con g) s = optD (G.con[g]?) s := by
  show M.of ((G.con[g]?).map PV.d) s = _
  cases G.con[g]? <;> rfl
@[simp] theorem evX_int {i : Int} {s : S} : evX G F (.int i) s = .ok (.d (.int i)) s := (rfl)
@[simp] theorem evX_str {i : Str} {s : S} : evX G F (.str i) s = .ok (.d (.str i)) s := (rfl)
@[simp] theorem evX_bl {i : Bool} {s : S} : evX G F (.bl i) s = .ok (.d (.bl i)) s := (rfl)
@[simp] theorem evX_non {s : S} : evX G F .non s = .ok (.d .non) s := (rfl)
@[simp] theorem evX_bin {op : Op} {a b : Ex} {s : S} : evX G F (.bin op a b) s = Res.bind (evX G F a s) (kTwo1 G F b (binF op)) := two_eq
@[simp] theorem evX_neg {a : Ex} {s : S} : evX G F (.neg a) s = Res.bind (evX G F a s) (kOne negF) := one_eq
def kNotB : Bool → S → Res PV := fun b s => .ok (.d (.bl !b)) s
def kNot : PV → S → Res PV := fun x s => Res.bind (toB x s) kNotB
@[simp] theorem kNotB_eq {b : Bool} {s : S} : kNotB b s = .ok (.d (.bl !b)) s := (rfl)
@[simp] theorem kNot_eq {x : PV} {s : S} : kNot x s = Res.bind (toB x s) kNotB := (rfl)
@[simp] theorem evX_not {a : Ex} {s : S} : evX G F (.not a) s = Res.bind (evX G F a s) kNot := (rfl)
@[simp] theorem evX_and {es : Exs} {s : S} : evX G F (.and es) s = evAnd G F es s := (rfl)
@[simp] theorem evX_or {es : Exs} {s : S} : evX G F (.or es) s = evOr G F es s := (rfl)
@[simp] theorem evAnd_1 {e : Ex} {s : S} : evAnd G F (.cons e .nil) s = evX G F e s := (rfl)
@[simp] theorem evOr_1 {e : Ex} {s : S} : evOr G F (.cons e .nil) s = evX G F e s := (rfl)
def andR (b : Bool) (r : Res PV) (s : S) : Res PV := if b then r else .ok (.d (.bl false)) s
def orR (b : Bool) (r : Res PV) (s : S) : Res PV := if b then .ok (.d (.bl true)) s else r
def ifR {α : Type} (b : Bool) (r r' : Res α) : Res α := if b then r else r'
def kAnd2 (G : Tab) (F : FT) (es : Exs) : Bool → S → Res PV := fun c s => andR c (evAnd G F es s) s
def kAnd (G : Tab) (F : FT) (es : Exs) : PV → S → Res PV := fun x s => Res.bind (toB x s) (kAnd2 G F es)
def kOr2 (G : Tab) (F : FT) (es : Exs) : Bool → S → Res PV := fun c s => orR c (evOr G F es s) s
def kOr (G : Tab) (F : FT) (es : Exs) : PV → S → Res PV := fun x s => Res.bind (toB x s) (kOr2 G F es)
@[simp] theorem kAnd2_t {es : Exs} {s : S} : kAnd2 G F es true s = evAnd G F es s := (rfl)
@[simp] theorem kAnd2_f {es : Exs} {s : S} : kAnd2 G F es false s = .ok (.d (.bl false)) s := (rfl)
@[simp] theorem kOr2_t {es : Exs} {s : S} : kOr2 G F es true s = .ok (.d (.bl true)) s := (rfl)
@[simp] theorem kOr2_f {es : Exs} {s : S} : kOr2 G F es false s = evOr G F es s := (rfl)
@[simp] theorem kAnd2_eq {es : Exs} {c : Bool} {s : S} : kAnd2 G F es c s = andR c (evAnd G F es s) s := (rfl)
@[simp] theorem kAnd_eq {es : Exs} {x : PV} {s : S} : kAnd G F es x s = Res.bind (toB x s) (kAnd2 G F es) := (rfl)
@[simp] theorem kOr2_eq {es : Exs} {c : Bool} {s : S} : kOr2 G F es c s = orR c (evOr G F es s) s := (rfl)
@[simp] theorem kOr_eq {es : Exs} {x : PV} {s : S} : kOr G F es x s = Res.bind (toB x s) (kOr2 G F es) := (rfl)
@[simp] theorem evAnd_2 {e e2 : Ex} {es : Exs} {s : S} : evAnd G F (.cons e (.cons e2 es)) s = Res.bind (evX G F e s) (kAnd G F (.cons e2 es)) := by
  show M.bind (evX G F e) (fun x => M.bind (toB x) fun c => if c then evAnd G F (.cons e2 es) else M.pure (.d (.bl false))) s = _
  rw [M_bind]; congr; funext a s1
  rw [M_bind, kAnd_eq]; congr; funext b s2
  cases b <;> rfl
@[simp] theorem evOr_2 {e e2 : Ex} {es : Exs} {s : S} : evOr G F (.cons e (.cons e2 es)) s = Res.bind (evX G F e s) (kOr G F (.cons e2 es)) := by
  show M.bind (evX G F e) (fun x => M.bind (toB x) fun c => if c then M.pure (.d (.bl true)) else evOr G F (.cons e2 es)) s = _
  rw [M_bind]; congr; funext a s1
  rw [M_bind, kOr_eq]; congr; funext b s2
  cases b <;> rfl
@[simp] theorem andR_t {r : Res PV} {s : S} : andR true r s = r := (rfl)
@[simp] theorem andR_f {r : Res PV} {s : S} : andR false r s = .ok (.d (.bl false)) s := (rfl)
@[simp] theorem orR_t {r : Res PV} {s : S} : orR true r s = .ok (.d (.bl true)) s := (rfl)
@[simp] theorem orR_f {r : Res PV} {s : S} : orR false r s = r := (rfl)
@[simp] theorem ifR_t {α : Type} {r r' : Res α} : ifR true r r' = r := (rfl)
@[simp] theorem ifR_f {α : Type} {r r' : Res α} : ifR false r r' = r' := (rfl)
@[simp] theorem ifR_same {α : Type} {b : Bool} {r : Res α} : ifR b r r = r := by cases b <;> rfl
/-- both ways end in the same state -/
@[simp] theorem andR_ok {b q : Bool} {s : S} : andR b (.ok (.d (.bl q)) s) s = .ok (.d (.bl (b && q))) s := by
  cases b <;> rfl
@[simp] theorem orR_ok {b q : Bool} {s : S} : orR b (.ok (.d (.bl q)) s) s = .ok (.d (.bl (b || q))) s := by
  cases b <;> rfl
@[simp] theorem ifR_bl {b p q : Bool} {s : S} : ifR b (.ok (PV.d (.bl p)) s) (.ok (PV.d (.bl q)) s) = .ok (.d (.bl (bif b then p else q))) s := by
  cases b <;> rfl
theorem ifR_bind {α β : Type} {b : Bool} {r r' : Res α} {f : α → S → Res β} : Res.bind (ifR b r r') f = ifR b (Res.bind r f) (Res.bind r' f) := by cases b <;> rfl
theorem runs_if {α : Type} {b : Bool} {r r' : Res α} {Q : α → S → Prop} {E : Exc → S → Prop} (h1 : b = true → Runs r Q E) (h2 : b = false → Runs r' Q E) : Runs (ifR b r r') Q E := by
  cases b
  · exact h2 rfl
  · exact h1 rfl
theorem seq_if {b : Bool} {r r' : Res Ev.Flow} {k : S → Res Ev.Flow} {Q : Ev.Flow → S → Prop} {E : Exc → S → Prop} (h1 : b = true → Runs (seqR r k) Q E) (h2 : b = false → Runs (seqR r' k) Q E) : Runs (seqR (ifR b r r') k) Q E := by
  cases b
  · exact h2 rfl
  · exact h1 rfl
theorem bind_if {α β : Type} {b : Bool} {r r' : Res α} {f : α → S → Res β} {Q : β → S → Prop} {E : Exc → S → Prop} (h1 : b = true → Runs (Res.bind r f) Q E) (h2 : b = false → Runs (Res.bind r' f) Q E) : Runs (Res.bind (ifR b r r') f) Q E := by
  cases b
  · exact h2 rfl
  · exact h1 rfl
theorem bind_and {β : Type} {b : Bool} {r : Res PV} {s : S} {f : PV → S → Res β} {Q : β → S → Prop} {E : Exc → S → Prop} (h1 : b = true → Runs (Res.bind r f) Q E) (h2 : b = false → Runs (f (.d (.bl false)) s) Q E) : Runs (Res.bind (andR b r s) f) Q E := by
  cases b
  · exact h2 rfl
  · exact h1 rfl
theorem bind_or {β : Type} {b : Bool} {r : Res PV} {s : S} {f : PV → S → Res β} {Q : β → S → Prop} {E : Exc → S → Prop} (h1 : b = true → Runs (f (.d (.bl true)) s) Q E) (h2 : b = false → Runs (Res.bind r f) Q E) : Runs (Res.bind (orR b r s) f) Q E := by
  cases b
  · exact h2 rfl
  · exact h1 rfl
def kIfe2 (G : Tab) (F : FT) (a b : Ex) : Bool → S → Res PV := fun c s => ifR c (evX G F a s) (evX G F b s)
def kIfe (G : Tab) (F : FT) (a b : Ex) : PV → S → Res PV := fun x s => Res.bind (toB x s) (kIfe2 G F a b)
@[simp] theorem kIfe2_t {a b : Ex} {s : S} : kIfe2 G F a b true s = evX G F a s := (rfl)
@[simp] theorem kIfe2_f {a b : Ex} {s : S} : kIfe2 G F a b false s = evX G F b s := (rfl)
@[simp] theorem kIfe2_eq {a b : Ex} {c : Bool} {s : S} : kIfe2 G F a b c s = ifR c (evX G F a s) (evX G F b s) := (rfl)
@[simp] theorem kIfe_eq {a b : Ex} {x : PV} {s : S} : kIfe G F a b x s = Res.bind (toB x s) (kIfe2 G F a b) := (rfl)
@[simp] theorem evX_ife {t a b : Ex} {s : S} : evX G F (.ife t a b) s = Res.bind (evX G F t s) (kIfe G F a b) := by
  show M.bind (evX G F t) (fun x => M.bind (toB x) fun c => if c then evX G F a else evX G F b) s = _
  rw [M_bind]; congr; funext x s1
  rw [M_bind, kIfe_eq]; congr; funext b s2
  cases b <;> rfl
def cmpD (c : Cm) (x y : D) : Option D := (cmpF c x y).map .bl
@[simp] theorem cmpD_eq {c : Cm} {x y : D} : cmpD c x y = (cmpF c x y).map .bl := (rfl)
@[simp] theorem evX_cmp {c : Cm} {a b : Ex} {s : S} : evX G F (.cmp c a b) s = Res.bind (evX G F a s) (kTwo1 G F b (cmpD c)) := two_eq
/-- a chain -/
def chR (o : Option Bool) (c' : Cm) (y : PV) (m : M PV) (s : S) : Res PV := match o with
  | some true => chain2 c' y m s
  | some false => .ok (.d (.bl false)) s
  | none => .stk
def chR1 (x y : Option D) (c c' : Cm) (yv : PV) (m : M PV) (s : S) : Res PV := match x, y with
  | some x, some y => chR (cmpF c x y) c' yv m s
  | _, _ => .stk
@[simp] theorem chR1_some {x y : D} {c c' : Cm} {yv : PV} {m : M PV} {s : S} : chR1 (some x) (some y) c c' yv m s = chR (cmpF c x y) c' yv m s := (rfl)
def kCh3 (c' : Cm) (y : PV) : PV → S → Res PV := fun z s => twoR (y.val s) (z.val s) (cmpD c') s
@[simp] theorem kCh3_eq {c' : Cm} {y z : PV} {s : S} : kCh3 c' y z s = twoR (y.val s) (z.val s) (cmpD c') s := (rfl)
@[simp] theorem chR_some {b : Bool} {c' : Cm} {y : PV} {e : Ex} {s : S} : chR (some b) c' y (evX G F e) s = andR b (Res.bind (evX G F e s) (kCh3 c' y)) s := by
  cases b
  · rfl
  · show chain2 c' y (evX G F e) s = _
    unfold chain2
    rw [M_bind, andR_t]; congr; funext z s1
    rw [kCh3_eq]; unfold twoR optD cmpD
    cases y.val s1 <;> cases z.val s1 <;> try rfl
    simp only
    cases cmpF c' _ _ <;> rfl
def kCh2 (G : Tab) (F : FT) (c c' : Cm) (d : Ex) (x : PV) : PV → S → Res PV := fun y s => chR1 (x.val s) (y.val s) c c' y (evX G F d) s
def kCh1 (G : Tab) (F : FT) (c c' : Cm) (b d : Ex) : PV → S → Res PV := fun x s => Res.bind (evX G F b s) (kCh2 G F c c' d x)
@[simp] theorem kCh2_eq {c c' : Cm} {d : Ex} {x y : PV} {s : S} : kCh2 G F c c' d x y s = chR1 (x.val s) (y.val s) c c' y (evX G F d) s := (rfl)
@[simp] theorem kCh1_eq {c c' : Cm} {b d : Ex} {x : PV} {s : S} : kCh1 G F c c' b d x s = Res.bind (evX G F b s) (kCh2 G F c c' d x) := (rfl)
@[simp] theorem evX_chain {c c' : Cm} {a b d : Ex} {s : S} : evX G F (.chain c c' a b d) s = Res.bind (evX G F a s) (kCh1 G F c c' b d) := by
  show M.bind (evX G F a) (fun x => M.bind (evX G F b) fun y => chainM c c' x y (evX G F d)) s = _
  rw [M_bind]; congr
def tupR (xs : List D) (s : S) : Res PV := if xs.length ≤ line then .ok (.d (.tup xs)) s else .stk
def lstR (xs : List D) (s : S) : Res PV := if xs.length ≤ line then .ok (.d (.lst xs)) s else .stk
@[simp] theorem tupR_ok {xs : List D} {s : S} (h : xs.length ≤ line) : tupR xs s = .ok (.d (.tup xs)) s := if_pos h
@[simp] theorem lstR_ok {xs : List D} {s : S} (h : xs.length ≤ line) : lstR xs s = .ok (.d (.lst xs)) s := if_pos h
@[simp] theorem evX_tup {es : Exs} {s : S} : evX G F (.tup es) s = Res.bind (evDs G F es s) tupR := by
  show M.bind (evDs G F es) (fun xs => if xs.length ≤ line then M.pure (PV.d (.tup xs)) else stk) s = _
  rw [M_bind]; congr; funext a s1
  unfold tupR; split <;> rfl
@[simp] theorem evX_lst {es : Exs} {s : S} : evX G F (.lst es) s = Res.bind (evDs G F es s) lstR := by
  show M.bind (evDs G F es) (fun xs => if xs.length ≤ line then M.pure (PV.d (.lst xs)) else stk) s = _
  rw [M_bind]; congr; funext a s1
  unfold lstR; split <;> rfl
@[simp] theorem mark_nil {vs : Exs} : isMark .nil vs = false := by cases vs <;> rfl
@[simp] theorem mark_str {a : Str} {ks vs : Exs} : isMark (.cons (.str a) ks) vs = false := by cases vs <;> cases ks <;> rfl
@[simp] theorem mark_int {a : Int} {ks vs : Exs} : isMark (.cons (.int a) ks) vs = false := by cases vs <;> cases ks <;> rfl
@[simp] theorem evX_dct {ks vs : Exs} {s : S} (h : isMark ks vs = false) : evX G F (.dct ks vs) s = optR ((dispD ks vs []).map fun l => .d (.dct l)) s := by
  show (if isMark ks vs = true then (M.pure (PV.d (.dct [(.non, .non)])) : M PV) else M.of ((dispD ks vs []).map fun l => PV.d (.dct l))) s = _
  rw [h]
  exact M_of
@[simp] theorem evX_dctT {s : S} : evX G F (.dct (.cons .non .nil) (.cons .non .nil)) s = .ok (.d (.dct [(.non, .non)])) s := (rfl)
@[simp] theorem evX_new {e : Ex} {s : S} : evX G F (.new e) s = Res.bind (evX G F e s) newM := (rfl)
@[simp] theorem newM_lst {xs : List D} {l : List (Option LV)} {c : List Cell} : newM (.d (.lst xs)) ⟨l, c⟩ = .ok (.d (.ref c.length)) ⟨l, c ++ [.lst xs]⟩ := (rfl)
@[simp] theorem evX_idx {a i : Ex} {s : S} : evX G F (.idx a i) s = Res.bind (evX G F a s) (kTwo1 G F i idxF) := two_eq
def kSl5 (x : PV) (i : Option Int) : Option Int → S → Res PV := fun j s => oneR (x.val s) (slF i j) s
def kSl4 (hi : Ex) (x : PV) (i : Option Int) : PV → S → Res PV := fun h s => Res.bind (partM hi.isNon h s) (kSl5 x i)
def kSl3 (G : Tab) (F : FT) (hi : Ex) (x : PV) : Option Int → S → Res PV := fun i s => Res.bind (evX G F hi s) (kSl4 hi x i)
def kSl2 (G : Tab) (F : FT) (lo hi : Ex) (x : PV) : PV → S → Res PV := fun l s => Res.bind (partM lo.isNon l s) (kSl3 G F hi x)
def kSl1 (G : Tab) (F : FT) (lo hi : Ex) : PV → S → Res PV := fun x s => Res.bind (evX G F lo s) (kSl2 G F lo hi x)
@[simp] theorem kSl5_eq {x : PV} {i j : Option Int} {s : S} : kSl5 x i j s = oneR (x.val s) (slF i j) s := (rfl)
@[simp] theorem kSl4_eq {hi : Ex} {x h : PV} {i : Option Int} {s : S} : kSl4 hi x i h s = Res.bind (partM hi.isNon h s) (kSl5 x i) := (rfl)
@[simp] theorem kSl3_eq {hi : Ex} {x : PV} {i : Option Int} {s : S} : kSl3 G F hi x i s = Res.bind (evX G F hi s) (kSl4 hi x i) := (rfl)
@[simp] theorem kSl2_eq {lo hi : Ex} {x l : PV} {s : S} : kSl2 G F lo hi x l s = Res.bind (partM lo.isNon l s) (kSl3 G F hi x) := (rfl)
@[simp] theorem kSl1_eq {lo hi : Ex} {x : PV} {s : S} : kSl1 G F lo hi x s = Res.bind (evX G F lo s) (kSl2 G F lo hi x) := (rfl)
@[simp] theorem evX_sl {a lo hi : Ex} {s : S} : evX G F (.sl a lo hi) s = Res.bind (evX G F a s) (kSl1 G F lo hi) := by
  show M.bind (evX G F a) (fun x => M.bind (evX G F lo) fun l => M.bind (partM lo.isNon l) fun i => M.bind (evX G F hi) fun h => M.bind (partM hi.isNon h) fun j => slM x i j) s = _
  rw [M_bind]; congr; funext x s1
  rw [M_bind, kSl1_eq]; congr; funext l s2
  rw [M_bind, kSl2_eq]; congr; funext i s3
  rw [M_bind, kSl3_eq]; congr; funext h s4
  rw [M_bind, kSl4_eq]; congr; funext j s5
  rw [kSl5_eq]; unfold slM oneR optD
  cases x.val s5 <;> rfl
@[simp] theorem part_non {s : S} : partM true (.d .non) s = .ok none s := (rfl)
@[simp] theorem part_int {i : Int} {s : S} : partM false (.d (.int i)) s = .ok (some i) s := (rfl)
@[simp] theorem evX_rev {a : Ex} {s : S} : evX G F (.rev a) s = Res.bind (evX G F a s) (kOne revF) := one_eq
@[simp] theorem evX_srt {a : Ex} {s : S} : evX G F (.srt a) s = Res.bind (evX G F a s) (kOne srtF) := one_eq
@[simp] theorem evX_lns {a : Ex} {s : S} : evX G F (.lns a) s = Res.bind (evX G F a s) (kOne lnsF) := one_eq
@[simp] theorem evX_attr {a : Ex} {f : Nat} {s : S} : evX G F (.attr a f) s = Res.bind (evX G F a s) (kOne (fldF G f)) := one_eq
def kRd : D → S → Res PV := fun x s => .ok (.d x) s
@[simp] theorem kRd_eq {x : D} {s : S} : kRd x s = .ok (.d x) s := (rfl)
def kCall (F : FT) (f : Nat) : List D → S → Res PV := fun as s => Res.bind (callR (F f as s.cel) s) kRd
@[simp] theorem kCall_eq {f : Nat} {as : List D} {s : S} : kCall F f as s = Res.bind (callR (F f as s.cel) s) kRd := (rfl)
@[simp] theorem evX_call {f : Nat} {es : Exs} {s : S} : evX G F (.call .plain f es) s = Res.bind (evDs G F es s) (kCall F f) := by
  show M.bind (evDs G F es) (fun as => M.bind (doCall .plain (F f) as) fun x => M.pure (PV.d x)) s = _
  rw [M_bind]; congr; funext as s1
  rw [M_bind, kCall_eq]
  have : doCall .plain (F f) as s1 = callR (F f as s1.cel) s1 := by
    unfold doCall callR endC
    simp only
    cases F f as s1.cel <;> rfl
  rw [this]; rfl
@[simp] theorem evX_isi {e : Ex} {ts : List Ty} {s : S} : evX G F (.isi e ts) s = Res.bind (evX G F e s) (kOne (isiF G ts)) := one_eq
def kRg2 (t : Bool) (x : PV) : PV → S → Res PV := fun y s => optD ((rngF x y).bind (rgF t)) s
def kRg1 (G : Tab) (F : FT) (t : Bool) (b : Ex) : PV → S → Res PV := fun x s => Res.bind (evX G F b s) (kRg2 t x)
@[simp] theorem kRg2_eq {t : Bool} {x y : PV} {s : S} : kRg2 t x y s = optD ((rngF x y).bind (rgF t)) s := (rfl)
@[simp] theorem kRg1_eq {t : Bool} {b : Ex} {x : PV} {s : S} : kRg1 G F t b x s = Res.bind (evX G F b s) (kRg2 t x) := (rfl)
@[simp] theorem evX_rg {t : Bool} {a b : Ex} {s : S} : evX G F (.rg t a b) s = Res.bind (evX G F a s) (kRg1 G F t b) := by
  show M.bind (evX G F a) (fun x => M.bind (evX G F b) fun y => M.of (((rngF x y).bind (rgF t)).map PV.d)) s = _
  rw [M_bind]; congr; funext x s1
  rw [M_bind, kRg1_eq]; congr; funext y s2
  rw [M_of, kRg2_eq]
  cases (rngF x y).bind (rgF t) <;> rfl
def biD1 (b : Bi) (x : D) : Option D := biF b [x]
def biD2 (b : Bi) (x y : D) : Option D := biF b [x, y]
@[simp] theorem biD1_eq {b : Bi} {x : D} : biD1 b x = biF b [x] := (rfl)
@[simp] theorem biD2_eq {b : Bi} {x y : D} : biD2 b x y = biF b [x, y] := (rfl)
@[simp] theorem evX_bi1 {b : Bi} {e : Ex} {s : S} : evX G F (.bi b (.cons e .nil)) s = Res.bind (evX G F e s) (kOne (biD1 b)) := by
  show M.bind (M.bind (evX G F e) fun x => M.bind (M.pure []) fun r => M.pure (x :: r)) (fun xs => biM b xs) s = _
  rw [M_bind, M_bind]
  cases evX G F e s with
  | ok x s1 =>
    show biM b [x] s1 = oneR (x.val s1) (biD1 b) s1
    unfold biM valsOf oneR optD
    simp only [valsOf]
    cases x.val s1 <;> rfl
  | exc e s1 => rfl
  | stk => rfl
@[simp] theorem evX_bi2 {b : Bi} {e e2 : Ex} {s : S} : evX G F (.bi b (.cons e (.cons e2 .nil))) s = Res.bind (evX G F e s) (kTwo1 G F e2 (biD2 b)) := by
  show M.bind (M.bind (evX G F e) fun x => M.bind (M.bind (evX G F e2) fun x => M.bind (M.pure []) fun r => M.pure (x :: r)) fun r => M.pure (x :: r)) (fun xs => biM b xs) s = _
  rw [M_bind, M_bind]
  cases evX G F e s with
  | ok x s1 =>
    show Res.bind (Res.bind (Res.bind (evX G F e2 s1) _) _) _ = Res.bind (evX G F e2 s1) _
    cases evX G F e2 s1 with
    | ok y s2 =>
      show biM b [x, y] s2 = twoR (x.val s2) (y.val s2) (biD2 b) s2
      unfold biM twoR optD
      simp only [valsOf]
      cases x.val s2 <;> cases y.val s2 <;> rfl
    | exc e s1 => rfl
    | stk => rfl
  | exc e s1 => rfl
  | stk => rfl
/-- a list that changes -/
def lisR (x : PV) (s : S) : Res Unit := lstM x s
def mmR (m : Mm) (x : PV) (as : List D) (s : S) : Res D := doMm m x as s
def kMm3 (m : Mm) (x : PV) : List D → S → Res PV := fun as s => Res.bind (mmR m x as s) kRd
def kMm2 (G : Tab) (F : FT) (m : Mm) (es : Exs) (x : PV) : Unit → S → Res PV := fun _ s => Res.bind (evDs G F es s) (kMm3 m x)
def kMm1 (G : Tab) (F : FT) (m : Mm) (es : Exs) : PV → S → Res PV := fun x s => Res.bind (lisR x s) (kMm2 G F m es x)
@[simp] theorem kMm3_eq {m : Mm} {x : PV} {as : List D} {s : S} : kMm3 m x as s = Res.bind (mmR m x as s) kRd := (rfl)
@[simp] theorem kMm2_eq {m : Mm} {es : Exs} {x : PV} {u : Unit} {s : S} : kMm2 G F m es x u s = Res.bind (evDs G F es s) (kMm3 m x) := (rfl)
@[simp] theorem kMm1_eq {m : Mm} {es : Exs} {x : PV} {s : S} : kMm1 G F m es x s = Res.bind (lisR x s) (kMm2 G F m es x) := (rfl)
@[simp] theorem evX_mm {m : Mm} {o : Ex} {es : Exs} {s : S} : evX G F (.mm m o es) s = Res.bind (evX G F o s) (kMm1 G F m es) := (rfl)
@[simp] theorem lo_own {i : Nat} : PV.lo (.own i) = some (.sl i) := (rfl)
@[simp] theorem loRef {k : Nat} : PV.lo (.d (.ref k)) = some (.id k) := (rfl)
def getO (l : Option LV) : Option Cell := match l with
  | some (.own c) => some c
  | _ => none
@[simp] theorem get_slE {i : Nat} {l : List (Option LV)} {c : List Cell} : S.get ⟨l, c⟩ (.sl i) = getO ((l[i]?).bind id) := by
  unfold S.get getO; simp only [loc1_eq] <;> rfl
@[simp] theorem getO_own {c : Cell} : getO (some (.own c)) = some c := (rfl)
@[simp] theorem get_idE {k : Nat} {l : List (Option LV)} {c : List Cell} : S.get ⟨l, c⟩ (.id k) = c[k]? := (rfl)
@[simp] theorem put_sl {i : Nat} {x : Cell} {l : List (Option LV)} {c : List Cell} : S.put ⟨l, c⟩ x (.sl i) = ⟨l.set i (some (.own x)), c⟩ := (rfl)
@[simp] theorem put_id {k : Nat} {x : Cell} {l : List (Option LV)} {c : List Cell} : S.put ⟨l, c⟩ x (.id k) = ⟨l, c.set k x⟩ := (rfl)
def lisC (o : Option Cell) (s : S) : Res Unit := match o with
  | some (.lst _) => .ok () s
  | _ => .stk
@[simp] theorem lisC_lst {xs : List D} {s : S} : lisC (some (.lst xs)) s = .ok () s := (rfl)
@[simp] theorem lisR_own {i : Nat} {l : List (Option LV)} {c : List Cell} : lisR (.own i) ⟨l, c⟩ = lisC (getO ((l[i]?).bind id)) ⟨l, c⟩ := by
  show lstM (.own i) _ = _
  unfold lstM lisC
  rw [lo_own]; simp only
  (rw [get_slE]) <;> (rcases getO ((l[i]?).bind id) with _ | _ | _ | _ <;> rfl)
@[simp] theorem lisR_ref {k : Nat} {l : List (Option LV)} {c : List Cell} : lisR (.d (.ref k)) ⟨l, c⟩ = lisC (c[k]?) ⟨l, c⟩ := by
  show lstM (.d (.ref k)) _ = _
  unfold lstM lisC
  rw [loRef]; simp only
  (rw [get_idE]) <;> (rcases c[k]? with _ | _ | _ | _ <;> rfl)
def mmO (r : Option (D × Cell)) (l : Lo) (s : S) : Res D := match r with
  | some (y, c) => .ok y (s.put c l)
  | none => .stk
@[simp] theorem mmO_some {y : D} {c : Cell} {l : Lo} {s : S} : mmO (some (y, c)) l s = .ok y (s.put c l) := (rfl)
def mmC (o : Option Cell) (m : Mm) (as : List D) (l : Lo) (s : S) : Res D := match o with
  | some c => mmO (mmF m c as) l s
  | none => .stk
@[simp] theorem mmC_some {c : Cell} {m : Mm} {as : List D} {l : Lo} {s : S} : mmC (some c) m as l s = mmO (mmF m c as) l s := (rfl)
@[simp] theorem mmR_own {m : Mm} {as : List D} {i : Nat} {l : List (Option LV)} {c : List Cell} : mmR m (.own i) as ⟨l, c⟩ = mmC (getO ((l[i]?).bind id)) m as (.sl i) ⟨l, c⟩ := by
  show doMm m (.own i) as ⟨l, c⟩ = _
  unfold doMm mmC
  rw [lo_own]; simp only
  rw [get_slE]
  cases getO ((l[i]?).bind id) with
  | none => rfl
  | some x => simp only; unfold mmO; cases mmF m x as <;> rfl
@[simp] theorem mmR_ref {m : Mm} {as : List D} {k : Nat} {l : List (Option LV)} {c : List Cell} : mmR m (.d (.ref k)) as ⟨l, c⟩ = mmC (c[k]?) m as (.id k) ⟨l, c⟩ := by
  show doMm m (.d (.ref k)) as ⟨l, c⟩ = _
  unfold doMm mmC
  rw [loRef]; simp only
  rw [get_idE]
  cases c[k]? with
  | none => rfl
  | some x => simp only; unfold mmO; cases mmF m x as <;> rfl
@[simp] theorem mmF_append {ts : List D} {x : D} (h : ts.length < line) : mmF .append (.lst ts) [x] = some (.non, .lst (ts ++ [x])) := app_at h
@[simp] theorem mmF_extend {ts zs : List D} (h : ts.length + zs.length ≤ line) : mmF .extend (.lst ts) [.lst zs] = some (.non, .lst (ts ++ zs)) := by simp [mmF, h]
@[simp] theorem evDs_nil {s : S} : evDs G F .nil s = .ok [] s := (rfl)
def kDs3 (d : D) : List D → S → Res (List D) := fun r s => .ok (d :: r) s
def kDs2 (G : Tab) (F : FT) (es : Exs) : D → S → Res (List D) := fun d s => Res.bind (evDs G F es s) (kDs3 d)
def kDs1 (G : Tab) (F : FT) (es : Exs) : PV → S → Res (List D) := fun x s => Res.bind (x.store s) (kDs2 G F es)
@[simp] theorem kDs3_eq {d : D} {r : List D} {s : S} : kDs3 d r s = .ok (d :: r) s := (rfl)
@[simp] theorem kDs2_eq {d : D} {es : Exs} {s : S} : kDs2 G F es d s = Res.bind (evDs G F es s) (kDs3 d) := (rfl)
@[simp] theorem kDs1_eq {x : PV} {es : Exs} {s : S} : kDs1 G F es x s = Res.bind (x.store s) (kDs2 G F es) := (rfl)
@[simp] theorem evDs_cons {e : Ex} {es : Exs} {s : S} : evDs G F (.cons e es) s = Res.bind (evX G F e s) (kDs1 G F es) := (rfl)
def stoR (o : Option LV) (i : Nat) (s : S) : Res D := match o with
  | some (.own c) => .ok c.toD { s with loc := s.loc.set i (some (.d c.toD)) }
  | some (.d x) => .ok x s
  | none => .stk
@[simp] theorem store_own {i : Nat} {s : S} : PV.store (.own i) s = stoR (s.loc1 i) i s := by
  unfold PV.store stoR
  (simp only) <;> (cases s.loc1 i with
  | none => rfl
  | some v => cases v <;> rfl)
@[simp] theorem stoR_own {c : Cell} {i : Nat} {l : List (Option LV)} {cl : List Cell} : stoR (some (.own c)) i ⟨l, cl⟩ = .ok c.toD ⟨l.set i (some (.d c.toD)), cl⟩ := (rfl)
@[simp] theorem toD_lst {xs : List D} : (Cell.lst xs).toD = .lst xs := (rfl)
@[simp] theorem toD_dct {xs : List (D × D)} : (Cell.dct xs).toD = .dct xs := (rfl)
@[simp] theorem toD_obj {c : Nat} {fs : List (Nat × D)} : (Cell.obj c fs).toD = .obj c fs := (rfl)
def valO (o : Option LV) : Option D := match o with
  | some (.own c) => some c.toD
  | some (.d (.ref _)) => none
  | some (.d x) => some x
  | none => none
@[simp] theorem valO_own {c : Cell} : valO (some (.own c)) = some c.toD := (rfl)
@[simp] theorem valO_d {x : D} (h : x.isRef = false) : valO (some (.d x)) = some x := by cases x <;> first | rfl | cases h
@[simp] theorem val_own {i : Nat} {l : List (Option LV)} {cl : List Cell} : PV.val ⟨l, cl⟩ (.own i) = valO ((l[i]?).bind id) := by
  unfold PV.val valO
  (simp only [loc1_eq]) <;> (rcases (l[i]?).bind id with _ | x | _ <;> try rfl)
/-! statements -/
@[simp] theorem evSs_nil {s : S} : evSs G F .nil s = .ok .next s := (rfl)
@[simp] theorem evSs_cons {st : St} {ss : Sts} {s : S} : evSs G F (.cons st ss) s = seqR (evS G F st s) (evSs G F ss) := by
  show (match evS G F st s with | .ok .next st' => evSs G F ss st' | r => r) = _
  unfold seqR
  rcases evS G F st s with ⟨_ | _ | _ | _, _⟩ | _ | _ <;> rfl
@[simp] theorem seqR_nil {r : Res Ev.Flow} : seqR r (evSs G F .nil) = r := by
  rcases r with ⟨_ | _ | _ | _, _⟩ | _ | _ <;> rfl
def bindR (o : Option S) : Res Ev.Flow := match o with
  | some s => .ok .next s
  | none => .stk
@[simp] theorem bindR_some {s : S} : bindR (some s) = .ok .next s := (rfl)
def kAsg2 (t : Tg) : D → S → Res Ev.Flow := fun y s => bindR (bindT t y s)
def kAsg1 (t : Tg) : PV → S → Res Ev.Flow := fun x s => Res.bind (x.store s) (kAsg2 t)
@[simp] theorem kAsg2_eq {t : Tg} {y : D} {s : S} : kAsg2 t y s = bindR (bindT t y s) := (rfl)
@[simp] theorem kAsg1_eq {t : Tg} {x : PV} {s : S} : kAsg1 t x s = Res.bind (x.store s) (kAsg2 t) := (rfl)
@[simp] theorem evS_asg {t : Tg} {e : Ex} {s : S} : evS G F (.asg t e) s = Res.bind (evX G F e s) (kAsg1 t) := by
  show M.bind (evX G F e) (fun x => M.bind x.store fun y => bindM t y) s = _
  rw [M_bind]; congr
@[simp] theorem bindT_v {i : Nat} {x : D} {l : List (Option LV)} {c : List Cell} : bindT (.v i) x ⟨l, c⟩ = some ⟨l.set i (some (.d x)), c⟩ := (rfl)
@[simp] theorem bindT_tup {ts : Tgs} {xs : List D} {s : S} : bindT (.tup ts) (.tup xs) s = bindTs ts xs s := (rfl)
@[simp] theorem bindT_lst {ts : Tgs} {xs : List D} {s : S} : bindT (.tup ts) (.lst xs) s = bindTs ts xs s := (rfl)
@[simp] theorem bindTs_nil {s : S} : bindTs .nil [] s = some s := (rfl)
@[simp] theorem bindTs_cons {t : Tg} {ts : Tgs} {x : D} {xs : List D} {s : S} : bindTs (.cons t ts) (x :: xs) s = (bindT t x s).bind (bindTs ts xs) := (rfl)
@[simp] theorem evS_asgO {i : Nat} {e : Ex} {s : S} : evS G F (.asgO i e) s = Res.bind (evX G F e s) (asgOM i) := (rfl)
@[simp] theorem asgO_lst {i : Nat} {xs : List D} {l : List (Option LV)} {c : List Cell} (h : i < l.length) : asgOM i (.d (.lst xs)) ⟨l, c⟩ = .ok .next ⟨l.set i (some (.own (.lst xs))), c⟩ := by
  unfold asgOM thaw; simp only; rw [if_pos h]
@[simp] theorem asgO_dct {i : Nat} {xs : List (D × D)} {l : List (Option LV)} {c : List Cell} (h : i < l.length) : asgOM i (.d (.dct xs)) ⟨l, c⟩ = .ok .next ⟨l.set i (some (.own (.dct xs))), c⟩ := by
  unfold asgOM thaw; simp only; rw [if_pos h]
def kEx : PV → S → Res Ev.Flow := fun _ s => .ok .next s
@[simp] theorem kEx_eq {x : PV} {s : S} : kEx x s = .ok .next s := (rfl)
@[simp] theorem evS_ex {e : Ex} {s : S} : evS G F (.ex e) s = Res.bind (evX G F e s) kEx := (rfl)
def kIf2 (G : Tab) (F : FT) (a b : Sts) : Bool → S → Res Ev.Flow := fun k s => ifR k (evSs G F a s) (evSs G F b s)
def kIf1 (G : Tab) (F : FT) (a b : Sts) : PV → S → Res Ev.Flow := fun x s => Res.bind (toB x s) (kIf2 G F a b)
@[simp] theorem kIf2_t {a b : Sts} {s : S} : kIf2 G F a b true s = evSs G F a s := (rfl)
@[simp] theorem kIf2_f {a b : Sts} {s : S} : kIf2 G F a b false s = evSs G F b s := (rfl)
@[simp] theorem kIf2_eq {a b : Sts} {k : Bool} {s : S} : kIf2 G F a b k s = ifR k (evSs G F a s) (evSs G F b s) := (rfl)
@[simp] theorem kIf1_eq {a b : Sts} {x : PV} {s : S} : kIf1 G F a b x s = Res.bind (toB x s) (kIf2 G F a b) := (rfl)
@[simp] theorem evS_ife {c : Ex} {a b : Sts} {s : S} : evS G F (.ife c a b) s = Res.bind (evX G F c s) (kIf1 G F a b) := by
  show M.bind (evX G F c) (fun x => M.bind (toB x) fun k => if k then evSs G F a else evSs G F b) s = _
  rw [M_bind]; congr; funext x s1
  rw [M_bind, kIf1_eq]; congr; funext b s2
  cases b <;> rfl
def kFor2 (G : Tab) (F : FT) (tg : Tg) (a : Sts) (kl : List Nat) : Wk → S → Res Ev.Flow := fun wk s => loopA (turnM tg (evSs G F a)) kl wk s
def kFor1 (G : Tab) (F : FT) (tg : Tg) (a : Sts) (kl : List Nat) : PV → S → Res Ev.Flow := fun x s => Res.bind (walk x s) (kFor2 G F tg a kl)
def kFor3 (G : Tab) (F : FT) (tg : Tg) (a : Sts) (kl : List Nat) : List D → S → Res Ev.Flow := fun l s => loopF (turnM tg (evSs G F a)) kl l s
@[simp] theorem kFor2_eq {tg : Tg} {a : Sts} {kl : List Nat} {wk : Wk} {s : S} : kFor2 G F tg a kl wk s = loopA (turnM tg (evSs G F a)) kl wk s := (rfl)
@[simp] theorem kFor1_eq {tg : Tg} {a : Sts} {kl : List Nat} {x : PV} {s : S} : kFor1 G F tg a kl x s = Res.bind (walk x s) (kFor2 G F tg a kl) := (rfl)
@[simp] theorem kFor3_eq {tg : Tg} {a : Sts} {kl : List Nat} {l : List D} {s : S} : kFor3 G F tg a kl l s = loopF (turnM tg (evSs G F a)) kl l s := (rfl)
@[simp] theorem evS_forV {tg : Tg} {e : Ex} {a : Sts} {kl : List Nat} {s : S} : evS G F (.for tg (.val e) a kl) s = Res.bind (evX G F e s) (kFor1 G F tg a kl) := (rfl)
@[simp] theorem evS_whl {n : Nat} {c : Ex} {a : Sts} {kl : List Nat} {s : S} : evS G F (.whl n c a kl) s = loopW (M.bind (evX G F c) toB) (evSs G F a) kl n s := (rfl)
@[simp] theorem walk_lst {xs : List D} {s : S} : walk (.d (.lst xs)) s = .ok (.xs xs) s := (rfl)
@[simp] theorem walk_tup {xs : List D} {s : S} : walk (.d (.tup xs)) s = .ok (.xs xs) s := (rfl)
def kWk : D → S → Res Wk := fun x s => optR (x.items.map .xs) s
def kWkD : D → S → Res (List D) := fun x s => optR x.items s
def walkR (r : Res D) : Res Wk := Res.bind r kWk
def walkQ (r : Res D) : Res (List D) := Res.bind r kWkD
@[simp] theorem walkR_lst {xs : List D} {s : S} : walkR (.ok (.lst xs) s) = .ok (.xs xs) s := (rfl)
@[simp] theorem walkR_tup {xs : List D} {s : S} : walkR (.ok (.tup xs) s) = .ok (.xs xs) s := (rfl)
@[simp] theorem walkQ_lst {xs : List D} {s : S} : walkQ (.ok (.lst xs) s) = .ok xs s := (rfl)
@[simp] theorem walkQ_tup {xs : List D} {s : S} : walkQ (.ok (.tup xs) s) = .ok xs s := (rfl)
@[simp] theorem walk_own {i : Nat} {s : S} : walk (.own i) s = walkR (stoR (s.loc1 i) i s) := by
  show M.bind (PV.store (.own i)) _ _ = _
  rw [M_bind, store_own]
  unfold walkR
  congr; funext x s1; exact M_of
def wkR (o : Option Cell) (k : Nat) (s : S) : Res Wk := match o with
  | some (.lst xs) => .ok (.rf k xs.length) s
  | _ => .stk
@[simp] theorem wkR_lst {xs : List D} {k : Nat} {s : S} : wkR (some (.lst xs)) k s = .ok (.rf k xs.length) s := (rfl)
@[simp] theorem walk_ref {k : Nat} {s : S} : walk (.d (.ref k)) s = wkR (s.cel[k]?) k s := (rfl)
@[simp] theorem loopA_rf {bd : D → M Ev.Flow} {kl : List Nat} {k n : Nat} {s : S} : loopA bd kl (.rf k n) s = loopR bd kl k n 0 n s := (rfl)
@[simp] theorem walkD_lst {xs : List D} {s : S} : walkD (.d (.lst xs)) s = .ok xs s := (rfl)
@[simp] theorem walkD_tup {xs : List D} {s : S} : walkD (.d (.tup xs)) s = .ok xs s := (rfl)
@[simp] theorem walkD_own {i : Nat} {s : S} : walkD (.own i) s = walkQ (stoR (s.loc1 i) i s) := by
  show M.bind (PV.store (.own i)) _ _ = _
  rw [M_bind, store_own]
  unfold walkQ
  congr; funext x s1; exact M_of
@[simp] theorem loopA_xs {bd : D → M Ev.Flow} {kl : List Nat} {l : List D} {s : S} : loopA bd kl (.xs l) s = loopF bd kl l s := (rfl)
theorem evS_for {tg : Tg} {it : It} {a : Sts} {kl : List Nat} {s : S} (h : isLoop it = none) (hk : isKeysI it = false := by rfl) : evS G F (.for tg it a kl) s = Res.bind (evIt G F it s) (kFor3 G F tg a kl) := by
  have e : evS G F (.for tg it a kl) = M.bind (evIt G F it) fun l => loopF (turnM tg (evSs G F a)) kl l := by
    show (match isLoop it with | some e => _ | none => _) = _
    rw [h]
    simp only
    rw [hk]
    rfl
  rw [e]; rfl
@[simp] theorem evS_for_rng1 {tg : Tg} {e : Ex} {a : Sts} {kl : List Nat} {s : S} : evS G F (.for tg (.rng1 e) a kl) s = Res.bind (evIt G F (.rng1 e) s) (kFor3 G F tg a kl) := evS_for rfl
@[simp] theorem evS_for_rng2 {tg : Tg} {b e : Ex} {a : Sts} {kl : List Nat} {s : S} : evS G F (.for tg (.rng2 b e) a kl) s = Res.bind (evIt G F (.rng2 b e) s) (kFor3 G F tg a kl) := evS_for rfl
@[simp] theorem evS_for_enum {tg : Tg} {e : Ex} {n : Int} {a : Sts} {kl : List Nat} {s : S} : evS G F (.for tg (.enum e n) a kl) s = Res.bind (evIt G F (.enum e n) s) (kFor3 G F tg a kl) := evS_for rfl
@[simp] theorem evS_for_zip {tg : Tg} {b e : Ex} {a : Sts} {kl : List Nat} {s : S} : evS G F (.for tg (.zip b e) a kl) s = Res.bind (evIt G F (.zip b e) s) (kFor3 G F tg a kl) := evS_for rfl
@[simp] theorem evS_for_rev {tg : Tg} {e : Ex} {a : Sts} {kl : List Nat} {s : S} : evS G F (.for tg (.rev e) a kl) s = Res.bind (evIt G F (.rev e) s) (kFor3 G F tg a kl) := evS_for rfl
@[simp] theorem evS_for_revr {tg : Tg} {e : Ex} {a : Sts} {kl : List Nat} {s : S} : evS G F (.for tg (.revr e) a kl) s = Res.bind (evIt G F (.revr e) s) (kFor3 G F tg a kl) := evS_for rfl
def kRet2 : D → S → Res Ev.Flow := fun y s => .ok (.ret y) s
def kRet1 : PV → S → Res Ev.Flow := fun x s => Res.bind (x.store s) kRet2
@[simp] theorem kRet2_eq {y : D} {s : S} : kRet2 y s = .ok (.ret y) s := (rfl)
@[simp] theorem kRet1_eq {x : PV} {s : S} : kRet1 x s = Res.bind (x.store s) kRet2 := (rfl)
@[simp] theorem evS_ret {e : Ex} {s : S} : evS G F (.ret e) s = Res.bind (evX G F e s) kRet1 := (rfl)
@[simp] theorem evS_retN {s : S} : evS G F .retN s = .ok (.ret .non) s := (rfl)
@[simp] theorem evS_brk {s : S} : evS G F .brk s = .ok .brk s := (rfl)
@[simp] theorem evS_cnt {s : S} : evS G F .cnt s = .ok .cont s := (rfl)
@[simp] theorem evS_pass {s : S} : evS G F .pass s = .ok .next s := (rfl)
def kAug1 (G : Tab) (F : FT) (i : Nat) (op : Op) (e : Ex) : D → S → Res Ev.Flow := fun x s => Res.bind (evX G F e s) (augB i op x)
@[simp] theorem kAug1_eq {i : Nat} {op : Op} {e : Ex} {x : D} {s : S} : kAug1 G F i op e x s = Res.bind (evX G F e s) (augB i op x) := (rfl)
@[simp] theorem evS_aug {i : Nat} {op : Op} {e : Ex} {s : S} : evS G F (.aug i op e) s = Res.bind (augV i s) (kAug1 G F i op e) := (rfl)
def auvR (o : Option LV) (s : S) : Res D := match o with
  | some (.d (.ref _)) => .stk
  | some (.d x) => .ok x s
  | _ => .stk
@[simp] theorem augV_eq {i : Nat} {s : S} : augV i s = auvR (s.loc1 i) s := (rfl)
@[simp] theorem auvR_int {i : Int} {s : S} : auvR (some (.d (.int i))) s = .ok (.int i) s := (rfl)
@[simp] theorem augB_add {i : Nat} {a b : Int} {l : List (Option LV)} {c : List Cell} : augB i .add (.int a) (.d (.int b)) ⟨l, c⟩ = .ok .next ⟨l.set i (some (.d (.int (a + b)))), c⟩ := (rfl)
@[simp] theorem augB_sub {i : Nat} {a b : Int} {l : List (Option LV)} {c : List Cell} : augB i .sub (.int a) (.d (.int b)) ⟨l, c⟩ = .ok .next ⟨l.set i (some (.d (.int (a - b)))), c⟩ := (rfl)
/-! x[i] = v, x[i] += v -/
def setR (o : Option Cell) (i : Int) (t : D) (l : Lo) (s : S) : Res Ev.Flow := match o with
  | some (.lst ts) => (match ixN ts.length i with
    | some n => .ok .next (s.put (.lst (ts.set n t)) l)
    | none => .stk)
  | _ => .stk
theorem asgI_eq {x : PV} {i : Int} {t : D} {s : S} {l : Lo} (h : x.lo = some l) : asgIM x (.d (.int i)) t s = setR (s.get l) i t l s := by
  unfold asgIM setR
  rw [h]
  simp only [PV.val]
  rcases s.get l with _ | _ | _ | _ <;> rfl
@[simp] theorem asgI_own {k : Nat} {i : Int} {t : D} {l : List (Option LV)} {c : List Cell} : asgIM (.own k) (.d (.int i)) t ⟨l, c⟩ = setR (getO ((l[k]?).bind id)) i t (.sl k) ⟨l, c⟩ := by
  rw [asgI_eq lo_own, get_slE]
@[simp] theorem asgI_ref {k : Nat} {i : Int} {t : D} {l : List (Option LV)} {c : List Cell} : asgIM (.d (.ref k)) (.d (.int i)) t ⟨l, c⟩ = setR (c[k]?) i t (.id k) ⟨l, c⟩ := by
  rw [asgI_eq loRef, get_idE]
@[simp] theorem setR_nat {ts : List D} {n : Nat} {t : D} {l : Lo} {s : S} (h : n < ts.length) : setR (some (.lst ts)) (n : Int) t l s = .ok .next (s.put (.lst (ts.set n t)) l) := by
  unfold setR ixN
  simp only
  rw [if_pos (Int.natCast_nonneg n), if_pos (by omega)]
  simp
@[simp] theorem setR_0 {t0 t : D} {ts : List D} {l : Lo} {s : S} : setR (some (.lst (t0 :: ts))) 0 t l s = .ok .next (s.put (.lst (t :: ts)) l) := setR_nat (n := 0) (ts := t0 :: ts) (by simp)
@[simp] theorem setR_1 {t0 t1 t : D} {ts : List D} {l : Lo} {s : S} : setR (some (.lst (t0 :: t1 :: ts))) 1 t l s = .ok .next (s.put (.lst (t0 :: t :: ts)) l) := setR_nat (n := 1) (ts := t0 :: t1 :: ts) (by simp)
/-- d[y] = t -/
def putD (k t : D) (kvs : List (D × D)) : List (D × D) := if isTd kvs = true then keyPutT k t kvs else keyPut k t kvs
def putR (o : Option Cell) (x y : PV) (t : D) (l : Lo) (s : S) : Res Ev.Flow := match o with
  | some (.dct kvs) => (match y.val s with
    | some k => if keyFor k kvs && decide (kvs.length < line) then .ok .next (s.put (.dct (putD k t kvs)) l) else .stk
    | none => .stk)
  | _ => asgIM x y t s
def isDctC : Option Cell → Bool
  | some (.dct _) => true
  | _ => false
theorem dctAt_eq {x : PV} {s : S} {l : Lo} (h : x.lo = some l) : dctAt x s = isDctC (s.get l) := by
  unfold dctAt; rw [h]; rfl
theorem asgX_eq {x y : PV} {t : D} {s : S} {l : Lo} (h : x.lo = some l) : asgXM x y t s = putR (s.get l) x y t l s := by
  suffices hh : ∀ o, s.get l = o → asgXM x y t s = putR o x y t l s from hh _ rfl
  intro o e
  have d := dctAt_eq (s := s) h
  rw [e] at d
  unfold asgXM
  rw [d]
  rcases o with _ | ⟨ts | kvs | ⟨k, fs⟩⟩
  · rfl
  · rfl
  · show asgDM x y t s = _
    unfold asgDM putR
    rw [h]
    cases hv : y.val s with
    | none => rfl
    | some k => simp only [e]; rfl
  · rfl
@[simp] theorem asgX_own {k : Nat} {y : PV} {t : D} {l : List (Option LV)} {c : List Cell} : asgXM (.own k) y t ⟨l, c⟩ = putR (getO ((l[k]?).bind id)) (.own k) y t (.sl k) ⟨l, c⟩ := by
  rw [asgX_eq lo_own, get_slE]
@[simp] theorem asgX_ref {k : Nat} {y : PV} {t : D} {l : List (Option LV)} {c : List Cell} : asgXM (.d (.ref k)) y t ⟨l, c⟩ = putR (c[k]?) (.d (.ref k)) y t (.id k) ⟨l, c⟩ := by
  rw [asgX_eq loRef, get_idE]
@[simp] theorem putR_lst {ts : List D} {x y : PV} {t : D} {l : Lo} {s : S} : putR (some (.lst ts)) x y t l s = asgIM x y t s := (rfl)
theorem putR_dct {kvs : List (D × D)} {k : D} {x y : PV} {t : D} {l : Lo} {s : S} (hv : y.val s = some k) (h1 : keyFor k kvs = true) (h2 : kvs.length < line) : putR (some (.dct kvs)) x y t l s = .ok .next (s.put (.dct (putD k t kvs)) l) := by
  unfold putR
  simp only [hv, h1, h2, decide_true, Bool.and_self, if_true]
@[simp] theorem putR_tup {kvs : List (D × D)} {ks : List D} {x : PV} {t : D} {l : Lo} {s : S} (h1 : keyFor (.tup ks) kvs = true) (h2 : kvs.length < line) : putR (some (.dct kvs)) x (.d (.tup ks)) t l s = .ok .next (s.put (.dct (putD (.tup ks) t kvs)) l) := putR_dct rfl h1 h2
@[simp] theorem putR_int {kvs : List (D × D)} {i : Int} {x : PV} {t : D} {l : Lo} {s : S} (h1 : keyFor (.int i) kvs = true) (h2 : kvs.length < line) : putR (some (.dct kvs)) x (.d (.int i)) t l s = .ok .next (s.put (.dct (putD (.int i) t kvs)) l) := putR_dct rfl h1 h2
def kAsgI4 (x : PV) (t : D) : PV → S → Res Ev.Flow := fun y s => asgXM x y t s
def kAsgI3 (G : Tab) (F : FT) (i : Ex) (t : D) : PV → S → Res Ev.Flow := fun x s => Res.bind (evX G F i s) (kAsgI4 x t)
def kAsgI2 (G : Tab) (F : FT) (o i : Ex) : D → S → Res Ev.Flow := fun t s => Res.bind (evX G F o s) (kAsgI3 G F i t)
def kAsgI1 (G : Tab) (F : FT) (o i : Ex) : PV → S → Res Ev.Flow := fun x s => Res.bind (x.store s) (kAsgI2 G F o i)
@[simp] theorem kAsgI4_eq {x y : PV} {t : D} {s : S} : kAsgI4 x t y s = asgXM x y t s := (rfl)
@[simp] theorem kAsgI3_eq {i : Ex} {x : PV} {t : D} {s : S} : kAsgI3 G F i t x s = Res.bind (evX G F i s) (kAsgI4 x t) := (rfl)
@[simp] theorem kAsgI2_eq {o i : Ex} {t : D} {s : S} : kAsgI2 G F o i t s = Res.bind (evX G F o s) (kAsgI3 G F i t) := (rfl)
@[simp] theorem kAsgI1_eq {o i : Ex} {x : PV} {s : S} : kAsgI1 G F o i x s = Res.bind (x.store s) (kAsgI2 G F o i) := (rfl)
@[simp] theorem evS_asgI {o i e : Ex} {s : S} : evS G F (.asgI o i e) s = Res.bind (evX G F e s) (kAsgI1 G F o i) := (rfl)
/-! exceptions -/
def excR (o : Option (List Nat)) (c : Nat) (ds : List D) (s : S) : Res Ev.Flow := match o with
  | some fs => if fs.length = ds.length then .exc ⟨c, fs.zip ds⟩ s else .stk
  | none => .stk
@[simp] theorem excR_some {fs : List Nat} {c : Nat} {ds : List D} {s : S} (h : fs.length = ds.length) : excR (some fs) c ds s = .exc ⟨c, fs.zip ds⟩ s := if_pos h
@[simp] theorem raisM_eq {c : Nat} {ds : List D} {s : S} : raisM G c ds s = excR (G.exf c) c ds s := (rfl)
@[simp] theorem evS_rais {c : Nat} {es : Exs} {s : S} : evS G F (.rais c es) s = Res.bind (evDs G F es s) (raisM G c) := (rfl)
def tryR (r : Res Ev.Flow) (h : Exc → S → Res Ev.Flow) : Res Ev.Flow := match r with
  | .exc e s => h e s
  | r => r
@[simp] theorem tryR_ok {f : Ev.Flow} {s : S} {h : Exc → S → Res Ev.Flow} : tryR (.ok f s) h = .ok f s := (rfl)
@[simp] theorem tryR_exc {e : Exc} {s : S} {h : Exc → S → Res Ev.Flow} : tryR (.exc e s) h = h e s := (rfl)
@[simp] theorem evS_tryx {a : Sts} {hs : Hds} {s : S} : evS G F (.tryx a hs) s = tryR (evSs G F a s) (evHs G F hs) := by
  show (match evSs G F a s with | .exc e s' => evHs G F hs e s' | r => r) = _
  unfold tryR
  rcases evSs G F a s with _ | _ | _ <;> rfl
@[simp] theorem evHs_nil {e : Exc} {s : S} : evHs G F .nil e s = .exc e s := (rfl)
def noxR (r : Res Ev.Flow) : Res Ev.Flow := match r with
  | .exc _ _ => .stk
  | r => r
@[simp] theorem noxR_ok {f : Ev.Flow} {s : S} : noxR (.ok f s) = .ok f s := (rfl)
/-! over a dict's keys -/
def keyR (o : Option LV) (i : Nat) (s : S) : Res (List D) := match o with
  | some (.own (.dct kvs)) => .ok (keysD kvs) { s with loc := s.loc.set i (some (.d (.dct kvs))) }
  | some (.d (.dct kvs)) => .ok (keysD kvs) s
  | _ => .stk
@[simp] theorem keysM_eq {i : Nat} {s : S} : keysM i s = keyR (s.loc1 i) i s := (rfl)
@[simp] theorem keyR_own {kvs : List (D × D)} {i : Nat} {l : List (Option LV)} {c : List Cell} : keyR (some (.own (.dct kvs))) i ⟨l, c⟩ = .ok (keysD kvs) ⟨l.set i (some (.d (.dct kvs))), c⟩ := (rfl)
@[simp] theorem keyR_d {kvs : List (D × D)} {i : Nat} {s : S} : keyR (some (.d (.dct kvs))) i s = .ok (keysD kvs) s := (rfl)
@[simp] theorem evIt_keys {i : Nat} {s : S} : evIt G F (.keys i) s = keysM i s := (rfl)
def kForK (G : Tab) (F : FT) (tg : Tg) (a : Sts) (kl : List Nat) : List D → S → Res Ev.Flow := fun l s => noxR (loopF (turnM tg (evSs G F a)) kl l s)
@[simp] theorem kForK_eq {tg : Tg} {a : Sts} {kl : List Nat} {l : List D} {s : S} : kForK G F tg a kl l s = noxR (loopF (turnM tg (evSs G F a)) kl l s) := (rfl)
@[simp] theorem evS_for_keys {tg : Tg} {i : Nat} {a : Sts} {kl : List Nat} {s : S} : evS G F (.for tg (.keys i) a kl) s = Res.bind (keysM i s) (kForK G F tg a kl) := by
  show M.bind (keysM i) (fun l => noX (loopF (turnM tg (evSs G F a)) kl l)) s = _
  rw [M_bind]; congr
theorem runs_nox {r : Res Ev.Flow} {Q : Ev.Flow → S → Prop} {E : Exc → S → Prop} (h : Runs r Q fun _ _ => False) : Runs (noxR r) Q E := by
  cases r with
  | ok a s => exact h
  | exc e s => exact h.elim
  | stk => exact h
def hdR (o : Option (List Nat)) (r : Res Ev.Flow) : Res Ev.Flow := match o with
  | some _ => r
  | none => .stk
@[simp] theorem hdR_some {l : List Nat} {r : Res Ev.Flow} : hdR (some l) r = r := (rfl)
@[simp] theorem evHs_0 {c : Nat} {a : Sts} {hs : Hds} {e : Exc} {s : S} : evHs G F (.cons c none a hs) e s = hdR (G.exf e.c) (ifR (G.sub e.c c) (noxR (evSs G F a s)) (evHs G F hs e s)) := by
  show (if (G.exf e.c).isSome then (if G.sub e.c c then noX (evSs G F a) else evHs G F hs e) else stk : M Ev.Flow) s = _
  cases G.exf e.c with
  | none => rfl
  | some l => cases G.sub e.c c <;> rfl
@[simp] theorem evHs_1 {c : Nat} {q : Nat × Nat × HE} {a : Sts} {hs : Hds} {e : Exc} {s : S} : evHs G F (.cons c (some q) a hs) e s = hdR (G.exf e.c) (ifR (G.sub e.c c) (hdE G e q s) (evHs G F hs e s)) := by
  show (if (G.exf e.c).isSome then (if G.sub e.c c then hdE G e q else evHs G F hs e) else stk : M Ev.Flow) s = _
  cases G.exf e.c with
  | none => rfl
  | some l => cases G.sub e.c c <;> rfl
def isK (G : Tab) (c : Nat) (ks : List (Option Nat)) : Bool := ks.all fun k => match k with | some k => G.sub c k | none => true
@[simp] theorem isK_nil {c : Nat} : isK G c [] = true := (rfl)
@[simp] theorem isK_some {c k : Nat} {ks : List (Option Nat)} : isK G c (some k :: ks) = (G.sub c k && isK G c ks) := (rfl)
@[simp] theorem isK_none {c : Nat} {ks : List (Option Nat)} : isK G c (none :: ks) = isK G c ks := (rfl)
@[simp] theorem hdE_is {c i j : Nat} {ks : List (Option Nat)} {l : List (Option LV)} {cl : List Cell} : hdE G ⟨c, []⟩ (i, j, .is ks) ⟨l, cl⟩ = if i < l.length then .ok .next ⟨(l.set i none).set j (some (.d (.bl (isK G c ks)))), cl⟩ else .stk := (rfl)
theorem hdE_fld {c i j f : Nat} {fs : List Nat} {es : List (Nat × D)} {d : D} {l : List (Option LV)} {cl : List Cell} (h : G.exf c = some fs) (hf : f ∈ fs) (hl : es.lookup f = some d) : hdE G ⟨c, es⟩ (i, j, .fld f) ⟨l, cl⟩ = if i < l.length then .ok .next ⟨(l.set i none).set j (some (.d d)), cl⟩ else .stk := by
  unfold hdE HE.ev
  simp [h, hf, hl]
theorem runs_try {r : Res Ev.Flow} {h : Exc → S → Res Ev.Flow} {Q : Ev.Flow → S → Prop} {E E1 : Exc → S → Prop} (h1 : Runs r Q E1) (h2 : ∀ e s, E1 e s → Runs (h e s) Q E) : Runs (tryR r h) Q E := by
  cases r with
  | ok a s => exact h1
  | exc e s => exact h2 e s h1
  | stk => exact h1
/-! what is walked -/
@[simp] theorem evIt_val {e : Ex} {s : S} : evIt G F (.val e) s = Res.bind (evX G F e s) walkD := (rfl)
def rngD (x y : PV) : Option (List D) := (rngF x y).map fun q => (rangeL q.1 q.2).map D.int
def kRng1 : PV → S → Res (List D) := fun x s => optR (rngD (.d (.int 0)) x) s
def kRng2b (x : PV) : PV → S → Res (List D) := fun y s => optR (rngD x y) s
def kRng2a (G : Tab) (F : FT) (b : Ex) : PV → S → Res (List D) := fun x s => Res.bind (evX G F b s) (kRng2b x)
@[simp] theorem kRng1_eq {x : PV} {s : S} : kRng1 x s = optR (rngD (.d (.int 0)) x) s := (rfl)
@[simp] theorem kRng2b_eq {x y : PV} {s : S} : kRng2b x y s = optR (rngD x y) s := (rfl)
@[simp] theorem kRng2a_eq {b : Ex} {x : PV} {s : S} : kRng2a G F b x s = Res.bind (evX G F b s) (kRng2b x) := (rfl)
@[simp] theorem evIt_rng1 {e : Ex} {s : S} : evIt G F (.rng1 e) s = Res.bind (evX G F e s) kRng1 := by
  show M.bind (evX G F e) (fun x => M.of _) s = _
  rw [M_bind]; congr; funext x s1; exact M_of
@[simp] theorem evIt_rng2 {a b : Ex} {s : S} : evIt G F (.rng2 a b) s = Res.bind (evX G F a s) (kRng2a G F b) := by
  show M.bind (evX G F a) (fun x => M.bind (evX G F b) fun y => M.of _) s = _
  rw [M_bind]; congr; funext x s1
  rw [M_bind, kRng2a_eq]; congr; funext y s2; exact M_of
def kEn2 (n : Int) : List D → S → Res (List D) := fun xs s => .ok (enumFrom n xs) s
def kEn1 (n : Int) : PV → S → Res (List D) := fun x s => Res.bind (walkD x s) (kEn2 n)
@[simp] theorem kEn2_eq {n : Int} {xs : List D} {s : S} : kEn2 n xs s = .ok (enumFrom n xs) s := (rfl)
@[simp] theorem kEn1_eq {n : Int} {x : PV} {s : S} : kEn1 n x s = Res.bind (walkD x s) (kEn2 n) := (rfl)
@[simp] theorem evIt_enum {e : Ex} {n : Int} {s : S} : evIt G F (.enum e n) s = Res.bind (evX G F e s) (kEn1 n) := (rfl)
def kZp4 (xs : D) : D → S → Res (List D) := fun ys s => optR (zipF xs ys) s
def kZp3 (y : PV) : D → S → Res (List D) := fun xs s => Res.bind (walkS y s) (kZp4 xs)
def kZp2 (x : PV) : PV → S → Res (List D) := fun y s => Res.bind (walkS x s) (kZp3 y)
def kZp1 (G : Tab) (F : FT) (b : Ex) : PV → S → Res (List D) := fun x s => Res.bind (evX G F b s) (kZp2 x)
@[simp] theorem kZp4_eq {xs ys : D} {s : S} : kZp4 xs ys s = optR (zipF xs ys) s := (rfl)
@[simp] theorem kZp3_eq {xs : D} {y : PV} {s : S} : kZp3 y xs s = Res.bind (walkS y s) (kZp4 xs) := (rfl)
@[simp] theorem kZp2_eq {x y : PV} {s : S} : kZp2 x y s = Res.bind (walkS x s) (kZp3 y) := (rfl)
@[simp] theorem kZp1_eq {b : Ex} {x : PV} {s : S} : kZp1 G F b x s = Res.bind (evX G F b s) (kZp2 x) := (rfl)
@[simp] theorem evIt_zip {a b : Ex} {s : S} : evIt G F (.zip a b) s = Res.bind (evX G F a s) (kZp1 G F b) := by
  show M.bind (evX G F a) (fun x => M.bind (evX G F b) fun y => M.bind (walkS x) fun xs => M.bind (walkS y) fun ys => M.of (zipF xs ys)) s = _
  rw [M_bind]; congr; funext x s1
  rw [M_bind, kZp1_eq]; congr; funext y s2
  rw [M_bind, kZp2_eq]; congr; funext xs s3
  rw [M_bind, kZp3_eq]; congr; funext ys s4; exact M_of
@[simp] theorem walkS_d {x : D} {s : S} (h : x.isRef = false) : walkS (.d x) s = .ok x s := by cases x <;> first | rfl | cases h
@[simp] theorem walkS_own {i : Nat} {s : S} : walkS (.own i) s = stoR (s.loc1 i) i s := store_own
@[simp] theorem zipF_lst {xs ys : List D} : zipF (.lst xs) (.lst ys) = some (zipL xs ys) := (rfl)
@[simp] theorem zipF_mix {xs ys : List D} : zipF (.tup xs) (.lst ys) = some (zipL xs ys) := (rfl)
@[simp] theorem zipF_tup {xs ys : List D} : zipF (.tup xs) (.tup ys) = some (zipL xs ys) := (rfl)
def kRv2 : List D → S → Res (List D) := fun xs s => .ok xs.reverse s
def kRv1 : PV → S → Res (List D) := fun x s => Res.bind (walkD x s) kRv2
@[simp] theorem kRv2_eq {xs : List D} {s : S} : kRv2 xs s = .ok xs.reverse s := (rfl)
@[simp] theorem kRv1_eq {x : PV} {s : S} : kRv1 x s = Res.bind (walkD x s) kRv2 := (rfl)
@[simp] theorem evIt_rev {e : Ex} {s : S} : evIt G F (.rev e) s = Res.bind (evX G F e s) kRv1 := (rfl)
def kRngr : PV → S → Res (List D) := fun x s => optR ((rngF (.d (.int 0)) x).map fun q => (rangeL q.1 q.2).reverse.map D.int) s
@[simp] theorem kRngr_eq {x : PV} {s : S} : kRngr x s = optR ((rngF (.d (.int 0)) x).map fun q => (rangeL q.1 q.2).reverse.map D.int) s := (rfl)
@[simp] theorem evIt_revr {e : Ex} {s : S} : evIt G F (.revr e) s = Res.bind (evX G F e s) kRngr := by
  show M.bind (evX G F e) (fun x => M.of _) s = _
  rw [M_bind]; congr; funext x s1; exact M_of
@[simp] theorem rng_n {n : Nat} (h : n ≤ 1000000) : rngD (.d (.int 0)) (.d (.int n)) = some ((List.range n).map fun (j : Nat) => D.int j) := by
  unfold rngD
  rw [rng_nat h]
  show some ((rangeL 0 n).map D.int) = _
  rw [rg0, List.range_eq_range']
theorem rng_kn {n k : Nat} (h3 : k ≤ n) (h4 : n ≤ 1000000) : rngD (.d (.int k)) (.d (.int n)) = some ((List.range' k (n - k)).map fun (j : Nat) => D.int j) := by
  unfold rngD
  rw [rng2_nat h3 h4]
  exact congrArg some rangeL_nat
@[simp] theorem enum_map {α : Type} {g : α → D} : ∀ {xs : List α} {n : Nat}, enumFrom n (xs.map g) = (xs.zipIdx n).map fun p => .tup [.int p.2, g p.1]
  | [], n => rfl
  | x :: xs, n => by
    rw [List.map_cons, List.zipIdx_cons, List.map_cons]
    show D.tup [.int n, g x] :: enumFrom ((n : Int) + 1) (xs.map g) = _
    rw [show ((n : Int) + 1) = ((n + 1 : Nat) : Int) from rfl, enum_map]
@[simp] theorem enum_map0 {α : Type} {g : α → D} {xs : List α} : enumFrom 0 (xs.map g) = (xs.zipIdx).map fun p => .tup [.int p.2, g p.1] := enum_map (n := 0)
@[simp] theorem zip_map {α β : Type} {g : α → D} {g' : β → D} : ∀ {xs : List α} {ys : List β}, zipL (xs.map g) (ys.map g') = (xs.zip ys).map fun p => .tup [g p.1, g' p.2]
  | [], _ => by simp [zipL]
  | _ :: _, [] => by simp [zipL]
  | x :: xs, y :: ys => by
    simp only [List.map_cons, zipL, List.zip_cons_cons]
    rw [zip_map]
/-! a comprehension -/
def lcX (tg : Tg) (tt : M Bool) (el : M D) (own : List Nat) (xs : List D) (s : S) : Res (List D) := lcM own (loopC tg tt el own [] xs) s
def kL : List D → S → Res PV := fun ts s => .ok (.d (.lst ts)) s
@[simp] theorem kL_eq {ts : List D} {s : S} : kL ts s = .ok (.d (.lst ts)) s := (rfl)
def kLc (G : Tab) (F : FT) (tg : Tg) (ifs : Exs) (elt : Ex) (own : List Nat) : List D → S → Res PV := fun xs s => Res.bind (lcX tg (evQs G F ifs) (M.bind (evX G F elt) PV.store) own xs s) kL
@[simp] theorem kLc_eq {tg : Tg} {ifs : Exs} {elt : Ex} {own : List Nat} {xs : List D} {s : S} : kLc G F tg ifs elt own xs s = Res.bind (lcX tg (evQs G F ifs) (M.bind (evX G F elt) PV.store) own xs s) kL := (rfl)
@[simp] theorem evX_lc {elt : Ex} {tg : Tg} {it : It} {ifs : Exs} {own : List Nat} {s : S} : evX G F (.lc elt tg it ifs own) s = Res.bind (evIt G F it s) (kLc G F tg ifs elt own) := (rfl)
@[simp] theorem evQs_nil {s : S} : evQs G F .nil s = .ok true s := (rfl)
@[simp] theorem evQs_1 {e : Ex} {s : S} : evQs G F (.cons e .nil) s = Res.bind (evX G F e s) toB := by
  show M.bind (evX G F e) (fun x => M.bind (toB x) fun b => if b then evQs G F .nil else M.pure false) s = _
  rw [M_bind]; congr; funext x s1
  rw [M_bind]
  rcases toB x s1 with ⟨_ | _, _⟩ | _ | _ <;> rfl
@[simp] theorem isNon_int {i : Int} : Ex.isNon (.int i) = false := (rfl)
@[simp] theorem isNon_non : Ex.isNon .non = true := (rfl)
@[simp] theorem isNon_neg {e : Ex} : Ex.isNon (.neg e) = false := (rfl)
@[simp] theorem isNon_v {i : Nat} : Ex.isNon (.v i) = false := (rfl)
@[simp] theorem isNon_bin {op : Op} {a b : Ex} : Ex.isNon (.bin op a b) = false := (rfl)
@[simp] theorem isNon_bi {b : Bi} {es : Exs} : Ex.isNon (.bi b es) = false := (rfl)
@[simp] theorem isNon_call {q : Ck} {f : Nat} {es : Exs} : Ex.isNon (.call q f es) = false := (rfl)
@[simp] theorem isNon_idx {a b : Ex} : Ex.isNon (.idx a b) = false := (rfl)
@[simp] theorem isNon_con {g : Nat} : Ex.isNon (.con g) = false := (rfl)
@[simp] theorem isRef_non : D.isRef .non = false := (rfl)
@[simp] theorem isRef_bl {b : Bool} : D.isRef (.bl b) = false := (rfl)
@[simp] theorem isRef_int {b : Int} : D.isRef (.int b) = false := (rfl)
@[simp] theorem isRef_str {b : Str} : D.isRef (.str b) = false := (rfl)
@[simp] theorem isRef_tup {b : List D} : D.isRef (.tup b) = false := (rfl)
@[simp] theorem isRef_lst {b : List D} : D.isRef (.lst b) = false := (rfl)
@[simp] theorem isRef_dct {b : List (D × D)} : D.isRef (.dct b) = false := (rfl)
@[simp] theorem isRef_obj {c : Nat} {b : List (Nat × D)} : D.isRef (.obj c b) = false := (rfl)
@[simp] theorem wipe_nil {s : S} : wipe [] s = s := (rfl)
@[simp] theorem wipe_cons {i : Nat} {kl : List Nat} {l : List (Option LV)} {c : List Cell} : wipe (i :: kl) ⟨l, c⟩ = wipe kl ⟨l.set i none, c⟩ := (rfl)
@[simp] theorem unown_nil {l0 : List (Option LV)} {s : S} : unown [] l0 s = s := (rfl)
@[simp] theorem unown_cons {i : Nat} {own : List Nat} {l0 l : List (Option LV)} {c : List Cell} : unown (i :: own) l0 ⟨l, c⟩ = unown own l0 ⟨l.set i (LV.dat ((l0[i]?).getD none)), c⟩ := (rfl)
@[simp] theorem dat_none : LV.dat none = none := (rfl)
@[simp] theorem dat_d {x : D} : LV.dat (some (.d x)) = some (.d x) := (rfl)
def turnR (o : Option S) (bd : M Ev.Flow) : Res Ev.Flow := match o with
  | some s => bd s
  | none => .stk
@[simp] theorem turnR_some {s : S} {bd : M Ev.Flow} : turnR (some s) bd = bd s := (rfl)
@[simp] theorem turnM_eq {tg : Tg} {bd : M Ev.Flow} {x : D} {s : S} : turnM tg bd x s = turnR (bindT tg x s) bd := by
  unfold turnM turnR
  cases bindT tg x s <;> rfl
end
end Ev

set_option linter.all false
set_option maxRecDepth 100000
set_option maxHeartbeats 1000000
set_option autoImplicit false
/-! Plain laws: loops and comprehensions, by what they keep. -/
namespace Ev
open PySem
section
variable {α β : Type}
/-- what is wanted behind a turn -/
structure NxK (st : β → S) (P : β → Prop) (kl : List Nat) (Q K : Ev.Flow → S → Prop) : Prop where
  nx : ∀ b s, wipe kl s = st b → P b → K .next s
  ct : ∀ b s, wipe kl s = st b → P b → K .cont s
  bk : ∀ s, Q .next (wipe kl s) → K .brk s
  rt : ∀ t s, Q (.ret t) s → K (.ret t) s
def Nx (st : β → S) (P : β → Prop) (kl : List Nat) (Q : Ev.Flow → S → Prop) : Ev.Flow → S → Prop := fun fl s => match fl with
  | .next | .cont => ∃ b, wipe kl s = st b ∧ P b
  | .brk => Q .next (wipe kl s)
  | .ret t => Q (.ret t) s
theorem Nx.k {st : β → S} {P : β → Prop} {kl : List Nat} {Q : Ev.Flow → S → Prop} : NxK st P kl Q (Nx st P kl Q) := ⟨fun b _ h p => ⟨b, h, p⟩, fun b _ h p => ⟨b, h, p⟩, fun _ h => h, fun _ _ h => h⟩
theorem runs_for0 {g : α → D} {bd : D → M Ev.Flow} {kl : List Nat} {Q : Ev.Flow → S → Prop} {E : Exc → S → Prop} (st : β → S) (I : List α → β → Prop) : ∀ (xs done : List α) (b : β), I done b →
    (∀ dn x rest b, done ++ xs = dn ++ x :: rest → I dn b → ∀ K, NxK st (I (dn ++ [x])) kl Q K → Runs (bd (g x) (st b)) K E) →
    (∀ b, I (done ++ xs) b → Q .next (wipe kl (st b))) → Runs (loopF bd kl (xs.map g) (st b)) Q E
  | [], done, b, h0, _, fin => by
    rw [List.append_nil] at fin
    exact fin b h0
  | x :: xs, done, b, h0, step, fin => by
    have h := step done x xs b rfl h0 _ Nx.k
    have e : done ++ x :: xs = (done ++ [x]) ++ xs := by simp
    rw [e] at step fin
    rw [List.map_cons]
    unfold loopF
    cases hb : bd (g x) (st b) with
    | stk => rw [hb] at h; exact h.elim
    | exc e s => rw [hb] at h; exact h
    | ok fl s =>
      rw [hb] at h
      cases fl with
      | next =>
        obtain ⟨b', e1, h1⟩ := h
        simp only []
        rw [e1]
        exact runs_for0 st I xs (done ++ [x]) b' h1 step fin
      | cont =>
        obtain ⟨b', e1, h1⟩ := h
        simp only []
        rw [e1]
        exact runs_for0 st I xs (done ++ [x]) b' h1 step fin
      | brk => exact h
      | ret t => exact h
theorem runs_for {g : α → D} {bd : D → M Ev.Flow} {kl : List Nat} {Q : Ev.Flow → S → Prop} {E : Exc → S → Prop} (st : β → S) (I : List α → β → Prop) (b : β) {xs : List α} (h0 : I [] b)
    (step : ∀ dn x rest b, xs = dn ++ x :: rest → I dn b → ∀ K, NxK st (I (dn ++ [x])) kl Q K → Runs (bd (g x) (st b)) K E)
    (fin : ∀ b, I xs b → Q .next (wipe kl (st b))) : Runs (loopF bd kl (xs.map g) (st b)) Q E :=
  runs_for0 st I xs [] b h0 step fin
theorem runs_rng {bd : D → M Ev.Flow} {kl : List Nat} {Q : Ev.Flow → S → Prop} {E : Exc → S → Prop} (st : β → S) (I : Nat → β → Prop) (b : β) : ∀ {n a : Nat} (h0 : I a b)
    (step : ∀ j b, a ≤ j → j < a + n → I j b → ∀ K, NxK st (I (j + 1)) kl Q K → Runs (bd (.int (j : Int)) (st b)) K E)
    (fin : ∀ b, I (a + n) b → Q .next (wipe kl (st b))), Runs (loopF bd kl ((List.range' a n).map fun (j : Nat) => D.int j) (st b)) Q E := by
  intro n a h0 step fin
  refine runs_for (g := fun (j : Nat) => D.int j) st (fun dn b => I (a + dn.length) b) b (by simpa using h0) (fun dn x rest b e h K hK => ?_) (fun b h => fin b (by simpa using h))
  have hl : dn.length < (List.range' a n).length := by rw [e]; simp
  have hx : x = a + dn.length := by
    have : (List.range' a n)[dn.length]? = some x := by rw [e]; simp
    rw [List.getElem?_eq_getElem hl, List.getElem_range'] at this
    have := Option.some.inj this
    omega
  rw [List.length_range'] at hl
  subst hx
  refine step (a + dn.length) b (by omega) (by omega) h K ?_
  simpa [Nat.add_assoc] using hK
theorem runs_rng0 {bd : D → M Ev.Flow} {kl : List Nat} {Q : Ev.Flow → S → Prop} {E : Exc → S → Prop} (st : β → S) (I : Nat → β → Prop) (b : β) {n : Nat} (h0 : I 0 b)
    (step : ∀ j b, j < n → I j b → ∀ K, NxK st (I (j + 1)) kl Q K → Runs (bd (.int (j : Int)) (st b)) K E)
    (fin : ∀ b, I n b → Q .next (wipe kl (st b))) : Runs (loopF bd kl ((List.range n).map fun (j : Nat) => D.int j) (st b)) Q E := by
  rw [List.range_eq_range']
  exact runs_rng st I b h0 (fun j b _ hj => step j b (by omega)) (fun b h => fin b (by simpa using h))
/-- over a list of the store that stays -/
theorem runs_ref {bd : D → M Ev.Flow} {kl : List Nat} {Q : Ev.Flow → S → Prop} {E : Exc → S → Prop} (st : β → S) (I : Nat → β → Prop) {k : Nat} {xs : List D} (hc : ∀ i b, I i b → (st b).cel[k]? = some (.lst xs)) : ∀ (m i : Nat) (b : β), i + m = xs.length → I i b →
    (∀ i x b, xs[i]? = some x → I i b → ∀ K, NxK st (I (i + 1)) kl Q K → Runs (bd x (st b)) K E) →
    (∀ b, I xs.length b → Q .next (wipe kl (st b))) → Runs (loopR bd kl k xs.length i m (st b)) Q E
  | 0, i, b, hi, h0, _, fin => by
    have hi : i = xs.length := by omega
    subst hi
    unfold loopR
    rw [hc _ b h0]
    simp only [and_self, if_true]
    exact fin b h0
  | m + 1, i, b, hi, h0, step, fin => by
    have hl : i < xs.length := by omega
    have h := step i xs[i] b (List.getElem?_eq_getElem hl) h0 _ Nx.k
    unfold loopR
    rw [hc _ b h0]
    simp only [if_true, List.getElem?_eq_getElem hl]
    cases hb : bd xs[i] (st b) with
    | stk => rw [hb] at h; exact h.elim
    | exc e s => rw [hb] at h; exact h
    | ok fl s =>
      rw [hb] at h
      cases fl with
      | next =>
        obtain ⟨b', e1, h1⟩ := h
        simp only []
        rw [e1]
        exact runs_ref st I hc m (i + 1) b' (by omega) h1 step fin
      | cont =>
        obtain ⟨b', e1, h1⟩ := h
        simp only []
        rw [e1]
        exact runs_ref st I hc m (i + 1) b' (by omega) h1 step fin
      | brk => exact h
      | ret t => exact h
theorem runs_whl {c : M Bool} {bd : M Ev.Flow} {kl : List Nat} {Q : Ev.Flow → S → Prop} {E : Exc → S → Prop} (st : β → S) (I : β → Prop) (μ : β → Nat) : ∀ (n : Nat) (b : β), I b → μ b < n →
    (∀ b, I b → ∀ K : Bool → S → Prop, (∀ s, Q .next s → K false s) → (∀ s, (∀ K2, NxK st (fun b' => I b' ∧ μ b' < μ b) kl Q K2 → Runs (bd s) K2 E) → K true s) → Runs (c (st b)) K E) → Runs (loopW c bd kl n (st b)) Q E
  | 0, b, _, h, _ => absurd h (Nat.not_lt_zero _)
  | n + 1, b, h0, hm, step => by
    have h := step b h0 (fun k s => if k = true then Runs (bd s) (Nx st (fun b' => I b' ∧ μ b' < μ b) kl Q) E else Q .next s) (fun s h => h) (fun s h => h _ Nx.k)
    unfold loopW
    cases hc : c (st b) with
    | stk => rw [hc] at h; exact h.elim
    | exc e s => rw [hc] at h; exact h
    | ok k s =>
      rw [hc] at h
      have h : (if k = true then Runs (bd s) (Nx st (fun b' => I b' ∧ μ b' < μ b) kl Q) E else Q .next s) := h
      cases k with
      | false => exact h
      | true =>
        rw [if_pos rfl] at h
        simp only []
        cases hb : bd s with
        | stk => rw [hb] at h; exact h.elim
        | exc e s => rw [hb] at h; exact h
        | ok fl s2 =>
          rw [hb] at h
          cases fl with
          | next =>
            obtain ⟨b', e1, h1, h2⟩ := h
            simp only []
            rw [e1]
            exact runs_whl st I μ n b' h1 (by omega) step
          | cont =>
            obtain ⟨b', e1, h1, h2⟩ := h
            simp only []
            rw [e1]
            exact runs_whl st I μ n b' h1 (by omega) step
          | brk => exact h
          | ret t => exact h
/-- a look at all: the first one that fails ends the def -/
theorem runs_all {g : α → D} {bd : D → M Ev.Flow} {kl : List Nat} {Q : Ev.Flow → S → Prop} {E : Exc → S → Prop} {s : S} {p : α → Bool} {r : D} (R : S → Prop) : ∀ {xs : List α}, wipe kl s = s →
    (∀ x ∈ xs, ∀ K : Ev.Flow → S → Prop, (∀ s', p x = true → wipe kl s' = s → K .next s') → (∀ s', p x = false → R s' → K (.ret r) s') → Runs (bd (g x) s) K E) →
    (xs.all p = true → Q .next s) → (∀ s', xs.all p = false → R s' → Q (.ret r) s') → Runs (loopF bd kl (xs.map g) s) Q E
  | [], hw, _, hT, _ => by
    show Q .next (wipe kl s)
    rw [hw]; exact hT rfl
  | x :: xs, hw, step, hT, hF => by
    have h := step x (List.mem_cons_self ..) (fun fl s' => match fl with | .next => p x = true ∧ wipe kl s' = s | .ret t => p x = false ∧ t = r ∧ R s' | _ => False) (fun s' h1 h2 => ⟨h1, h2⟩) (fun s' h1 h2 => ⟨h1, rfl, h2⟩)
    rw [List.map_cons]
    unfold loopF
    cases hb : bd (g x) s with
    | stk => rw [hb] at h; exact h.elim
    | exc e s' => rw [hb] at h; exact h
    | ok fl s' =>
      rw [hb] at h
      cases fl with
      | next =>
        have h : p x = true ∧ wipe kl s' = s := h
        simp only []
        rw [h.2]
        refine runs_all R hw (fun y hy => step y (List.mem_cons_of_mem _ hy)) (fun ha => hT ?_) fun s2 ha => hF s2 ?_
        · rw [List.all_cons, h.1, ha]; rfl
        · rw [List.all_cons, ha, Bool.and_false]
      | ret t =>
        have h : p x = false ∧ t = r ∧ R s' := h
        rw [h.2.1]
        exact hF s' (by rw [List.all_cons, h.1]; rfl) h.2.2
      | brk => exact h.elim
      | cont => exact h.elim
theorem runs_allD {bd : D → M Ev.Flow} {kl : List Nat} {Q : Ev.Flow → S → Prop} {E : Exc → S → Prop} {s : S} {p : D → Bool} {r : D} {xs : List D} (R : S → Prop) (hw : wipe kl s = s)
    (step : ∀ x ∈ xs, ∀ K : Ev.Flow → S → Prop, (∀ s', p x = true → wipe kl s' = s → K .next s') → (∀ s', p x = false → R s' → K (.ret r) s') → Runs (bd x s) K E)
    (hT : xs.all p = true → Q .next s) (hF : ∀ s', xs.all p = false → R s' → Q (.ret r) s') : Runs (loopF bd kl xs s) Q E := by
  have := runs_all (g := id) (bd := bd) (xs := xs) (Q := Q) (E := E) R hw step hT hF
  rwa [List.map_id] at this
/-- each of these, one state -/
theorem runs_each {bd : D → M Ev.Flow} {kl : List Nat} {Q : Ev.Flow → S → Prop} {E : Exc → S → Prop} (st : β → S) (I : β → Prop) (b : β) {xs : List D} (h0 : I b)
    (step : ∀ x ∈ xs, ∀ b, I b → ∀ K, NxK st I kl Q K → Runs (bd x (st b)) K E) (fin : ∀ b, I b → Q .next (wipe kl (st b))) : Runs (loopF bd kl xs (st b)) Q E := by
  have := runs_for (g := id) (bd := bd) (kl := kl) (Q := Q) (E := E) st (fun _ => I) b (xs := xs) h0 (fun dn x rest b e h K hK => step x (by rw [e]; simp) b h K hK) fin
  rwa [List.map_id] at this
/-! comprehensions -/
theorem foldl_set {α : Type} {f : Nat → α} : ∀ {own : List Nat} {l : List α} {j : Nat}, (own.foldl (fun l i => l.set i (f i)) l)[j]? = if j ∈ own ∧ j < l.length then some (f j) else l[j]?
  | [], l, j => by simp
  | i :: own, l, j => by
    rw [List.foldl_cons, foldl_set]
    by_cases hl : j < l.length
    · by_cases hj : j ∈ own
      · simp [hj, hl]
      · by_cases hi : i = j
        · subst hi; simp [hj, hl]
        · simp [hj, hi, Ne.symm hi]
    · rw [if_neg (fun z => hl (by simpa using z.2)), if_neg (fun z => hl z.2), List.getElem?_eq_none (by simp; omega), List.getElem?_eq_none (by omega)]
theorem unown_wipe {own : List Nat} {l0 : List (Option LV)} {s s' : S} (h : wipe own s = wipe own s') : unown own l0 s = unown own l0 s' := by
  obtain ⟨l, c⟩ := s
  obtain ⟨l', c'⟩ := s'
  unfold wipe at h
  injection h with h1 h2
  simp only at h1 h2
  subst h2
  unfold unown
  simp only
  congr 1
  apply List.ext_getElem?
  intro j
  have h1 := congrArg (fun z : List (Option LV) => z[j]?) h1
  have hl : l.length = l'.length := by
    have := congrArg List.length (show own.foldl (fun l i => l.set i none) l = own.foldl (fun l i => l.set i none) l' from by assumption)
    have f : ∀ (own : List Nat) (l : List (Option LV)), (own.foldl (fun l i => l.set i none) l).length = l.length := fun own => by
      induction own with
      | nil => intro l; rfl
      | cons i own ih => intro l; rw [List.foldl_cons, ih, List.length_set]
    rw [f, f] at this; exact this
  rw [foldl_set (f := fun _ => none), foldl_set (f := fun _ => none)] at h1
  rw [foldl_set (f := fun i => LV.dat ((l0[i]?).getD none)), foldl_set (f := fun i => LV.dat ((l0[i]?).getD none))]
  by_cases hj : j ∈ own ∧ j < l.length
  · rw [if_pos hj, if_pos (by rw [← hl]; exact hj)]
  · rw [if_neg hj, if_neg (by rw [← hl]; exact hj)] at h1 ⊢
    exact h1
/-- one item of a comprehension -/
def itC (tg : Tg) (tt : M Bool) (el : M D) (own : List Nat) (x : D) (s : S) : Res (Option D) := match bindT tg x (wipe own s) with
  | none => .stk
  | some s1 => Res.bind (tt s1) fun k s2 => ifR k (Res.bind (el s2) fun t s3 => .ok (some t) s3) (.ok none s2)
def noEs : Exc → S → Prop := fun _ _ => False
theorem loopC_run {g : α → D} {tg : Tg} {tt : M Bool} {el : M D} {own : List Nat} (I : List α → List D → S → Prop) : ∀ (xs done : List α) (ts : List D) (s : S), I done ts s →
    ts.length + xs.length ≤ line → (∀ dn x rest ts s, done ++ xs = dn ++ x :: rest → I dn ts s → Runs (itC tg tt el own (g x) s) (fun o s' => I (dn ++ [x]) (ts ++ o.toList) s') noEs) →
    ∃ us s', loopC tg tt el own ts (xs.map g) s = .ok us s' ∧ I (done ++ xs) us s'
  | [], done, ts, s, h0, _, _ => ⟨ts, s, rfl, by rw [List.append_nil]; exact h0⟩
  | x :: xs, done, ts, s, h0, hl, step => by
    have h := step done x xs ts s rfl h0
    have e : done ++ x :: xs = (done ++ [x]) ++ xs := by simp
    rw [e] at step
    rw [e, List.map_cons]
    unfold loopC
    unfold itC at h
    cases hb : bindT tg (g x) (wipe own s) with
    | none => rw [hb] at h; exact h.elim
    | some s1 =>
      rw [hb] at h
      simp only at h ⊢
      cases ht : tt s1 with
      | stk => rw [ht] at h; exact h.elim
      | exc e s => rw [ht] at h; exact h.elim
      | ok k s2 =>
        rw [ht] at h
        cases k with
        | false => exact loopC_run I xs (done ++ [x]) ts s2 (by simpa using h) (by simp at hl; omega) step
        | true =>
          simp only [Res.bind_ok, ifR_t] at h ⊢
          cases he : el s2 with
          | stk => rw [he] at h; exact h.elim
          | exc e s => rw [he] at h; exact h.elim
          | ok t s3 =>
            rw [he] at h
            simp only
            rw [if_pos (by simp at hl; omega)]
            exact loopC_run I xs (done ++ [x]) (ts ++ [t]) s3 (by simpa using h) (by simp at hl ⊢; omega) step
theorem runs_lc {γ : Type} {g : α → D} {tg : Tg} {tt : M Bool} {el : M D} {own : List Nat} {xs : List α} {s : S} {f : List D → S → Res γ} {Q : γ → S → Prop} {E : Exc → S → Prop} (st : β → S) (I : List α → List D → β → Prop) (b : β) (hs : wipe own s = st b) (h0 : I [] [] b) (hl : xs.length ≤ line)
    (step : ∀ dn x rest ts b, xs = dn ++ x :: rest → I dn ts b → ∀ K : Option D → S → Prop, (∀ o s b', wipe own s = st b' → I (dn ++ [x]) (ts ++ o.toList) b' → K o s) → Runs (itC tg tt el own (g x) (st b)) K noEs)
    (idem : ∀ b, wipe own (st b) = st b) (fin : ∀ ts b, I xs ts b → Runs (f ts (unown own s.loc (st b))) Q E) : Runs (Res.bind (lcX tg tt el own (xs.map g) s) f) Q E := by
  obtain ⟨us, s', e, b', e2, h⟩ := loopC_run (tg := tg) (tt := tt) (el := el) (own := own) (g := g) (fun dn ts s => ∃ b, wipe own s = st b ∧ I dn ts b) xs [] [] s ⟨b, hs, h0⟩ (by simpa using hl) (fun dn x rest ts s e ⟨b, e1, h⟩ => by
    have := step dn x rest ts b e h (fun o s' => ∃ b', wipe own s' = st b' ∧ I (dn ++ [x]) (ts ++ o.toList) b') fun o s b' h1 h2 => ⟨b', h1, h2⟩
    have e3 : itC tg tt el own (g x) s = itC tg tt el own (g x) (st b) := by
      unfold itC
      rw [e1, idem b]
    rw [e3]
    exact this)
  unfold lcX lcM
  rw [e]
  have : unown own s.loc s' = unown own s.loc (st b') := unown_wipe (e2.trans (idem b').symm)
  show Runs (f us (unown own s.loc s')) Q E
  rw [this]
  exact fin us b' (by simpa using h)
@[simp] theorem ifR_opt {α : Type} {b : Bool} {a : α} {s : S} : ifR b (.ok (some a) s) (.ok none s) = .ok (if b = true then some a else none) s := by cases b <;> rfl
def kIt3 : D → S → Res (Option D) := fun t s => .ok (some t) s
def kIt2 (el : M D) : Bool → S → Res (Option D) := fun k s => ifR k (Res.bind (el s) kIt3) (.ok none s)
def kIt1 (tt : M Bool) (el : M D) : S → S → Res (Option D) := fun s1 _ => Res.bind (tt s1) (kIt2 el)
@[simp] theorem kIt3_eq {t : D} {s : S} : kIt3 t s = .ok (some t) s := (rfl)
@[simp] theorem kIt2_eq {el : M D} {k : Bool} {s : S} : kIt2 el k s = ifR k (Res.bind (el s) kIt3) (.ok none s) := (rfl)
@[simp] theorem kIt1_eq {tt : M Bool} {el : M D} {s1 s : S} : kIt1 tt el s1 s = Res.bind (tt s1) (kIt2 el) := (rfl)
@[simp] theorem itC_eq {tg : Tg} {tt : M Bool} {el : M D} {own : List Nat} {x : D} {s : S} : itC tg tt el own x s = Res.bind (optR (bindT tg x (wipe own s)) s) (kIt1 tt el) := by
  unfold itC
  cases bindT tg x (wipe own s) <;> rfl
/-- nothing but its own names changes -/
theorem lc_pure {g : α → D} {tg : Tg} {tt : M Bool} {el : M D} {own : List Nat} {xs : List α} {s : S} (p : α → Bool) (f : α → D) (hl : xs.length ≤ line)
    (step : ∀ x, x ∈ xs → Runs (itC tg tt el own (g x) s) (fun o s' => o = (if p x = true then some (f x) else none) ∧ wipe own s' = wipe own s) noEs) : lcX tg tt el own (xs.map g) s = .ok ((xs.filter p).map f) (unown own s.loc s) := by
  obtain ⟨us, s', e, h1, h2⟩ := loopC_run (tg := tg) (tt := tt) (el := el) (own := own) (g := g) (fun dn ts s' => ts = (dn.filter p).map f ∧ wipe own s' = wipe own s) xs [] [] s ⟨rfl, rfl⟩ (by simpa using hl) (fun dn x rest ts s' e ⟨h1, h2⟩ => by
    have := step x (by simp at e; rw [e]; simp)
    have e3 : itC tg tt el own (g x) s' = itC tg tt el own (g x) s := by
      unfold itC
      rw [h2]
    rw [e3]
    refine runs_mono this (fun o s2 ⟨q1, q2⟩ => ⟨?_, q2⟩) fun _ _ h => h
    cases hp : p x <;> rw [hp] at q1 <;> simp [h1, hp, q1])
  unfold lcX lcM
  rw [e]
  show Res.ok us (unown own s.loc s') = _
  rw [h1, unown_wipe h2]
  simp
/-- all items, one by one -/
theorem lc_map {g : α → D} {tg : Tg} {el : M D} {own : List Nat} {xs : List α} {s : S} {G : Tab} {F : FT} (f : α → D) (hl : xs.length ≤ line)
    (step : ∀ x, x ∈ xs → Runs (itC tg (evQs G F .nil) el own (g x) s) (fun o s' => o = some (f x) ∧ wipe own s' = wipe own s) noEs) : lcX tg (evQs G F .nil) el own (xs.map g) s = .ok (xs.map f) (unown own s.loc s) := by
  have := lc_pure (tg := tg) (g := g) (own := own) (s := s) (tt := evQs G F .nil) (el := el) (fun _ => true) f hl (fun x hx => by simpa only [if_true] using step x hx)
  rw [this, List.filter_eq_self.mpr (by simp)]
end
/-! data -/
@[simp] theorem le_line {n : Nat} (h : n ≤ 1000000) : n ≤ line := by rw [line_eq]; omega
@[simp] theorem lt_line {n : Nat} (h : n ≤ 1000000) : n < line := by rw [line_eq]; omega
@[simp] theorem eqF_int {a b : Int} : eqF (.int a) (.int b) = some (decide (a = b)) := by
  show some (a == b) = _
  congr 1
@[simp] theorem eqF_str {a b : Str} : eqF (.str a) (.str b) = some (decide (a = b)) := by
  show some (a == b) = _
  congr 1
@[simp] theorem eqF_bl {a b : Bool} : eqF (.bl a) (.bl b) = some (decide (a = b)) := by
  show some (a == b) = _
  congr 1
@[simp] theorem ltF_int {a b : Int} : ltF (.int a) (.int b) = some (decide (a < b)) := (rfl)
@[simp] theorem cmp_eq {a b : D} : cmpF .eq a b = eqF a b := (rfl)
@[simp] theorem cmp_ne {a b : D} : cmpF .ne a b = (eqF a b).map (!·) := (rfl)
@[simp] theorem cmp_lt {a b : D} : cmpF .lt a b = ltF a b := (rfl)
@[simp] theorem cmp_gt {a b : D} : cmpF .gt a b = ltF b a := (rfl)
@[simp] theorem cmp_le {a b : D} : cmpF .le a b = (ltF b a).map (!·) := (rfl)
@[simp] theorem cmp_ge {a b : D} : cmpF .ge a b = (ltF a b).map (!·) := (rfl)
@[simp] theorem cmp_in {a b : D} : cmpF .inn a b = inF a b := (rfl)
@[simp] theorem cmp_nin {a b : D} : cmpF .nin a b = (inF a b).map (!·) := (rfl)
@[simp] theorem cmp_isN {a : D} : cmpF .isN a .non = some (nonB a) := (rfl)
@[simp] theorem cmp_notN {a : D} : cmpF .notN a .non = some (!nonB a) := (rfl)
@[simp] theorem cmp_isB {a b : Bool} : cmpF .isN (.bl a) (.bl b) = some (decide (a = b)) := (rfl)
@[simp] theorem nonB_bl {b : Bool} : nonB (.bl b) = false := (rfl)
@[simp] theorem nonB_non : nonB .non = true := (rfl)
@[simp] theorem nonB_int {b : Int} : nonB (.int b) = false := (rfl)
@[simp] theorem nonB_str {b : Str} : nonB (.str b) = false := (rfl)
@[simp] theorem nonB_tup {b : List D} : nonB (.tup b) = false := (rfl)
@[simp] theorem nonB_lst {b : List D} : nonB (.lst b) = false := (rfl)
@[simp] theorem bin_addI {a b : Int} : binF .add (.int a) (.int b) = some (.int (a + b)) := (rfl)
@[simp] theorem bin_subI {a b : Int} : binF .sub (.int a) (.int b) = some (.int (a - b)) := (rfl)
@[simp] theorem bin_addL {a b : List D} (h : a.length + b.length ≤ line) : binF .add (.lst a) (.lst b) = some (.lst (a ++ b)) := if_pos h
@[simp] theorem bin_addT {a b : List D} (h : a.length + b.length ≤ line) : binF .add (.tup a) (.tup b) = some (.tup (a ++ b)) := if_pos h
@[simp] theorem idx_lstI {xs : List D} {i : Int} : idxF (.lst xs) (.int i) = pickI xs i := (rfl)
@[simp] theorem idx_tupI {xs : List D} {i : Int} : idxF (.tup xs) (.int i) = pickI xs i := (rfl)
@[simp] theorem len_lst {xs : List D} : biF .len [.lst xs] = some (.int xs.length) := (rfl)
@[simp] theorem len_tup {xs : List D} : biF .len [.tup xs] = some (.int xs.length) := (rfl)
@[simp] theorem tuple_lst {xs : List D} : biF .tuple [.lst xs] = some (.tup xs) := (rfl)
@[simp] theorem tuple_tup {xs : List D} : biF .tuple [.tup xs] = some (.tup xs) := (rfl)
@[simp] theorem list_lst {xs : List D} : biF .list [.lst xs] = some (.lst xs) := (rfl)
@[simp] theorem list_tup {xs : List D} : biF .list [.tup xs] = some (.lst xs) := (rfl)
@[simp] theorem int_int {i : Int} : biF .int [.int i] = some (.int i) := (rfl)
@[simp] theorem int_bl {b : Bool} : biF .int [.bl b] = some (.int (if b then 1 else 0)) := (rfl)
@[simp] theorem abs_int {i : Int} : biF .abs [.int i] = some (.int (if i < 0 then -i else i)) := (rfl)
@[simp] theorem min2_int {a b : Int} : biF .min2 [.int a, .int b] = some (.int (if b < a then b else a)) := (rfl)
@[simp] theorem max2_int {a b : Int} : biF .max2 [.int a, .int b] = some (.int (if b > a then b else a)) := (rfl)
theorem all_map {α : Type} {p : α → Bool} {xs : List α} : biF .all [.lst (xs.map fun x => .bl (p x))] = some (.bl (xs.all p)) := by
  show (D.bls (xs.map fun x => .bl (p x))).map _ = _
  rw [bls_map]; simp
theorem any_map {α : Type} {p : α → Bool} {xs : List α} : biF .any [.lst (xs.map fun x => .bl (p x))] = some (.bl (xs.any p)) := by
  show (D.bls (xs.map fun x => .bl (p x))).map _ = _
  rw [bls_map]; simp
@[simp] theorem pick_nat {α : Type} {xs : List α} {n : Nat} : pickI xs (n : Int) = xs[n]? := pickI_nat
@[simp] theorem pick_0 {α : Type} {x : α} {xs : List α} : pickI (x :: xs) 0 = some x := pickI_nat (n := 0)
@[simp] theorem pick_1 {α : Type} {x y : α} {xs : List α} : pickI (x :: y :: xs) 1 = some y := pickI_nat (n := 1)
@[simp] theorem pick_2 {α : Type} {x y z : α} {xs : List α} : pickI (x :: y :: z :: xs) 2 = some z := pickI_nat (n := 2)
@[simp] theorem pick_3 {α : Type} {x y z w : α} {xs : List α} : pickI (x :: y :: z :: w :: xs) 3 = some w := pickI_nat (n := 3)
theorem fins_map {α : Type} {g : α → D} {n : Nat} {xs : List α} (h : ∀ x ∈ xs, (g x).fin n = true) : D.fins n (xs.map g) = true := by
  induction xs with
  | nil => cases n <;> rfl
  | cons x xs ih =>
    rw [List.map_cons]
    unfold D.fins
    rw [h x (List.mem_cons_self ..), ih fun y hy => h y (List.mem_cons_of_mem _ hy)]
    rfl
theorem eqBs_map {α : Type} [DecidableEq α] {g : α → D} (h : ∀ x y, eqB (g x) (g y) = decide (x = y)) : ∀ {xs ys : List α}, eqBs (xs.map g) (ys.map g) = decide (xs = ys)
  | [], [] => rfl
  | [], _ :: _ => rfl
  | _ :: _, [] => rfl
  | x :: xs, y :: ys => by
    rw [List.map_cons, List.map_cons]
    unfold eqBs
    rw [h, eqBs_map h]
    by_cases a : x = y <;> by_cases b : xs = ys <;> simp [a, b]
theorem any_eqB {α : Type} [DecidableEq α] {g : α → D} (h : ∀ x y, eqB (g x) (g y) = decide (x = y)) {xs : List α} {x : α} : ((xs.map g).any fun y => eqB y (g x)) = decide (x ∈ xs) := by
  induction xs with
  | nil => rfl
  | cons y ys ih =>
    rw [List.map_cons, List.any_cons, ih, h]
    by_cases a : y = x <;> by_cases b : x ∈ ys <;> simp [a, b, eq_comm]
    intro c; exact a c.symm
section
variable {G : Tab} {F : FT}
/-- what is wanted at a def's end -/
structure FnK (Q : D → List Cell → Prop) (K : Ev.Flow → S → Prop) : Prop where
  nx : ∀ l c, Q .non c → K .next ⟨l, c⟩
  rt : ∀ t l c, Q t c → K (.ret t) ⟨l, c⟩
theorem run_ex {d : Def} {ts : List D} {c : List Cell} {Q : D → List Cell → Prop} (h : ts.length = d.np) (r : ∀ K, FnK Q K → Runs (evSs G F d.body ⟨ts.map (fun x => some (.d x)) ++ List.replicate (d.n - d.np) none, c⟩) K noEs) : ∃ x c', runDef G F d ts c = .ok x c' ∧ Q x c' := by
  refine frun_ok ?_
  rw [runDef_eq h, FRuns_finish]
  exact r _ ⟨fun _ _ h => h, fun _ _ _ h => h⟩
/-- a def that ends in one way -/
theorem run_to {d : Def} {ts : List D} {c c' : List Cell} {x : D} (h : ts.length = d.np) (r : ∀ K, (∀ t l c, t = x → c = c' → K (.ret t) ⟨l, c⟩) → (∀ l c, x = .non → c = c' → K .next ⟨l, c⟩) → Runs (evSs G F d.body ⟨ts.map (fun x => some (.d x)) ++ List.replicate (d.n - d.np) none, c⟩) K noEs) : runDef G F d ts c = .ok x c' := by
  refine frun_eq ?_
  rw [runDef_eq h, FRuns_finish]
  exact r _ (fun t l c h1 h2 => ⟨h1, h2⟩) (fun l c h1 h2 => ⟨h1.symm, h2⟩)
theorem run_exc {d : Def} {ts : List D} {c c' : List Cell} {x : Exc} (h : ts.length = d.np) (r : ∀ E : Exc → S → Prop, (∀ l, E x ⟨l, c'⟩) → Runs (evSs G F d.body ⟨ts.map (fun x => some (.d x)) ++ List.replicate (d.n - d.np) none, c⟩) (fun _ _ => False) E) : runDef G F d ts c = .exc x c' := by
  refine frun_exc ?_
  rw [runDef_eq h, FRuns_finish]
  refine runs_mono (r (fun e s => e = x ∧ s.cel = c') fun _ => ⟨rfl, rfl⟩) (fun a s h => h.elim) fun e s h => h
end
end Ev

namespace Pr
open PySem Ev
instance : Coe String Str := ⟨Str.ofString⟩
-- BadWeb.__init__: not in the core: method of many __init__
def c0 : Sts := .cons .bad .nil
/-- is_integer: 0 thing -/
def c1 : Sts :=
  (.cons (.ret (.and (.cons (.isi (.v 0) [.int]) (.cons (.not (.isi (.v 0) [.bool])) .nil))))
  .nil)
/-- is_within: 0 thing 1 least 2 most -/
def c2 : Sts :=
  (.cons (.ret (.and (.cons (.call .plain 1 (.cons (.v 0) .nil)) (.cons (.chain .le .le (.v 1) (.v 0) (.v 2)) .nil))))
  .nil)
/-- is_pair: 0 thing -/
def c3 : Sts :=
  (.cons (.ret (.and (.cons (.isi (.v 0) [.tuple]) (.cons (.cmp .eq (.bi .len (.cons (.v 0) .nil)) (.int 2)) .nil))))
  .nil)
/-- are_roads: 0 thing 1 houses 2 pair 3 house -/
def c4 : Sts :=
  (.cons (.ife (.or (.cons (.not (.isi (.v 0) [.tuple])) (.cons (.not (.chain .le .le (.int 1) (.bi .len (.cons (.v 0) .nil)) (.con 1))) .nil)))
   (.cons (.ret (.bl false))
   .nil)
   .nil)
  (.cons (.for (.v 2) (.val (.v 0))
   (.cons (.ife (.or (.cons (.not (.call .plain 3 (.cons (.v 2) .nil))) (.cons (.not (.bi .all (.cons (.lc (.call .plain 2 (.cons (.v 3) (.cons (.int 0) (.cons (.bin .sub (.v 1) (.int 1)) .nil)))) (.v 3) (.val (.v 2)) .nil [3]) .nil))) (.cons (.cmp .eq (.idx (.v 2) (.int 0)) (.idx (.v 2) (.int 1))) .nil))))
    (.cons (.ret (.bl false))
    .nil)
    .nil)
   .nil) [2])
  (.cons (.ret (.bl true))
  .nil)))
/-- are_counts: 0 thing 1 many 2 most 3 count -/
def c5 : Sts :=
  (.cons (.ret (.and (.cons (.isi (.v 0) [.tuple]) (.cons (.cmp .eq (.bi .len (.cons (.v 0) .nil)) (.v 1)) (.cons (.bi .all (.cons (.lc (.call .plain 2 (.cons (.v 3) (.cons (.int 1) (.cons (.v 2) .nil)))) (.v 3) (.val (.v 0)) .nil [3]) .nil)) .nil)))))
  .nil)
/-- Web.__init__: 0 self 1 houses 2 roads 3 rooms 4 times -/
def c6 : Sts :=
  (.cons (.ife (.not (.call .plain 2 (.cons (.v 1) (.cons (.int 2) (.cons (.con 0) .nil)))))
   (.cons (.rais 2 (.cons (.str "houses") .nil))
   .nil)
   .nil)
  (.cons (.ife (.not (.call .plain 4 (.cons (.v 2) (.cons (.v 1) .nil))))
   (.cons (.rais 2 (.cons (.str "roads") .nil))
   .nil)
   .nil)
  (.cons (.ife (.not (.call .plain 5 (.cons (.v 3) (.cons (.bi .len (.cons (.v 2) .nil)) (.cons (.con 2) .nil)))))
   (.cons (.rais 2 (.cons (.str "rooms") .nil))
   .nil)
   .nil)
  (.cons (.ife (.not (.call .plain 5 (.cons (.v 4) (.cons (.bi .len (.cons (.v 2) .nil)) (.cons (.con 3) .nil)))))
   (.cons (.rais 2 (.cons (.str "times") .nil))
   .nil)
   .nil)
  (.cons (.ex (.meth .plain 0 (.v 0) 8 (.cons (.v 1) (.cons (.v 2) (.cons (.v 3) (.cons (.v 4) .nil))))))
  .nil)))))
/-- Web.keep: 0 self 1 houses 2 roads 3 rooms 4 times 5 begun 6 road 7 pair 8 row -/
def c7 : Sts :=
  (.cons (.asgF (.v 0) 1 (.v 1))
  (.cons (.asgF (.v 0) 2 (.v 2))
  (.cons (.asgF (.v 0) 3 (.v 3))
  (.cons (.asgF (.v 0) 4 (.v 4))
  (.cons (.asgO 5 (.dct .nil .nil))
  (.cons (.for (.tup (.cons (.v 6) (.cons (.v 7) .nil))) (.enum (.v 2) 0)
   (.cons (.ex (.mm .append (.sdef (.v 5) (.idx (.v 7) (.int 0))) (.cons (.v 6) .nil)))
   .nil) [6, 7])
  (.cons (.asgF (.v 0) 5 (.bi .tuple (.cons (.lc (.bi .tuple (.cons (.bm .get (.v 5) (.cons (.idx (.v 7) (.int 1)) (.cons (.lst .nil) .nil))) .nil)) (.v 7) (.val (.v 2)) .nil [7]) .nil)))
  (.cons (.asgF (.v 0) 6 (.bi .tuple (.cons (.lc (.cmp .gt (.bi .len (.cons (.v 8) .nil)) (.int 0)) (.v 8) (.val (.attr (.v 0) 5)) .nil [8]) .nil)))
  .nil))))))))
/-- Web.__eq__: 0 self 1 other -/
def c8 : Sts :=
  (.cons (.ife (.not (.isi (.v 1) [.cls 0]))
   (.cons (.ret (.bl false))
   .nil)
   .nil)
  (.cons (.ife (.or (.cons (.cmp .ne (.attr (.v 0) 1) (.attr (.v 1) 1)) (.cons (.cmp .ne (.attr (.v 0) 2) (.attr (.v 1) 2)) .nil)))
   (.cons (.ret (.bl false))
   .nil)
   .nil)
  (.cons (.ret (.and (.cons (.cmp .eq (.attr (.v 0) 3) (.attr (.v 1) 3)) (.cons (.cmp .eq (.attr (.v 0) 4) (.attr (.v 1) 4)) .nil))))
  .nil)))
/-- _law_hand: 0 _law_script 1 _law_cells 2 _law_cell -/
def c9 : Sts :=
  (.cons (.asg (.v 1) (.lc (.bi .abs (.cons (.bi .int (.cons (.v 2) .nil)) .nil)) (.v 2) (.val (.sl (.v 0) .non (.int 63))) .nil [2]))
  (.cons (.ret (.new (.lst (.cons (.v 1) (.cons (.int 0) (.cons (.int 0) (.cons (.bin .add (.int 1) (.bi .len (.cons (.v 1) .nil))) (.cons (.int 0) .nil))))))))
  .nil))
/-- _law_draw: 0 _law_hand_here 1 _law_many 2 _law_number 3 _law_cell 4 _law_digit -/
def c10 : Sts :=
  (.cons (.ife (.and (.cons (.cmp .eq (.idx (.v 0) (.int 2)) (.int 0)) (.cons (.cmp .lt (.idx (.v 0) (.int 1)) (.bi .len (.cons (.idx (.v 0) (.int 0)) .nil))) .nil)))
   (.cons (.asg (.v 3) (.idx (.idx (.v 0) (.int 0)) (.idx (.v 0) (.int 1))))
   (.cons (.asgI (.v 0) (.int 1) (.bin .add (.idx (.v 0) (.int 1)) (.int 1)))
   (.cons (.asgI (.v 0) (.int 3) (.bin .mod (.bi .int (.cons (.bin .add (.bin .add (.bin .mul (.idx (.v 0) (.int 3)) (.int 69621)) (.v 3)) (.int 11)) .nil)) (.int 2147483629)))
   (.cons (.ife (.cmp .ge (.v 3) (.bin .pow (.int 10) (.int 18)))
    (.cons (.asgI (.v 0) (.int 2) (.v 3))
    .nil)
    .nil)
   .nil))))
   .nil)
  (.cons (.ife (.cmp .gt (.idx (.v 0) (.int 2)) (.int 0))
   (.cons (.asg (.v 4) (.bin .mod (.bi .int (.cons (.idx (.v 0) (.int 2)) .nil)) (.v 1)))
   (.cons (.asgI (.v 0) (.int 2) (.bin .fdiv (.idx (.v 0) (.int 2)) (.v 1)))
   (.cons (.ret (.v 4))
   .nil)))
   .nil)
  (.cons (.asgI (.v 0) (.int 4) (.bin .add (.idx (.v 0) (.int 4)) (.int 1)))
  (.cons (.asg (.v 2) (.bin .mod (.bi .int (.cons (.bin .mul (.bi .int (.cons (.bin .add (.idx (.v 0) (.int 3)) (.bin .mul (.int 7919) (.idx (.v 0) (.int 4)))) .nil)) (.int 48271)) .nil)) (.int 2147483647)))
  (.cons (.asg (.v 2) (.bin .mod (.bi .int (.cons (.bin .mul (.v 2) (.bin .add (.bin .fdiv (.v 2) (.int 1009)) (.int 69621))) .nil)) (.int 2147483647)))
  (.cons (.asg (.v 2) (.bin .mod (.bi .int (.cons (.bin .mul (.v 2) (.bin .add (.bin .fdiv (.v 2) (.int 2003)) (.int 40692))) .nil)) (.int 2147483399)))
  (.cons (.ret (.bin .mod (.bi .int (.cons (.bin .fdiv (.v 2) (.int 16)) .nil)) (.v 1)))
  .nil)))))))
/-- _law_counts: 0 _law_hand_here 1 _law_many 2 _law_road -/
def c11 : Sts :=
  (.cons (.ife (.cmp .gt (.call .plain 10 (.cons (.v 0) (.cons (.int 3) .nil))) (.int 0))
   (.cons (.ret (.bin .mul (.tup (.cons (.int 1) .nil)) (.v 1)))
   .nil)
   .nil)
  (.cons (.ret (.bi .tuple (.cons (.lc (.bin .add (.int 1) (.call .plain 10 (.cons (.v 0) (.cons (.int 3) .nil)))) (.v 2) (.rng1 (.v 1)) .nil [2]) .nil)))
  .nil))
/-- _law_web: 0 _law_hand_here 1 _law_towns 2 _law_most 3 _law_houses 4 _law_many 5 _law_chained 6 _law_roads 7 _law_road 8 _law_begin -/
def c12 : Sts :=
  (.cons (.asg (.v 3) (.bin .add (.int 2) (.call .plain 10 (.cons (.v 0) (.cons (.bin .sub (.v 1) (.int 1)) .nil)))))
  (.cons (.asg (.v 4) (.bin .add (.int 1) (.call .plain 10 (.cons (.v 0) (.cons (.v 2) .nil)))))
  (.cons (.asg (.v 5) (.call .plain 10 (.cons (.v 0) (.cons (.int 2) .nil))))
  (.cons (.asgO 6 (.lst .nil))
  (.cons (.for (.v 7) (.rng1 (.v 4))
   (.cons (.asg (.v 8) (.call .plain 10 (.cons (.v 0) (.cons (.v 3) .nil))))
   (.cons (.ife (.and (.cons (.cmp .eq (.v 5) (.int 1)) (.cons (.cmp .gt (.v 7) (.int 0)) (.cons (.cmp .gt (.call .plain 10 (.cons (.v 0) (.cons (.int 4) .nil))) (.int 0)) .nil))))
    (.cons (.asg (.v 8) (.idx (.idx (.v 6) (.neg (.int 1))) (.int 1)))
    .nil)
    .nil)
   (.cons (.ex (.mm .append (.v 6) (.cons (.tup (.cons (.v 8) (.cons (.bin .mod (.bi .int (.cons (.bin .add (.bin .add (.v 8) (.int 1)) (.call .plain 10 (.cons (.v 0) (.cons (.bin .sub (.v 3) (.int 1)) .nil)))) .nil)) (.v 3)) .nil))) .nil)))
   .nil))) [7, 8])
  (.cons (.ret (.tup (.cons (.v 3) (.cons (.bi .tuple (.cons (.v 6) .nil)) (.cons (.call .plain 11 (.cons (.v 0) (.cons (.v 4) .nil))) (.cons (.call .plain 11 (.cons (.v 0) (.cons (.v 4) .nil))) .nil))))))
  .nil))))))
/-- _law_next: 0 _law_web_here 1 _law_road 2 _law_other -/
def c13 : Sts :=
  (.cons (.ret (.lc (.v 2) (.v 2) (.rng1 (.bi .len (.cons (.idx (.v 0) (.int 1)) .nil))) (.cons (.cmp .eq (.idx (.idx (.idx (.v 0) (.int 1)) (.v 2)) (.int 0)) (.idx (.idx (.idx (.v 0) (.int 1)) (.v 1)) (.int 1))) .nil) [2]))
  .nil)
/-- _law_way: 0 _law_hand_here 1 _law_web_here 2 _law_most 3 _law_way_here 4 _law_turn 5 _law_behind -/
def c14 : Sts :=
  (.cons (.asg (.v 3) (.tup (.cons (.call .plain 10 (.cons (.v 0) (.cons (.bi .len (.cons (.idx (.v 1) (.int 1)) .nil)) .nil))) .nil)))
  (.cons (.for (.v 4) (.rng1 (.call .plain 10 (.cons (.v 0) (.cons (.v 2) .nil))))
   (.cons (.asg (.v 5) (.call .plain 13 (.cons (.v 1) (.cons (.idx (.v 3) (.neg (.int 1))) .nil))))
   (.cons (.ife (.cmp .gt (.bi .len (.cons (.v 5) .nil)) (.int 0))
    (.cons (.asg (.v 3) (.bin .add (.v 3) (.tup (.cons (.idx (.v 5) (.call .plain 10 (.cons (.v 0) (.cons (.bi .len (.cons (.v 5) .nil)) .nil)))) .nil))))
    .nil)
    .nil)
   .nil)) [4, 5])
  (.cons (.ret (.v 3))
  .nil)))
/-- _law_letters: 0 _law_hand_here 1 _law_web_here 2 _law_many 3 _law_span 4 _law_letter -/
def c15 : Sts :=
  (.cons (.ret (.bi .tuple (.cons (.lc (.tup (.cons (.call .plain 14 (.cons (.v 0) (.cons (.v 1) (.cons (.int 5) .nil)))) (.cons (.bin .add (.int 1) (.call .plain 10 (.cons (.v 0) (.cons (.v 3) .nil)))) .nil))) (.v 4) (.rng1 (.v 2)) .nil [4]) .nil)))
  .nil)
/-- _law_odd: 0 _law_hand_here 1 _law_deep 2 _law_turn 3 _law_odd_here -/
def c16 : Sts :=
  (.cons (.asg (.v 1) (.lst (.cons .non .nil)))
  (.cons (.for (.v 2) (.rng1 (.int 18))
   (.cons (.asg (.v 1) (.lst (.cons (.v 1) .nil)))
   .nil) [2])
  (.cons (.asg (.v 3) (.lst (.cons .non (.cons (.bl true) (.cons (.bl false) (.cons (.str "1") (.cons (.str "A b") (.cons (.lst (.cons (.str "a") .nil)) (.cons (.dct (.cons (.str "a") .nil) (.cons (.str "b") .nil)) (.cons (.lst .nil) (.cons (.dct .nil .nil) (.cons (.tup (.cons (.tup .nil) .nil)) (.cons (.tup (.cons (.str "a") .nil)) (.cons (.v 1) (.cons (.tup (.cons .non .nil)) (.cons (.neg (.int 1)) (.cons (.lst (.cons (.int 0) .nil)) (.cons (.tup (.cons (.bl true) .nil)) .nil))))))))))))))))))
  (.cons (.ret (.idx (.v 3) (.call .plain 10 (.cons (.v 0) (.cons (.bi .len (.cons (.v 3) .nil)) .nil)))))
  .nil))))
/-- _law_is_number: 0 _law_thing 1 _law_least 2 _law_most -/
def c17 : Sts :=
  (.cons (.ret (.and (.cons (.isi (.v 0) [.int]) (.cons (.not (.isi (.v 0) [.bool])) (.cons (.chain .le .le (.v 1) (.v 0) (.v 2)) .nil)))))
  .nil)
/-- _law_are_roads: 0 _law_thing 1 _law_houses 2 _law_pair 3 _law_house -/
def c18 : Sts :=
  (.cons (.ife (.or (.cons (.not (.isi (.v 0) [.tuple])) (.cons (.not (.chain .le .le (.int 1) (.bi .len (.cons (.v 0) .nil)) (.int 24))) .nil)))
   (.cons (.ret (.bl false))
   .nil)
   .nil)
  (.cons (.for (.v 2) (.val (.v 0))
   (.cons (.ife (.or (.cons (.not (.isi (.v 2) [.tuple])) (.cons (.cmp .ne (.bi .len (.cons (.v 2) .nil)) (.int 2)) .nil)))
    (.cons (.ret (.bl false))
    .nil)
    .nil)
   (.cons (.ife (.or (.cons (.cmp .gt (.bi .len (.cons (.lc (.v 3) (.v 3) (.val (.v 2)) (.cons (.not (.call .plain 17 (.cons (.v 3) (.cons (.int 0) (.cons (.bin .sub (.v 1) (.int 1)) .nil))))) .nil) [3]) .nil)) (.int 0)) (.cons (.cmp .eq (.idx (.v 2) (.int 0)) (.idx (.v 2) (.int 1))) .nil)))
    (.cons (.ret (.bl false))
    .nil)
    .nil)
   .nil)) [2])
  (.cons (.ret (.bl true))
  .nil)))
/-- _law_are_counts: 0 _law_thing 1 _law_many 2 _law_count -/
def c19 : Sts :=
  (.cons (.ife (.or (.cons (.not (.isi (.v 0) [.tuple])) (.cons (.cmp .ne (.bi .len (.cons (.v 0) .nil)) (.v 1)) .nil)))
   (.cons (.ret (.bl false))
   .nil)
   .nil)
  (.cons (.ret (.cmp .eq (.bi .len (.cons (.lc (.v 2) (.v 2) (.val (.v 0)) (.cons (.not (.call .plain 17 (.cons (.v 2) (.cons (.int 1) (.cons (.int 3) .nil))))) .nil) [2]) .nil)) (.int 0)))
  .nil))
/-- _law_due: 0 _law_houses 1 _law_roads 2 _law_rooms 3 _law_times -/
def c20 : Sts :=
  (.cons (.ife (.not (.call .plain 17 (.cons (.v 0) (.cons (.int 2) (.cons (.int 12) .nil)))))
   (.cons (.ret (.str "houses"))
   .nil)
   .nil)
  (.cons (.ife (.not (.call .plain 18 (.cons (.v 1) (.cons (.v 0) .nil))))
   (.cons (.ret (.str "roads"))
   .nil)
   .nil)
  (.cons (.ife (.not (.call .plain 19 (.cons (.v 2) (.cons (.bi .len (.cons (.v 1) .nil)) .nil))))
   (.cons (.ret (.str "rooms"))
   .nil)
   .nil)
  (.cons (.ife (.not (.call .plain 19 (.cons (.v 3) (.cons (.bi .len (.cons (.v 1) .nil)) .nil))))
   (.cons (.ret (.str "times"))
   .nil)
   .nil)
  (.cons (.ret (.str "let"))
  .nil)))))
/-- _law_spoiled_roads: 0 _law_hand_here 1 _law_houses 2 _law_roads 3 _law_at 4 _law_pairs 5 _law_made -/
def c21 : Sts :=
  (.cons (.asg (.v 3) (.call .plain 10 (.cons (.v 0) (.cons (.bi .len (.cons (.v 2) .nil)) .nil))))
  (.cons (.asg (.v 4) (.lst (.cons (.bi .list (.cons (.idx (.v 2) (.v 3)) .nil)) (.cons (.bin .add (.idx (.v 2) (.v 3)) (.tup (.cons (.int 0) .nil))) (.cons (.sl (.idx (.v 2) (.v 3)) .non (.int 1)) (.cons (.tup (.cons (.int 0) (.cons (.int 0) .nil))) (.cons (.tup (.cons (.int 0) (.cons (.v 1) .nil))) (.cons (.tup (.cons (.neg (.int 1)) (.cons (.int 0) .nil))) (.cons (.tup (.cons (.int 0) (.cons (.bl true) .nil))) (.cons (.tup (.cons (.int 0) (.cons .non .nil))) (.cons (.int 5) (.cons (.tup (.cons (.int 0) (.cons (.int 1) .nil))) .nil))))))))))))
  (.cons (.asg (.v 4) (.bin .add (.v 4) (.lst (.cons (.call .plain 16 (.cons (.v 0) .nil)) (.cons (.tup (.cons (.bin .sub (.v 1) (.int 1)) (.cons (.int 0) .nil))) .nil)))))
  (.cons (.asg (.v 5) (.bin .add (.bin .add (.sl (.v 2) .non (.v 3)) (.tup (.cons (.idx (.v 4) (.call .plain 10 (.cons (.v 0) (.cons (.bi .len (.cons (.v 4) .nil)) .nil)))) .nil))) (.sl (.v 2) (.bin .add (.v 3) (.int 1)) .non)))
  (.cons (.ret (.idx (.lst (.cons (.v 5) (.cons (.v 5) (.cons (.v 5) (.cons (.bi .list (.cons (.v 2) .nil)) (.cons (.tup .nil) (.cons .non (.cons (.bin .mul (.v 2) (.int 25)) (.cons (.bin .add (.v 2) (.sl (.v 2) .non (.int 1))) (.cons (.sl (.v 2) .non (.neg (.int 1))) (.cons (.dct .nil .nil) .nil))))))))))) (.call .plain 10 (.cons (.v 0) (.cons (.int 10) .nil)))))
  .nil)))))
/-- _law_spoiled_counts: 0 _law_hand_here 1 _law_counts_here 2 _law_at 3 _law_made -/
def c22 : Sts :=
  (.cons (.asg (.v 2) (.call .plain 10 (.cons (.v 0) (.cons (.bi .len (.cons (.v 1) .nil)) .nil))))
  (.cons (.asg (.v 3) (.bin .add (.bin .add (.sl (.v 1) .non (.v 2)) (.tup (.cons (.idx (.lst (.cons (.int 0) (.cons (.int 4) (.cons (.int 3) (.cons (.bl true) (.cons .non (.cons (.str "1") (.cons (.tup (.cons (.int 1) .nil)) (.cons (.neg (.int 1)) .nil))))))))) (.call .plain 10 (.cons (.v 0) (.cons (.int 8) .nil)))) .nil))) (.sl (.v 1) (.bin .add (.v 2) (.int 1)) .non)))
  (.cons (.ret (.idx (.lst (.cons (.v 3) (.cons (.v 3) (.cons (.v 3) (.cons (.bi .list (.cons (.v 1) .nil)) (.cons (.bin .add (.v 1) (.tup (.cons (.int 1) .nil))) (.cons (.sl (.v 1) .non (.neg (.int 1))) (.cons .non (.cons (.int 1) .nil))))))))) (.call .plain 10 (.cons (.v 0) (.cons (.int 8) .nil)))))
  .nil)))
/-- law: 0 _law_script 1 _law_hand_here 2 _law_turn 3 _law_which 4 _law_due_here 5 _law_told 6 e 7 _law_houses 8 _law_roads 9 _law_rooms 10 _law_times 11 _law_web_here -/
def c23 : Sts :=
  (.cons (.asg (.v 1) (.call .plain 9 (.cons (.v 0) .nil)))
  (.cons (.for (.v 2) (.rng1 (.int 5))
   (.cons (.asg (.tup (.cons (.v 7) (.cons (.v 8) (.cons (.v 9) (.cons (.v 10) .nil))))) (.call .plain 12 (.cons (.v 1) (.cons (.int 12) (.cons (.idx (.lst (.cons (.int 6) (.cons (.int 24) .nil))) (.call .plain 10 (.cons (.v 1) (.cons (.int 2) .nil)))) .nil)))))
   (.cons (.asg (.v 3) (.call .plain 10 (.cons (.v 1) (.cons (.int 7) .nil))))
   (.cons (.ife (.cmp .inn (.v 3) (.lst (.cons (.int 1) (.cons (.int 5) .nil))))
    (.cons (.asg (.v 7) (.idx (.lst (.cons (.int 0) (.cons (.int 1) (.cons (.int 2) (.cons (.int 12) (.cons (.int 13) (.cons (.bl true) (.cons .non (.cons (.str "3") (.cons (.neg (.int 1)) (.cons (.tup (.cons (.int 3) .nil)) (.cons (.bin .pow (.int 10) (.int 30)) .nil)))))))))))) (.call .plain 10 (.cons (.v 1) (.cons (.int 11) .nil)))))
    .nil)
    .nil)
   (.cons (.ife (.and (.cons (.cmp .inn (.v 3) (.lst (.cons (.int 2) (.cons (.int 5) (.cons (.int 6) .nil))))) (.cons (.isi (.v 7) [.int]) .nil)))
    (.cons (.asg (.v 8) (.call .plain 21 (.cons (.v 1) (.cons (.v 7) (.cons (.v 8) .nil)))))
    .nil)
    .nil)
   (.cons (.ife (.cmp .inn (.v 3) (.lst (.cons (.int 3) (.cons (.int 6) .nil))))
    (.cons (.asg (.v 9) (.call .plain 22 (.cons (.v 1) (.cons (.v 9) .nil))))
    .nil)
    .nil)
   (.cons (.ife (.cmp .inn (.v 3) (.lst (.cons (.int 4) (.cons (.int 6) .nil))))
    (.cons (.asg (.v 10) (.call .plain 22 (.cons (.v 1) (.cons (.v 10) .nil))))
    .nil)
    .nil)
   (.cons (.asg (.v 4) (.call .plain 20 (.cons (.v 7) (.cons (.v 8) (.cons (.v 9) (.cons (.v 10) .nil))))))
   (.cons (.asg (.v 5) (.str "none"))
   (.cons (.tryx
    (.cons (.asg (.v 11) (.mk 0 (.cons (.v 7) (.cons (.v 8) (.cons (.v 9) (.cons (.v 10) .nil))))))
    (.cons (.asg (.v 5) (.str "wrong"))
    (.cons (.ife (.and (.cons (.cmp .eq (.attr (.v 11) 1) (.v 7)) (.cons (.cmp .eq (.attr (.v 11) 2) (.v 8)) (.cons (.cmp .eq (.attr (.v 11) 3) (.v 9)) (.cons (.cmp .eq (.attr (.v 11) 4) (.v 10)) .nil)))))
     (.cons (.asg (.v 5) (.str "let"))
     .nil)
     .nil)
    .nil)))
    (.cons 2 (some (6, 5, (.fld 0))) .nil
    .nil))
   (.cons (.ife (.cmp .ne (.v 5) (.v 4))
    (.cons (.ret (.bl false))
    .nil)
    .nil)
   .nil)))))))))) [2, 3, 4, 5, 6, 7, 8, 9, 10, 11])
  (.cons (.ret (.bl true))
  .nil)))
def P : List Def := [⟨2, 2, c0⟩, ⟨1, 1, c1⟩, ⟨3, 3, c2⟩, ⟨1, 1, c3⟩, ⟨2, 4, c4⟩, ⟨3, 4, c5⟩, ⟨5, 5, c6⟩, ⟨5, 9, c7⟩, ⟨2, 2, c8⟩, ⟨1, 3, c9⟩, ⟨2, 5, c10⟩, ⟨2, 3, c11⟩, ⟨3, 9, c12⟩, ⟨2, 3, c13⟩, ⟨3, 6, c14⟩, ⟨4, 5, c15⟩, ⟨1, 4, c16⟩, ⟨3, 3, c17⟩, ⟨2, 4, c18⟩, ⟨2, 3, c19⟩, ⟨4, 4, c20⟩, ⟨3, 6, c21⟩, ⟨2, 4, c22⟩, ⟨1, 12, c23⟩]
def G : Tab where
  con := [(.int 12), (.int 24), (.int 3), (.int 3)]
  ncls := 1
  isf := fun c f => ([(0, 1), (0, 2), (0, 3), (0, 4), (0, 5), (0, 6)] : List (Nat × Nat)).contains (c, f)
  isa := fun c => decide (c < 1)
  meth := fun c m => (([(0, 8, 7), (0, 12, 8)] : List (Nat × Nat × Nat)).find? fun q => q.1 == c && q.2.1 == m).map (·.2.2)
  ini := fun c => ([(0, 6)] : List (Nat × Nat)).lookup c
  sub := fun c d => ([(0, 0), (1, 1), (2, 2), (2, 1)] : List (Nat × Nat)).contains (c, d)
  exf := fun c => ([(2, [0])] : List (Nat × List Nat)).lookup c
def T : Nam where
  fn := fun f => (([(1, (.ofString "is_integer")), (2, (.ofString "is_within")), (3, (.ofString "is_pair")), (4, (.ofString "are_roads")), (5, (.ofString "are_counts")), (9, (.ofString "_law_hand")), (10, (.ofString "_law_draw")), (11, (.ofString "_law_counts")), (12, (.ofString "_law_web")), (13, (.ofString "_law_next")), (14, (.ofString "_law_way")), (15, (.ofString "_law_letters")), (16, (.ofString "_law_odd")), (17, (.ofString "_law_is_number")), (18, (.ofString "_law_are_roads")), (19, (.ofString "_law_are_counts")), (20, (.ofString "_law_due")), (21, (.ofString "_law_spoiled_roads")), (22, (.ofString "_law_spoiled_counts")), (23, (.ofString "law"))] : List (Nat × Str)).lookup f)
  cls := ([(.ofString "Web")] : List Str)
  con := fun g => (([(0, (.ofString "MOST_HOUSES")), (1, (.ofString "MOST_ROADS")), (2, (.ofString "MOST_ROOMS")), (3, (.ofString "MOST_TIME"))] : List (Nat × Str)).lookup g)
  par := fun f => (([[(.ofString "self"), (.ofString "part")], [(.ofString "thing")], [(.ofString "thing"), (.ofString "least"), (.ofString "most")], [(.ofString "thing")], [(.ofString "thing"), (.ofString "houses")], [(.ofString "thing"), (.ofString "many"), (.ofString "most")], [(.ofString "self"), (.ofString "houses"), (.ofString "roads"), (.ofString "rooms"), (.ofString "times")], [(.ofString "self"), (.ofString "houses"), (.ofString "roads"), (.ofString "rooms"), (.ofString "times")], [(.ofString "self"), (.ofString "other")], [(.ofString "_law_script")], [(.ofString "_law_hand_here"), (.ofString "_law_many")], [(.ofString "_law_hand_here"), (.ofString "_law_many")], [(.ofString "_law_hand_here"), (.ofString "_law_towns"), (.ofString "_law_most")], [(.ofString "_law_web_here"), (.ofString "_law_road")], [(.ofString "_law_hand_here"), (.ofString "_law_web_here"), (.ofString "_law_most")], [(.ofString "_law_hand_here"), (.ofString "_law_web_here"), (.ofString "_law_many"), (.ofString "_law_span")], [(.ofString "_law_hand_here")], [(.ofString "_law_thing"), (.ofString "_law_least"), (.ofString "_law_most")], [(.ofString "_law_thing"), (.ofString "_law_houses")], [(.ofString "_law_thing"), (.ofString "_law_many")], [(.ofString "_law_houses"), (.ofString "_law_roads"), (.ofString "_law_rooms"), (.ofString "_law_times")], [(.ofString "_law_hand_here"), (.ofString "_law_houses"), (.ofString "_law_roads")], [(.ofString "_law_hand_here"), (.ofString "_law_counts_here")], [(.ofString "_law_script")]] : List (List Str))[f]?).getD []
  exc := fun k => (([(2, (.ofString "BadWeb"))] : List (Nat × Str)).lookup k)
  hnd := fun k => (([(2, (.ofString "BadWeb"))] : List (Nat × Str)).lookup k)
  exi := true
  exfn := fun k => ([2] : List Nat).contains k
  eqs := fun k => ([0] : List Nat).contains k
def okf (f : Nat) : Bool := ([1, 2, 3, 4, 5, 6, 7, 8, 9, 10, 11, 12, 13, 14, 15, 16, 17, 18, 19, 20, 21, 22, 23] : List Nat).contains f
def names : List Str := [(.ofString "part"), (.ofString "houses"), (.ofString "roads"), (.ofString "rooms"), (.ofString "times"), (.ofString "kept_next"), (.ofString "kept_leads"), (.ofString "__init__"), (.ofString "keep"), (.ofString "append"), (.ofString "setdefault"), (.ofString "get"), (.ofString "__eq__")]
end Pr
set_option linter.all false
set_option maxRecDepth 100000
set_option maxHeartbeats 2000000
namespace Pr
open PySem Ev
/-! roads, webs (for the laws that hold a hand) -/
def pr (p : Nat × Nat) : D := .tup [.int p.1, .int p.2]
def ni (n : Nat) : D := .int n
theorem ni_def {n : Nat} : ni n = .int n := rfl
@[simp] theorem ref_ni {n : Nat} : D.isRef (ni n) = false := (rfl)
@[simp] theorem ref_pr {n : Nat × Nat} : D.isRef (pr n) = false := (rfl)
def VR (h : Nat) (rs : List (Nat × Nat)) : Prop := ∀ p ∈ rs, p.1 < h ∧ p.2 < h ∧ p.1 ≠ p.2
theorem VR.snoc {h : Nat} {rs : List (Nat × Nat)} {p : Nat × Nat} (v : VR h rs) (hp : p.1 < h ∧ p.2 < h ∧ p.1 ≠ p.2) : VR h (rs ++ [p]) := fun q hq => by
  rcases List.mem_append.mp hq with hq | hq
  · exact v q hq
  · rw [List.mem_singleton] at hq; subst hq; exact hp
@[simp] theorem bin_modI {a b : Int} (h : 0 < b) : binF .mod (.int a) (.int b) = some (.int (a % b)) := if_pos h
theorem bin_rep {n : Nat} (h1 : 1 ≤ n) (h2 : n ≤ 1000) : binF .mul (.tup [.int 1]) (.int n) = some (.tup ((List.replicate n 1).map ni)) := by
  have hb : (1 : Int) ≤ n ∧ (n : Int) ≤ 1000 := by omega
  simp [binF, hb, ni]
@[simp] theorem neg_int {i : Int} : negF (.int i) = some (.int (-i)) := (rfl)
@[simp] theorem pick_last {α : Type} {xs : List α} {x : α} : pickI (xs ++ [x]) (-1) = some x := by
  have h1 : (1 : Int) ≤ (xs.length : Int) + 1 := by omega
  have h2 : (-1 + ((xs.length : Int) + 1)).toNat = xs.length := by omega
  simp [pickI, ixN, h1, h2]
@[simp] theorem pick_last1 {α : Type} {x : α} : pickI [x] (-1) = some x := pick_last (xs := [])
@[simp] theorem pr_0 {p : Nat × Nat} : idxF (pr p) (.int 0) = some (.int p.1) := (rfl)
@[simp] theorem pr_1 {p : Nat × Nat} : idxF (pr p) (.int 1) = some (.int p.2) := (rfl)
theorem snoc_of {α : Type} : ∀ {xs : List α}, xs ≠ [] → ∃ ys y, xs = ys ++ [y]
  | [], h => absurd rfl h
  | x :: xs, _ => by
    by_cases z : xs = []
    · subst z; exact ⟨[], x, rfl⟩
    · obtain ⟨ys, y, rfl⟩ := snoc_of z
      exact ⟨x :: ys, y, rfl⟩
structure VW (h : Nat) (rs : List (Nat × Nat)) (ro ti : List Nat) : Prop where
  h1 : 2 ≤ h
  h2 : h ≤ 12
  l1 : 1 ≤ rs.length
  l2 : rs.length ≤ 24
  v : VR h rs
  o1 : ro.length = rs.length
  o2 : ti.length = rs.length
  o3 : ∀ x ∈ ro, 1 ≤ x ∧ x ≤ 3
  o4 : ∀ x ∈ ti, 1 ≤ x ∧ x ≤ 3
def wD (h : Nat) (rs : List (Nat × Nat)) (ro ti : List Nat) : D := .tup [.int h, .tup (rs.map pr), .tup (ro.map ni), .tup (ti.map ni)]
@[simp] theorem ref_wD {h : Nat} {rs : List (Nat × Nat)} {ro ti : List Nat} : D.isRef (wD h rs ro ti) = false := (rfl)
@[simp] theorem wD_0 {h : Nat} {rs : List (Nat × Nat)} {ro ti : List Nat} : idxF (wD h rs ro ti) (.int 0) = some (.int h) := (rfl)
@[simp] theorem wD_1 {h : Nat} {rs : List (Nat × Nat)} {ro ti : List Nat} : idxF (wD h rs ro ti) (.int 1) = some (.tup (rs.map pr)) := (rfl)
@[simp] theorem wD_2 {h : Nat} {rs : List (Nat × Nat)} {ro ti : List Nat} : idxF (wD h rs ro ti) (.int 2) = some (.tup (ro.map ni)) := (rfl)
@[simp] theorem wD_3 {h : Nat} {rs : List (Nat × Nat)} {ro ti : List Nat} : idxF (wD h rs ro ti) (.int 3) = some (.tup (ti.map ni)) := (rfl)
end Pr

set_option linter.all false
set_option maxRecDepth 100000
set_option maxHeartbeats 2000000
namespace Pr
open PySem Ev
/-! the hand, and what else lies in the store -/
structure Hand where
  cs : List Int
  a : Nat
  b : Int
  sd : Int
  n : Int
  ok : ∀ x ∈ cs, 0 ≤ x
  b0 : 0 ≤ b
def Hand.c (p : Hand) (r : List Cell) : List Cell := .lst [.lst (p.cs.map .int), .int p.a, .int p.b, .int p.sd, .int p.n] :: r
@[simp high] theorem Hand.len {p : Hand} {r : List Cell} : (p.c r).length = r.length + 1 := (rfl)
@[simp high] theorem Hand.get {p : Hand} {r : List Cell} {n : Nat} : (p.c r)[n + 1]? = r[n]? := (rfl)
@[simp high] theorem Hand.app {p : Hand} {r r' : List Cell} : p.c r ++ r' = p.c (r ++ r') := (rfl)
@[simp high] theorem Hand.set {p : Hand} {r : List Cell} {n : Nat} {x : Cell} : (p.c r).set (n + 1) x = p.c (r.set n x) := (rfl)
theorem nb1 (x : Int) : (x % 2147483647).natAbs < 18446744073709551616 := by omega
theorem lg1 : Nat.log2 1009 < 9000 := by decide +kernel
theorem lg2 : Nat.log2 2003 < 9000 := by decide +kernel
theorem lg3 : Nat.log2 16 < 9000 := by decide +kernel
def num (s n m : Int) : Int := ((s + 7919 * n) * 48271 % 2147483647 * ((s + 7919 * n) * 48271 % 2147483647 / 1009 + 69621) % 2147483647 *
        ((s + 7919 * n) * 48271 % 2147483647 * ((s + 7919 * n) * 48271 % 2147483647 / 1009 + 69621) % 2147483647 / 2003 + 40692) % 2147483399 / 16) % m
def DrawH (F : FT) : Prop := ∀ (p : Hand) (r : List Cell) (m : Int), 1 ≤ m → m ≤ 1000000 → ∃ (d : Nat) (p' : Hand), F 10 [.ref 0, .int m] (p.c r) = .ok (.int d) (p'.c r) ∧ (d : Int) < m
theorem drawh_run {F : FT} {p : Hand} {r : List Cell} {m : Int} (h1 : 1 ≤ m) (h2 : m ≤ 1000000) : ∃ (d : Nat) (p' : Hand), runDef G F ⟨2, 5, c10⟩ [.ref 0, .int m] (p.c r) = .ok (.int d) (p'.c r) ∧ (d : Int) < m := by
  obtain ⟨cs, a, b, s, n, hcs, hb⟩ := p
  have h0 : 0 < m := by omega
  have h3 : m.natAbs.log2 < 9000 := by
    have h : m.natAbs < 2 ^ 20 := by omega
    by_cases z : m.natAbs = 0
    · rw [z]; decide
    · have := (Nat.log2_lt z).mpr h
      omega
  have fin : ∀ y : Int, ∃ d : Nat, y % m = d ∧ (d : Int) < m := fun y => by
    have a := Int.emod_nonneg y (show m ≠ 0 by omega)
    have b := Int.emod_lt_of_pos y h0
    exact ⟨(y % m).toNat, by omega, by omega⟩
  have dv : ∀ y : Int, 0 ≤ y → 0 ≤ y / m := fun y hy => Int.ediv_nonneg hy (by omega)
  unfold Hand.c
  simp only
  have ha : (0 : Int) ≤ a := by omega
  by_cases hb0 : b = 0
  · subst hb0
    by_cases hl : a < cs.length
    · obtain ⟨x, hx, hx0⟩ : ∃ x, cs[a]? = some x ∧ 0 ≤ x := ⟨cs[a], List.getElem?_eq_getElem hl, hcs _ (List.getElem_mem hl)⟩
      have hl' : (a : Int) < cs.length := by omega
      have hx' : ∀ h, cs[a]'h = x := fun h => by rw [List.getElem?_eq_getElem h] at hx; exact Option.some.inj hx
      by_cases hx1 : x < 1000000000000000000
      · obtain ⟨d, e, hd⟩ := fin (num ((s * 69621 + x + 11) % 2147483629) (n + 1) m)
        have e : num ((s * 69621 + x + 11) % 2147483629) (n + 1) m = d := by
          rw [← e]; unfold num; rw [Int.emod_emod_of_dvd _ (Int.dvd_refl m)]
        refine ⟨d, ⟨cs, a + 1, 0, (s * 69621 + x + 11) % 2147483629, n + 1, hcs, hb⟩, ?_, hd⟩
        rw [← e]
        have hx3 : ¬ (1000000000000000000 ≤ x) := by omega
        simp [num, runDef, evSs, evS, evX, evAnd, evOr, evDs, evPs, M.bind, M.pure, varM, S.loc1, two, one, PV.val, Cell.toD, idxF, pickI, ixN, cmpF, eqF, ltF, D.fin, dep, eqB, ltB, alk, nonB, toB, biM, valsOf, biF, D.len, Ev.finish, Exs.isNil, asgIM, S.get, S.put, PV.lo, PV.store, bindM, bindT, M.of, binF, c10, ha, hl, hl', hx, hx', hx1, hx3, h0, h3, lg1, lg2, lg3, nb1]
      · obtain ⟨d, e, hd⟩ := fin x
        refine ⟨d, ⟨cs, a + 1, x / m, (s * 69621 + x + 11) % 2147483629, n, hcs, dv x hx0⟩, ?_, hd⟩
        rw [← e]
        have hx2 : 0 < x := by omega
        have hx3 : 1000000000000000000 ≤ x := by omega
        simp [runDef, evSs, evS, evX, evAnd, evOr, evDs, evPs, M.bind, M.pure, varM, S.loc1, two, one, PV.val, Cell.toD, idxF, pickI, ixN, cmpF, eqF, ltF, D.fin, dep, eqB, ltB, alk, nonB, toB, biM, valsOf, biF, D.len, Ev.finish, Exs.isNil, asgIM, S.get, S.put, PV.lo, PV.store, bindM, bindT, M.of, binF, c10, ha, hl, hl', hx, hx', hx1, hx2, hx3, h0, h3, lg1, lg2, lg3, nb1]
    · obtain ⟨d, e, hd⟩ := fin (num s (n + 1) m)
      have e : num s (n + 1) m = d := by
        rw [← e]; unfold num; rw [Int.emod_emod_of_dvd _ (Int.dvd_refl m)]
      refine ⟨d, ⟨cs, a, 0, s, n + 1, hcs, hb⟩, ?_, hd⟩
      rw [← e]
      have hl' : ¬ (a : Int) < cs.length := by omega
      simp [num, runDef, evSs, evS, evX, evAnd, evOr, evDs, evPs, M.bind, M.pure, varM, S.loc1, two, one, PV.val, Cell.toD, idxF, pickI, ixN, cmpF, eqF, ltF, D.fin, dep, eqB, ltB, alk, nonB, toB, biM, valsOf, biF, D.len, Ev.finish, Exs.isNil, asgIM, S.get, S.put, PV.lo, PV.store, bindM, bindT, M.of, binF, c10, hl, hl', h0, h3, lg1, lg2, lg3, nb1]
  · have hb1 : 0 < b := by omega
    obtain ⟨d, e, hd⟩ := fin b
    refine ⟨d, ⟨cs, a, b / m, s, n, hcs, dv b hb⟩, ?_, hd⟩
    rw [← e]
    simp [runDef, evSs, evS, evX, evAnd, evOr, evDs, evPs, M.bind, M.pure, varM, S.loc1, two, one, PV.val, Cell.toD, idxF, pickI, ixN, cmpF, eqF, ltF, D.fin, dep, eqB, ltB, alk, nonB, toB, biM, valsOf, biF, D.len, Ev.finish, Exs.isNil, asgIM, S.get, S.put, PV.lo, PV.store, bindM, bindT, M.of, binF, c10, hb0, hb1, h0, h3, lg1, lg2, lg3, nb1]
/-! how it begins -/
def HandF (F : FT) : Prop := ∀ ns : List Int, ns.length ≤ 63 → ∃ p : Hand, F 9 [.lst (ns.map .int)] [] = .ok (.ref 0) (p.c [])
theorem hand_run {F : FT} {ns : List Int} (hn : ns.length ≤ 63) : ∃ p : Hand, runDef G F ⟨1, 3, c9⟩ [.lst (ns.map .int)] [] = .ok (.ref 0) (p.c []) := by
  let ab : Int → Int := fun x => if x < 0 then -x else x
  refine ⟨⟨ns.map ab, 0, 0, 1 + ns.length, 0, fun x hx => ?_, by omega⟩, ?_⟩
  · obtain ⟨y, _, rfl⟩ := List.mem_map.mp hx
    simp only [ab]; split <;> omega
  · refine run_to rfl fun K kr kn => ?_
    have n1 : ns.length ≤ line := le_line (by omega)
    have hs : slF none (some 63) (.lst (ns.map .int)) = some (.lst (ns.map .int)) := by
      unfold slF cutI
      have hc : (ns.map D.int).take 63 = ns.map D.int := by rw [List.take_of_length_le]; simp; omega
      have hm : min 63 ns.length = ns.length := by omega
      simp [clipI, hm]
      rw [List.take_of_length_le (by simp)]
    simp [c9, hs]
    rw [lc_map (fun x : Int => .int (ab x)) n1 (fun x hx => by simp [ab])]
    refine kr _ _ _ rfl ?_
    simp [Hand.c, Function.comp_def]
end Pr

set_option linter.all false
set_option maxRecDepth 100000
set_option maxHeartbeats 2000000
namespace Pr
open PySem Ev
section
variable {F : FT}
/-! counts, webs -/
def HCountsF (F : FT) : Prop := ∀ (p : Hand) (r : List Cell) (n : Nat), 1 ≤ n → n ≤ 1000 → ∃ (cs : List Nat) (p' : Hand), F 11 [.ref 0, .int n] (p.c r) = .ok (.tup (cs.map ni)) (p'.c r) ∧ cs.length = n ∧ ∀ x ∈ cs, 1 ≤ x ∧ x ≤ 3
theorem hcounts_run (hD : DrawH F) {p : Hand} {r : List Cell} {n : Nat} (h1 : 1 ≤ n) (h2 : n ≤ 1000) : ∃ (cs : List Nat) (p' : Hand), runDef G F ⟨2, 3, c11⟩ [.ref 0, .int n] (p.c r) = .ok (.tup (cs.map ni)) (p'.c r) ∧ cs.length = n ∧ ∀ x ∈ cs, 1 ≤ x ∧ x ≤ 3 := by
  suffices h : ∃ x c, runDef G F ⟨2, 3, c11⟩ [.ref 0, .int n] (p.c r) = .ok x c ∧ ∃ (cs : List Nat) (p' : Hand), x = .tup (cs.map ni) ∧ c = p'.c r ∧ cs.length = n ∧ ∀ x ∈ cs, 1 ≤ x ∧ x ≤ 3 by
    obtain ⟨x, c, e, cs, p', rfl, rfl, q⟩ := h
    exact ⟨cs, p', e, q⟩
  refine run_ex rfl fun K kr => ?_
  obtain ⟨d, p1, e1, hd⟩ := hD p r 3 (by omega) (by omega)
  simp [c11, e1]
  refine seq_if (fun hc => ?_) fun hc => ?_
  · simp [bin_rep h1 h2]
    exact kr.rt _ _ _ ⟨List.replicate n 1, p1, by simp, rfl, by simp, fun x hx => by rw [List.mem_replicate] at hx; omega⟩
  · have ln : n ≤ 1000000 := by omega
    simp [rng_n ln]
    refine runs_lc (fun p' : Hand => ⟨[some (.d (.ref 0)), some (.d (.int n)), none], p'.c r⟩) (fun dn ts _ => ∃ cs : List Nat, ts = cs.map ni ∧ cs.length = dn.length ∧ ∀ x ∈ cs, 1 ≤ x ∧ x ≤ 3) p1 rfl ⟨[], rfl, rfl, by simp⟩ (by simp; exact le_line ln) ?_ (fun _ => rfl) ?_
    · rintro dn x rest ts p2 _ ⟨cs, rfl, q1, q2⟩ K2 k2
      obtain ⟨d, p3, e2, hd⟩ := hD p2 r 3 (by omega) (by omega)
      simp [e2]
      refine k2 _ _ p3 rfl ⟨cs ++ [1 + d], ?_, by simp [q1], fun x hx => ?_⟩
      · simp [ni]
      · rcases List.mem_append.mp hx with hx | hx
        · exact q2 x hx
        · rw [List.mem_singleton] at hx; omega
    · rintro ts p2 ⟨cs, rfl, q1, q2⟩
      simp
      exact kr.rt _ _ _ ⟨cs, p2, rfl, rfl, by simpa using q1, q2⟩
def HWebF (F : FT) : Prop := ∀ (p : Hand) (r : List Cell) (a b : Int), 2 ≤ a → a ≤ 12 → 1 ≤ b → b ≤ 24 → ∃ h rs ro ti p', F 12 [.ref 0, .int a, .int b] (p.c r) = .ok (wD h rs ro ti) (Hand.c p' r) ∧ VW h rs ro ti ∧ (h : Int) ≤ a
theorem hweb_run (hD : DrawH F) (hC : HCountsF F) {p : Hand} {r : List Cell} {a b : Int} (a1 : 2 ≤ a) (a2 : a ≤ 12) (b1 : 1 ≤ b) (b2 : b ≤ 24) : ∃ h rs ro ti p', runDef G F ⟨3, 9, c12⟩ [.ref 0, .int a, .int b] (p.c r) = .ok (wD h rs ro ti) (Hand.c p' r) ∧ VW h rs ro ti ∧ (h : Int) ≤ a := by
  suffices h : ∃ x c, runDef G F ⟨3, 9, c12⟩ [.ref 0, .int a, .int b] (p.c r) = .ok x c ∧ ∃ h rs ro ti p', x = wD h rs ro ti ∧ c = Hand.c p' r ∧ VW h rs ro ti ∧ (h : Int) ≤ a by
    obtain ⟨x, c, e, h, rs, ro, ti, p', rfl, rfl, q⟩ := h
    exact ⟨h, rs, ro, ti, p', e, q⟩
  refine run_ex rfl fun K kr => ?_
  obtain ⟨d0, p1, e1, h0⟩ := hD p r (a - 1) (by omega) (by omega)
  obtain ⟨d1, p2, e2, h1⟩ := hD p1 r b (by omega) (by omega)
  obtain ⟨d2, p3, e3, h2⟩ := hD p2 r 2 (by omega) (by omega)
  simp [c12, e1, e2, e3]
  have eh' : (2 : Int) + d0 = ((2 + d0 : Nat) : Int) := by omega
  have en' : (1 : Int) + d1 = ((1 + d1 : Nat) : Int) := by omega
  rw [eh', en']
  clear eh' en'
  generalize eh : 2 + d0 = h
  generalize en : 1 + d1 = n
  have ln : n ≤ 1000000 := by omega
  have hp : 0 < h := by omega
  simp [rng_n ln]
  refine runs_seq (P := fun s => ∃ (rs : List (Nat × Nat)) (p' : Hand), s = ⟨[some (.d (.ref 0)), some (.d (.int a)), some (.d (.int b)), some (.d (.int h)), some (.d (.int n)), some (.d (.int d2)), some (.own (.lst (rs.map pr))), none, none], p'.c r⟩ ∧ rs.length = n ∧ VR h rs) ?_ ?_
  · intro K1 k1
    refine runs_rng0 (fun q : List (Nat × Nat) × Hand => ⟨[some (.d (.ref 0)), some (.d (.int a)), some (.d (.int b)), some (.d (.int h)), some (.d (.int n)), some (.d (.int d2)), some (.own (.lst (q.1.map pr))), none, none], q.2.c r⟩) (fun j q => q.1.length = j ∧ VR h q.1) ([], p3) ⟨rfl, fun p hp => by simp at hp⟩ ?_ ?_
    · rintro j ⟨rs, p4⟩ hj ⟨q1, q2⟩ K2 k2
      simp only at q1 q2
      have lj : rs.length < line := lt_line (by omega)
      obtain ⟨d3, p5, e4, h3⟩ := hD p4 r h (by omega) (by omega)
      -- the road behind: from x
      have hw : ∀ (x : Nat) (p6 : Hand), x < h → Runs (evSs G F (.cons (.ex (.mm .append (.v 6) (.cons (.tup (.cons (.v 8) (.cons (.bin .mod (.bi .int (.cons (.bin .add (.bin .add (.v 8) (.int 1)) (.call .plain 10 (.cons (.v 0) (.cons (.bin .sub (.v 3) (.int 1)) .nil)))) .nil)) (.v 3)) .nil))) .nil))) .nil)
          ⟨[some (.d (.ref 0)), some (.d (.int a)), some (.d (.int b)), some (.d (.int h)), some (.d (.int n)), some (.d (.int d2)), some (.own (.lst (rs.map pr))), some (.d (.int j)), some (.d (.int x))], p6.c r⟩) K2 noEs := fun x p6 hx => by
        obtain ⟨d5, p7, e6, h5⟩ := hD p6 r (h - 1) (by omega) (by omega)
        simp [e6, hp, lj]
        refine k2.nx (rs ++ [(x, (x + 1 + d5) % h)], p7) _ ?_ ⟨by simp [q1], q2.snoc ⟨hx, Nat.mod_lt _ (by omega), ?_⟩⟩
        · simp [pr]
        · intro e
          simp only at e
          by_cases hl : x + 1 + d5 < h
          · rw [Nat.mod_eq_of_lt hl] at e; omega
          · rw [Nat.mod_eq_sub_mod (by omega), Nat.mod_eq_of_lt (by omega)] at e; omega
      simp [e4]
      refine bind_and (fun hc => ?_) fun hc => ?_
      · refine bind_and (fun hj0 => ?_) fun hj0 => ?_
        · obtain ⟨d4, p6, e5, h4⟩ := hD p5 r 4 (by omega) (by omega)
          simp [e5]
          refine seq_if (fun hd => ?_) fun hd => ?_
          · have hj0 : 0 < j := by simpa using hj0
            obtain ⟨ps, q, rfl⟩ := snoc_of (xs := rs) (by intro z; subst z; simp at q1; omega)
            have hq : q.2 < h := (q2 q (by simp)).2.1
            simp
            simpa using hw q.2 p6 hq
          · simpa using hw d3 p6 (by omega)
        · simpa using hw d3 p5 (by omega)
      · simpa using hw d3 p5 (by omega)
    · rintro ⟨rs, p4⟩ ⟨q1, q2⟩
      exact k1.nx _ ⟨rs, p4, rfl, q1, q2⟩
  · rintro s ⟨rs, p4, rfl, q1, q2⟩
    obtain ⟨ro, p5, e5, o1, o3⟩ := hC p4 r n (by omega) (by omega)
    obtain ⟨ti, p6, e6, o2, o4⟩ := hC p5 r n (by omega) (by omega)
    simp [e5, e6]
    exact kr.rt _ _ _ ⟨h, rs, ro, ti, p6, rfl, rfl, ⟨by omega, by omega, by omega, by omega, q2, by omega, by omega, o3, o4⟩, by omega⟩
end
end Pr

set_option linter.all false
set_option maxRecDepth 100000
set_option maxHeartbeats 2000000
namespace Pr
open PySem Ev
/-! ways, letters -/
def rd (rs : List (Nat × Nat)) (r : Nat) : Nat × Nat := rs.getD r (0, 0)
def nxs (rs : List (Nat × Nat)) (r : Nat) : List Nat := (List.range rs.length).filter fun i => decide ((rd rs i).1 = (rd rs r).2)
theorem rd_at {rs : List (Nat × Nat)} {r : Nat} (h : r < rs.length) : rs[r]? = some (rd rs r) := by
  unfold rd
  rw [List.getD_eq_getElem?_getD, List.getElem?_eq_getElem h]; rfl
theorem nxs_mem {rs : List (Nat × Nat)} {r i : Nat} : i ∈ nxs rs r ↔ i < rs.length ∧ (rd rs i).1 = (rd rs r).2 := by
  unfold nxs; simp
theorem nxs_len {rs : List (Nat × Nat)} {r : Nat} : (nxs rs r).length ≤ rs.length := by
  have := List.length_filter_le (fun i => decide ((rd rs i).1 = (rd rs r).2)) (List.range rs.length)
  rw [List.length_range] at this
  exact this
@[simp] theorem rd_get {rs : List (Nat × Nat)} {r : Nat} (h : r < rs.length) : rs[r]'h = rd rs r := by
  have := rd_at h
  rw [List.getElem?_eq_getElem h] at this
  exact Option.some.inj this
@[simp] theorem roads_at {rs : List (Nat × Nat)} {r : Nat} (h : r < rs.length) : idxF (.tup (rs.map pr)) (.int r) = some (pr (rd rs r)) := by
  show pickI _ (r : Int) = _
  rw [pickI_nat, List.getElem?_map, rd_at h]; rfl
structure VWay (rs : List (Nat × Nat)) (w : List Nat) : Prop where
  ne : w ≠ []
  lt : ∀ x ∈ w, x < rs.length
  ch : ∀ i, i + 1 < w.length → (rd rs (w.getD i 0)).2 = (rd rs (w.getD (i + 1) 0)).1
theorem getD_l {α : Type} {ws : List α} {x d : α} {i : Nat} (h : i < ws.length) : (ws ++ [x]).getD i d = ws.getD i d := by
  rw [List.getD_eq_getElem?_getD, List.getD_eq_getElem?_getD, List.getElem?_append_left h]
theorem getD_r {α : Type} {ws : List α} {x d : α} : (ws ++ [x]).getD ws.length d = x := by
  rw [List.getD_eq_getElem?_getD]; simp
theorem VWay.snoc {rs : List (Nat × Nat)} {ws : List Nat} {x y : Nat} (v : VWay rs (ws ++ [x])) (h : y ∈ nxs rs x) : VWay rs ((ws ++ [x]) ++ [y]) := by
  rw [nxs_mem] at h
  refine ⟨by simp, fun z hz => ?_, fun i hi => ?_⟩
  · rcases List.mem_append.mp hz with hz | hz
    · exact v.lt z hz
    · rw [List.mem_singleton] at hz; subst hz; exact h.1
  · simp at hi
    by_cases hl : i + 1 < (ws ++ [x]).length
    · rw [getD_l hl, getD_l (by omega)]
      exact v.ch i hl
    · simp at hl
      have : i = ws.length := by omega
      subst this
      rw [getD_l (by simp), getD_r]
      have : ws.length + 1 = (ws ++ [x]).length := by simp
      rw [this, getD_r, h.2]
section
variable {F : FT}
def HNextF (F : FT) : Prop := ∀ (h : Nat) (rs : List (Nat × Nat)) (ro ti : List Nat) (x : Nat) (c : List Cell), rs.length ≤ 24 → x < rs.length → F 13 [wD h rs ro ti, .int x] c = .ok (.lst ((nxs rs x).map ni)) c
theorem hnext_run {h : Nat} {rs : List (Nat × Nat)} {ro ti : List Nat} {x : Nat} {c : List Cell} (l2 : rs.length ≤ 24) (hx : x < rs.length) : runDef G F ⟨2, 3, c13⟩ [wD h rs ro ti, .int x] c = .ok (.lst ((nxs rs x).map ni)) c := by
  refine run_to rfl fun K kr kn => ?_
  have ln : rs.length ≤ 1000000 := by omega
  simp [c13, rng_n ln]
  rw [lc_pure (fun j : Nat => decide ((rd rs j).1 = (rd rs x).2)) ni (by simp; exact le_line ln) (fun j hj => ?_)]
  · simp
    exact kr _ _ _ rfl rfl
  · have hj : j < rs.length := by simpa using hj
    simp [hj, hx, ni, Int.natCast_inj]
def HWayF (F : FT) : Prop := ∀ (p : Hand) (r : List Cell) (h : Nat) (rs : List (Nat × Nat)) (ro ti : List Nat) (m : Nat), VW h rs ro ti → 1 ≤ m → m ≤ 1000 → ∃ w p', F 14 [.ref 0, wD h rs ro ti, .int m] (p.c r) = .ok (.tup (w.map ni)) (Hand.c p' r) ∧ VWay rs w ∧ w.length ≤ m
theorem hway_run (hD : DrawH F) (hN : HNextF F) {p : Hand} {r : List Cell} {h : Nat} {rs : List (Nat × Nat)} {ro ti : List Nat} {m : Nat} (V : VW h rs ro ti) (m1 : 1 ≤ m) (m2 : m ≤ 1000) : ∃ w p', runDef G F ⟨3, 6, c14⟩ [.ref 0, wD h rs ro ti, .int m] (p.c r) = .ok (.tup (w.map ni)) (Hand.c p' r) ∧ VWay rs w ∧ w.length ≤ m := by
  suffices hh : ∃ x c, runDef G F ⟨3, 6, c14⟩ [.ref 0, wD h rs ro ti, .int m] (p.c r) = .ok x c ∧ ∃ (w : List Nat) (p' : Hand), x = .tup (w.map ni) ∧ c = Hand.c p' r ∧ VWay rs w ∧ w.length ≤ m by
    obtain ⟨x, c, e, w, p', rfl, rfl, q⟩ := hh
    exact ⟨w, p', e, q⟩
  refine run_ex rfl fun K kr => ?_
  have l1 := V.l1
  have l2 := V.l2
  obtain ⟨d0, p1, e1, h0⟩ := hD p r rs.length (by omega) (by omega)
  obtain ⟨d1, p2, e2, h1⟩ := hD p1 r m (by omega) (by omega)
  have ln : d1 ≤ 1000000 := by omega
  simp [c14, e1, e2, rng_n ln]
  refine runs_seq (P := fun s => ∃ (w : List Nat) (p' : Hand), s = ⟨[some (.d (.ref 0)), some (.d (wD h rs ro ti)), some (.d (.int m)), some (.d (.tup (w.map ni))), none, none], p'.c r⟩ ∧ VWay rs w ∧ w.length ≤ m) ?_ ?_
  · intro K1 k1
    refine runs_rng0 (fun q : List Nat × Hand => ⟨[some (.d (.ref 0)), some (.d (wD h rs ro ti)), some (.d (.int m)), some (.d (.tup (q.1.map ni))), none, none], q.2.c r⟩) (fun j q => q.1.length ≤ j + 1 ∧ VWay rs q.1) ([d0], p2) ⟨by simp, by simp, fun x hx => by simp at hx; omega, fun i hi => by simp at hi⟩ ?_ ?_
    · rintro j ⟨w, p3⟩ hj ⟨q1, q2⟩ K2 k2
      simp only at q1 q2
      obtain ⟨ws, x, rfl⟩ := snoc_of q2.ne
      have hx : x < rs.length := q2.lt x (by simp)
      have e3 := hN h rs ro ti x (p3.c r) l2 hx
      simp [ni_def] at e3 ⊢
      simp [e3]
      have n1 := nxs_len (rs := rs) (r := x)
      refine runs_if (fun hc => ?_) fun hc => ?_
      · have hc : 0 < (nxs rs x).length := by simpa using hc
        obtain ⟨d2, p4, e4, h2⟩ := hD p3 r (nxs rs x).length (by omega) (by omega)
        have h2 : d2 < (nxs rs x).length := by omega
        have lw : ws.length + 1 + 1 ≤ line := le_line (by simp at q1; omega)
        simp [e4, h2, lw]
        refine k2.nx ((ws ++ [x]) ++ [(nxs rs x)[d2]], p4) _ ?_ ⟨by simp at q1 ⊢; omega, q2.snoc (List.getElem_mem h2)⟩
        simp [ni]
      · exact rok (k2.nx (ws ++ [x], p3) _ (by simp [ni]) ⟨by simp at q1 ⊢; omega, q2⟩)
    · rintro ⟨w, p3⟩ ⟨q1, q2⟩
      exact k1.nx _ ⟨w, p3, rfl, q2, by simp only at q1; omega⟩
  · rintro s ⟨w, p3, rfl, q1, q2⟩
    simp
    exact kr.rt _ _ _ ⟨w, p3, rfl, rfl, q1, q2⟩
/-- a letter: a way, a tick -/
def ltD (l : List Nat × Nat) : D := .tup [.tup (l.1.map ni), .int l.2]
@[simp] theorem ref_lt {l : List Nat × Nat} : D.isRef (ltD l) = false := (rfl)
@[simp] theorem lt_0 {l : List Nat × Nat} : idxF (ltD l) (.int 0) = some (.tup (l.1.map ni)) := (rfl)
@[simp] theorem lt_1 {l : List Nat × Nat} : idxF (ltD l) (.int 1) = some (.int l.2) := (rfl)
structure VL (rs : List (Nat × Nat)) (m : Nat) (l : List Nat × Nat) : Prop where
  way : VWay rs l.1
  len : l.1.length ≤ 5
  c1 : 1 ≤ l.2
  c2 : l.2 ≤ m
def HLettersF (F : FT) : Prop := ∀ (p : Hand) (r : List Cell) (h : Nat) (rs : List (Nat × Nat)) (ro ti : List Nat) (n m : Nat), VW h rs ro ti → n ≤ 1000 → 1 ≤ m → m ≤ 1000 → ∃ (ls : List (List Nat × Nat)) (p' : Hand), F 15 [.ref 0, wD h rs ro ti, .int n, .int m] (p.c r) = .ok (.tup (ls.map ltD)) (Hand.c p' r) ∧ ls.length = n ∧ ∀ l ∈ ls, VL rs m l
theorem hletters_run (hD : DrawH F) (hW : HWayF F) {p : Hand} {r : List Cell} {h : Nat} {rs : List (Nat × Nat)} {ro ti : List Nat} {n m : Nat} (V : VW h rs ro ti) (n1 : n ≤ 1000) (m1 : 1 ≤ m) (m2 : m ≤ 1000) : ∃ (ls : List (List Nat × Nat)) (p' : Hand), runDef G F ⟨4, 5, c15⟩ [.ref 0, wD h rs ro ti, .int n, .int m] (p.c r) = .ok (.tup (ls.map ltD)) (Hand.c p' r) ∧ ls.length = n ∧ ∀ l ∈ ls, VL rs m l := by
  suffices hh : ∃ x c, runDef G F ⟨4, 5, c15⟩ [.ref 0, wD h rs ro ti, .int n, .int m] (p.c r) = .ok x c ∧ ∃ (ls : List (List Nat × Nat)) (p' : Hand), x = .tup (ls.map ltD) ∧ c = Hand.c p' r ∧ ls.length = n ∧ ∀ l ∈ ls, VL rs m l by
    obtain ⟨x, c, e, w, p', rfl, rfl, q⟩ := hh
    exact ⟨w, p', e, q⟩
  refine run_ex rfl fun K kr => ?_
  have ln : n ≤ 1000000 := by omega
  simp [c15, rng_n ln]
  refine runs_lc (fun p' : Hand => ⟨[some (.d (.ref 0)), some (.d (wD h rs ro ti)), some (.d (.int n)), some (.d (.int m)), none], p'.c r⟩) (fun dn ts _ => ∃ ls : List (List Nat × Nat), ts = ls.map ltD ∧ ls.length = dn.length ∧ ∀ l ∈ ls, VL rs m l) p rfl ⟨[], rfl, rfl, by simp⟩ (by simp; exact le_line ln) ?_ (fun _ => rfl) ?_
  · rintro dn x rest ts p2 _ ⟨ls, rfl, q1, q2⟩ K2 k2
    obtain ⟨w, p3, e3, v, lw⟩ := hW p2 r h rs ro ti 5 V (by omega) (by omega)
    obtain ⟨d, p4, e4, hd⟩ := hD p3 r m (by omega) (by omega)
    simp at e3
    simp [e3, e4]
    refine k2 _ _ p4 rfl ⟨ls ++ [(w, 1 + d)], ?_, by simp [q1], fun x hx => ?_⟩
    · simp [ltD]
    · rcases List.mem_append.mp hx with hx | hx
      · exact q2 x hx
      · rw [List.mem_singleton] at hx; subst hx
        exact ⟨v, lw, by simp, by simp; omega⟩
  · rintro ts p2 ⟨ls, rfl, q1, q2⟩
    simp
    exact kr.rt _ _ _ ⟨ls, p2, rfl, rfl, by simpa using q1, q2⟩
end
end Pr

set_option linter.all false
set_option maxRecDepth 100000
set_option maxHeartbeats 2000000
namespace Pr
open PySem Ev
/-! hours: a day is led at random -/
def tm (ti : List Nat) (x : Nat) : Nat := ti.getD x 0
def rdy (ti : List Nat) (l : List Nat × Nat) (row : List Nat) : Option Nat :=
  if row.length = l.1.length then none else if row.length = 0 then some l.2 else some (row.getD (row.length - 1) 0 + tm ti (l.1.getD (row.length - 1) 0))
def onD : Option Nat → D
  | none => .non
  | some n => .int n
@[simp] theorem on_non : onD none = .non := (rfl)
@[simp] theorem on_some {n : Nat} : onD (some n) = .int n := (rfl)
@[simp] theorem ref_on {o : Option Nat} : D.isRef (onD o) = false := by cases o <;> rfl
theorem getD_at {α : Type} {xs : List α} {i : Nat} {d : α} (h : i < xs.length) : xs[i]? = some (xs.getD i d) := by
  rw [List.getD_eq_getElem?_getD, List.getElem?_eq_getElem h]; rfl
theorem pick_neg {α : Type} {xs : List α} {d : α} (h : 0 < xs.length) : pickI xs (-1) = some (xs.getD (xs.length - 1) d) := by
  obtain ⟨ys, y, rfl⟩ := snoc_of (xs := xs) (by intro z; subst z; simp at h)
  have : (ys ++ [y]).length - 1 = ys.length := by simp
  rw [pick_last, this, getD_r]
@[simp] theorem cel_at {r s : List Cell} {x : Nat} : (r ++ s)[r.length + x]? = s[x]? := by
  rw [List.getElem?_append_right (by omega)]; congr 1; omega
@[simp] theorem cel_set {r s : List Cell} {x : Nat} {y : Cell} : (r ++ s).set (r.length + x) y = r ++ s.set x y := by
  rw [List.set_append_right _ _ (by omega)]; congr 2; omega
section
variable {F : FT}
end
/-! ticks -/
abbrev Ls := List (List Nat × Nat)
def rowAt (rows : List (List Nat)) (m : Nat) : List Nat := rows.getD m []
def ltAt (ls : Ls) (m : Nat) : List Nat × Nat := ls.getD m ([], 0)
def tot (rows : List (List Nat)) : Nat := (rows.map List.length).sum
theorem tot_le : ∀ {rows rows' : List (List Nat)}, rows.length = rows'.length → (∀ m, (rowAt rows m).length ≤ (rowAt rows' m).length) → tot rows ≤ tot rows'
  | [], [], _, _ => Nat.le_refl _
  | a :: as, b :: bs, hl, h => by
    have := tot_le (rows := as) (rows' := bs) (by simpa using hl) fun m => h (m + 1)
    have h0 : a.length ≤ b.length := h 0
    simp [tot] at this ⊢
    omega
theorem tot_lt : ∀ {rows rows' : List (List Nat)} {m : Nat}, rows.length = rows'.length → (∀ m, (rowAt rows m).length ≤ (rowAt rows' m).length) → (rowAt rows m).length < (rowAt rows' m).length → tot rows + 1 ≤ tot rows'
  | [], [], _, _, _, h => absurd h (Nat.lt_irrefl _)
  | a :: as, b :: bs, 0, hl, h, h1 => by
    have := tot_le (rows := as) (rows' := bs) (by simpa using hl) fun m => h (m + 1)
    have h0 : a.length < b.length := h1
    simp [tot] at this ⊢
    omega
  | a :: as, b :: bs, m + 1, hl, h, h1 => by
    have := tot_lt (rows := as) (rows' := bs) (m := m) (by simpa using hl) (fun m => h (m + 1)) h1
    have h0 : a.length ≤ b.length := h 0
    simp [tot] at this ⊢
    omega
theorem tot_max {k : Nat} : ∀ {rows : List (List Nat)}, (∀ m, (rowAt rows m).length ≤ k) → tot rows ≤ k * rows.length
  | [], _ => by simp [tot]
  | a :: as, h => by
    have := tot_max (k := k) (rows := as) fun m => h (m + 1)
    have h0 : a.length ≤ k := h 0
    simp [tot] at this ⊢
    rw [Nat.mul_add]
    omega
/-- a letter's row so far: t: the last tick that is over -/
structure RowOk (ti : List Nat) (l : List Nat × Nat) (row : List Nat) (t : Nat) : Prop where
  len : row.length ≤ l.1.length
  fst : 0 < row.length → l.2 ≤ row.getD 0 0
  stp : ∀ i, i + 1 < row.length → row.getD i 0 + tm ti (l.1.getD i 0) ≤ row.getD (i + 1) 0
  le : ∀ x ∈ row, x ≤ t
theorem RowOk.mono {ti : List Nat} {l : List Nat × Nat} {row : List Nat} {t t' : Nat} (h : RowOk ti l row t) (ht : t ≤ t') : RowOk ti l row t' := ⟨h.len, h.fst, h.stp, fun x hx => Nat.le_trans (h.le x hx) ht⟩
theorem RowOk.snoc {ti : List Nat} {l : List Nat × Nat} {row : List Nat} {t u ρ : Nat} (h : RowOk ti l row u) (hu : u ≤ t) (hr : rdy ti l row = some ρ) (hρ : ρ ≤ t) : RowOk ti l (row ++ [t]) t := by
  unfold rdy at hr
  by_cases hc : row.length = l.1.length
  · rw [if_pos hc] at hr; cases hr
  rw [if_neg hc] at hr
  have hlen := h.len
  refine ⟨by simp; omega, fun _ => ?_, fun i hi => ?_, fun x hx => ?_⟩
  · by_cases h0 : row.length = 0
    · rw [if_pos h0] at hr; cases hr
      rw [List.length_eq_zero_iff.mp h0]; exact hρ
    · rw [getD_l (by omega)]; exact h.fst (by omega)
  · simp at hi
    rw [getD_l (by omega)]
    by_cases hi2 : i + 1 < row.length
    · rw [getD_l hi2]; exact h.stp i hi2
    · have e : i = row.length - 1 := by omega
      have e2 : i + 1 = row.length := by omega
      rw [e2, getD_r, e]
      rw [if_neg (by omega)] at hr
      cases hr
      exact hρ
  · rcases List.mem_append.mp hx with hx | hx
    · exact Nat.le_trans (h.le x hx) hu
    · rw [List.mem_singleton] at hx; omega
theorem rdy_le {ti : List Nat} {l : List Nat × Nat} {row : List Nat} {t ρ : Nat} (h : RowOk ti l row t) (ht : ∀ x, tm ti x ≤ 3) (h0 : 0 < row.length) (hr : rdy ti l row = some ρ) : ρ ≤ t + 3 := by
  unfold rdy at hr
  split at hr
  · cases hr
  · rw [if_neg (by omega)] at hr
    cases hr
    have := ht (l.1.getD (row.length - 1) 0)
    have := h.le (row.getD (row.length - 1) 0) (by rw [List.getD_eq_getElem?_getD, List.getElem?_eq_getElem (by omega)]; exact List.getElem_mem _)
    omega
/-- how far the day is at the head of tick t -/
structure Hd (ti : List Nat) (ls : Ls) (rows : List (List Nat)) (t : Nat) : Prop where
  n : rows.length = ls.length
  ok : ∀ m, m < ls.length → RowOk ti (ltAt ls m) (rowAt rows m) (t - 1)
  far : ∀ m, m < ls.length → ∀ ρ, rdy ti (ltAt ls m) (rowAt rows m) = some ρ → t ≤ 25 + tot rows + 2 * (rowAt rows m).length ∧ ρ ≤ 25 + tot rows + 2 * (rowAt rows m).length
/-- one tick -/
structure Tk (ti : List Nat) (ls : Ls) (rows rows' : List (List Nat)) (t : Nat) : Prop where
  n : rows'.length = rows.length
  each : ∀ m, rowAt rows' m = rowAt rows m ∨ m < ls.length ∧ (∃ ρ, rdy ti (ltAt ls m) (rowAt rows m) = some ρ ∧ ρ ≤ t) ∧ rowAt rows' m = rowAt rows m ++ [t]
  some : 24 ≤ t → (∃ m, m < ls.length ∧ ∃ ρ, rdy ti (ltAt ls m) (rowAt rows m) = some ρ ∧ ρ ≤ t) → ∃ m, rowAt rows' m = rowAt rows m ++ [t]
theorem Hd.step {ti : List Nat} {ls : Ls} {rows rows' : List (List Nat)} {t : Nat} (h : Hd ti ls rows t) (k : Tk ti ls rows rows' t) (t1 : 1 ≤ t) (ht : ∀ x, tm ti x ≤ 3) : Hd ti ls rows' (t + 1) := by
  have le : ∀ m, (rowAt rows m).length ≤ (rowAt rows' m).length := fun m => by
    rcases k.each m with e | ⟨_, _, e⟩ <;> rw [e] <;> simp
  have tle := tot_le k.n.symm le
  refine ⟨k.n.trans h.n, fun m hm => ?_, fun m hm ρ hρ => ?_⟩
  · rcases k.each m with e | ⟨_, ⟨ρ, q1, q2⟩, e⟩
    · rw [e]; exact (h.ok m hm).mono (by omega)
    · rw [e]; exact (h.ok m hm).snoc (by omega) q1 q2
  · rcases k.each m with e | ⟨_, ⟨ρ0, q1, q2⟩, e⟩
    · rw [e] at hρ ⊢
      obtain ⟨f1, f2⟩ := h.far m hm ρ hρ
      refine ⟨?_, by omega⟩
      by_cases c : ρ ≤ t
      · by_cases c2 : 24 ≤ t
        · obtain ⟨m', e'⟩ := k.some c2 ⟨m, hm, ρ, hρ, c⟩
          have := tot_lt (m := m') k.n.symm le (by rw [e']; simp)
          omega
        · omega
      · omega
    · obtain ⟨f1, f2⟩ := h.far m hm ρ0 q1
      have := tot_lt (m := m) k.n.symm le (by rw [e]; simp)
      have h3 := rdy_le (t := t) ((h.ok m hm).snoc (by omega) q1 q2) ht (by simp) (by rw [e] at hρ; exact hρ)
      rw [e]
      simp
      omega
theorem Hd.begin {rs : List (Nat × Nat)} {ti : List Nat} {ls : Ls} {sp : Nat} (hv : ∀ l ∈ ls, VL rs sp l) (h6 : sp ≤ 24) : Hd ti ls (List.replicate ls.length []) 1 := by
  have e : ∀ m, rowAt (List.replicate ls.length ([] : List Nat)) m = [] := fun m => by
    unfold rowAt
    rw [List.getD_eq_getElem?_getD, List.getElem?_replicate]
    split <;> rfl
  refine ⟨by simp, fun m hm => ?_, fun m hm ρ hρ => ?_⟩
  · rw [e]; exact ⟨by simp, by simp, by simp, by simp⟩
  · rw [e] at hρ ⊢
    have hl : VL rs sp (ltAt ls m) := hv _ (by unfold ltAt; rw [List.getD_eq_getElem?_getD, List.getElem?_eq_getElem hm]; exact List.getElem_mem hm)
    have := hl.c2
    unfold rdy at hρ
    split at hρ
    · cases hρ
    · simp at hρ
      omega
/-- everybody is home -/
theorem Hd.home {rs : List (Nat × Nat)} {ti : List Nat} {ls : Ls} {rows : List (List Nat)} {sp : Nat} (h : Hd ti ls rows 400) (hv : ∀ l ∈ ls, VL rs sp l) (hn : ls.length ≤ 70) : ∀ m, m < ls.length → (rowAt rows m).length = (ltAt ls m).1.length := by
  intro m hm
  have hl : ∀ m, m < ls.length → VL rs sp (ltAt ls m) := fun m hm => hv _ (by unfold ltAt; rw [List.getD_eq_getElem?_getD, List.getElem?_eq_getElem hm]; exact List.getElem_mem hm)
  have h5 : ∀ m, (rowAt rows m).length ≤ 5 := fun m => by
    by_cases hm : m < ls.length
    · have := (h.ok m hm).len
      have := (hl m hm).len
      omega
    · have : rowAt rows m = [] := by
        unfold rowAt
        rw [List.getD_eq_getElem?_getD, List.getElem?_eq_none (by rw [h.n]; omega)]; rfl
      rw [this]; simp
  have t5 := tot_max h5
  rw [h.n] at t5
  by_cases c : (rowAt rows m).length = (ltAt ls m).1.length
  · exact c
  · exfalso
    obtain ⟨ρ, hρ⟩ : ∃ ρ, rdy ti (ltAt ls m) (rowAt rows m) = some ρ := by
      unfold rdy
      rw [if_neg c]
      split <;> exact ⟨_, rfl⟩
    have := (h.far m hm ρ hρ).1
    have := h5 m
    omega
/-! who passes where -/
def passAt (l : List Nat × Nat) (row : List Nat) : List (Nat × Nat) := l.1.zip row
def cntP (ls : Ls) (rows : List (List Nat)) (x u : Nat) : Nat := ((List.range ls.length).map fun m => (passAt (ltAt ls m) (rowAt rows m)).count (x, u)).sum
def RoomOk (ro : List Nat) (ls : Ls) (rows : List (List Nat)) : Prop := ∀ x u, x < ro.length → cntP ls rows x u ≤ ro.getD x 0
theorem sum_cong {f g : Nat → Nat} : ∀ {n : Nat}, (∀ m, m < n → g m = f m) → ((List.range n).map g).sum = ((List.range n).map f).sum
  | 0, _ => rfl
  | n + 1, h => by
    rw [List.range_succ, List.map_append, List.map_append, List.sum_append, List.sum_append, sum_cong fun m hm => h m (by omega)]
    simp [h n (by omega)]
theorem sum_zero : ∀ {n : Nat}, ((List.range n).map fun _ => 0).sum = 0
  | 0 => rfl
  | n + 1 => by rw [List.range_succ, List.map_append, List.sum_append, sum_zero]; rfl
theorem sum_upd {f g : Nat → Nat} {k δ : Nat} : ∀ {n : Nat}, k < n → (∀ m, m ≠ k → g m = f m) → g k = f k + δ → ((List.range n).map g).sum = ((List.range n).map f).sum + δ
  | 0, hk, _, _ => absurd hk (by omega)
  | n + 1, hk, h, e => by
    rw [List.range_succ, List.map_append, List.map_append, List.sum_append, List.sum_append]
    by_cases c : k = n
    · subst c
      rw [sum_cong (f := f) (g := g) fun m hm => h m (by omega)]
      simp [e]; omega
    · rw [sum_upd (n := n) (by omega) h e]
      simp [h n (Ne.symm c)]; omega
theorem pass_snoc {l : List Nat × Nat} {row : List Nat} {t w : Nat} (hw : l.1[row.length]? = some w) : passAt l (row ++ [t]) = passAt l row ++ [(w, t)] := by
  unfold passAt
  obtain ⟨hl, ew⟩ := List.getElem?_eq_some_iff.mp hw
  obtain ⟨a, b, e, ln⟩ : ∃ a b, l.1 = a ++ w :: b ∧ a.length = row.length := ⟨l.1.take row.length, l.1.drop (row.length + 1), by rw [← ew, ← List.drop_eq_getElem_cons hl, List.take_append_drop], by rw [List.length_take]; omega⟩
  rw [e]
  have h1 : (a ++ w :: b).zip (row ++ [t]) = a.zip row ++ [(w, t)] := by
    rw [List.zip_append ln]; simp
  have h2 : (a ++ w :: b).zip row = a.zip row := by
    have := List.zip_append (l₁ := a) (r₁ := w :: b) (l₂ := row) (r₂ := []) ln
    simpa using this
  rw [h1, h2]
theorem rowAt_set' {rows : List (List Nat)} {x m : Nat} {row : List Nat} (h : x < rows.length) : rowAt (rows.set x row) m = if m = x then row else rowAt rows m := by
  unfold rowAt
  rw [List.getD_eq_getElem?_getD, List.getD_eq_getElem?_getD, List.getElem?_set]
  by_cases e : x = m
  · subst e; simp [h]
  · simp [e, Ne.symm e]
theorem cnt_pass {ls : Ls} {rows : List (List Nat)} {m t w x u : Nat} (hm : m < ls.length) (lx : m < rows.length) (hw : (ltAt ls m).1[(rowAt rows m).length]? = some w) :
    cntP ls (rows.set m (rowAt rows m ++ [t])) x u = cntP ls rows x u + if w = x ∧ t = u then 1 else 0 := by
  unfold cntP
  refine sum_upd hm (fun k hk => ?_) ?_
  · rw [rowAt_set' lx, if_neg hk]
  · rw [rowAt_set' lx, if_pos rfl, pass_snoc hw, List.count_append, List.count_singleton]
    congr 1
    by_cases c : w = x ∧ t = u
    · rw [if_pos c, c.1, c.2]; simp
    · rw [if_neg c]
      have : ¬ ((w, t) = (x, u)) := fun z => c ⟨congrArg Prod.fst z, congrArg Prod.snd z⟩
      simp [this]
theorem cnt_zero {ti : List Nat} {ls : Ls} {rows : List (List Nat)} {t x : Nat} (t1 : 1 ≤ t) (h : ∀ m, m < ls.length → RowOk ti (ltAt ls m) (rowAt rows m) (t - 1)) : cntP ls rows x t = 0 := by
  unfold cntP
  refine (sum_cong (f := fun _ => 0) fun m hm => ?_).trans sum_zero
  rw [List.count_eq_zero]
  intro hc
  have := (List.of_mem_zip hc).2
  have := (h m hm).le _ this
  omega
end Pr

set_option linter.all false
set_option maxRecDepth 100000
set_option maxHeartbeats 4000000
namespace Pr
open PySem Ev
/-! hours: the walk -/
def rowC (row : List Nat) : Cell := .lst (row.map ni)
def rowD (row : List Nat) : D := .tup (row.map ni)
def rowsC (rows : List (List Nat)) : List Cell := rows.map rowC
def refsL (k n : Nat) : List D := (List.range n).map fun i => D.ref (k + i + 1)
theorem refsL_at {k n x : Nat} (h : x < n) : (refsL k n)[x]? = some (.ref (k + x + 1)) := by
  unfold refsL
  rw [List.getElem?_map, List.getElem?_range h]; rfl
theorem rowsC_at {rows : List (List Nat)} {x : Nat} (h : x < rows.length) : (rowsC rows)[x]? = some (.lst ((rowAt rows x).map ni)) := by
  unfold rowsC rowAt
  rw [List.getElem?_map, getD_at (d := []) h]; rfl
theorem rowsC_set {rows : List (List Nat)} {x : Nat} {row : List Nat} : (rowsC rows).set x (.lst (row.map ni)) = rowsC (rows.set x row) := by
  unfold rowsC
  rw [List.map_set]; rfl
theorem rowAt_set {rows : List (List Nat)} {x m : Nat} {row : List Nat} (h : x < rows.length) : rowAt (rows.set x row) m = if m = x then row else rowAt rows m := by
  unfold rowAt
  rw [List.getD_eq_getElem?_getD, List.getD_eq_getElem?_getD, List.getElem?_set]
  by_cases e : x = m
  · subst e; simp [h]
  · simp [e, Ne.symm e]
structure WSt where
  order : List Nat
  rows : List (List Nat)
  free : List Nat
  p : Hand
def Rdy (ti : List Nat) (ls : Ls) (rows : List (List Nat)) (t m : Nat) : Prop := ∃ ρ, rdy ti (ltAt ls m) (rowAt rows m) = some ρ ∧ ρ ≤ t
structure WI (ti : List Nat) (ls : Ls) (ro : List Nat) (rows0 : List (List Nat)) (t : Nat) (b : WSt) : Prop where
  n : b.rows.length = rows0.length
  fl : b.free.length = ro.length
  nd : b.order.Nodup
  lt : ∀ m ∈ b.order, m < ls.length
  a : ∀ m ∈ b.order, rowAt b.rows m = rowAt rows0 m
  e : ∀ m, rowAt b.rows m = rowAt rows0 m ∨ m < ls.length ∧ Rdy ti ls rows0 t m ∧ rowAt b.rows m = rowAt rows0 m ++ [t]
  r : ∀ x, x < ro.length → b.free.getD x 0 + cntP ls b.rows x t = ro.getD x 0
  q : ∀ x u, u ≠ t → cntP ls b.rows x u = cntP ls rows0 x u
  s : (b.rows = rows0 ∧ b.free = ro ∧ (24 ≤ t → ∀ m, m < ls.length → Rdy ti ls rows0 t m → m ∈ b.order)) ∨ ∃ m, rowAt b.rows m = rowAt rows0 m ++ [t]
theorem nodup_at {α : Type} {l : List α} (h : l.Nodup) {i j : Nat} {x : α} (hi : l[i]? = some x) (hj : l[j]? = some x) : i = j := by
  obtain ⟨h1, e1⟩ := List.getElem?_eq_some_iff.mp hi
  obtain ⟨h2, e2⟩ := List.getElem?_eq_some_iff.mp hj
  have pw := List.pairwise_iff_getElem.mp h
  rcases Nat.lt_trichotomy i j with z | z | z
  · exact absurd (e1.trans e2.symm) (pw i j h1 h2 z)
  · exact z
  · exact absurd (e2.trans e1.symm) (pw j i h2 h1 z)
theorem er_map {α β : Type} {g : α → β} : ∀ {l : List α} {d : Nat}, (l.map g).eraseIdx d = (l.eraseIdx d).map g
  | [], _ => rfl
  | _ :: _, 0 => rfl
  | x :: l, d + 1 => by
    show g x :: (l.map g).eraseIdx d = g x :: (l.eraseIdx d).map g
    rw [er_map]
theorem mem_er {l : List Nat} {d m x : Nat} (hd : l[d]? = some x) (hm : m ∈ l) (h : m ≠ x) : m ∈ l.eraseIdx d := by
  rw [List.mem_eraseIdx_iff_getElem?]
  obtain ⟨i, hi⟩ := List.mem_iff_getElem?.mp hm
  refine ⟨i, fun e => ?_, hi⟩
  subst e
  rw [hd] at hi
  exact h (Option.some.inj hi).symm
theorem ne_er {l : List Nat} {d m x : Nat} (hn : l.Nodup) (hd : l[d]? = some x) (hm : m ∈ l.eraseIdx d) : m ∈ l ∧ m ≠ x := by
  rw [List.mem_eraseIdx_iff_getElem?] at hm
  obtain ⟨i, h1, h2⟩ := hm
  refine ⟨List.mem_iff_getElem?.mpr ⟨i, h2⟩, fun e => ?_⟩
  subst e
  exact h1 (nodup_at hn h2 hd)
theorem WI.pass {ti : List Nat} {ls : Ls} {ro : List Nat} {rows0 : List (List Nat)} {t d x w f : Nat} {b : WSt} {p' : Hand} (h : WI ti ls ro rows0 t b) (hn : rows0.length = ls.length) (hd : b.order[d]? = some x) (hr : Rdy ti ls rows0 t x) (hw : (ltAt ls x).1[(rowAt b.rows x).length]? = some w) (hf : b.free[w]? = some (f + 1)) :
    WI ti ls ro rows0 t ⟨b.order.eraseIdx d, b.rows.set x (rowAt b.rows x ++ [t]), b.free.set w f, p'⟩ := by
  have hx : x ∈ b.order := List.mem_iff_getElem?.mpr ⟨d, hd⟩
  have lx : x < b.rows.length := by rw [h.n, hn]; exact h.lt x hx
  refine ⟨by simp [h.n], by simp [h.fl], h.nd.sublist (List.eraseIdx_sublist ..), fun m hm => h.lt m (ne_er h.nd hd hm).1, fun m hm => ?_, fun m => ?_, fun y hy => ?_, fun y u hu => ?_, .inr ⟨x, ?_⟩⟩
  · obtain ⟨q1, q2⟩ := ne_er h.nd hd hm
    simp only
    rw [rowAt_set lx, if_neg q2]; exact h.a m q1
  · simp only
    rw [rowAt_set lx]
    by_cases e : m = x
    · subst e
      rw [if_pos rfl]
      exact .inr ⟨h.lt m hx, hr, by rw [h.a m hx]⟩
    · rw [if_neg e]; exact h.e m
  · simp only
    rw [cnt_pass (h.lt x hx) lx hw]
    have hr := h.r y hy
    by_cases c : w = y
    · subst c
      have hl := (List.getElem?_eq_some_iff.mp hf).1
      have e0 : b.free.getD w 0 = f + 1 := by rw [List.getD_eq_getElem?_getD, hf]; rfl
      have e1 : (b.free.set w f).getD w 0 = f := by rw [List.getD_eq_getElem?_getD, List.getElem?_set_self hl]; rfl
      rw [e1, if_pos ⟨rfl, rfl⟩]
      rw [e0] at hr
      omega
    · have e1 : (b.free.set w f).getD y 0 = b.free.getD y 0 := by rw [List.getD_eq_getElem?_getD, List.getElem?_set_ne c, ← List.getD_eq_getElem?_getD]
      rw [e1, if_neg (fun z => c z.1)]; exact hr
  · simp only
    rw [cnt_pass (h.lt x hx) lx hw, if_neg (fun z => hu z.2.symm)]
    exact h.q y u hu
  · simp only
    rw [rowAt_set lx, if_pos rfl, h.a x hx]
theorem WI.skip {ti : List Nat} {ls : Ls} {ro : List Nat} {rows0 : List (List Nat)} {t d x : Nat} {b : WSt} {p' : Hand} (h : WI ti ls ro rows0 t b) (hd : b.order[d]? = some x) (hr : 24 ≤ t → b.free = ro → ¬ Rdy ti ls rows0 t x) :
    WI ti ls ro rows0 t ⟨b.order.eraseIdx d, b.rows, b.free, p'⟩ := by
  refine ⟨h.n, h.fl, h.nd.sublist (List.eraseIdx_sublist ..), fun m hm => h.lt m (ne_er h.nd hd hm).1, fun m hm => h.a m (ne_er h.nd hd hm).1, h.e, h.r, h.q, ?_⟩
  rcases h.s with ⟨q1, q2, q3⟩ | q
  · exact .inl ⟨q1, q2, fun h24 m hm k => mem_er hd (q3 h24 m hm k) fun e => hr h24 q2 (e ▸ k)⟩
  · exact .inr q
theorem WI.fin {ti : List Nat} {ls : Ls} {ro : List Nat} {rows0 : List (List Nat)} {t : Nat} {b : WSt} (h : WI ti ls ro rows0 t b) (h0 : b.order = []) : Tk ti ls rows0 b.rows t := by
  refine ⟨h.n, fun m => ?_, fun h24 ⟨m, hm, k⟩ => ?_⟩
  · rcases h.e m with e | ⟨q1, q2, q3⟩
    · exact .inl e
    · exact .inr ⟨q1, q2, q3⟩
  · rcases h.s with ⟨_, _, q3⟩ | q
    · have := q3 h24 m hm k
      rw [h0] at this; simp at this
    · exact q
theorem WI.room {ti : List Nat} {ls : Ls} {ro : List Nat} {rows0 : List (List Nat)} {t : Nat} {b : WSt} (h : WI ti ls ro rows0 t b) (h0 : RoomOk ro ls rows0) : RoomOk ro ls b.rows := fun x u hx => by
  by_cases e : u = t
  · rw [e]; have := h.r x hx; omega
  · rw [h.q x u e]; exact h0 x u hx
structure DayOk (ti : List Nat) (ls : Ls) (rows : List (List Nat)) : Prop where
  n : rows.length = ls.length
  ok : ∀ m, m < ls.length → RowOk ti (ltAt ls m) (rowAt rows m) 400
  home : ∀ m, m < ls.length → (rowAt rows m).length = (ltAt ls m).1.length
/-- a row for each letter, an hour for each place -/
structure DayH (ls : Ls) (rows : List (List Nat)) : Prop where
  n : rows.length = ls.length
  home : ∀ m, m < ls.length → (rowAt rows m).length = (ltAt ls m).1.length
theorem DayOk.h {ti : List Nat} {ls : Ls} {rows : List (List Nat)} (D : DayOk ti ls rows) : DayH ls rows := ⟨D.n, D.home⟩
/-- .. and nothing is early -/
structure DayS (ti : List Nat) (ls : Ls) (rows : List (List Nat)) : Prop where
  n : rows.length = ls.length
  home : ∀ m, m < ls.length → (rowAt rows m).length = (ltAt ls m).1.length
  fst : ∀ m, m < ls.length → 0 < (rowAt rows m).length → (ltAt ls m).2 ≤ (rowAt rows m).getD 0 0
  stp : ∀ m, m < ls.length → ∀ i, i + 1 < (rowAt rows m).length → (rowAt rows m).getD i 0 + tm ti ((ltAt ls m).1.getD i 0) ≤ (rowAt rows m).getD (i + 1) 0
theorem DayOk.s {ti : List Nat} {ls : Ls} {rows : List (List Nat)} (D : DayOk ti ls rows) : DayS ti ls rows := ⟨D.n, D.home, fun m hm => (D.ok m hm).fst, fun m hm => (D.ok m hm).stp⟩
theorem DayS.h {ti : List Nat} {ls : Ls} {rows : List (List Nat)} (D : DayS ti ls rows) : DayH ls rows := ⟨D.n, D.home⟩
section
variable {F : FT}
def stW (h : Nat) (rs : List (Nat × Nat)) (ro ti : List Nat) (ls : Ls) (r : List Cell) (i t : Nat) (b : WSt) : S :=
  ⟨[some (.d (.ref 0)), some (.d (wD h rs ro ti)), some (.d (.tup (ls.map ltD))), some (.own (.lst (refsL r.length ls.length))), some (.d (.int i)), some (.d (.int t)), some (.own (.lst (b.free.map ni))), some (.own (.lst (b.order.map ni))), none, none, none, none, none], b.p.c (r ++ rowsC b.rows)⟩
theorem mm_popAt {order : List Nat} {d x : Nat} (hd : order[d]? = some x) (h : d ≤ 1000000) : mmF .popAt (.lst (order.map ni)) [.int d] = some (ni x, .lst ((order.eraseIdx d).map ni)) := by
  have hl : d < order.length := (List.getElem?_eq_some_iff.mp hd).1
  have h2 : (d : Int) < order.length := by omega
  simp [mmF, sml_nat h, ixN, h2, hd, er_map]
end
end Pr

set_option linter.all false
set_option maxRecDepth 100000
set_option maxHeartbeats 4000000
namespace Pr
open PySem Ev
section
variable {F : FT}
/-! hours: all ticks -/
def stH (h : Nat) (rs : List (Nat × Nat)) (ro ti : List Nat) (ls : Ls) (r : List Cell) (i : Nat) (b : List (List Nat) × Hand) : S :=
  ⟨[some (.d (.ref 0)), some (.d (wD h rs ro ti)), some (.d (.tup (ls.map ltD))), some (.own (.lst (refsL r.length ls.length))), some (.d (.int i)), none, none, none, none, none, none, none, none], b.2.c (r ++ rowsC b.1)⟩
theorem rg_data {n : Nat} (h : n ≤ 1000000) : (rngF (.d (.int 0)) (.d (.int n))).bind (rgF false) = some (.lst ((List.range n).map ni)) := by
  rw [rng_nat h]
  show rgF false ((0 : Int), (n : Int)) = _
  rw [rgF_nat h, List.range_eq_range']; rfl
theorem room_0 {ro : List Nat} {ls : Ls} : RoomOk ro ls (List.replicate ls.length []) := fun x u _ => by
  have e : ∀ m, rowAt (List.replicate ls.length ([] : List Nat)) m = [] := fun m => by
    unfold rowAt
    rw [List.getD_eq_getElem?_getD, List.getElem?_replicate]
    split <;> rfl
  unfold cntP
  rw [sum_cong (f := fun _ => 0) fun m _ => by rw [e]; simp [passAt], sum_zero]
  exact Nat.zero_le _
end
end Pr

set_option linter.all false
set_option maxRecDepth 100000
set_option maxHeartbeats 2000000
namespace Pr
open PySem Ev
section
variable {F : FT}
/-! checks -/
def IntF (F : FT) : Prop := ∀ (i : Int) (c : List Cell), F 1 [.int i] c = .ok (.bl true) c
def WiF (F : FT) : Prop := ∀ (i l m : Int) (c : List Cell), l ≤ i → i ≤ m → F 2 [.int i, .int l, .int m] c = .ok (.bl true) c
def PairF (F : FT) : Prop := ∀ (a b : D) (c : List Cell), F 3 [.tup [a, b]] c = .ok (.bl true) c
theorem int_run {i : Int} {c : List Cell} : runDef G F ⟨1, 1, c1⟩ [.int i] c = .ok (.bl true) c := by kernel_rfl
theorem wi_run (h : IntF F) {i l m : Int} {c : List Cell} (h1 : l ≤ i) (h2 : i ≤ m) : runDef G F ⟨3, 3, c2⟩ [.int i, .int l, .int m] c = .ok (.bl true) c := by
  have e := h i c
  have g1 : ¬ (i < l) := by omega
  have g2 : ¬ (m < i) := by omega
  simp [runDef, evSs, evS, evX, evAnd, evOr, evDs, evPs, evQs, evIt, M.bind, M.pure, varM, Ev.S.loc1, two, one, PV.val, Cell.toD, idxF, pickI, ixN, cmpF, eqF, ltF, D.fin, dep, eqB, ltB, alk, nonB, toB, biM, valsOf, biF, D.len, Ev.finish, Exs.isNil, asgIM, asgOM, thaw, Ev.S.get, Ev.S.put, PV.lo, PV.store, bindM, bindT, bindTs, M.of, binF, doCall, endC, lstM, doMm, mmF, turnM, isLoop, c2, e, chainM, chain2, g1, g2]
theorem pair_run {a b : D} {c : List Cell} : runDef G F ⟨1, 1, c3⟩ [.tup [a, b]] c = .ok (.bl true) c := by kernel_rfl
def RoadsF (F : FT) : Prop := ∀ (h : Nat) (rs : List (Nat × Nat)) (c : List Cell), 2 ≤ h → 1 ≤ rs.length → rs.length ≤ 24 → VR h rs → F 4 [.tup (rs.map pr), .int h] c = .ok (.bl true) c
theorem roads_run (hW : WiF F) (hP : PairF F) {h : Nat} {rs : List (Nat × Nat)} {c : List Cell} (h1 : 2 ≤ h) (l1 : 1 ≤ rs.length) (l2 : rs.length ≤ 24) (hv : VR h rs) : runDef G F ⟨2, 4, c4⟩ [.tup (rs.map pr), .int h] c = .ok (.bl true) c := by
  have er : runDef G F ⟨2, 4, c4⟩ [.tup (rs.map pr), .int h] c = Ev.finish (evSs G F c4 ⟨[some (.d (.tup (rs.map pr))), some (.d (.int h)), none, none], c⟩) := rfl
  have e : c4 = .cons (nthS c4 0) (.cons (nthS c4 1) (dropS c4 2)) := rfl
  have q0 : evS G F (nthS c4 0) ⟨[some (.d (.tup (rs.map pr))), some (.d (.int h)), none, none], c⟩ = .ok .next ⟨[some (.d (.tup (rs.map pr))), some (.d (.int h)), none, none], c⟩ := by
    have g1 : (1 : Int) ≤ rs.length := by omega
    have g2 : (rs.length : Int) ≤ 24 := by omega
    have g3 : ¬ ((rs.length : Int) < 1) := by omega
    have g4 : ¬ ((24 : Int) < rs.length) := by omega
    have hc : G.con[1]? = some (.int 24) := rfl
    simp [runDef, evSs, evS, evX, evAnd, evOr, evDs, evPs, evQs, evIt, M.bind, M.pure, varM, Ev.S.loc1, two, one, PV.val, Cell.toD, idxF, pickI, ixN, cmpF, eqF, ltF, D.fin, dep, eqB, ltB, alk, nonB, toB, biM, valsOf, biF, D.len, Ev.finish, Exs.isNil, asgIM, asgOM, thaw, Ev.S.get, Ev.S.put, PV.lo, PV.store, bindM, bindT, bindTs, M.of, binF, doCall, endC, lstM, doMm, mmF, turnM, isLoop, nthS, c4, isiF, isaTs, isTy, chainM, chain2, hc, l1, l2, g1, g2, g3, g4]
  obtain ⟨s1, e1, v2, v3, rfl⟩ := loopF_map (g := pr) (bd := turnM (.v 2) (evSs G F (forB (nthS c4 1)))) (kl := [2])
    (fun done s => ∃ v2 v3, s = ⟨[some (.d (.tup (rs.map pr))), some (.d (.int h)), v2, v3], c⟩) rs [] ⟨[some (.d (.tup (rs.map pr))), some (.d (.int h)), none, none], c⟩
    (fun done p s hp ⟨v2, v3, hs⟩ => by
      subst hs
      obtain ⟨a1, a2, a3⟩ := hv p hp
      have e1 := hW p.1 0 (h - 1) c (by omega) (by omega)
      have e2 := hW p.2 0 (h - 1) c (by omega) (by omega)
      have e3 := hP (.int p.1) (.int p.2) c
      have a3' : ¬ ((p.1 : Int) = (p.2 : Int)) := by omega
      refine ⟨⟨[some (.d (.tup (rs.map pr))), some (.d (.int h)), some (.d (pr p)), LV.dat v3], c⟩, ?_, none, LV.dat v3, rfl⟩
      simp [runDef, evSs, evS, evX, evAnd, evOr, evDs, evPs, evQs, evIt, M.bind, M.pure, varM, Ev.S.loc1, two, one, PV.val, Cell.toD, idxF, pickI, ixN, cmpF, eqF, ltF, D.fin, dep, eqB, ltB, alk, nonB, toB, biM, valsOf, biF, D.len, Ev.finish, Exs.isNil, asgIM, asgOM, thaw, Ev.S.get, Ev.S.put, PV.lo, PV.store, bindM, bindT, bindTs, M.of, binF, doCall, endC, lstM, doMm, mmF, turnM, isLoop, forB, nthS, c4, pr, e1, e2, e3, a3, a3', loopC, lcM, wipe, unown, walkD, D.items, D.bls, line_eq])
    ⟨none, none, rfl⟩
  have q1 : evS G F (nthS c4 1) ⟨[some (.d (.tup (rs.map pr))), some (.d (.int h)), none, none], c⟩ = _ := (for_val (e := .v 0) (pv := .d (.tup (rs.map pr))) (l := rs.map pr) rfl rfl).trans e1
  rw [er, e, sts_next q0, sts_next q1]
  rfl
def CountsF (F : FT) : Prop := ∀ (cs : List Nat) (n : Nat) (ni' mi : Int) (c : List Cell), ni' = n → cs.length = n → n ≤ 1000 → (∀ x ∈ cs, 1 ≤ x ∧ (x : Int) ≤ mi) → F 5 [.tup (cs.map ni), .int ni', .int mi] c = .ok (.bl true) c
theorem counts_run (hW : WiF F) {cs : List Nat} {m : Int} {c : List Cell} (hl : cs.length ≤ 1000) (hv : ∀ x ∈ cs, 1 ≤ x ∧ (x : Int) ≤ m) : runDef G F ⟨3, 4, c5⟩ [.tup (cs.map ni), .int cs.length, .int m] c = .ok (.bl true) c := by
  obtain ⟨ts, s2, e2, f, v, rfl⟩ := lc_run (G := G) (F := F) (g := ni) (xs := cs) (it := .val (.v 0)) (tg := .v 3) (own := [3]) (elt := .call .plain 2 (.cons (.v 3) (.cons (.int 1) (.cons (.v 2) .nil)))) (s := ⟨[some (.d (.tup (cs.map ni))), some (.d (.int cs.length)), some (.d (.int m)), none], c⟩)
    (fun s => ∃ v, s = ⟨[some (.d (.tup (cs.map ni))), some (.d (.int cs.length)), some (.d (.int m)), v], c⟩) (fun x t => t = .bl true) rfl (by rw [line_eq]; omega) ⟨none, rfl⟩
    (fun x hx s ⟨v, hs⟩ => by
      subst hs
      obtain ⟨a1, a2⟩ := hv x hx
      have e1 := hW x 1 m c (by omega) a2
      refine ⟨⟨[some (.d (.tup (cs.map ni))), some (.d (.int cs.length)), some (.d (.int m)), some (.d (ni x))], c⟩, _, ⟨[some (.d (.tup (cs.map ni))), some (.d (.int cs.length)), some (.d (.int m)), some (.d (ni x))], c⟩, rfl, ?_, rfl, _, rfl⟩
      simp [runDef, evSs, evS, evX, evAnd, evOr, evDs, evPs, evQs, evIt, M.bind, M.pure, varM, Ev.S.loc1, two, one, PV.val, Cell.toD, idxF, pickI, ixN, cmpF, eqF, ltF, D.fin, dep, eqB, ltB, alk, nonB, toB, biM, valsOf, biF, D.len, Ev.finish, Exs.isNil, asgIM, asgOM, thaw, Ev.S.get, Ev.S.put, PV.lo, PV.store, bindM, bindT, bindTs, M.of, binF, doCall, endC, lstM, doMm, mmF, turnM, isLoop, ni, e1])
  have e3 := f.eq_map
  subst e3
  have e4 := all_eval (p := fun _ : Nat => true) (xs := cs) e2
  have er : runDef G F ⟨3, 4, c5⟩ [.tup (cs.map ni), .int cs.length, .int m] c = Ev.finish (evSs G F c5 ⟨[some (.d (.tup (cs.map ni))), some (.d (.int cs.length)), some (.d (.int m)), none], c⟩) := rfl
  have k : ∀ L, evX G F L ⟨[some (.d (.tup (cs.map ni))), some (.d (.int cs.length)), some (.d (.int m)), none], c⟩ = .ok (.d (.bl true)) ⟨[some (.d (.tup (cs.map ni))), some (.d (.int cs.length)), some (.d (.int m)), none], c⟩ →
      evSs G F (.cons (.ret (.and (.cons (.isi (.v 0) [.tuple]) (.cons (.cmp .eq (.bi .len (.cons (.v 0) .nil)) (.v 1)) (.cons L .nil))))) .nil) ⟨[some (.d (.tup (cs.map ni))), some (.d (.int cs.length)), some (.d (.int m)), none], c⟩ = .ok (.ret (.bl true)) ⟨[some (.d (.tup (cs.map ni))), some (.d (.int cs.length)), some (.d (.int m)), none], c⟩ := fun L hL => by
    simp [runDef, evSs, evS, evX, evAnd, evOr, evDs, evPs, evQs, evIt, M.bind, M.pure, varM, Ev.S.loc1, two, one, PV.val, Cell.toD, idxF, pickI, ixN, cmpF, eqF, ltF, D.fin, dep, eqB, ltB, alk, nonB, toB, biM, valsOf, biF, D.len, Ev.finish, Exs.isNil, asgIM, asgOM, thaw, Ev.S.get, Ev.S.put, PV.lo, PV.store, bindM, bindT, bindTs, M.of, binF, doCall, endC, lstM, doMm, mmF, turnM, isLoop, isiF, isaTs, isTy, hL]
  rw [er]
  refine congrArg Ev.finish (k _ (e4.trans ?_))
  rw [List.all_eq_true.mpr (fun _ _ => rfl)]
  rfl
end
end Pr

set_option linter.all false
set_option maxRecDepth 100000
set_option maxHeartbeats 2000000
namespace Pr
open PySem Ev
/-! the roads that begin at x -/
def begsTo (rs : List (Nat × Nat)) (j x : Nat) : List Nat := (List.range' 0 j).filter fun i => decide ((rs.getD i (0, 0)).1 = x)
def begs (rs : List (Nat × Nat)) (x : Nat) : List Nat := begsTo rs rs.length x
theorem begs_succ {rs : List (Nat × Nat)} {j x : Nat} {p : Nat × Nat} (h : rs[j]? = some p) : begsTo rs (j + 1) x = begsTo rs j x ++ if p.1 = x then [j] else [] := by
  unfold begsTo
  rw [List.range'_1_concat, List.filter_append]
  congr 1
  have e : rs.getD (0 + j) (0, 0) = p := by rw [Nat.zero_add, List.getD_eq_getElem?_getD, h]; rfl
  by_cases hx : p.1 = x
  · rw [List.filter_cons_of_pos (by rw [e]; simpa using hx), if_pos hx]; simp
  · rw [List.filter_cons_of_neg (by rw [e]; simpa using hx), if_neg hx]; rfl
theorem begs_len {rs : List (Nat × Nat)} {j x : Nat} : (begsTo rs j x).length ≤ j := by
  have := List.length_filter_le (fun i => decide ((rs.getD i (0, 0)).1 = x)) (List.range' 0 j)
  rw [List.length_range'] at this
  exact this
/-! a web as a thing -/
def nextD (rs : List (Nat × Nat)) : D := .tup (rs.map fun p => .tup ((begs rs p.2).map ni))
def leadD (rs : List (Nat × Nat)) : D := .tup (rs.map fun p => .bl (decide (0 < (begs rs p.2).length)))
def fs4 (h ro ti : D) (rs : List (Nat × Nat)) : List (Nat × D) := [(1, h), (2, .tup (rs.map pr)), (3, ro), (4, ti)]
def fs6 (h ro ti : D) (rs : List (Nat × Nat)) : List (Nat × D) := [(1, h), (2, .tup (rs.map pr)), (3, ro), (4, ti), (5, nextD rs), (6, leadD rs)]
section
variable {F : FT}
def s7 (h ro ti : D) (rs : List (Nat × Nat)) (v5 v6 v7 v8 : Option LV) (c : List Cell) : S := ⟨[some (.d (.ref 0)), some (.d h), some (.d (.tup (rs.map pr))), some (.d ro), some (.d ti), v5, v6, v7, v8], c⟩
def KI (rs : List (Nat × Nat)) (j : Nat) (kvs : List (D × D)) (r : List Cell) : Prop :=
  isTd kvs = false ∧ kvs.length ≤ j ∧ (∀ x : Nat, (keyGet (.int x) kvs = none ∧ begsTo rs j x = []) ∨ ∃ k, keyGet (.int x) kvs = some (.ref (k + 1)) ∧ r[k]? = some (.lst ((begsTo rs j x).map ni))) ∧
    ∀ (x y : Nat) k, keyGet (.int x) kvs = some (.ref k) → keyGet (.int y) kvs = some (.ref k) → x = y
theorem st7 : forB (nthS c7 5) = .cons (.ex (.mm .append (.sdef (.v 5) (.idx (.v 7) (.int 0))) (.cons (.v 6) .nil))) .nil := rfl
theorem eqI (x y : Nat) : eqB (.int x) (.int y) = decide (x = y) := by
  by_cases h : x = y
  · simp [eqB, h]
  · have : ¬ ((x : Int) = (y : Int)) := by omega
    simp [eqB, h, this]
theorem keep_step {h ro ti : D} {rs : List (Nat × Nat)} {j : Nat} {kvs : List (D × D)} {o : Cell} {r : List Cell} {p : Nat × Nat} (hj : rs[j]? = some p) (hl : rs.length ≤ 24) (K : KI rs j kvs r) :
    ∃ kvs' r', evSs G F (forB (nthS c7 5)) (s7 h ro ti rs (some (.own (.dct kvs))) (some (.d (.int j))) (some (.d (pr p))) none (o :: r)) = .ok .next (s7 h ro ti rs (some (.own (.dct kvs'))) (some (.d (.int j))) (some (.d (pr p))) none (o :: r')) ∧ KI rs (j + 1) kvs' r' := by
  obtain ⟨kT, k1, k2, k3⟩ := K
  have jl : j < rs.length := (List.getElem?_eq_some_iff.mp hj).1
  have hn : kvs.length < line := by rw [line_eq]; omega
  have kx : evX G F (.idx (.v 7) (.int 0)) (s7 h ro ti rs (some (.own (.dct kvs))) (some (.d (.int j))) (some (.d (pr p))) none (o :: r)) = .ok (.d (.int p.1)) (s7 h ro ti rs (some (.own (.dct kvs))) (some (.d (.int j))) (some (.d (pr p))) none (o :: r)) := by
    simp [runDef, evSs, evS, evX, evAnd, evOr, evDs, evPs, evQs, evIt, M.bind, M.pure, varM, Ev.S.loc1, two, one, PV.val, Cell.toD, idxF, pickI, ixN, cmpF, eqF, ltF, D.fin, dep, eqB, ltB, alk, nonB, toB, biM, valsOf, biF, D.len, Ev.finish, Exs.isNil, asgIM, asgOM, thaw, Ev.S.get, Ev.S.put, PV.lo, PV.store, bindM, bindT, bindTs, M.of, binF, doCall, endC, lstM, doMm, mmF, turnM, isLoop, s7, pr]
  rw [st7]
  rcases k2 p.1 with ⟨a1, a2⟩ | ⟨k, a1, a2⟩
  · have e1 := sdef_new (G := G) (F := F) (o := .v 5) (pv := .own 5) (s := s7 h ro ti rs (some (.own (.dct kvs))) (some (.d (.int j))) (some (.d (pr p))) none (o :: r)) rfl rfl kx rfl rfl rfl kT hn a1
    have e2 := mm_eval (m := .append) (es := .cons (.v 6) .nil) (l := .id (r.length + 1)) (ts := []) (c := .lst []) (as := [.int j]) e1 rfl (by
      show ((o :: r) ++ [Cell.lst []])[r.length + 1]? = _
      simp) rfl (by
      show ((o :: r) ++ [Cell.lst []])[r.length + 1]? = _
      simp) (app_at (by rw [line_eq]; simp))
    refine ⟨kvs ++ [(.int p.1, .ref (r.length + 1))], r ++ [.lst [.int j]], (sts_next (ex_eval e2)).trans ?_, (isTd_snoc rfl).trans kT, by simp; omega, fun x => ?_, fun x y k h1 h2 => ?_⟩
    · have : ((o :: r) ++ [Cell.lst []]).set (r.length + 1) (Cell.lst ([] ++ [D.int j])) = o :: (r ++ [.lst [.int j]]) := by simp
      rw [← this]
      rfl
    · rw [keyGet_snoc, begs_succ hj, eqI]
      by_cases hx : p.1 = x
      · subst hx
        rw [a1, a2]
        refine .inr ⟨r.length, by simp, ?_⟩
        simp [ni]
      · rw [if_neg hx, List.append_nil]
        rcases k2 x with ⟨b1, b2⟩ | ⟨k, b1, b2⟩
        · exact .inl ⟨by rw [b1]; simp [hx], b2⟩
        · refine .inr ⟨k, by rw [b1], ?_⟩
          obtain ⟨q, _⟩ := List.getElem?_eq_some_iff.mp b2
          rw [List.getElem?_append_left q, b2]
    · rw [keyGet_snoc, eqI] at h1 h2
      have lt : ∀ (x k : Nat), keyGet (.int x) kvs = some (.ref k) → k ≤ r.length := fun x k h => by
        rcases k2 x with ⟨b1, _⟩ | ⟨k', b1, b2⟩
        · rw [h] at b1; cases b1
        · rw [h] at b1
          cases b1
          obtain ⟨q, _⟩ := List.getElem?_eq_some_iff.mp b2
          omega
      cases g1 : keyGet (.int x) kvs with
      | some z =>
        rw [g1] at h1
        have h1 : z = .ref k := by simpa using h1
        subst h1
        cases g2 : keyGet (.int y) kvs with
        | some z =>
          rw [g2] at h2
          have h2 : z = .ref k := by simpa using h2
          subst h2
          exact k3 x y k g1 g2
        | none =>
          rw [g2] at h2
          have := lt x k g1
          by_cases hy : p.1 = y
          · simp [hy] at h2; omega
          · simp [hy] at h2
      | none =>
        rw [g1] at h1
        by_cases hx : p.1 = x
        · simp [hx] at h1
          cases g2 : keyGet (.int y) kvs with
          | some z =>
            rw [g2] at h2
            have h2 : z = .ref k := by simpa using h2
            subst h2
            have := lt y k g2
            omega
          | none =>
            rw [g2] at h2
            by_cases hy : p.1 = y
            · omega
            · simp [hy] at h2
        · simp [hx] at h1
  · have e1 := sdef_old (G := G) (F := F) (o := .v 5) (pv := .own 5) (s := s7 h ro ti rs (some (.own (.dct kvs))) (some (.d (.int j))) (some (.d (pr p))) none (o :: r)) rfl rfl kx rfl rfl rfl kT hn a1
    have bl := begs_len (rs := rs) (j := j) (x := p.1)
    have e2 := mm_eval (m := .append) (es := .cons (.v 6) .nil) (l := .id (k + 1)) (c := .lst ((begsTo rs j p.1).map ni)) (ts := (begsTo rs j p.1).map ni) (as := [.int j]) e1 rfl a2 rfl a2 (app_at (by rw [line_eq]; simp; omega))
    refine ⟨kvs, r.set k (.lst ((begsTo rs j p.1).map ni ++ [.int j])), (sts_next (ex_eval e2)).trans rfl, kT, by omega, fun x => ?_, k3⟩
    rw [begs_succ hj]
    obtain ⟨q, _⟩ := List.getElem?_eq_some_iff.mp a2
    by_cases hx : p.1 = x
    · subst hx
      refine .inr ⟨k, a1, ?_⟩
      rw [List.getElem?_set_self q, if_pos rfl, List.map_append]
      rfl
    · rw [if_neg hx, List.append_nil]
      rcases k2 x with ⟨b1, b2⟩ | ⟨k', b1, b2⟩
      · exact .inl ⟨b1, b2⟩
      · refine .inr ⟨k', b1, ?_⟩
        rw [List.getElem?_set_ne (fun e => ?_), b2]
        subst e
        exact hx (k3 p.1 x _ a1 b1)
end
end Pr

set_option linter.all false
set_option maxRecDepth 100000
set_option maxHeartbeats 2000000
namespace Pr
open PySem Ev
section
variable {F : FT}
theorem gN : 0 < G.ncls := by decide
theorem gf1 : G.isf 0 1 = true := by decide
theorem gf2 : G.isf 0 2 = true := by decide
theorem gf3 : G.isf 0 3 = true := by decide
theorem gf4 : G.isf 0 4 = true := by decide
theorem gf5 : G.isf 0 5 = true := by decide
theorem gf6 : G.isf 0 6 = true := by decide
theorem keep_next {h ro ti : D} {rs : List (Nat × Nat)} {kvs : List (D × D)} {o : Cell} {r : List Cell} (hl : rs.length ≤ 24) (K : KI rs rs.length kvs r) :
    evX G F (stE (nthS c7 6)) (s7 h ro ti rs (some (.own (.dct kvs))) none none none (o :: r)) = .ok (.d (nextD rs)) (s7 h ro ti rs (some (.own (.dct kvs))) none none none (o :: r)) := by
  obtain ⟨kT, k1, k2, k3⟩ := K
  obtain ⟨ts, s2, e2, f, v, rfl⟩ := lc_run (G := G) (F := F) (g := pr) (xs := rs) (it := .val (.v 2)) (tg := .v 7) (own := [7]) (elt := .bi .tuple (.cons (.bm .get (.v 5) (.cons (.idx (.v 7) (.int 1)) (.cons (.lst .nil) .nil))) .nil)) (s := s7 h ro ti rs (some (.own (.dct kvs))) none none none (o :: r))
    (fun s => ∃ v, s = s7 h ro ti rs (some (.own (.dct kvs))) none v none (o :: r)) (fun p t => t = .tup ((begs rs p.2).map ni)) rfl (by rw [line_eq]; omega) ⟨none, rfl⟩
    (fun p hp s ⟨v, hs⟩ => by
      subst hs
      refine ⟨s7 h ro ti rs (some (.own (.dct kvs))) none (some (.d (pr p))) none (o :: r), _, s7 h ro ti rs (some (.own (.dct kvs))) none (some (.d (pr p))) none (o :: r), rfl, ?_, rfl, _, rfl⟩
      rcases k2 p.2 with ⟨a1, a2⟩ | ⟨k, a1, a2⟩
      · have a2 : begs rs p.2 = [] := a2
        rw [a2]
        simp [runDef, evSs, evS, evX, evAnd, evOr, evDs, evPs, evQs, evIt, M.bind, M.pure, varM, Ev.S.loc1, two, one, PV.val, Cell.toD, idxF, pickI, ixN, cmpF, eqF, ltF, D.fin, dep, eqB, ltB, alk, nonB, toB, biM, valsOf, biF, D.len, Ev.finish, Exs.isNil, asgIM, asgOM, thaw, Ev.S.get, Ev.S.put, PV.lo, PV.store, bindM, bindT, bindTs, M.of, binF, doCall, endC, lstM, doMm, mmF, turnM, isLoop, s7, pr, bmM, dctM, dgetM, getM, keyFor, kT, isKey, isTup, a1, line_eq]
      · have a2 : r[k]? = some (.lst ((begs rs p.2).map ni)) := a2
        generalize begs rs p.2 = bs at *
        simp [runDef, evSs, evS, evX, evAnd, evOr, evDs, evPs, evQs, evIt, M.bind, M.pure, varM, Ev.S.loc1, two, one, PV.val, Cell.toD, idxF, pickI, ixN, cmpF, eqF, ltF, D.fin, dep, eqB, ltB, alk, nonB, toB, biM, valsOf, biF, D.len, Ev.finish, Exs.isNil, asgIM, asgOM, thaw, Ev.S.get, Ev.S.put, PV.lo, PV.store, bindM, bindT, bindTs, M.of, binF, doCall, endC, lstM, doMm, mmF, turnM, isLoop, s7, pr, bmM, dctM, dgetM, getM, keyFor, kT, isKey, isTup, a1, a2, line_eq])
  have e3 := f.eq_map
  subst e3
  exact tuple_eval e2
theorem keep_leads {h ro ti : D} {rs : List (Nat × Nat)} {v5 : Option LV} {r : List Cell} (hl : rs.length ≤ 24) :
    evX G F (stE (nthS c7 7)) (s7 h ro ti rs v5 none none none (.obj 0 (fs4 h ro ti rs ++ [(5, nextD rs)]) :: r)) = .ok (.d (leadD rs)) (s7 h ro ti rs v5 none none none (.obj 0 (fs4 h ro ti rs ++ [(5, nextD rs)]) :: r)) := by
  have ea : ∀ v, evX G F (.attr (.v 0) 5) (s7 h ro ti rs v5 none none v (.obj 0 (fs4 h ro ti rs ++ [(5, nextD rs)]) :: r)) = .ok (.d (nextD rs)) (s7 h ro ti rs v5 none none v (.obj 0 (fs4 h ro ti rs ++ [(5, nextD rs)]) :: r)) := fun v => attr_eval (x := .d (.ref 0)) (y := .obj 0 (fs4 h ro ti rs ++ [(5, nextD rs)])) rfl rfl rfl
  have ei : evIt G F (.val (.attr (.v 0) 5)) (s7 h ro ti rs v5 none none none (.obj 0 (fs4 h ro ti rs ++ [(5, nextD rs)]) :: r)) = .ok (rs.map fun p => .tup ((begs rs p.2).map ni)) (s7 h ro ti rs v5 none none none (.obj 0 (fs4 h ro ti rs ++ [(5, nextD rs)]) :: r)) := by
    exact it_val (ea none) rfl
  obtain ⟨ts, s2, e2, f, v, rfl⟩ := lc_run (G := G) (F := F) (g := fun p : Nat × Nat => D.tup ((begs rs p.2).map ni)) (xs := rs) (tg := .v 8) (own := [8]) (elt := .cmp .gt (.bi .len (.cons (.v 8) .nil)) (.int 0))
    (fun s => ∃ v, s = s7 h ro ti rs v5 none none v (.obj 0 (fs4 h ro ti rs ++ [(5, nextD rs)]) :: r)) (fun p t => t = .bl (decide (0 < (begs rs p.2).length))) ei (by rw [line_eq]; omega) ⟨none, rfl⟩
    (fun p hp s ⟨v, hs⟩ => by
      subst hs
      generalize (Cell.obj 0 (fs4 h ro ti rs ++ [(5, nextD rs)])) = o
      generalize begs rs p.2 = bs
      refine ⟨s7 h ro ti rs v5 none none (some (.d (.tup (bs.map ni)))) (o :: r), _, s7 h ro ti rs v5 none none (some (.d (.tup (bs.map ni)))) (o :: r), rfl, ?_, rfl, _, rfl⟩
      simp [runDef, evSs, evS, evX, evAnd, evOr, evDs, evPs, evQs, evIt, M.bind, M.pure, varM, Ev.S.loc1, two, one, PV.val, Cell.toD, idxF, pickI, ixN, cmpF, eqF, ltF, D.fin, dep, eqB, ltB, alk, nonB, toB, biM, valsOf, biF, D.len, Ev.finish, Exs.isNil, asgIM, asgOM, thaw, Ev.S.get, Ev.S.put, PV.lo, PV.store, bindM, bindT, bindTs, M.of, binF, doCall, endC, lstM, doMm, mmF, turnM, isLoop, s7])
  have e3 := f.eq_map
  subst e3
  exact tuple_eval e2
def KeepF (F : FT) : Prop := ∀ (h ro ti : D) (rs : List (Nat × Nat)), rs.length ≤ 24 → ∃ r, F 7 [.ref 0, h, .tup (rs.map pr), ro, ti] [.obj 0 []] = .ok .non (.obj 0 (fs6 h ro ti rs) :: r)
theorem keep_run {h ro ti : D} {rs : List (Nat × Nat)} (hl : rs.length ≤ 24) : ∃ r, runDef G F ⟨5, 9, c7⟩ [.ref 0, h, .tup (rs.map pr), ro, ti] [.obj 0 []] = .ok .non (.obj 0 (fs6 h ro ti rs) :: r) := by
  obtain ⟨s1, e1, kvs, r, v6, v7, rfl, K⟩ := loopF_enum (g := pr) (bd := turnM (.tup (.cons (.v 6) (.cons (.v 7) .nil))) (evSs G F (forB (nthS c7 5)))) (kl := [6, 7])
    (fun j s => ∃ kvs r v6 v7, s = s7 h ro ti rs (some (.own (.dct kvs))) v6 v7 none (.obj 0 (fs4 h ro ti rs) :: r) ∧ KI rs j kvs r) rs 0 (s7 h ro ti rs (some (.own (.dct []))) none none none [.obj 0 (fs4 h ro ti rs)])
    (fun j p s hp ⟨kvs, r, v6, v7, hs, K⟩ => by
      subst hs
      rw [Nat.zero_add] at K ⊢
      obtain ⟨kvs', r', e, K'⟩ := keep_step (F := F) (h := h) (ro := ro) (ti := ti) (o := .obj 0 (fs4 h ro ti rs)) hp hl K
      exact ⟨_, e, kvs', r', none, none, rfl, K'⟩)
    ⟨[], [], none, none, rfl, rfl, by simp, fun x => .inl ⟨rfl, rfl⟩, fun x y k h => by simp [keyGet] at h⟩
  rw [Nat.zero_add] at K
  refine ⟨r, ?_⟩
  have er : runDef G F ⟨5, 9, c7⟩ [.ref 0, h, .tup (rs.map pr), ro, ti] [.obj 0 []] = Ev.finish (evSs G F c7 (s7 h ro ti rs none none none none [.obj 0 []])) := rfl
  have e : c7 = .cons (.asgF (.v 0) 1 (.v 1)) (.cons (.asgF (.v 0) 2 (.v 2)) (.cons (.asgF (.v 0) 3 (.v 3)) (.cons (.asgF (.v 0) 4 (.v 4)) (.cons (nthS c7 4) (.cons (nthS c7 5) (.cons (.asgF (.v 0) 5 (stE (nthS c7 6))) (.cons (.asgF (.v 0) 6 (stE (nthS c7 7))) .nil))))))) := rfl
  have q0 := asgF_eval (G := G) (F := F) (o := .v 0) (e := .v 1) (f := 1) (s := s7 h ro ti rs none none none none [.obj 0 []]) rfl rfl rfl rfl gN gf1 (by decide)
  have q1 := asgF_eval (G := G) (F := F) (o := .v 0) (e := .v 2) (f := 2) (s := s7 h ro ti rs none none none none [.obj 0 [(1, h)]]) rfl rfl rfl rfl gN gf2 (by simp)
  have q2 := asgF_eval (G := G) (F := F) (o := .v 0) (e := .v 3) (f := 3) (s := s7 h ro ti rs none none none none [.obj 0 [(1, h), (2, .tup (rs.map pr))]]) rfl rfl rfl rfl gN gf3 (by simp)
  have q3 := asgF_eval (G := G) (F := F) (o := .v 0) (e := .v 4) (f := 4) (s := s7 h ro ti rs none none none none [.obj 0 [(1, h), (2, .tup (rs.map pr)), (3, ro)]]) rfl rfl rfl rfl gN gf4 (by simp)
  have q4 : evS G F (nthS c7 4) (s7 h ro ti rs none none none none [.obj 0 (fs4 h ro ti rs)]) = .ok .next (s7 h ro ti rs (some (.own (.dct []))) none none none [.obj 0 (fs4 h ro ti rs)]) := rfl
  have q5 := for_eval (G := G) (F := F) (it := .enum (.v 2) 0) (tg := .tup (.cons (.v 6) (.cons (.v 7) .nil))) (a := forB (nthS c7 5)) (kl := [6, 7]) (s := s7 h ro ti rs (some (.own (.dct []))) none none none [.obj 0 (fs4 h ro ti rs)]) (s1 := s7 h ro ti rs (some (.own (.dct []))) none none none [.obj 0 (fs4 h ro ti rs)]) (xs := enumFrom 0 (rs.map pr)) rfl rfl
  have e1' : loopF (turnM (.tup (.cons (.v 6) (.cons (.v 7) .nil))) (evSs G F (forB (nthS c7 5)))) [6, 7] (enumFrom 0 (rs.map pr)) (s7 h ro ti rs (some (.own (.dct []))) none none none [.obj 0 (fs4 h ro ti rs)]) = .ok .next (s7 h ro ti rs (some (.own (.dct kvs))) none none none (.obj 0 (fs4 h ro ti rs) :: r)) := e1
  rw [e1'] at q5
  have q6 := asgF_eval (G := G) (F := F) (o := .v 0) (f := 5) (x := .d (.ref 0)) (l := .id 0) (c := 0) (fs := fs4 h ro ti rs) (keep_next (F := F) (h := h) (ro := ro) (ti := ti) (o := .obj 0 (fs4 h ro ti rs)) hl K) rfl rfl rfl gN gf5 (by simp [fs4])
  have q7 := asgF_eval (G := G) (F := F) (o := .v 0) (f := 6) (x := .d (.ref 0)) (l := .id 0) (c := 0) (fs := fs4 h ro ti rs ++ [(5, nextD rs)]) (keep_leads (F := F) (h := h) (ro := ro) (ti := ti) (rs := rs) (v5 := some (.own (.dct kvs))) (r := r) hl) rfl rfl rfl gN gf6 (by simp [fs4])
  rw [er, e, sts_next q0]
  refine (congrArg Ev.finish ((sts_next (ss := dropS c7 2) q1).trans ((sts_next (ss := dropS c7 3) q2).trans ((sts_next (ss := dropS c7 4) q3).trans ((sts_next (ss := dropS c7 5) q4).trans ((sts_next (ss := dropS c7 6) q5).trans ((sts_next (ss := dropS c7 7) q6).trans (sts_next (ss := .nil) q7)))))))).trans rfl
end
end Pr

set_option linter.all false
set_option maxRecDepth 100000
set_option maxHeartbeats 2000000
namespace Pr
open PySem Ev
section
variable {F : FT}
def wfs (h : Nat) (rs : List (Nat × Nat)) (ro ti : List Nat) : List (Nat × D) := fs6 (.int h) (.tup (ro.map ni)) (.tup (ti.map ni)) rs
def webO (h : Nat) (rs : List (Nat × Nat)) (ro ti : List Nat) : D := .obj 0 (wfs h rs ro ti)
def InitF (F : FT) : Prop := ∀ (h : Nat) (rs : List (Nat × Nat)) (ro ti : List Nat), VW h rs ro ti → ∃ r, F 6 [.ref 0, .int h, .tup (rs.map pr), .tup (ro.map ni), .tup (ti.map ni)] [.obj 0 []] = .ok .non (.obj 0 (wfs h rs ro ti) :: r)
theorem init_run (hW : WiF F) (hR : RoadsF F) (hC : CountsF F) (hK : KeepF F) {h : Nat} {rs : List (Nat × Nat)} {ro ti : List Nat} (V : VW h rs ro ti) :
    ∃ r, runDef G F ⟨5, 5, c6⟩ [.ref 0, .int h, .tup (rs.map pr), .tup (ro.map ni), .tup (ti.map ni)] [.obj 0 []] = .ok .non (.obj 0 (wfs h rs ro ti) :: r) := by
  have l2 := V.l2
  obtain ⟨r, e5⟩ := hK (.int h) (.tup (ro.map ni)) (.tup (ti.map ni)) rs l2
  refine ⟨r, ?_⟩
  have e1 := hW h 2 12 [.obj 0 []] (by have := V.h1; omega) (by have := V.h2; omega)
  have e2 := hR h rs [.obj 0 []] V.h1 V.l1 V.l2 V.v
  have e3 := hC ro rs.length rs.length 3 [.obj 0 []] rfl V.o1 (by omega) (fun x hx => by have := V.o3 x hx; omega)
  have e4 := hC ti rs.length rs.length 3 [.obj 0 []] rfl V.o2 (by omega) (fun x hx => by have := V.o4 x hx; omega)
  have g0 : G.con[0]? = some (.int 12) := rfl
  have g2 : G.con[2]? = some (.int 3) := rfl
  have g3 : G.con[3]? = some (.int 3) := rfl
  have gm : G.meth 0 8 = some 7 := rfl
  have e : c6 = .cons (nthS c6 0) (.cons (nthS c6 1) (.cons (nthS c6 2) (.cons (nthS c6 3) (.cons (.ex (stE (nthS c6 4))) .nil)))) := rfl
  generalize hs : (⟨[some (.d (.ref 0)), some (.d (.int h)), some (.d (.tup (rs.map pr))), some (.d (.tup (ro.map ni))), some (.d (.tup (ti.map ni)))], [.obj 0 []]⟩ : S) = s
  have er : runDef G F ⟨5, 5, c6⟩ [.ref 0, .int h, .tup (rs.map pr), .tup (ro.map ni), .tup (ti.map ni)] [.obj 0 []] = Ev.finish (evSs G F c6 s) := by rw [← hs]; rfl
  have q0 : evS G F (nthS c6 0) s = .ok .next s := by subst hs; simp [runDef, evSs, evS, evX, evAnd, evOr, evDs, evPs, evQs, evIt, M.bind, M.pure, varM, Ev.S.loc1, two, one, PV.val, Cell.toD, idxF, pickI, ixN, cmpF, eqF, ltF, D.fin, dep, eqB, ltB, alk, nonB, toB, biM, valsOf, biF, D.len, Ev.finish, Exs.isNil, asgIM, asgOM, thaw, Ev.S.get, Ev.S.put, PV.lo, PV.store, bindM, bindT, bindTs, M.of, binF, doCall, endC, lstM, doMm, mmF, turnM, isLoop, nthS, c6, e1, g0]
  have q1 : evS G F (nthS c6 1) s = .ok .next s := by subst hs; simp [runDef, evSs, evS, evX, evAnd, evOr, evDs, evPs, evQs, evIt, M.bind, M.pure, varM, Ev.S.loc1, two, one, PV.val, Cell.toD, idxF, pickI, ixN, cmpF, eqF, ltF, D.fin, dep, eqB, ltB, alk, nonB, toB, biM, valsOf, biF, D.len, Ev.finish, Exs.isNil, asgIM, asgOM, thaw, Ev.S.get, Ev.S.put, PV.lo, PV.store, bindM, bindT, bindTs, M.of, binF, doCall, endC, lstM, doMm, mmF, turnM, isLoop, nthS, c6, e2]
  have q2 : evS G F (nthS c6 2) s = .ok .next s := by subst hs; simp [runDef, evSs, evS, evX, evAnd, evOr, evDs, evPs, evQs, evIt, M.bind, M.pure, varM, Ev.S.loc1, two, one, PV.val, Cell.toD, idxF, pickI, ixN, cmpF, eqF, ltF, D.fin, dep, eqB, ltB, alk, nonB, toB, biM, valsOf, biF, D.len, Ev.finish, Exs.isNil, asgIM, asgOM, thaw, Ev.S.get, Ev.S.put, PV.lo, PV.store, bindM, bindT, bindTs, M.of, binF, doCall, endC, lstM, doMm, mmF, turnM, isLoop, nthS, c6, e3, g2]
  have q3 : evS G F (nthS c6 3) s = .ok .next s := by subst hs; simp [runDef, evSs, evS, evX, evAnd, evOr, evDs, evPs, evQs, evIt, M.bind, M.pure, varM, Ev.S.loc1, two, one, PV.val, Cell.toD, idxF, pickI, ixN, cmpF, eqF, ltF, D.fin, dep, eqB, ltB, alk, nonB, toB, biM, valsOf, biF, D.len, Ev.finish, Exs.isNil, asgIM, asgOM, thaw, Ev.S.get, Ev.S.put, PV.lo, PV.store, bindM, bindT, bindTs, M.of, binF, doCall, endC, lstM, doMm, mmF, turnM, isLoop, nthS, c6, e4, g3]
  subst hs
  have q4 := meth_eval (G := G) (F := F) (o := .v 0) (es := .cons (.v 1) (.cons (.v 2) (.cons (.v 3) (.cons (.v 4) .nil)))) (s := ⟨[some (.d (.ref 0)), some (.d (.int h)), some (.d (.tup (rs.map pr))), some (.d (.tup (ro.map ni))), some (.d (.tup (ti.map ni)))], [.obj 0 []]⟩) gm rfl rfl rfl rfl e5
  rw [er, e, sts_next q0, sts_next q1, sts_next q2, sts_next q3]
  exact congrArg Ev.finish (sts_next (ss := .nil) (ex_eval q4))
theorem blw_pr {rs : List (Nat × Nat)} {n : Nat} : D.blws n (rs.map pr) = true := blws_map fun p _ => by simp [pr, D.blw, D.blws]
theorem blw_ni {rs : List Nat} {n : Nat} : D.blws n (rs.map ni) = true := blws_map fun p _ => by simp [ni, D.blw]
end
end Pr

set_option linter.all false
set_option maxRecDepth 100000
set_option maxHeartbeats 2000000
namespace Pr
open PySem Ev
section
variable {F : FT}
/-! lots and sorts -/
def so (t : Bool) : D := .str (if t then "turns" else "hours")
def lotD (lot : List Nat) : D := .tup (lot.map ni)
structure LotOk (n : Nat) (lot : List Nat) : Prop where
  up : lot.Pairwise (· < ·)
  lt : ∀ x ∈ lot, x < n
theorem LotOk.len {n : Nat} {lot : List Nat} (h : LotOk n lot) : lot.length ≤ n := by
  have hn : lot.Nodup := h.up.imp fun h => by omega
  have := hn.length_le_of_subset (l₂ := List.range' 0 n) fun x hx => by
    rw [List.mem_range'_1]
    have := h.lt x hx
    omega
  simpa using this
theorem webO_roads {h : Nat} {rs : List (Nat × Nat)} {ro ti : List Nat} {a : Ex} {s s1 : S} (e : evX G F a s = .ok (.d (webO h rs ro ti)) s1) : evX G F (.attr a 2) s = .ok (.d (.tup (rs.map pr))) s1 := attr_eval (y := webO h rs ro ti) e rfl rfl
theorem webO_next {h : Nat} {rs : List (Nat × Nat)} {ro ti : List Nat} {a : Ex} {s s1 : S} (e : evX G F a s = .ok (.d (webO h rs ro ti)) s1) : evX G F (.attr a 5) s = .ok (.d (nextD rs)) s1 := attr_eval (y := webO h rs ro ti) e rfl rfl
theorem webO_leads {h : Nat} {rs : List (Nat × Nat)} {ro ti : List Nat} {a : Ex} {s s1 : S} (e : evX G F a s = .ok (.d (webO h rs ro ti)) s1) : evX G F (.attr a 6) s = .ok (.d (leadD rs)) s1 := attr_eval (y := webO h rs ro ti) e rfl rfl
end
end Pr

set_option linter.all false
set_option maxRecDepth 100000
set_option maxHeartbeats 4000000
namespace Pr
open PySem Ev
section
variable {F : FT}
/-! days, lots -/
theorem range_at {n : Nat} {dn rest : List Nat} {x : Nat} (h : List.range n = dn ++ x :: rest) : x = dn.length ∧ x < n := by
  have hx : (List.range n)[dn.length]? = some x := by rw [h]; simp
  obtain ⟨hl, e⟩ := List.getElem?_eq_some_iff.mp hx
  simp at e hl
  omega
end
end Pr

set_option linter.all false
set_option maxRecDepth 100000
set_option maxHeartbeats 4000000
namespace Pr
open PySem Ev
/-! turns -/
abbrev T3 := Nat × Nat × Nat
def trD (a : T3) : D := .tup [.int a.1, .int a.2.1, .int a.2.2]
@[simp] theorem ref_tr {a : T3} : D.isRef (trD a) = false := (rfl)
theorem tr_eq (a b : T3) : eqB (trD a) (trD b) = decide (a = b) := by
  obtain ⟨a1, a2, a3⟩ := a
  obtain ⟨b1, b2, b3⟩ := b
  have k : ∀ a b : Nat, ((a : Int) == (b : Int)) = decide (a = b) := fun a b => by
    rw [Bool.eq_iff_iff, beq_iff_eq, decide_eq_true_iff]; omega
  simp [trD, eqB, eqBs, Bool.decide_and, Prod.mk.injEq, k]
theorem tr_fins {xs : List T3} : D.fins dep (xs.map trD) = true := fins_map fun x _ => rfl
theorem tr_alk {xs : List T3} : allAlk (xs.map trD) = true := by
  unfold allAlk
  rw [List.all_eq_true]
  intro d hd
  obtain ⟨p, _, rfl⟩ := List.mem_map.mp hd
  rw [Bool.and_eq_true, List.all_eq_true]
  refine ⟨rfl, fun e he => ?_⟩
  obtain ⟨q, _, rfl⟩ := List.mem_map.mp he
  rfl
theorem tr_srt {xs : List T3} : srtOk (xs.map trD) = true := by
  unfold srtOk
  rw [Bool.or_eq_true]
  left
  rw [List.all_eq_true]
  intro d hd
  obtain ⟨p, _, rfl⟩ := List.mem_map.mp hd
  rfl
@[simp] theorem sorted_tr {xs : List T3} (h : xs.length ≤ line) : biF .sorted [.lst (xs.map trD)] = some (.lst (sortD (xs.map trD))) := by
  show (if (D.fins dep (xs.map trD) && allAlk (xs.map trD) && srtOk (xs.map trD) && decide ((xs.map trD).length ≤ line)) = true then _ else _) = _
  rw [tr_fins, tr_alk, tr_srt, List.length_map, decide_eq_true h]
  rfl
/-- a letter's passings of the road x -/
def passL (l : List Nat × Nat) (row : List Nat) (m x : Nat) : List T3 := ((List.range l.1.length).filter fun q => decide (l.1.getD q 0 = x)).map fun q => (row.getD q 0, m, q)
def hereTo (ls : Ls) (rows : List (List Nat)) (x k : Nat) : List T3 := (List.range k).flatMap fun m => passL (ltAt ls m) (rowAt rows m) m x
theorem here_snoc {ls : Ls} {rows : List (List Nat)} {x k : Nat} : hereTo ls rows x (k + 1) = hereTo ls rows x k ++ passL (ltAt ls k) (rowAt rows k) k x := by
  unfold hereTo
  rw [List.range_succ, List.flatMap_append]; simp
theorem pass_len {l : List Nat × Nat} {row : List Nat} {m x : Nat} : (passL l row m x).length ≤ l.1.length := by
  unfold passL
  rw [List.length_map]
  have := List.length_filter_le (fun q => decide (l.1.getD q 0 = x)) (List.range l.1.length)
  rwa [List.length_range] at this
theorem here_len {ls : Ls} {rows : List (List Nat)} {x c : Nat} (h : ∀ m, (ltAt ls m).1.length ≤ c) : ∀ k, (hereTo ls rows x k).length ≤ c * k
  | 0 => by simp [hereTo]
  | k + 1 => by
    rw [here_snoc, List.length_append, Nat.mul_add]
    have := here_len (rows := rows) (x := x) h k
    have := pass_len (l := ltAt ls k) (row := rowAt rows k) (m := k) (x := x)
    have := h k
    omega
def srtL (ls : Ls) (rows : List (List Nat)) (x : Nat) : List D := sortD ((hereTo ls rows x ls.length).map trD)
def turnOf (ls : Ls) (rows : List (List Nat)) (m q : Nat) : Nat := ((srtL ls rows ((ltAt ls m).1.getD q 0)).findIdx? fun y => eqB y (trD ((rowAt rows m).getD q 0, m, q))).getD 0
theorem turn_at {ls : Ls} {rows : List (List Nat)} {m q : Nat} (hm : m < ls.length) (hq : q < (ltAt ls m).1.length) :
    (srtL ls rows ((ltAt ls m).1.getD q 0)).findIdx? (fun y => eqB y (trD ((rowAt rows m).getD q 0, m, q))) = some (turnOf ls rows m q) := by
  unfold turnOf
  have h : ((srtL ls rows ((ltAt ls m).1.getD q 0)).findIdx? (fun y => eqB y (trD ((rowAt rows m).getD q 0, m, q)))).isSome = true := by
    rw [List.findIdx?_isSome, List.any_eq_true]
    refine ⟨trD ((rowAt rows m).getD q 0, m, q), ?_, by rw [tr_eq]; simp⟩
    unfold srtL sortD
    rw [List.mem_mergeSort]
    refine List.mem_map.mpr ⟨_, ?_, rfl⟩
    unfold hereTo
    refine List.mem_flatMap.mpr ⟨m, by simpa using hm, ?_⟩
    unfold passL
    exact List.mem_map.mpr ⟨q, by simp [hq], rfl⟩
  cases e : (srtL ls rows ((ltAt ls m).1.getD q 0)).findIdx? (fun y => eqB y (trD ((rowAt rows m).getD q 0, m, q))) with
  | none => rw [e] at h; cases h
  | some n => rfl
theorem srt_len {ls : Ls} {rows : List (List Nat)} {x : Nat} : (srtL ls rows x).length = (hereTo ls rows x ls.length).length := by
  unfold srtL sortD
  rw [List.length_mergeSort, List.length_map]
theorem fins_mem {n : Nat} : ∀ {xs : List D}, D.fins n xs = true ↔ ∀ x ∈ xs, x.fin n = true
  | [] => by simp [D.fins]
  | x :: xs => by simp [D.fins, fins_mem (xs := xs)]
theorem srt_fins {ls : Ls} {rows : List (List Nat)} {x : Nat} : D.fins dep (srtL ls rows x) = true := by
  rw [fins_mem]
  intro d hd
  unfold srtL sortD at hd
  rw [List.mem_mergeSort] at hd
  obtain ⟨p, _, rfl⟩ := List.mem_map.mp hd
  rfl
section
variable {F : FT}
theorem ls_at {rs : List (Nat × Nat)} {sp : Nat} {ls : Ls} (hv : ∀ l ∈ ls, VL rs sp l) {m : Nat} (hm : m < ls.length) : VL rs sp (ltAt ls m) := hv _ (List.mem_iff_getElem?.mpr ⟨m, getD_at hm⟩)
theorem ls_len5 {rs : List (Nat × Nat)} {sp : Nat} {ls : Ls} (hv : ∀ l ∈ ls, VL rs sp l) (m : Nat) : (ltAt ls m).1.length ≤ 5 := by
  by_cases hm : m < ls.length
  · exact (ls_at hv hm).len
  · have : ltAt ls m = ([], 0) := by
      unfold ltAt
      rw [List.getD_eq_getElem?_getD, List.getElem?_eq_none (by omega)]; rfl
    rw [this]; simp
/-! cards -/
def toldD (ls : Ls) (rows : List (List Nat)) (lot : List Nat) (t : Bool) (m q : Nat) : Option Nat := if lot.contains ((ltAt ls m).1.getD q 0) = true then some (if t = true then turnOf ls rows m q else (rowAt rows m).getD q 0) else none
def cardD (ls : Ls) (rows : List (List Nat)) (lot : List Nat) (t : Bool) (m : Nat) : D :=
  .tup [.tup ((ltAt ls m).1.map ni), .int (ltAt ls m).2, .int ((rowAt rows m).getD ((rowAt rows m).length - 1) 0), .tup ((List.range (ltAt ls m).1.length).map fun q => onD (toldD ls rows lot t m q))]
def cardsD (ls : Ls) (rows : List (List Nat)) (lot : List Nat) (t : Bool) : D := .tup ((List.range ls.length).map (cardD ls rows lot t))
def kIx3 (x : PV) : List D → S → Res PV := fun as s => Res.bind (indM x as s) kRd
def kIx2 (G : Tab) (F : FT) (es : Exs) (x : PV) : Unit → S → Res PV := fun _ s => Res.bind (evDs G F es s) (kIx3 x)
def kIx1 (G : Tab) (F : FT) (es : Exs) : PV → S → Res PV := fun x s => Res.bind (lisM x s) (kIx2 G F es x)
@[simp] theorem kIx3_eq {x : PV} {as : List D} {s : S} : kIx3 x as s = Res.bind (indM x as s) kRd := (rfl)
@[simp] theorem kIx2_eq {es : Exs} {x : PV} {u : Unit} {s : S} : kIx2 G F es x u s = Res.bind (evDs G F es s) (kIx3 x) := (rfl)
@[simp] theorem kIx1_eq {es : Exs} {x : PV} {s : S} : kIx1 G F es x s = Res.bind (lisM x s) (kIx2 G F es x) := (rfl)
@[simp] theorem evX_index {o : Ex} {es : Exs} {s : S} : evX G F (.bm .index o es) s = Res.bind (evX G F o s) (kIx1 G F es) := (rfl)
@[simp] theorem lisM_lst {ts : List D} {s : S} : lisM (.d (.lst ts)) s = .ok () s := (rfl)
theorem indM_lst {ts : List D} {x : D} {j : Nat} {s : S} (h1 : x.fin dep = true) (h2 : D.fins dep ts = true) (h3 : ts.length ≤ line) (h : ts.findIdx? (fun y => eqB y x) = some j) : indM (.d (.lst ts)) [x] s = .ok (.int j) s := by
  show (if x.fin dep && D.fins dep ts && decide (ts.length ≤ line) then (match ts.findIdx? (fun y => eqB y x) with | some n => .ok (.int n) s | none => .stk) else .stk : Res D) = _
  rw [h1, h2, decide_eq_true h3, h]; rfl
@[simp] theorem ref_lot {l : List Nat} : D.isRef (lotD l) = false := (rfl)
@[simp] theorem ref_so {t : Bool} : D.isRef (so t) = false := (rfl)
@[simp] theorem inF_lot {x : Nat} {l : List Nat} : inF (.int x) (lotD l) = some (l.contains x) := by
  have k : ∀ l : List Nat, (l.map ni).any (fun y => eqB y (.int x)) = l.contains x := fun l => by
    induction l with
    | nil => rfl
    | cons a l ih =>
      rw [List.map_cons, List.any_cons, ih, List.contains_cons]
      congr 1
      show ((a : Int) == (x : Int)) = _
      rw [Bool.eq_iff_iff, beq_iff_eq, beq_iff_eq]; omega
  have f : D.fins dep (l.map ni) = true := fins_map fun x _ => rfl
  show (if ((D.int x).fin dep && D.fins dep (l.map ni)) = true then some ((l.map ni).any fun y => eqB y (.int x)) else none) = _
  rw [f, k]; rfl
@[simp] theorem eq_hours {t : Bool} : eqF (so t) (.str "hours") = some (!t) := by cases t <;> decide +kernel
@[simp] theorem eq_turns {t : Bool} : eqF (so t) (.str "turns") = some t := by cases t <;> decide +kernel
end
end Pr

set_option linter.all false
set_option maxRecDepth 100000
set_option maxHeartbeats 4000000
namespace Pr
open PySem Ev
section
variable {F : FT}
end
end Pr

set_option linter.all false
set_option maxRecDepth 100000
set_option maxHeartbeats 4000000
namespace Pr
open PySem Ev
/-! a web is made -/
theorem blw_web {h : Nat} {rs : List (Nat × Nat)} {ro ti : List Nat} : D.blw 0 (webO h rs ro ti) = true := by
  have n1 : D.blws 0 (rs.map fun p => D.tup ((begs rs p.2).map ni)) = true := blws_map fun p _ => by simp [D.blw, blw_ni]
  have n2 : D.blws 0 (rs.map fun p => D.bl (decide (0 < (begs rs p.2).length))) = true := blws_map fun p _ => by simp [D.blw]
  show D.blwf 0 (wfs h rs ro ti) = true
  unfold wfs fs6 nextD leadD
  simp [D.blwf, D.blw, blw_pr, blw_ni, n1]
  exact n2
section
variable {F : FT}
def kMkW (F : FT) : List D → S → Res PV := fun as s => Res.bind (mkObj F 0 6 as s) kRd
@[simp] theorem evX_mkWeb {es : Exs} {s : S} : evX G F (.mk 0 es) s = Res.bind (evDs G F es s) (kMkW F) := by
  show M.bind (M.of (some 6)) (fun f => M.bind (evDs G F es) fun as => M.bind (mkObj F 0 f as) fun x => M.pure (PV.d x)) s = _
  show M.bind (evDs G F es) (fun as => M.bind (mkObj F 0 6 as) fun x => M.pure (PV.d x)) s = _
  rw [M_bind]; rfl
theorem mk_web (hI : InitF F) {h : Nat} {rs : List (Nat × Nat)} {ro ti : List Nat} (V : VW h rs ro ti) {s : S} : kMkW F [.int h, .tup (rs.map pr), .tup (ro.map ni), .tup (ti.map ni)] s = .ok (.d (webO h rs ro ti)) s := by
  obtain ⟨r, e⟩ := hI h rs ro ti V
  have b1 : D.blws 0 [.int h, .tup (rs.map pr), .tup (ro.map ni), .tup (ti.map ni)] = true := by
    simp [D.blws, D.blw, blw_pr, blw_ni]
  have b2 : D.blwf 0 (wfs h rs ro ti) = true := blw_web
  unfold kMkW mkObj
  rw [if_pos b1, e]
  simp only
  rw [if_pos b2]; rfl
end
end Pr

set_option linter.all false
set_option maxRecDepth 100000
set_option maxHeartbeats 4000000
namespace Pr
open PySem Ev
/-! checks of anything -/
/-- data without objects, to the depth n -/
def okP : Nat → D → Bool
  | _, .ref _ => false
  | _, .obj _ _ => false
  | _, .dct kvs => !isTd kvs
  | n + 1, .tup xs => xs.all (okP n)
  | _, _ => true
def isI : D → Bool
  | .int _ => true
  | _ => false
def isT : D → Bool
  | .tup _ => true
  | _ => false
def inD (d : D) (l m : Int) : Bool := match d with
  | .int i => decide (l ≤ i) && decide (i ≤ m)
  | _ => false
theorem okP_0 {n : Nat} {d : D} (h : okP n d = true) : okP 0 d = true := by
  cases d <;> cases n <;> first | rfl | exact h
theorem okP_ref {n : Nat} {d : D} (h : okP n d = true) : d.isRef = false := by
  cases d <;> first | rfl | (cases n <;> exact nomatch (show false = true from h))
theorem okP_at {n : Nat} {xs : List D} {x : D} (h : okP (n + 1) (.tup xs) = true) (hx : x ∈ xs) : okP n x = true := List.all_eq_true.mp h x hx
theorem isi_dct {kvs : List (D × D)} {ts : List Ty} (hs : isaTs G ts = true) (h : okP 0 (.dct kvs) = true) : isiF G ts (.dct kvs) = some (.bl (ts.any (isTy G.sub (.dct kvs)))) := by
  have hT : (!isTd kvs) = true := h
  unfold isiF
  rw [if_pos hs]
  simp only
  rw [if_neg (by simpa using hT)]
@[simp] theorem isi_int {d : D} (h : okP 0 d = true) : isiF G [.int] d = some (.bl (isI d || match d with | .bl _ => true | _ => false)) := by
  cases d <;> first | rfl | exact isi_dct rfl h | exact nomatch (show false = true from h)
@[simp] theorem isi_bool {d : D} (h : okP 0 d = true) : isiF G [.bool] d = some (.bl (match d with | .bl _ => true | _ => false)) := by
  cases d <;> first | rfl | exact isi_dct rfl h | exact nomatch (show false = true from h)
@[simp] theorem isi_tup {d : D} (h : okP 0 d = true) : isiF G [.tuple] d = some (.bl (isT d)) := by
  cases d <;> first | rfl | exact isi_dct rfl h | exact nomatch (show false = true from h)
section
variable {F : FT}
theorem lc_mapD {tg : Tg} {el : M D} {own : List Nat} {xs : List D} {s : S} (f : D → D) (hl : xs.length ≤ line)
    (step : ∀ x, x ∈ xs → Runs (itC tg (evQs G F .nil) el own x s) (fun o s' => o = some (f x) ∧ wipe own s' = wipe own s) noEs) : lcX tg (evQs G F .nil) el own xs s = .ok (xs.map f) (unown own s.loc s) := by
  have := lc_map (G := G) (F := F) (tg := tg) (el := el) (own := own) (s := s) (g := id) f hl step
  rwa [List.map_id] at this
theorem lc_pureD {tg : Tg} {tt : M Bool} {el : M D} {own : List Nat} {xs : List D} {s : S} (p : D → Bool) (f : D → D) (hl : xs.length ≤ line)
    (step : ∀ x, x ∈ xs → Runs (itC tg tt el own x s) (fun o s' => o = (if p x = true then some (f x) else none) ∧ wipe own s' = wipe own s) noEs) : lcX tg tt el own xs s = .ok ((xs.filter p).map f) (unown own s.loc s) := by
  have := lc_pure (tg := tg) (tt := tt) (el := el) (own := own) (s := s) (g := id) p f hl step
  rwa [List.map_id] at this
def GIntF (F : FT) : Prop := ∀ (d : D) (c : List Cell), okP 0 d = true → F 1 [d] c = .ok (.bl (isI d)) c
theorem gint_run {d : D} {c : List Cell} (h : okP 0 d = true) : runDef G F ⟨1, 1, c1⟩ [d] c = .ok (.bl (isI d)) c := by
  cases d with
  | dct kvs =>
    refine run_to rfl fun K kr kn => ?_
    simp [c1, h]
    exact kr _ _ _ rfl rfl
  | _ => first | exact nomatch (show false = true from h) | kernel_rfl
def GWiF (F : FT) : Prop := ∀ (d : D) (l m : Int) (c : List Cell), okP 0 d = true → F 2 [d, .int l, .int m] c = .ok (.bl (inD d l m)) c
theorem gwi_run (hI : GIntF F) {d : D} {l m : Int} {c : List Cell} (h : okP 0 d = true) : runDef G F ⟨3, 3, c2⟩ [d, .int l, .int m] c = .ok (.bl (inD d l m)) c := by
  refine run_to rfl fun K kr kn => ?_
  have e := hI d c h
  cases d with
  | int i =>
    simp [c2, e, isI]
    refine kr _ _ _ ?_ rfl
    have k : (!decide (i < l) && !decide (m < i)) = (decide (l ≤ i) && decide (i ≤ m)) := by
      rw [Bool.eq_iff_iff]; simp
    simp [inD, k]
  | ref k => exact nomatch (show false = true from h)
  | obj k fs => exact nomatch (show false = true from h)
  | _ =>
    simp [c2, e, isI]
    exact kr _ _ _ rfl rfl
@[simp] theorem ref_web {h : Nat} {rs : List (Nat × Nat)} {ro ti : List Nat} : D.isRef (webO h rs ro ti) = false := (rfl)
@[simp] theorem fld_roads {h : Nat} {rs : List (Nat × Nat)} {ro ti : List Nat} : fldF G 2 (webO h rs ro ti) = some (.tup (rs.map pr)) := (rfl)
@[simp] theorem fld_next {h : Nat} {rs : List (Nat × Nat)} {ro ti : List Nat} : fldF G 5 (webO h rs ro ti) = some (nextD rs) := (rfl)
@[simp] theorem ref_nextD {rs : List (Nat × Nat)} : D.isRef (nextD rs) = false := (rfl)
@[simp] theorem fld_times {h : Nat} {rs : List (Nat × Nat)} {ro ti : List Nat} : fldF G 4 (webO h rs ro ti) = some (.tup (ti.map ni)) := (rfl)
/-! ways -/
def natD : D → Nat
  | .int i => i.toNat
  | _ => 0
def chainB (rs : List (Nat × Nat)) (w : List Nat) : Bool := (List.range' 1 (w.length - 1)).all fun q => decide ((rd rs (w.getD q 0)).1 = (rd rs (w.getD (q - 1) 0)).2)
def wayB (rs : List (Nat × Nat)) (d : D) : Bool := match d with
  | .tup xs => decide (1 ≤ xs.length) && decide (xs.length ≤ 8) && (xs.all fun x => inD x 0 (rs.length - 1)) && chainB rs (xs.map natD)
  | _ => false
theorem all_in {n : Nat} {xs : List D} (h : (xs.all fun x => inD x 0 ((n : Int) - 1)) = true) : xs = (xs.map natD).map ni ∧ ∀ x ∈ xs.map natD, x < n := by
  induction xs with
  | nil => simp
  | cons x xs ih =>
    rw [List.all_cons, Bool.and_eq_true] at h
    obtain ⟨h1, h2⟩ := ih h.2
    cases x with
    | int i =>
      have h0 : 0 ≤ i ∧ i ≤ (n : Int) - 1 := by simpa [inD] using h.1
      refine ⟨?_, fun y hy => ?_⟩
      · rw [List.map_cons, List.map_cons, ← h1]
        congr 1
        show D.int i = D.int ((i.toNat : Nat) : Int)
        congr 1; omega
      · rw [List.map_cons] at hy
        rcases List.mem_cons.mp hy with rfl | hy
        · show i.toNat < n
          omega
        · exact h2 y hy
    | _ => exact nomatch (show false = true from h.1)
@[simp] theorem inF_tupN {x : Nat} {l : List Nat} : inF (.int x) (.tup (l.map ni)) = some (l.contains x) := inF_lot
theorem next_in {rs : List (Nat × Nat)} {r : Nat} (h : r < rs.length) : idxF (nextD rs) (.int r) = some (.tup ((begs rs (rd rs r).2).map ni)) := by
  show pickI _ (r : Int) = _
  rw [pickI_nat, List.getElem?_map, rd_at h]; rfl
theorem begs_in {rs : List (Nat × Nat)} {x i : Nat} (h : i < rs.length) : (begs rs x).contains i = decide ((rd rs i).1 = x) := by
  rw [Bool.eq_iff_iff, List.contains_iff_mem, decide_eq_true_iff]
  unfold begs begsTo
  rw [List.mem_filter, List.mem_range'_1, decide_eq_true_iff]
  exact ⟨fun z => z.2, fun z => ⟨by omega, z⟩⟩
end
theorem nat_ni {w : List Nat} : (w.map ni).map natD = w := by
  rw [List.map_map]
  exact List.map_id'' (fun x => by show natD (ni x) = x; simp [ni_def, natD]) w
theorem way_ok {rs : List (Nat × Nat)} {w : List Nat} (v : VWay rs w) (h : w.length ≤ 8) : wayB rs (.tup (w.map ni)) = true := by
  have hp := List.length_pos_iff.mpr v.ne
  show (decide (1 ≤ (w.map ni).length) && decide ((w.map ni).length ≤ 8) && ((w.map ni).all fun x => inD x 0 (rs.length - 1)) && chainB rs ((w.map ni).map natD)) = true
  rw [nat_ni, List.length_map, decide_eq_true (show 1 ≤ w.length by omega), decide_eq_true h, Bool.true_and, Bool.true_and, Bool.and_eq_true]
  constructor
  · rw [List.all_eq_true]
    intro d hd
    obtain ⟨x, hx, rfl⟩ := List.mem_map.mp hd
    have := v.lt x hx
    show (decide ((0 : Int) ≤ (x : Int)) && decide ((x : Int) ≤ rs.length - 1)) = true
    rw [decide_eq_true (by omega), decide_eq_true (by omega)]; rfl
  · unfold chainB
    rw [List.all_eq_true]
    intro q hq
    rw [List.mem_range'_1] at hq
    have := v.ch (q - 1) (by omega)
    rw [show q - 1 + 1 = q by omega] at this
    rw [decide_eq_true_iff]; exact this.symm
theorem okP_int {n : Nat} {i : Int} : okP n (.int i) = true := by cases n <;> rfl
theorem okP_way {n : Nat} {w : List Nat} : okP n (.tup (w.map ni)) = true := by
  cases n with
  | zero => rfl
  | succ n =>
    show (w.map ni).all (okP n) = true
    rw [List.all_eq_true]
    intro d hd
    obtain ⟨x, _, rfl⟩ := List.mem_map.mp hd
    exact okP_int
end Pr

set_option linter.all false
set_option maxRecDepth 100000
set_option maxHeartbeats 4000000
namespace Pr
open PySem Ev
/-! spoiled cards -/
def okA (d : D) : Prop := ∀ n, okP n d = true
def okL (d : D) : Prop := okA d ∧ ∀ xs, d = .tup xs → xs.length ≤ 1000
theorem okA_tup {xs : List D} (h : ∀ x ∈ xs, okA x) : okA (.tup xs)
  | 0 => rfl
  | n + 1 => by
    show xs.all (okP n) = true
    rw [List.all_eq_true]
    exact fun x hx => h x hx n
theorem okA_at {xs : List D} (h : okA (.tup xs)) {x : D} (hx : x ∈ xs) : okA x := fun n => okP_at (h (n + 1)) hx
@[simp] theorem okA_int {i : Int} : okA (.int i) := fun n => by cases n <;> rfl
@[simp] theorem okA_non : okA .non := fun n => by cases n <;> rfl
@[simp] theorem okA_bl {b : Bool} : okA (.bl b) := fun n => by cases n <;> rfl
@[simp] theorem okA_str {b : Str} : okA (.str b) := fun n => by cases n <;> rfl
@[simp] theorem okA_lst {b : List D} : okA (.lst b) := fun n => by cases n <;> rfl
@[simp] theorem isTd_nil : isTd [] = false := (rfl)
@[simp] theorem isTd_str {a : Str} {x : D} {r : List (D × D)} : isTd ((.str a, x) :: r) = isTd r := (rfl)
@[simp] theorem okA_dct {b : List (D × D)} (h : isTd b = false) : okA (.dct b) := fun n => by
  have e : okP n (.dct b) = !isTd b := by cases n <;> rfl
  rw [e, h]; rfl
@[simp] theorem okA_tups {xs : List D} : okA (.tup xs) ↔ ∀ x ∈ xs, okA x := ⟨fun h x hx => okA_at h hx, okA_tup⟩
theorem okL_no {d : D} (h : okA d) (hT : isT d = false) : okL d := ⟨h, fun xs e => by rw [e] at hT; cases hT⟩
@[simp] theorem okL_int {i : Int} : okL (.int i) := okL_no okA_int rfl
@[simp] theorem okL_non : okL .non := okL_no okA_non rfl
@[simp] theorem okL_bl {b : Bool} : okL (.bl b) := okL_no okA_bl rfl
@[simp] theorem okL_str {b : Str} : okL (.str b) := okL_no okA_str rfl
@[simp] theorem okL_lst {b : List D} : okL (.lst b) := okL_no okA_lst rfl
@[simp] theorem okL_dct {b : List (D × D)} (h : isTd b = false) : okL (.dct b) := okL_no (okA_dct h) rfl
@[simp] theorem okL_tup {xs : List D} : okL (.tup xs) ↔ (∀ x ∈ xs, okA x) ∧ xs.length ≤ 1000 :=
  ⟨fun h => ⟨okA_tups.mp h.1, h.2 xs rfl⟩, fun h => ⟨okA_tup h.1, fun ys e => by cases e; exact h.2⟩⟩
theorem cut_mem {xs : List D} {a b : Option Int} {x : D} (h : x ∈ cutI xs a b) : x ∈ xs := List.mem_of_mem_drop (List.mem_of_mem_take h)
theorem cut_len {xs : List D} {a b : Option Int} : (cutI xs a b).length ≤ xs.length := by
  unfold cutI
  simp only [List.length_take, List.length_drop]
  omega
theorem pick_mem {xs : List D} {d : Nat} {m : Int} (h : (d : Int) < m) (hm : m = xs.length) : ∃ x ∈ xs, xs[d]? = some x := by
  have hd : d < xs.length := by omega
  exact ⟨xs[d], List.getElem_mem hd, List.getElem?_eq_getElem hd⟩
@[simp] theorem disp_ab {a b : Str} : dispD (.cons (.str a) .nil) (.cons (.str b) .nil) [] = some [(.str a, .str b)] := (rfl)
@[simp] theorem disp_nil : dispD .nil .nil [] = some [] := (rfl)
theorem runs_pick {γ : Type} {xs : List D} {d : Nat} {m : Int} {s : S} {f : PV → S → Res γ} {Q : γ → S → Prop} {E : Exc → S → Prop} (h : (d : Int) < m) (hm : m = xs.length) (k : ∀ x ∈ xs, Runs (f (.d x) s) Q E) : Runs ((optD xs[d]? s).bind f) Q E := by
  obtain ⟨x, hx, e⟩ := pick_mem h hm
  rw [e]
  exact k x hx
section
variable {F : FT}
def BadL (n : Nat) (d : D) : Prop := isT d = false ∨ (∃ xs, d = .tup xs ∧ xs.length ≤ 1000 ∧ ∃ x ∈ xs, inD x 0 ((n : Int) - 1) = false) ∨ d = .tup [.int 0, .int 0]
def BadS (d : D) : Prop := ∀ t, d ≠ so t
/-- no lot, no sort -/
def OddV (d : D) : Prop := (∀ n, BadL n d) ∧ BadS d ∧ (isI d = true → d = .int (-1)) ∧ eqF d (.int (-1)) = some (isI d) ∧ (isT d = true → ∃ x, d = .tup [x] ∧ isI x = false)
theorem badS_no {d : D} (h : ∀ a, d ≠ .str a) : BadS d := fun t e => by
  cases t <;> exact h _ e
theorem badS_str {a : Str} (h : a ≠ .ofString "hours") (h' : a ≠ .ofString "turns") : BadS (.str a) := fun t e => by
  cases t
  · exact h (D.str.inj e)
  · exact h' (D.str.inj e)
theorem OddV_no {d : D} (h : isT d = false) (h' : ∀ a, d ≠ .str a) (h2 : isI d = true → d = .int (-1)) (h3 : eqF d (.int (-1)) = some (isI d)) : OddV d := ⟨fun _ => .inl h, badS_no h', h2, h3, fun z => by rw [h] at z; cases z⟩
theorem OddV_one {x : D} (h : ∀ n : Int, inD x 0 n = false) (h3 : eqF (.tup [x]) (.int (-1)) = some false) (h4 : isI x = false := by rfl) : OddV (.tup [x]) := ⟨fun n => .inr (.inl ⟨[x], rfl, by simp, x, by simp, h _⟩), badS_no (fun _ => (nofun)), (fun h => nomatch h), h3, fun _ => ⟨x, rfl, h4⟩⟩
@[simp] theorem OddV_non : OddV .non := OddV_no rfl (fun _ => (nofun)) (fun h => nomatch h) rfl
@[simp] theorem OddV_bl {b : Bool} : OddV (.bl b) := OddV_no rfl (fun _ => (nofun)) (fun h => nomatch h) (by cases b <;> rfl)
@[simp] theorem OddV_int : OddV (.int (-1)) := OddV_no rfl (fun _ => (nofun)) (fun _ => rfl) (by decide +kernel)
theorem OddV_lst {b : List D} (h3 : eqF (.lst b) (.int (-1)) = some false) : OddV (.lst b) := OddV_no rfl (fun _ => (nofun)) (fun h => nomatch h) h3
@[simp] theorem OddV_l0 : OddV (.lst []) := OddV_lst rfl
@[simp] theorem OddV_l1 : OddV (.lst [.str "a"]) := OddV_lst rfl
@[simp] theorem OddV_l2 : OddV (.lst [.int 0]) := OddV_lst rfl
theorem OddV_ly {y : D} (h : D.fin 59 y = true) : OddV (.lst [y]) := OddV_lst (by
  have e : D.fin dep (.lst [y]) = true := by
    show (D.fin 59 y && true) = true
    rw [h]; rfl
  unfold eqF
  rw [e]; rfl)
@[simp] theorem OddV_dct {b : List (D × D)} : OddV (.dct b) := OddV_no rfl (fun _ => (nofun)) (fun h => nomatch h) rfl
@[simp] theorem OddV_1 : OddV (.str "1") := ⟨fun _ => .inl rfl, badS_str (by decide +kernel) (by decide +kernel), (fun h => nomatch h), rfl, fun h => nomatch h⟩
@[simp] theorem OddV_A : OddV (.str "A b") := ⟨fun _ => .inl rfl, badS_str (by decide +kernel) (by decide +kernel), (fun h => nomatch h), rfl, fun h => nomatch h⟩
@[simp] theorem OddV_t1 : OddV (.tup [.tup []]) := OddV_one (fun _ => rfl) rfl
@[simp] theorem OddV_t2 {a : Str} : OddV (.tup [.str a]) := OddV_one (fun _ => rfl) rfl
@[simp] theorem OddV_t3 : OddV (.tup [.non]) := OddV_one (fun _ => rfl) rfl
@[simp] theorem OddV_t4 {b : Bool} : OddV (.tup [.bl b]) := OddV_one (fun _ => rfl) rfl
def OddF (F : FT) : Prop := ∀ (p : Hand) (r : List Cell), ∃ (x : D) (p' : Hand), F 16 [.ref 0] (p.c r) = .ok x (p'.c r) ∧ okL x ∧ OddV x
def OddQ (r : List Cell) (x : D) (c : List Cell) : Prop := ∃ p' : Hand, c = p'.c r ∧ okL x
def OddR (r : List Cell) (x : D) (c : List Cell) : Prop := ∃ p' : Hand, c = p'.c r ∧ okL x ∧ OddV x
theorem odd_run (hD : DrawH F) {p : Hand} {r : List Cell} : ∃ (x : D) (p' : Hand), runDef G F ⟨1, 4, c16⟩ [.ref 0] (p.c r) = .ok x (p'.c r) ∧ okL x ∧ OddV x := by
  suffices hh : ∃ x c, runDef G F ⟨1, 4, c16⟩ [.ref 0] (p.c r) = .ok x c ∧ OddR r x c by
    obtain ⟨x, c, e, p', rfl, q⟩ := hh
    exact ⟨x, p', e, q⟩
  obtain ⟨n, hn⟩ : ∃ n : Nat, n = 18 := ⟨_, rfl⟩
  have hr : rngD (.d (.int 0)) (.d (.int 18)) = some ((List.range n).map fun (j : Nat) => D.int j) := by
    have c : (18 : Int) = (n : Int) := by omega
    rw [c]
    exact rng_n (by omega)
  obtain ⟨d, p1, e1, h1⟩ := hD p r 16 (by omega) (by omega)
  refine run_ex rfl fun K kr => ?_
  simp [c16, hr]
  refine runs_seq (P := fun s => ∃ y, D.fin 59 y = true ∧ s = ⟨[some (.d (.ref 0)), some (.d (.lst [y])), none, none], p.c r⟩) ?_ ?_
  · intro K1 k1
    refine runs_rng0 (fun y : D => ⟨[some (.d (.ref 0)), some (.d (.lst [y])), none, none], p.c r⟩) (fun q y => D.fin (41 + q) y = true) .non rfl ?_ ?_
    · intro q y _ hf K2 k2
      simp
      exact k2.nx (.lst [y]) _ rfl (by
        show (D.fin (41 + q) y && true) = true
        rw [hf]; rfl)
    · intro y hf
      refine k1.nx _ ⟨y, ?_, rfl⟩
      rw [hn] at hf
      exact hf
  · rintro s ⟨y, hf, rfl⟩
    have oy := OddV_ly hf
    simp [e1]
    refine runs_pick h1 rfl fun x hx => ?_
    have hx : okL x ∧ OddV x := by
      revert x
      simp [oy]
    simp
    exact kr.rt _ _ _ ⟨p1, rfl, hx⟩
end
end Pr

set_option linter.all false
set_option maxRecDepth 100000
set_option maxHeartbeats 4000000
namespace Pr
open PySem Ev
/-! webs of anything -/
def pairB (h : Int) (d : D) : Bool := match d with
  | .tup [a, b] => inD a 0 (h - 1) && inD b 0 (h - 1) && !eqB a b
  | _ => false
def roadsB (h : Int) (d : D) : Bool := match d with
  | .tup xs => decide (1 ≤ xs.length) && decide (xs.length ≤ 24) && xs.all (pairB h)
  | _ => false
def cntB (n : Nat) (d : D) : Bool := match d with
  | .tup xs => decide (xs.length = n) && xs.all fun x => inD x 1 3
  | _ => false
def lenN : D → Nat
  | .tup xs => xs.length
  | _ => 0
def dueW (H R O T : D) : String := match H with
  | .int h => if 2 ≤ h ∧ h ≤ 12 then (if roadsB h R = true then (if cntB (lenN R) O = true then (if cntB (lenN R) T = true then "let" else "times") else "rooms") else "roads") else "houses"
  | _ => "houses"
def is2 : D → Bool
  | .tup [_, _] => true
  | _ => false
theorem is2_len {xs : List D} : is2 (.tup xs) = decide (xs.length = 2) := by
  match xs with
  | [] => rfl
  | [_] => rfl
  | [_, _] => rfl
  | _ :: _ :: _ :: _ => simp [is2]
theorem inD_int {d : D} {l m : Int} (h : inD d l m = true) : ∃ i, d = .int i ∧ l ≤ i ∧ i ≤ m := by
  cases d with
  | int i =>
    refine ⟨i, rfl, ?_⟩
    simpa [inD] using h
  | _ => exact nomatch (show false = true from h)
section
variable {F : FT}
def LNumF (F : FT) : Prop := ∀ (d : D) (l m : Int) (c : List Cell), okP 0 d = true → F 17 [d, .int l, .int m] c = .ok (.bl (inD d l m)) c
theorem lnum_run {d : D} {l m : Int} {c : List Cell} (h : okP 0 d = true) : runDef G F ⟨3, 3, c17⟩ [d, .int l, .int m] c = .ok (.bl (inD d l m)) c := by
  refine run_to rfl fun K kr kn => ?_
  have r := okP_ref h
  cases d with
  | int i =>
    simp [c17, h, isI]
    refine kr _ _ _ ?_ rfl
    have k : (!decide (i < l) && !decide (m < i)) = (decide (l ≤ i) && decide (i ≤ m)) := by
      rw [Bool.eq_iff_iff]; simp
    simp [inD, k]
  | ref k => exact nomatch (show false = true from h)
  | obj k fs => exact nomatch (show false = true from h)
  | _ =>
    simp [c17, h, isI, r]
    exact kr _ _ _ rfl rfl
def GPairF (F : FT) : Prop := ∀ (d : D) (c : List Cell), okP 0 d = true → F 3 [d] c = .ok (.bl (is2 d)) c
theorem gpair_run {d : D} {c : List Cell} (h : okP 0 d = true) : runDef G F ⟨1, 1, c3⟩ [d] c = .ok (.bl (is2 d)) c := by
  refine run_to rfl fun K kr kn => ?_
  have r := okP_ref h
  cases d with
  | tup xs =>
    simp [c3, h, isT]
    refine kr _ _ _ ?_ rfl
    rw [is2_len]
    congr 1
    rw [decide_eq_decide]; omega
  | ref k => exact nomatch (show false = true from h)
  | obj k fs => exact nomatch (show false = true from h)
  | _ =>
    simp [c3, h, isT, r]
    exact kr _ _ _ rfl rfl
/-- one pair -/
theorem two_all {a b : D} {p : D → Bool} : [a, b].all p = (p a && p b) := by simp
def GRoadsF (F : FT) : Prop := ∀ (d : D) (h : Int) (c : List Cell), okP 2 d = true → F 4 [d, .int h] c = .ok (.bl (roadsB h d)) c
theorem groads_run (hW : GWiF F) (hP : GPairF F) {d : D} {h : Int} {c : List Cell} (o : okP 2 d = true) : runDef G F ⟨2, 4, c4⟩ [d, .int h] c = .ok (.bl (roadsB h d)) c := by
  refine run_to rfl fun K kr kn => ?_
  have h0 := okP_0 o
  have r := okP_ref o
  have gc : G.con[1]? = some (.int 24) := rfl
  cases d with
  | tup xs =>
    simp [c4, h0, isT, gc]
    refine seq_if (fun hc => ?_) fun hc => ?_
    · simp
      refine kr _ _ _ ?_ rfl
      have hz : ¬ (1 ≤ xs.length ∧ xs.length ≤ 24) := fun ⟨z1, z2⟩ => by
        simp at hc; omega
      show D.bl false = D.bl (decide (1 ≤ xs.length) && decide (xs.length ≤ 24) && _)
      by_cases z1 : 1 ≤ xs.length
      · rw [decide_eq_false (p := xs.length ≤ 24) fun z2 => hz ⟨z1, z2⟩]; simp
      · rw [decide_eq_false z1]; simp
    · have hz : 1 ≤ xs.length ∧ xs.length ≤ 24 := by simp at hc; omega
      have ew : roadsB h (.tup xs) = xs.all (pairB h) := by
        show (decide (1 ≤ xs.length) && decide (xs.length ≤ 24) && _) = _
        rw [decide_eq_true hz.1, decide_eq_true hz.2]; simp
      rw [ew] at kr
      clear ew kn hc r h0
      have wx (s : S) : walk (.d (.tup xs)) s = .ok (.xs xs) s := rfl
      have oa : ∀ x ∈ xs, okP 1 x = true := fun x hx => okP_at o hx
      generalize D.tup xs = XD at *
      simp [wx]
      refine runs_seq (P := fun s => s = ⟨[some (.d XD), some (.d (.int h)), none, none], c⟩ ∧ xs.all (pairB h) = true) ?_ ?_
      · intro K1 k1
        refine runs_allD (p := pairB h) (r := .bl false) (fun s' => s'.cel = c) rfl ?_ (fun ha => k1.nx _ ⟨rfl, ha⟩) (fun s' ha hs => k1.rt _ _ (kr _ s'.loc s'.cel (by rw [ha]) hs))
        · intro x hx K2 kt kf
          have ox := oa x hx
          have o0 := okP_0 ox
          have rx := okP_ref ox
          have e1 := hP x c o0
          cases h2 : is2 x with
          | false =>
            rw [h2] at e1
            have pf : pairB h x = false := by
              unfold pairB
              split
              · cases h2
              · rfl
            simp [e1, rx]
            exact kf _ pf rfl
          | true =>
            rw [h2] at e1
            obtain ⟨a, b, rfl⟩ : ∃ a b, x = .tup [a, b] := by
              unfold is2 at h2
              split at h2
              · exact ⟨_, _, rfl⟩
              · cases h2
            have al (p q : Bool) : biF .all [.lst [.bl p, .bl q]] = some (.bl (p && q)) := by cases p <;> cases q <;> rfl
            simp [e1]
            rw [lc_mapD (fun y => .bl (inD y 0 (h - 1))) (le_line (by simp)) (fun y hy => by
              have := okP_at ox hy
              have e := hW y 0 (h - 1) c this
              have r := okP_ref this
              simp [e, r])]
            simp [al]
            have pe : pairB h (.tup [a, b]) = (inD a 0 (h - 1) && inD b 0 (h - 1) && !eqB a b) := rfl
            cases ha : inD a 0 (h - 1) with
            | false =>
              rw [ha] at pe
              simp
              exact kf _ (by rw [pe]; rfl) rfl
            | true =>
              cases hb : inD b 0 (h - 1) with
              | false =>
                rw [ha, hb] at pe
                simp
                exact kf _ (by rw [pe]; rfl) rfl
              | true =>
                obtain ⟨i, rfl, _⟩ := inD_int ha
                obtain ⟨j, rfl, _⟩ := inD_int hb
                rw [ha, hb] at pe
                have ei : eqB (.int i) (.int j) = decide (i = j) := by
                  show (i == j) = _
                  by_cases e : i = j <;> simp [e]
                rw [ei] at pe
                by_cases e : i = j
                · simp [e]
                  exact kf _ (by rw [pe, e]; simp) rfl
                · simp [e]
                  exact kt _ (by rw [pe]; simp [e]) rfl
      · rintro s ⟨rfl, ha⟩
        simp
        exact kr _ _ _ (by rw [ha]) rfl
  | ref k => exact nomatch (show false = true from o)
  | obj k fs => exact nomatch (show false = true from o)
  | _ =>
    simp [c4, h0, isT]
    exact kr _ _ _ rfl rfl
def GCntsF (F : FT) : Prop := ∀ (d : D) (n : Nat) (c : List Cell), okP 1 d = true → n ≤ 1000 → F 5 [d, .int n, .int 3] c = .ok (.bl (cntB n d)) c
theorem gcnts_run (hW : GWiF F) {d : D} {n : Nat} {c : List Cell} (o : okP 1 d = true) (hn : n ≤ 1000) : runDef G F ⟨3, 4, c5⟩ [d, .int n, .int 3] c = .ok (.bl (cntB n d)) c := by
  refine run_to rfl fun K kr kn => ?_
  have h0 := okP_0 o
  have r := okP_ref o
  cases d with
  | tup xs =>
    have eb : cntB n (.tup xs) = (decide (xs.length = n) && xs.all fun x => inD x 1 3) := rfl
    rw [eb] at kr
    by_cases hl : xs.length = n
    · have ll : xs.length ≤ line := le_line (by omega)
      simp [c5, h0, isT, hl]
      rw [lc_mapD (fun x => .bl (inD x 1 3)) ll (fun x hx => by
        have := okP_at o hx
        have e := hW x 1 3 c this
        have r := okP_ref this
        simp [e, r])]
      simp [all_map]
      refine kr _ _ _ ?_ rfl
      rw [decide_eq_true hl]; simp
    · have hl' : ¬ ((xs.length : Int) = n) := by omega
      simp [c5, h0, isT, hl']
      refine kr _ _ _ ?_ rfl
      rw [decide_eq_false hl]; simp
  | ref k => exact nomatch (show false = true from o)
  | obj k fs => exact nomatch (show false = true from o)
  | _ =>
    simp [c5, h0, isT]
    exact kr _ _ _ rfl rfl
/-! the law's own -/
def LRoadsF (F : FT) : Prop := ∀ (d : D) (h : Int) (c : List Cell), okP 2 d = true → F 18 [d, .int h] c = .ok (.bl (roadsB h d)) c
theorem lroads_run (hN : LNumF F) {d : D} {h : Int} {c : List Cell} (o : okP 2 d = true) : runDef G F ⟨2, 4, c18⟩ [d, .int h] c = .ok (.bl (roadsB h d)) c := by
  refine run_to rfl fun K kr kn => ?_
  have h0 := okP_0 o
  have r := okP_ref o
  cases d with
  | tup xs =>
    simp [c18, h0, isT]
    refine seq_if (fun hc => ?_) fun hc => ?_
    · simp
      refine kr _ _ _ ?_ rfl
      have hz : ¬ (1 ≤ xs.length ∧ xs.length ≤ 24) := fun ⟨z1, z2⟩ => by
        simp at hc; omega
      show D.bl false = D.bl (decide (1 ≤ xs.length) && decide (xs.length ≤ 24) && _)
      by_cases z1 : 1 ≤ xs.length
      · rw [decide_eq_false (p := xs.length ≤ 24) fun z2 => hz ⟨z1, z2⟩]; simp
      · rw [decide_eq_false z1]; simp
    · have hz : 1 ≤ xs.length ∧ xs.length ≤ 24 := by simp at hc; omega
      have ew : roadsB h (.tup xs) = xs.all (pairB h) := by
        show (decide (1 ≤ xs.length) && decide (xs.length ≤ 24) && _) = _
        rw [decide_eq_true hz.1, decide_eq_true hz.2]; simp
      rw [ew] at kr
      clear ew kn hc r h0
      have wx (s : S) : walk (.d (.tup xs)) s = .ok (.xs xs) s := rfl
      have oa : ∀ x ∈ xs, okP 1 x = true := fun x hx => okP_at o hx
      generalize D.tup xs = XD at *
      simp [wx]
      refine runs_seq (P := fun s => s = ⟨[some (.d XD), some (.d (.int h)), none, none], c⟩ ∧ xs.all (pairB h) = true) ?_ ?_
      · intro K1 k1
        refine runs_allD (p := pairB h) (r := .bl false) (fun s' => s'.cel = c) rfl ?_ (fun ha => k1.nx _ ⟨rfl, ha⟩) (fun s' ha hs => k1.rt _ _ (kr _ s'.loc s'.cel (by rw [ha]) hs))
        · intro x hx K2 kt kf
          have ox := oa x hx
          have o0 := okP_0 ox
          have rx := okP_ref ox
          cases hT : isT x with
          | false =>
            have pf : pairB h x = false := by
              unfold pairB
              split
              · cases hT
              · rfl
            simp [o0, hT, rx]
            exact kf _ pf rfl
          | true =>
            obtain ⟨ys, rfl⟩ : ∃ ys, x = .tup ys := by
              cases x with
              | tup ys => exact ⟨ys, rfl⟩
              | _ => exact nomatch (show false = true from hT)
            by_cases hl : ys.length = 2
            · obtain ⟨a, b, rfl⟩ : ∃ a b, ys = [a, b] := by
                match ys, hl with
                | [a, b], _ => exact ⟨a, b, rfl⟩
              simp [isT, okP_0 ox]
              rw [lc_pureD (fun y => !inD y 0 (h - 1)) id (le_line (by simp)) (fun y hy => by
                have := okP_at ox hy
                have e := hN y 0 (h - 1) c this
                have r := okP_ref this
                generalize inD y 0 (h - 1) = bb at *
                cases bb <;> simp [e, r])]
              have pe : pairB h (.tup [a, b]) = (inD a 0 (h - 1) && inD b 0 (h - 1) && !eqB a b) := rfl
              cases ha : inD a 0 (h - 1) with
              | false =>
                rw [ha] at pe
                cases hb : inD b 0 (h - 1) <;> simp [ha, hb] <;> exact kf _ (by rw [pe]; rfl) rfl
              | true =>
                cases hb : inD b 0 (h - 1) with
                | false =>
                  rw [ha, hb] at pe
                  simp [ha, hb]
                  exact kf _ (by rw [pe]; rfl) rfl
                | true =>
                  obtain ⟨i, rfl, _⟩ := inD_int ha
                  obtain ⟨j, rfl, _⟩ := inD_int hb
                  have ei : eqB (.int i) (.int j) = decide (i = j) := by
                    show (i == j) = _
                    by_cases e : i = j <;> simp [e]
                  rw [ha, hb, ei] at pe
                  by_cases e : i = j
                  · subst e
                    simp [ha, hb]
                    exact kf _ (by rw [pe]; simp) rfl
                  · simp [ha, hb, e]
                    exact kt _ (by rw [pe]; simp [e]) rfl
            · have hl' : ¬ ((ys.length : Int) = 2) := by omega
              have pf : pairB h (.tup ys) = false := by
                unfold pairB
                split
                · rename_i a b e
                  cases e
                  exact absurd rfl hl
                · rfl
              simp [isT, okP_0 ox, hl']
              exact kf _ pf rfl
      · rintro s ⟨rfl, ha⟩
        simp
        exact kr _ _ _ (by rw [ha]) rfl
  | ref k => exact nomatch (show false = true from o)
  | obj k fs => exact nomatch (show false = true from o)
  | _ =>
    simp [c18, h0, isT]
    exact kr _ _ _ rfl rfl
def LCntsF (F : FT) : Prop := ∀ (d : D) (n : Nat) (c : List Cell), okP 1 d = true → n ≤ 1000 → F 19 [d, .int n] c = .ok (.bl (cntB n d)) c
theorem lcnts_run (hN : LNumF F) {d : D} {n : Nat} {c : List Cell} (o : okP 1 d = true) (hn : n ≤ 1000) : runDef G F ⟨2, 3, c19⟩ [d, .int n] c = .ok (.bl (cntB n d)) c := by
  refine run_to rfl fun K kr kn => ?_
  have h0 := okP_0 o
  have r := okP_ref o
  cases d with
  | tup xs =>
    have eb : cntB n (.tup xs) = (decide (xs.length = n) && xs.all fun x => inD x 1 3) := rfl
    rw [eb] at kr
    by_cases hl : xs.length = n
    · have ll : xs.length ≤ line := le_line (by omega)
      simp [c19, h0, isT, hl]
      rw [lc_pureD (fun x => !inD x 1 3) id ll (fun x hx => by
        have := okP_at o hx
        have e := hN x 1 3 c this
        have r := okP_ref this
        generalize inD x 1 3 = bb at *
        cases bb <;> simp [e, r])]
      rw [decide_eq_true hl] at kr
      have fl : ((xs.filter fun x => !inD x 1 3).map id).length = 0 ↔ (xs.all fun x => inD x 1 3) = true := by
        rw [List.map_id, List.length_eq_zero_iff, List.filter_eq_nil_iff, List.all_eq_true]
        exact ⟨fun h x hx => by have := h x hx; simpa using this, fun h x hx => by rw [h x hx]; simp⟩
      generalize (xs.filter fun x => !inD x 1 3).map id = fs at *
      simp
      refine kr _ _ _ ?_ rfl
      congr 1
      rw [Bool.eq_iff_iff, decide_eq_true_iff, Bool.true_and, ← fl]
      simp
    · have hl' : ¬ ((xs.length : Int) = n) := by omega
      simp [c19, h0, isT, hl']
      refine kr _ _ _ ?_ rfl
      rw [decide_eq_false hl]; simp
  | ref k => exact nomatch (show false = true from o)
  | obj k fs => exact nomatch (show false = true from o)
  | _ =>
    simp [c19, h0, isT]
    exact kr _ _ _ rfl rfl
theorem dueW_h {H R O T : D} (h : inD H 2 12 = false) : dueW H R O T = "houses" := by
  cases H with
  | int i =>
    show (if 2 ≤ i ∧ i ≤ 12 then _ else "houses") = _
    rw [if_neg (fun z => by rw [show inD (.int i) 2 12 = true from by show (decide (2 ≤ i) && decide (i ≤ 12)) = true; simp [z.1, z.2]] at h; cases h)]
  | _ => rfl
theorem dueW_i {i : Int} {R O T : D} (h : inD (.int i) 2 12 = true) : dueW (.int i) R O T = if roadsB i R = true then (if cntB (lenN R) O = true then (if cntB (lenN R) T = true then "let" else "times") else "rooms") else "roads" := by
  have h : (decide (2 ≤ i) && decide (i ≤ 12)) = true := h
  rw [Bool.and_eq_true, decide_eq_true_iff, decide_eq_true_iff] at h
  exact if_pos h
theorem roadsB_len {i : Int} {R : D} (h : roadsB i R = true) : ∃ xs, R = .tup xs ∧ 1 ≤ xs.length ∧ xs.length ≤ 24 := by
  cases R with
  | tup xs =>
    have h : (decide (1 ≤ xs.length) && decide (xs.length ≤ 24) && xs.all (pairB i)) = true := h
    simp only [Bool.and_eq_true, decide_eq_true_iff] at h
    exact ⟨xs, rfl, h.1⟩
  | _ => exact nomatch (show false = true from h)
def LDueF (F : FT) : Prop := ∀ (H R O T : D) (c : List Cell), okP 0 H = true → okP 2 R = true → okP 1 O = true → okP 1 T = true → F 20 [H, R, O, T] c = .ok (.str (dueW H R O T)) c
theorem ldue_run (hN : LNumF F) (hR : LRoadsF F) (hC : LCntsF F) {H R O T : D} {c : List Cell} (oH : okP 0 H = true) (oR : okP 2 R = true) (oO : okP 1 O = true) (oT : okP 1 T = true) :
    runDef G F ⟨4, 4, c20⟩ [H, R, O, T] c = .ok (.str (dueW H R O T)) c := by
  refine run_to rfl fun K kr kn => ?_
  have rH := okP_ref oH
  have rR := okP_ref oR
  have rO := okP_ref oO
  have rT := okP_ref oT
  have e1 := hN H 2 12 c oH
  cases h1 : inD H 2 12 with
  | false =>
    rw [h1] at e1
    simp [c20, e1, rH]
    exact kr _ _ _ (by rw [dueW_h h1]) rfl
  | true =>
    rw [h1] at e1
    obtain ⟨i, rfl, _⟩ := inD_int h1
    rw [dueW_i h1] at kr
    have e2 := hR R i c oR
    cases h2 : roadsB i R with
    | false =>
      rw [h2] at e2 kr
      simp [c20, e1, e2, rR]
      exact kr _ _ _ rfl rfl
    | true =>
      rw [h2] at e2 kr
      obtain ⟨xs, rfl, l1, l2⟩ := roadsB_len h2
      have e3 := hC O xs.length c oO (by omega)
      have e4 := hC T xs.length c oT (by omega)
      have en : lenN (.tup xs) = xs.length := rfl
      rw [en] at kr
      cases h3 : cntB xs.length O with
      | false =>
        rw [h3] at e3 kr
        simp [c20, e1, e2, e3, rO]
        exact kr _ _ _ rfl rfl
      | true =>
        rw [h3] at e3 kr
        cases h4 : cntB xs.length T with
        | false =>
          rw [h4] at e4 kr
          simp [c20, e1, e2, e3, e4, rO, rT]
          exact kr _ _ _ rfl rfl
        | true =>
          rw [h4] at e4 kr
          simp [c20, e1, e2, e3, e4, rO, rT]
          exact kr _ _ _ rfl rfl
/-- a web that is none -/
def XWebF (F : FT) : Prop := ∀ (H R O T : D), okP 0 H = true → okP 2 R = true → okP 1 O = true → okP 1 T = true → dueW H R O T ≠ "let" → F 6 [.ref 0, H, R, O, T] [.obj 0 []] = .exc ⟨2, [(0, .str (dueW H R O T))]⟩ [.obj 0 []]
theorem xweb_run (hW : GWiF F) (hR : GRoadsF F) (hC : GCntsF F) {H R O T : D} (oH : okP 0 H = true) (oR : okP 2 R = true) (oO : okP 1 O = true) (oT : okP 1 T = true) (hd : dueW H R O T ≠ "let") :
    runDef G F ⟨5, 5, c6⟩ [.ref 0, H, R, O, T] [.obj 0 []] = .exc ⟨2, [(0, .str (dueW H R O T))]⟩ [.obj 0 []] := by
  refine run_exc rfl fun E ke => ?_
  have rH := okP_ref oH
  have rR := okP_ref oR
  have rO := okP_ref oO
  have rT := okP_ref oT
  have g : G.exf 2 = some [0] := rfl
  have g1 : G.con[0]? = some (.int 12) := rfl
  have g2 : G.con[2]? = some (.int 3) := rfl
  have g3 : G.con[3]? = some (.int 3) := rfl
  generalize hc : ([.obj 0 []] : List Cell) = c at *
  have e1 := hW H 2 12 c oH
  cases h1 : inD H 2 12 with
  | false =>
    rw [h1] at e1
    rw [dueW_h h1] at ke
    simp [c6, e1, rH, g1, g]
    exact ke _
  | true =>
    rw [h1] at e1
    obtain ⟨i, rfl, _⟩ := inD_int h1
    rw [dueW_i h1] at ke hd
    have e2 := hR R i c oR
    cases h2 : roadsB i R with
    | false =>
      rw [h2] at e2 ke
      simp [c6, e1, e2, rR, g1, g]
      exact ke _
    | true =>
      rw [h2] at e2 ke hd
      obtain ⟨xs, rfl, l1, l2⟩ := roadsB_len h2
      have e3 := hC O xs.length c oO (by omega)
      have e4 := hC T xs.length c oT (by omega)
      have en : lenN (.tup xs) = xs.length := rfl
      rw [en] at ke hd
      cases h3 : cntB xs.length O with
      | false =>
        rw [h3] at e3 ke
        simp [c6, e1, e2, e3, rO, g1, g2, g]
        exact ke _
      | true =>
        rw [h3] at e3 ke hd
        cases h4 : cntB xs.length T with
        | false =>
          rw [h4] at e4 ke
          simp [c6, e1, e2, e3, e4, rO, rT, g1, g2, g3, g]
          exact ke _
        | true => exact absurd (by rw [h4]; rfl) hd
end
end Pr

set_option linter.all false
set_option maxRecDepth 100000
set_option maxHeartbeats 4000000
namespace Pr
open PySem Ev
/-! data without objects, that names nothing of the store -/
theorem blws_all {n : Nat} : ∀ {xs : List D}, D.blws n xs = xs.all (D.blw n)
  | [] => rfl
  | x :: xs => by
    show (D.blw n x && D.blws n xs) = _
    rw [blws_all]; rfl
mutual
theorem fin_blw {m : Nat} : ∀ (n : Nat) (d : D), D.fin n d = true → D.blw m d = true
  | _, .non, _ => rfl
  | _, .bl _, _ => rfl
  | _, .int _, _ => rfl
  | _, .str _, _ => rfl
  | 0, .tup _, h => nomatch (show false = true from h)
  | 0, .lst _, h => nomatch (show false = true from h)
  | n + 1, .tup xs, h => fins_blw n xs h
  | n + 1, .lst xs, h => fins_blw n xs h
  | 0, .dct _, h => nomatch (show false = true from h)
  | n + 1, .dct _, h => nomatch (show false = true from h)
  | 0, .obj _ _, h => nomatch (show false = true from h)
  | n + 1, .obj _ _, h => nomatch (show false = true from h)
  | 0, .ref _, h => nomatch (show false = true from h)
  | n + 1, .ref _, h => nomatch (show false = true from h)
theorem fins_blw {m : Nat} : ∀ (n : Nat) (xs : List D), D.fins n xs = true → D.blws m xs = true
  | _, [], _ => rfl
  | n, x :: xs, h => by
    have h : (D.fin n x && D.fins n xs) = true := by cases n <;> exact h
    rw [Bool.and_eq_true] at h
    show (D.blw m x && D.blws m xs) = true
    rw [fin_blw n x h.1, fins_blw n xs h.2]; rfl
end
def okB (d : D) : Prop := okA d ∧ D.blw 0 d = true
theorem okB_tup {xs : List D} (h : ∀ x ∈ xs, okB x) : okB (.tup xs) := ⟨okA_tup fun x hx => (h x hx).1, by
  show D.blws 0 xs = true
  rw [blws_all, List.all_eq_true]
  exact fun x hx => (h x hx).2⟩
theorem okB_at {xs : List D} (h : okB (.tup xs)) {x : D} (hx : x ∈ xs) : okB x := ⟨okA_at h.1 hx, by
  have h2 : D.blws 0 xs = true := h.2
  rw [blws_all, List.all_eq_true] at h2
  exact h2 x hx⟩
@[simp] theorem okB_int {i : Int} : okB (.int i) := ⟨okA_int, rfl⟩
@[simp] theorem okB_non : okB .non := ⟨okA_non, rfl⟩
@[simp] theorem okB_bl {b : Bool} : okB (.bl b) := ⟨okA_bl, rfl⟩
@[simp] theorem okB_str {b : Str} : okB (.str b) := ⟨okA_str, rfl⟩
@[simp] theorem okB_dct0 : okB (.dct []) := ⟨okA_dct rfl, rfl⟩
@[simp] theorem okB_tups {xs : List D} : okB (.tup xs) ↔ ∀ x ∈ xs, okB x := ⟨fun h x hx => okB_at h hx, okB_tup⟩
theorem okB_lst {xs : List D} (h : ∀ x ∈ xs, D.blw 0 x = true) : okB (.lst xs) := ⟨okA_lst, by
  show D.blws 0 xs = true
  rw [blws_all, List.all_eq_true]; exact h⟩
theorem okB_fin {d : D} {n : Nat} (h : okA d) (hf : D.fin n d = true) : okB d := ⟨h, fin_blw n d hf⟩
theorem okB_app {a b : List D} (h1 : okB (.tup a)) (h2 : okB (.tup b)) : okB (.tup (a ++ b)) := okB_tup fun x hx => (List.mem_append.mp hx).elim (okB_at h1) (okB_at h2)
theorem okB_cons {a : D} {b : List D} (h1 : okB a) (h2 : okB (.tup b)) : okB (.tup (a :: b)) := okB_tup fun x hx => (List.mem_cons.mp hx).elim (fun e => by rw [e]; exact h1) (okB_at h2)
theorem okB_cut {a : List D} {i j : Option Int} (h : okB (.tup a)) : okB (.tup (cutI a i j)) := okB_tup fun x hx => okB_at h (cut_mem hx)
theorem okB_nil : okB (.tup []) := okB_tup (by simp)
theorem okB_nis {w : List Nat} : okB (.tup (w.map ni)) := okB_tup fun x hx => by obtain ⟨a, _, rfl⟩ := List.mem_map.mp hx; exact okB_int
theorem okB_pr {p : Nat × Nat} : okB (pr p) := okB_tup (by simp)
theorem okB_prs {rs : List (Nat × Nat)} : okB (.tup (rs.map pr)) := okB_tup fun x hx => by obtain ⟨a, _, rfl⟩ := List.mem_map.mp hx; exact okB_pr
theorem okB_rep {xs : List D} {k : Nat} (h : okB (.tup xs)) : okB (.tup (List.replicate k xs).flatten) := okB_tup fun x hx => by
  obtain ⟨l, hl, hx⟩ := List.mem_flatten.mp hx
  rw [List.mem_replicate] at hl
  rw [hl.2] at hx
  exact okB_at h hx
theorem okB_l {xs : List D} (h : okB (.tup xs)) : okB (.lst xs) := okB_lst fun x hx => (okB_at h hx).2
theorem mul_tup {xs : List D} {k : Int} (h0 : xs ≠ []) (h1 : 1 ≤ k) (h2 : k ≤ 1000) (h3 : xs.length ≤ 1000) : binF .mul (.tup xs) (.int k) = some (.tup (List.replicate k.toNat xs).flatten) := by
  cases xs with
  | nil => exact absurd rfl h0
  | cons x a =>
    show (if 1 ≤ k ∧ k ≤ 1000 ∧ (x :: a).length ≤ 1000 then some (D.tup (List.replicate k.toNat (x :: a)).flatten) else none) = _
    rw [if_pos ⟨h1, h2, h3⟩]
theorem pow1030 : ∃ z : Int, z = 10 ^ 30 ∧ binF .pow (.int 10) (.int 30) = some (.int z) := ⟨10 ^ 30, rfl, by kernel_rfl⟩
theorem addA {a b : List D} (h : a.length + b.length ≤ 1000) : binF .add (.tup a) (.tup b) = some (.tup (a ++ b)) := by
  show (if a.length + b.length ≤ line then some (D.tup (a ++ b)) else none) = _
  rw [if_pos (le_line (by omega))]
section
variable {F : FT}
def OddBF (F : FT) : Prop := ∀ (p : Hand) (r : List Cell), ∃ (x : D) (p' : Hand), F 16 [.ref 0] (p.c r) = .ok x (p'.c r) ∧ okB x ∧ okL x ∧ OddV x
def OddR2 (r : List Cell) (x : D) (c : List Cell) : Prop := ∃ p' : Hand, c = p'.c r ∧ okB x ∧ okL x ∧ OddV x
theorem oddb_run (hD : DrawH F) {p : Hand} {r : List Cell} : ∃ (x : D) (p' : Hand), runDef G F ⟨1, 4, c16⟩ [.ref 0] (p.c r) = .ok x (p'.c r) ∧ okB x ∧ okL x ∧ OddV x := by
  suffices hh : ∃ x c, runDef G F ⟨1, 4, c16⟩ [.ref 0] (p.c r) = .ok x c ∧ OddR2 r x c by
    obtain ⟨x, c, e, p', rfl, q⟩ := hh
    exact ⟨x, p', e, q⟩
  obtain ⟨n, hn⟩ : ∃ n : Nat, n = 18 := ⟨_, rfl⟩
  have hr : rngD (.d (.int 0)) (.d (.int 18)) = some ((List.range n).map fun (j : Nat) => D.int j) := by
    have c : (18 : Int) = (n : Int) := by omega
    rw [c]
    exact rng_n (by omega)
  obtain ⟨d, p1, e1, h1⟩ := hD p r 16 (by omega) (by omega)
  refine run_ex rfl fun K kr => ?_
  simp [c16, hr]
  refine runs_seq (P := fun s => ∃ y, D.fin 59 y = true ∧ s = ⟨[some (.d (.ref 0)), some (.d (.lst [y])), none, none], p.c r⟩) ?_ ?_
  · intro K1 k1
    refine runs_rng0 (fun y : D => ⟨[some (.d (.ref 0)), some (.d (.lst [y])), none, none], p.c r⟩) (fun q y => D.fin (41 + q) y = true) .non rfl ?_ ?_
    · intro q y _ hf K2 k2
      simp
      exact k2.nx (.lst [y]) _ rfl (by
        show (D.fin (41 + q) y && true) = true
        rw [hf]; rfl)
    · intro y hf
      refine k1.nx _ ⟨y, ?_, rfl⟩
      rw [hn] at hf
      exact hf
  · rintro s ⟨y, hf, rfl⟩
    have oy := OddV_ly hf
    have by1 := fin_blw (m := 0) 59 y hf
    simp [e1]
    refine runs_pick h1 rfl fun x hx => ?_
    have hb : D.blw 0 x = true := by
      revert x
      simp [D.blw, D.blws, D.blwk, by1]
    have hx : okL x ∧ OddV x := by
      revert x
      simp [oy]
    simp
    exact kr.rt _ _ _ ⟨p1, rfl, ⟨hx.1.1, hb⟩, hx⟩
end
end Pr

set_option linter.all false
set_option maxRecDepth 100000
set_option maxHeartbeats 4000000
namespace Pr
open PySem Ev
/-! webs spoiled -/
@[simp] theorem slA_tup {xs : List D} {a b : Option Int} : slF a b (.tup xs) = some (.tup (cutI xs a b)) := (rfl)
def isN : D → Bool
  | .int _ => true
  | .bl _ => true
  | _ => false
section
variable {F : FT}
def SpRF (F : FT) : Prop := ∀ (p : Hand) (r : List Cell) (H : D) (rs : List (Nat × Nat)), isN H = true → 1 ≤ rs.length → rs.length ≤ 24 → ∃ (x : D) (p' : Hand), F 21 [.ref 0, H, .tup (rs.map pr)] (p.c r) = .ok x (p'.c r) ∧ okB x
theorem spr_run (hD : DrawH F) (hO : OddBF F) {p : Hand} {r : List Cell} {H : D} {rs : List (Nat × Nat)} (hH : isN H = true) (l1 : 1 ≤ rs.length) (l2 : rs.length ≤ 24) :
    ∃ (x : D) (p' : Hand), runDef G F ⟨3, 6, c21⟩ [.ref 0, H, .tup (rs.map pr)] (p.c r) = .ok x (p'.c r) ∧ okB x := by
  suffices hh : ∃ x c, runDef G F ⟨3, 6, c21⟩ [.ref 0, H, .tup (rs.map pr)] (p.c r) = .ok x c ∧ ∃ p' : Hand, c = p'.c r ∧ okB x by
    obtain ⟨x, c, e, p', rfl, q⟩ := hh
    exact ⟨x, p', e, q⟩
  obtain ⟨d1, p1, e1, h1⟩ := hD p r rs.length (by omega) (by omega)
  obtain ⟨od, p2, e2, o2, _⟩ := hO p1 r
  obtain ⟨d3, p3, e3, h3⟩ := hD p2 r 12 (by omega) (by omega)
  obtain ⟨d4, p4, e4, h4⟩ := hD p3 r 10 (by omega) (by omega)
  have h1 : d1 < rs.length := by omega
  have rod := okP_ref (o2.1 0)
  have ix : idxF (.tup (rs.map pr)) (.int d1) = some (pr (rd rs d1)) := roads_at h1
  have lA : biF .len [.tup (rs.map pr)] = some (.int rs.length) := by simp
  have lR : (rs.map pr).length = rs.length := List.length_map ..
  have q1 := cut_len (xs := rs.map pr) (a := none) (b := some (d1 : Int))
  have q2 := cut_len (xs := rs.map pr) (a := some ((d1 : Int) + 1)) (b := none)
  have q3 := cut_len (xs := rs.map pr) (a := none) (b := some 1)
  have oR := okB_prs (rs := rs)
  have oA := okB_cut (i := none) (j := some (d1 : Int)) oR
  have oB := okB_cut (i := some ((d1 : Int) + 1)) (j := none) oR
  have oC := okB_cut (i := none) (j := some 1) oR
  have oE := okB_cut (i := none) (j := some (-1)) oR
  have sA : slF none (some (d1 : Int)) (.tup (rs.map pr)) = some (.tup (cutI (rs.map pr) none (some (d1 : Int)))) := rfl
  have sB : slF (some ((d1 : Int) + 1)) none (.tup (rs.map pr)) = some (.tup (cutI (rs.map pr) (some ((d1 : Int) + 1)) none)) := rfl
  have sC : slF none (some 1) (.tup (rs.map pr)) = some (.tup (cutI (rs.map pr) none (some 1))) := rfl
  have sE : slF none (some (-1)) (.tup (rs.map pr)) = some (.tup (cutI (rs.map pr) none (some (-1)))) := rfl
  have bm := mul_tup (xs := rs.map pr) (k := 25) (by intro z; rw [z] at lR; simp at lR; omega) (by omega) (by omega) (by omega)
  have oM := okB_rep (k := (25 : Int).toNat) oR
  have aC := addA (a := rs.map pr) (b := cutI (rs.map pr) none (some 1)) (by omega)
  have oAC := okB_app oR oC
  have bl : biF .list [.tup (rs.map pr)] = some (.lst (rs.map pr)) := rfl
  -- one pair
  have b1 : biF .list [pr (rd rs d1)] = some (.lst [.int (rd rs d1).1, .int (rd rs d1).2]) := rfl
  have b2 : binF .add (pr (rd rs d1)) (.tup [.int 0]) = some (.tup [.int (rd rs d1).1, .int (rd rs d1).2, .int 0]) := by
    show (if 2 + 1 ≤ line then some (D.tup [.int (rd rs d1).1, .int (rd rs d1).2, .int 0]) else none) = _
    rw [if_pos (le_line (by omega))]
  obtain ⟨X1, b3, o3⟩ : ∃ X, slF none (some 1) (pr (rd rs d1)) = some X ∧ okB X := ⟨_, rfl, okB_cut (a := [.int (rd rs d1).1, .int (rd rs d1).2]) okB_pr⟩
  have r3 := okP_ref (o3.1 0)
  obtain ⟨z, b4⟩ : ∃ z : Int, binF .sub H (.int 1) = some (.int z) := by
    cases H with
    | int i => exact ⟨_, rfl⟩
    | bl b => exact ⟨_, rfl⟩
    | _ => exact nomatch (show false = true from hH)
  have oH : okB H := by
    cases H with
    | int i => exact okB_int
    | bl b => exact okB_bl
    | _ => exact nomatch (show false = true from hH)
  have rH := okP_ref (oH.1 0)
  have rP : (pr (rd rs d1)).isRef = false := rfl
  generalize cutI (rs.map pr) none (some (d1 : Int)) = A at *
  generalize cutI (rs.map pr) (some ((d1 : Int) + 1)) none = B at *
  generalize cutI (rs.map pr) none (some 1) = C at *
  generalize cutI (rs.map pr) none (some (-1)) = E at *
  generalize (List.replicate (25 : Int).toNat (rs.map pr)).flatten = M at *
  have aA1 (x : D) := addA (a := A) (b := [x]) (by simp; omega)
  have aAB (x : D) := addA (a := A ++ [x]) (b := B) (by simp; omega)
  have oP1 : okB (.tup [.int (rd rs d1).1, .int (rd rs d1).2, .int 0]) := okB_tup (by simp)
  generalize pr (rd rs d1) = PR at *
  generalize rs.map pr = RL at *
  have rt (l : List D) : (D.tup l).isRef = false := rfl
  have rl (l : List D) : (D.lst l).isRef = false := rfl
  refine run_ex rfl fun K kr => ?_
  simp [c21, e1, ix, lA, b1, b2, b3, b4, rP, r3, rH, rt, rl, e2, rod, e3, sA]
  refine runs_pick h3 rfl fun x hx => ?_
  have hx : okB x := by
    revert x
    simp only [List.forall_mem_cons]
    exact ⟨okB_lst (by simp [D.blw]), oP1, o3, okB_tup (by simp), okB_tup (by simp [oH]), okB_tup (by simp), okB_tup (by simp), okB_tup (by simp), okB_int, okB_tup (by simp), o2, okB_tup (by simp), fun x h => nomatch h⟩
  have rx := okP_ref (hx.1 0)
  have om : okB (.tup (A ++ x :: B)) := okB_app oA (okB_cons hx oB)
  simp [rx, sA, sB, aA1, aAB, rt, rl, bl, bm, sC, aC, sE, e4]
  refine runs_pick h4 rfl fun y hy => ?_
  have hy : okB y := by
    revert y
    simp only [List.forall_mem_cons]
    exact ⟨om, om, om, okB_l oR, okB_nil, okB_non, oM, oAC, oE, okB_dct0, fun x h => nomatch h⟩
  have ry := okP_ref (hy.1 0)
  simp [ry]
  exact kr.rt _ _ _ ⟨p4, rfl, hy⟩
def SpCF (F : FT) : Prop := ∀ (p : Hand) (r : List Cell) (w : List Nat), 1 ≤ w.length → w.length ≤ 24 → ∃ (x : D) (p' : Hand), F 22 [.ref 0, .tup (w.map ni)] (p.c r) = .ok x (p'.c r) ∧ okB x
theorem spc_run (hD : DrawH F) {p : Hand} {r : List Cell} {w : List Nat} (l1 : 1 ≤ w.length) (l2 : w.length ≤ 24) :
    ∃ (x : D) (p' : Hand), runDef G F ⟨2, 4, c22⟩ [.ref 0, .tup (w.map ni)] (p.c r) = .ok x (p'.c r) ∧ okB x := by
  suffices hh : ∃ x c, runDef G F ⟨2, 4, c22⟩ [.ref 0, .tup (w.map ni)] (p.c r) = .ok x c ∧ ∃ p' : Hand, c = p'.c r ∧ okB x by
    obtain ⟨x, c, e, p', rfl, q⟩ := hh
    exact ⟨x, p', e, q⟩
  obtain ⟨d1, p1, e1, h1⟩ := hD p r w.length (by omega) (by omega)
  obtain ⟨d2, p2, e2, h2⟩ := hD p1 r 8 (by omega) (by omega)
  obtain ⟨d3, p3, e3, h3⟩ := hD p2 r 8 (by omega) (by omega)
  have lA : biF .len [.tup (w.map ni)] = some (.int w.length) := by simp
  have lR : (w.map ni).length = w.length := List.length_map ..
  have q1 := cut_len (xs := w.map ni) (a := none) (b := some (d1 : Int))
  have q2 := cut_len (xs := w.map ni) (a := some ((d1 : Int) + 1)) (b := none)
  have oR := okB_nis (w := w)
  have oA := okB_cut (i := none) (j := some (d1 : Int)) oR
  have oB := okB_cut (i := some ((d1 : Int) + 1)) (j := none) oR
  have oE := okB_cut (i := none) (j := some (-1)) oR
  have sA : slF none (some (d1 : Int)) (.tup (w.map ni)) = some (.tup (cutI (w.map ni) none (some (d1 : Int)))) := rfl
  have sB : slF (some ((d1 : Int) + 1)) none (.tup (w.map ni)) = some (.tup (cutI (w.map ni) (some ((d1 : Int) + 1)) none)) := rfl
  have sE : slF none (some (-1)) (.tup (w.map ni)) = some (.tup (cutI (w.map ni) none (some (-1)))) := rfl
  have a1 := addA (a := w.map ni) (b := [.int 1]) (by simp; omega)
  have o1 := okB_app oR (okB_cons (okB_int (i := 1)) okB_nil)
  have bl : biF .list [.tup (w.map ni)] = some (.lst (w.map ni)) := rfl
  generalize cutI (w.map ni) none (some (d1 : Int)) = A at *
  generalize cutI (w.map ni) (some ((d1 : Int) + 1)) none = B at *
  generalize cutI (w.map ni) none (some (-1)) = E at *
  have aA1 (x : D) := addA (a := A) (b := [x]) (by simp; omega)
  have aAB (x : D) := addA (a := A ++ [x]) (b := B) (by simp; omega)
  generalize w.map ni = RL at *
  have rt (l : List D) : (D.tup l).isRef = false := rfl
  have rl (l : List D) : (D.lst l).isRef = false := rfl
  refine run_ex rfl fun K kr => ?_
  simp [c22, e1, lA, sA, rt, rl, e2]
  refine runs_pick h2 rfl fun x hx => ?_
  have hx : okB x := by
    revert x
    simp
  have rx := okP_ref (hx.1 0)
  have om : okB (.tup (A ++ x :: B)) := okB_app oA (okB_cons hx oB)
  simp [rx, sA, sB, aA1, aAB, rt, rl, bl, a1, sE, e3]
  refine runs_pick h3 rfl fun y hy => ?_
  have hy : okB y := by
    revert y
    simp only [List.forall_mem_cons]
    exact ⟨om, om, om, okB_l oR, o1, oE, okB_non, okB_int, fun x h => nomatch h⟩
  have ry := okP_ref (hy.1 0)
  simp [ry]
  exact kr.rt _ _ _ ⟨p3, rfl, hy⟩
end
/-! what is let -/
theorem pairs_inv {h : Int} (h0 : 0 ≤ h) : ∀ {xs : List D}, xs.all (pairB h) = true → ∃ rs : List (Nat × Nat), xs = rs.map pr ∧ VR h.toNat rs
  | [], _ => ⟨[], rfl, fun p hp => nomatch hp⟩
  | x :: xs, hx => by
    rw [List.all_cons, Bool.and_eq_true] at hx
    obtain ⟨rs, rfl, v⟩ := pairs_inv h0 hx.2
    have h1 := hx.1
    unfold pairB at h1
    split at h1
    · rename_i a b
      simp only [Bool.and_eq_true, Bool.not_eq_true'] at h1
      obtain ⟨⟨ha, hb⟩, hn⟩ := h1
      obtain ⟨i, rfl, i1, i2⟩ := inD_int ha
      obtain ⟨j, rfl, j1, j2⟩ := inD_int hb
      refine ⟨(i.toNat, j.toNat) :: rs, ?_, fun p hp => ?_⟩
      · rw [List.map_cons]
        congr 1
        show D.tup [.int i, .int j] = D.tup [.int ((i.toNat : Nat) : Int), .int ((j.toNat : Nat) : Int)]
        congr 1
        congr 1
        · congr 1; omega
        · congr 1; congr 1; omega
      · rcases List.mem_cons.mp hp with rfl | hp
        · refine ⟨by show i.toNat < h.toNat; omega, by show j.toNat < h.toNat; omega, fun e => ?_⟩
          have e : i.toNat = j.toNat := e
          have : i = j := by omega
          subst this
          have : eqB (.int i) (.int i) = true := by show (i == i) = true; simp
          rw [this] at hn; cases hn
        · exact v p hp
    · cases h1
theorem cnt_all : ∀ {xs : List D}, (xs.all fun x => inD x 1 3) = true → ∃ ro : List Nat, xs = ro.map ni ∧ ∀ x ∈ ro, 1 ≤ x ∧ x ≤ 3
  | [], _ => ⟨[], rfl, fun x hx => nomatch hx⟩
  | x :: xs, h => by
    rw [List.all_cons, Bool.and_eq_true] at h
    obtain ⟨ro, e, v⟩ := cnt_all h.2
    obtain ⟨i, rfl, i1, i2⟩ := inD_int h.1
    refine ⟨i.toNat :: ro, ?_, fun y hy => ?_⟩
    · rw [List.map_cons, ← e]
      congr 1
      show D.int i = D.int ((i.toNat : Nat) : Int)
      congr 1; omega
    · rcases List.mem_cons.mp hy with rfl | hy
      · omega
      · exact v y hy
theorem cnts_inv {n : Nat} {O : D} (h : cntB n O = true) : ∃ ro : List Nat, O = .tup (ro.map ni) ∧ ro.length = n ∧ ∀ x ∈ ro, 1 ≤ x ∧ x ≤ 3 := by
  cases O with
  | tup xs =>
    have h : (decide (xs.length = n) && xs.all fun x => inD x 1 3) = true := h
    rw [Bool.and_eq_true, decide_eq_true_iff] at h
    obtain ⟨ro, rfl, v⟩ := cnt_all h.2
    exact ⟨ro, rfl, by have := h.1; rwa [List.length_map] at this, v⟩
  | _ => exact nomatch (show false = true from h)
theorem let_inv {H R O T : D} (h : dueW H R O T = "let") : ∃ hh rs ro ti, VW hh rs ro ti ∧ H = .int hh ∧ R = .tup (rs.map pr) ∧ O = .tup (ro.map ni) ∧ T = .tup (ti.map ni) := by
  cases h1 : inD H 2 12 with
  | false => rw [dueW_h h1] at h; exact absurd h (by decide)
  | true =>
    obtain ⟨i, rfl, i1, i2⟩ := inD_int h1
    rw [dueW_i h1] at h
    cases h2 : roadsB i R with
    | false => rw [h2] at h; simp at h
    | true =>
      rw [h2] at h
      obtain ⟨xs, rfl, l1, l2⟩ := roadsB_len h2
      have h2 : (decide (1 ≤ xs.length) && decide (xs.length ≤ 24) && xs.all (pairB i)) = true := h2
      rw [Bool.and_eq_true] at h2
      obtain ⟨rs, rfl, v⟩ := pairs_inv (by omega) h2.2
      have en : lenN (.tup (rs.map pr)) = rs.length := List.length_map ..
      rw [en] at h
      rw [List.length_map] at l1 l2
      cases h3 : cntB rs.length O with
      | false => rw [h3] at h; simp at h
      | true =>
        rw [h3] at h
        cases h4 : cntB rs.length T with
        | false => rw [h4] at h; simp at h
        | true =>
          obtain ⟨ro, rfl, o1, o3⟩ := cnts_inv h3
          obtain ⟨ti, rfl, o2, o4⟩ := cnts_inv h4
          exact ⟨i.toNat, rs, ro, ti, ⟨by omega, by omega, l1, l2, v, o1, o2, o3, o4⟩, by congr 1; omega, rfl, rfl, rfl⟩
end Pr

set_option linter.all false
set_option maxRecDepth 100000
set_option maxHeartbeats 4000000
namespace Pr
open PySem Ev
theorem fin_nis {w : List Nat} : D.fin dep (.tup (w.map ni)) = true := fins_map (n := 59) fun x _ => rfl
theorem fin_prs {rs : List (Nat × Nat)} : D.fin dep (.tup (rs.map pr)) = true := fins_map (n := 59) fun x _ => rfl
theorem eqB_int' {a b : Int} : eqB (.int a) (.int b) = decide (a = b) := by
  show (a == b) = _
  by_cases h : a = b <;> simp [h]
theorem eqF_nis {w : List Nat} : eqF (.tup (w.map ni)) (.tup (w.map ni)) = some true := by
  unfold eqF
  rw [fin_nis]
  show some (eqBs (w.map ni) (w.map ni)) = _
  have e : w.map ni = (w.map fun x : Nat => (x : Int)).map D.int := by rw [List.map_map]; rfl
  rw [e, eqBs_map fun x y => eqB_int']
  simp
theorem eqF_prs {rs : List (Nat × Nat)} : eqF (.tup (rs.map pr)) (.tup (rs.map pr)) = some true := by
  unfold eqF
  rw [fin_prs]
  show some (eqBs (rs.map pr) (rs.map pr)) = _
  have e : ∀ rs : List (Nat × Nat), eqBs (rs.map pr) (rs.map pr) = true := fun rs => by
    induction rs with
    | nil => rfl
    | cons p rs ih =>
      rw [List.map_cons]
      show ((eqB (.int p.1) (.int p.1) && (eqB (.int p.2) (.int p.2) && true)) && eqBs (rs.map pr) (rs.map pr)) = true
      rw [ih, eqB_int', eqB_int']; simp
  rw [e]
theorem isN_eq {d : D} (h : okP 0 d = true) : isiF G [.int] d = some (.bl (isN d)) := by
  rw [isi_int h]
  cases d <;> rfl
section
variable {F : FT}
theorem law_run (hH : HandF F) (hD : DrawH F) (hW : HWebF F) (hI : InitF F) (hR : SpRF F) (hC : SpCF F) (hU : LDueF F) (hX : XWebF F) {ns : List Int} (hn : ns.length ≤ 63) :
    ∃ c, runDef G F ⟨1, 12, c23⟩ [.lst (ns.map .int)] [] = .ok (.bl true) c := by
  suffices hh : ∃ x c, runDef G F ⟨1, 12, c23⟩ [.lst (ns.map .int)] [] = .ok x c ∧ x = .bl true by
    obtain ⟨x, c, e, rfl⟩ := hh
    exact ⟨c, e⟩
  obtain ⟨p0, e0⟩ := hH ns hn
  obtain ⟨n5, hn5⟩ : ∃ n : Nat, n = 5 := ⟨_, rfl⟩
  have hr : rngD (.d (.int 0)) (.d (.int 5)) = some ((List.range n5).map fun (j : Nat) => D.int j) := by
    have c : (5 : Int) = (n5 : Int) := by omega
    rw [c]
    exact rng_n (by omega)
  refine run_ex rfl fun K kr => ?_
  generalize ns.map D.int = x at *
  simp [c23, e0, hr]
  refine runs_seq (P := fun _ => True) ?_ ?_
  · intro K1 k1
    refine runs_rng0 (fun p : Hand => ⟨[some (.d (.lst x)), some (.d (.ref 0)), none, none, none, none, none, none, none, none, none, none], p.c []⟩) (fun _ _ => True) p0 trivial ?_ (fun b _ => k1.nx _ trivial)
    rintro q p hq _ K2 k2
    obtain ⟨d0, p1, e1, h0⟩ := hD p [] 2 (by omega) (by omega)
    have hi : ∃ b : Int, ([D.int 6, .int 24] : List D)[d0]? = some (.int b) ∧ 1 ≤ b ∧ b ≤ 24 := by
      have : d0 < 2 := by omega
      match d0, this with
      | 0, _ => exact ⟨6, rfl, by omega, by omega⟩
      | 1, _ => exact ⟨24, rfl, by omega, by omega⟩
    refine Exists.elim hi fun b hi => ?_
    have i1 := hi.1
    obtain ⟨h, rs, ro, ti, p2, e2, V, _⟩ := hW p1 [] 12 b (by omega) (by omega) (by omega) (by omega)
    have e2 : F 12 [.ref 0, .int 12, .int b] (p1.c []) = .ok (.tup [.int h, .tup (rs.map pr), .tup (ro.map ni), .tup (ti.map ni)]) (p2.c []) := e2
    obtain ⟨d3, p3, e3, h3⟩ := hD p2 [] 7 (by omega) (by omega)
    obtain ⟨b1, hb1⟩ : ∃ b, inF (.int (d3 : Int)) (.lst [.int 1, .int 5]) = some b := ⟨_, rfl⟩
    obtain ⟨b2, hb2⟩ : ∃ b, inF (.int (d3 : Int)) (.lst [.int 2, .int 5, .int 6]) = some b := ⟨_, rfl⟩
    obtain ⟨b3, hb3⟩ : ∃ b, inF (.int (d3 : Int)) (.lst [.int 3, .int 6]) = some b := ⟨_, rfl⟩
    obtain ⟨b4, hb4⟩ : ∃ b, inF (.int (d3 : Int)) (.lst [.int 4, .int 6]) = some b := ⟨_, rfl⟩
    obtain ⟨z, _, pz⟩ := pow1030
    have l1 := V.l1
    have l2 := V.l2
    have o1 := V.o1
    have o2 := V.o2
    have sp := fun p H hH => hR p [] H rs hH l1 l2
    have s1 := fun p => hC p [] ro (by omega) (by omega)
    have s2 := fun p => hC p [] ti (by omega) (by omega)
    have okR := okB_prs (rs := rs)
    have okO := okB_nis (w := ro)
    have okT := okB_nis (w := ti)
    have rR : (D.tup (rs.map pr)).isRef = false := rfl
    have rO : (D.tup (ro.map ni)).isRef = false := rfl
    have rT : (D.tup (ti.map ni)).isRef = false := rfl
    generalize D.tup (rs.map pr) = R0 at *
    generalize D.tup (ro.map ni) = O0 at *
    generalize D.tup (ti.map ni) = T0 at *
    simp [e1, i1, e2, e3, hb1]
    -- houses
    refine runs_seq (P := fun s => ∃ (p : Hand) (H : D), okB H ∧ s = ⟨[some (.d (.lst x)), some (.d (.ref 0)), some (.d (.int q)), some (.d (.int d3)), none, none, none, some (.d H), some (.d R0), some (.d O0), some (.d T0), none], p.c []⟩) ?_ ?_
    · intro K3 k3
      refine runs_if (fun _ => ?_) fun _ => ?_
      · obtain ⟨d4, p4, e4, h4⟩ := hD p3 [] 11 (by omega) (by omega)
        simp [pz, e4]
        refine runs_pick h4 rfl fun H hH => ?_
        have hH : okB H := by
          revert H
          simp
        have rH := okP_ref (hH.1 0)
        simp
        exact k3.nx _ ⟨p4, H, hH, rfl⟩
      · exact rok (k3.nx _ ⟨p3, .int h, okB_int, rfl⟩)
    · rintro s ⟨p, H, oH, rfl⟩
      have rH := okP_ref (oH.1 0)
      have is := isN_eq (oH.1 0)
      simp [hb2, is, rH]
      refine runs_seq (P := fun s => ∃ (p : Hand) (R : D), okB R ∧ s = ⟨[some (.d (.lst x)), some (.d (.ref 0)), some (.d (.int q)), some (.d (.int d3)), none, none, none, some (.d H), some (.d R), some (.d O0), some (.d T0), none], p.c []⟩) ?_ ?_
      · intro K3 k3
        refine runs_if (fun hb => ?_) fun _ => ?_
        · have hN : isN H = true := by simp at hb; exact hb.2
          obtain ⟨R, p4, e4, oR⟩ := sp p H hN
          have rR2 := okP_ref (oR.1 0)
          simp [e4, rH, rR, rR2]
          exact k3.nx _ ⟨p4, R, oR, rfl⟩
        · exact rok (k3.nx _ ⟨p, R0, okR, rfl⟩)
      · rintro s ⟨p, R, oR, rfl⟩
        have rR := okP_ref (oR.1 0)
        simp [hb3]
        refine runs_seq (P := fun s => ∃ (p : Hand) (O : D), okB O ∧ s = ⟨[some (.d (.lst x)), some (.d (.ref 0)), some (.d (.int q)), some (.d (.int d3)), none, none, none, some (.d H), some (.d R), some (.d O), some (.d T0), none], p.c []⟩) ?_ ?_
        · intro K3 k3
          refine runs_if (fun hb => ?_) fun _ => ?_
          · obtain ⟨O, p4, e4, oO⟩ := s1 p
            have rO2 := okP_ref (oO.1 0)
            simp [e4, rO, rO2]
            exact k3.nx _ ⟨p4, O, oO, rfl⟩
          · exact rok (k3.nx _ ⟨p, O0, okO, rfl⟩)
        · rintro s ⟨p, O, oO, rfl⟩
          have rO := okP_ref (oO.1 0)
          simp [hb4]
          refine runs_seq (P := fun s => ∃ (p : Hand) (T : D), okB T ∧ s = ⟨[some (.d (.lst x)), some (.d (.ref 0)), some (.d (.int q)), some (.d (.int d3)), none, none, none, some (.d H), some (.d R), some (.d O), some (.d T), none], p.c []⟩) ?_ ?_
          · intro K3 k3
            refine runs_if (fun hb => ?_) fun _ => ?_
            · obtain ⟨T, p4, e4, oT⟩ := s2 p
              have rT2 := okP_ref (oT.1 0)
              simp [e4, rT, rT2]
              exact k3.nx _ ⟨p4, T, oT, rfl⟩
            · exact rok (k3.nx _ ⟨p, T0, okT, rfl⟩)
          · rintro s ⟨p, T, oT, rfl⟩
            have rT := okP_ref (oT.1 0)
            have ed := hU H R O T (p.c []) (oH.1 0) (oR.1 2) (oO.1 1) (oT.1 1)
            by_cases hl : dueW H R O T = "let"
            · obtain ⟨hh, rs2, ro2, ti2, V2, rfl, rfl, rfl, rfl⟩ := let_inv hl
              rw [hl] at ed
              have mw {s : S} := mk_web hI V2 (s := s)
              have q1 : eqF (.int hh) (.int hh) = some true := by simp
              have q2 := eqF_prs (rs := rs2)
              have q3 := eqF_nis (w := ro2)
              have q4 := eqF_nis (w := ti2)
              have f1 : fldF G 1 (webO hh rs2 ro2 ti2) = some (.int hh) := rfl
              have f2 : fldF G 2 (webO hh rs2 ro2 ti2) = some (.tup (rs2.map pr)) := rfl
              have f3 : fldF G 3 (webO hh rs2 ro2 ti2) = some (.tup (ro2.map ni)) := rfl
              have f4 : fldF G 4 (webO hh rs2 ro2 ti2) = some (.tup (ti2.map ni)) := rfl
              have rWO : (webO hh rs2 ro2 ti2).isRef = false := rfl
              generalize webO hh rs2 ro2 ti2 = WO at *
              generalize D.tup (rs2.map pr) = R at *
              generalize D.tup (ro2.map ni) = O at *
              generalize D.tup (ti2.map ni) = T at *
              simp [ed, rR, rO, rT, mw, rWO, f1, f2, f3, f4, q2, q3, q4]
              exact k2.nx p _ rfl trivial
            · have ex := hX H R O T (oH.1 0) (oR.1 2) (oO.1 1) (oT.1 1) hl
              have mx (s : S) : kMkW F [H, R, O, T] s = .exc ⟨2, [(0, .str (dueW H R O T))]⟩ s := by
                have b1 : D.blws 0 [H, R, O, T] = true := by simp only [D.blws, oH.2, oR.2, oO.2, oT.2, Bool.and_self]
                unfold kMkW mkObj
                rw [if_pos b1, ex]
                rfl
              have g : G.exf 2 = some [0] := rfl
              have s1 : G.sub 2 2 = true := rfl
              have hd {l : List (Option LV)} {cl : List Cell} := hdE_fld (G := G) (c := 2) (i := 6) (j := 5) (f := 0) (fs := [0]) (es := [(0, .str (dueW H R O T))]) (d := .str (dueW H R O T)) (l := l) (cl := cl) rfl (by simp) rfl
              generalize dueW H R O T = w at *
              simp [ed, rH, rR, rO, rT, mx, g, s1, hd]
              exact k2.nx p _ rfl trivial
  · rintro s _
    simp
    exact kr.rt _ _ _ rfl
end
end Pr

set_option linter.all false
set_option maxRecDepth 100000
set_option maxHeartbeats 4000000
namespace Pr
open PySem Ev
/-! so deep -/
theorem r_hand (k : Nat) : HandF (run G P (k + 1)) := fun ns hn => hand_run hn
theorem r_drawh (k : Nat) : DrawH (run G P (k + 1)) := fun p r m h1 h2 => drawh_run h1 h2
theorem r_hcounts (k : Nat) : HCountsF (run G P (k + 2)) := fun p r n h1 h2 => hcounts_run (r_drawh (k + 0)) h1 h2
theorem r_hweb (k : Nat) : HWebF (run G P (k + 3)) := fun p r a b a1 a2 b1 b2 => hweb_run (r_drawh (k + 1)) (r_hcounts (k + 0)) a1 a2 b1 b2
theorem r_int (k : Nat) : IntF (run G P (k + 1)) := fun i c => int_run
theorem r_wi (k : Nat) : WiF (run G P (k + 2)) := fun i l m c h1 h2 => wi_run (r_int (k + 0)) h1 h2
theorem r_pair (k : Nat) : PairF (run G P (k + 1)) := fun a b c => pair_run
theorem r_roads (k : Nat) : RoadsF (run G P (k + 3)) := fun h rs c h1 l1 l2 v => roads_run (r_wi (k + 0)) (r_pair (k + 1)) h1 l1 l2 v
theorem r_counts (k : Nat) : CountsF (run G P (k + 3)) := fun cs n ni' mi c h1 h2 h3 h4 => by
  subst h1 h2
  exact counts_run (r_wi (k + 0)) h3 h4
theorem r_keep (k : Nat) : KeepF (run G P (k + 1)) := fun h ro ti rs hl => keep_run hl
theorem r_init (k : Nat) : InitF (run G P (k + 4)) := fun h rs ro ti V => init_run (r_wi (k + 1)) (r_roads (k + 0)) (r_counts (k + 0)) (r_keep (k + 2)) V
theorem r_oddb (k : Nat) : OddBF (run G P (k + 2)) := fun p r => oddb_run (r_drawh (k + 0))
theorem r_spr (k : Nat) : SpRF (run G P (k + 3)) := fun p r H rs hH l1 l2 => spr_run (r_drawh (k + 1)) (r_oddb (k + 0)) hH l1 l2
theorem r_spc (k : Nat) : SpCF (run G P (k + 2)) := fun p r w l1 l2 => spc_run (r_drawh (k + 0)) l1 l2
theorem r_lnum (k : Nat) : LNumF (run G P (k + 1)) := fun d l m c h => lnum_run h
theorem r_lroads (k : Nat) : LRoadsF (run G P (k + 2)) := fun d h c o => lroads_run (r_lnum (k + 0)) o
theorem r_lcnts (k : Nat) : LCntsF (run G P (k + 2)) := fun d n c o hn => lcnts_run (r_lnum (k + 0)) o hn
theorem r_ldue (k : Nat) : LDueF (run G P (k + 3)) := fun H R O T c oH oR oO oT => ldue_run (r_lnum (k + 1)) (r_lroads (k + 0)) (r_lcnts (k + 0)) oH oR oO oT
theorem r_gint (k : Nat) : GIntF (run G P (k + 1)) := fun d c h => gint_run h
theorem r_gwi (k : Nat) : GWiF (run G P (k + 2)) := fun d l m c h => gwi_run (r_gint (k + 0)) h
theorem r_gpair (k : Nat) : GPairF (run G P (k + 1)) := fun d c h => gpair_run h
theorem r_groads (k : Nat) : GRoadsF (run G P (k + 3)) := fun d h c o => groads_run (r_gwi (k + 0)) (r_gpair (k + 1)) o
theorem r_gcnts (k : Nat) : GCntsF (run G P (k + 3)) := fun d n c o hn => gcnts_run (r_gwi (k + 0)) o hn
theorem r_xweb (k : Nat) : XWebF (run G P (k + 4)) := fun H R O T oH oR oO oT hd => xweb_run (r_gwi (k + 1)) (r_groads (k + 0)) (r_gcnts (k + 0)) oH oR oO oT hd
def depth : Nat := 5
theorem law : ∀ ns : List Int, ns.length ≤ 63 → ∃ c, run G P depth 23 [.lst (ns.map .int)] [] = .ok (.bl true) c := fun ns hn =>
  law_run (r_hand 3) (r_drawh 3) (r_hweb 1) (r_init 0) (r_spr 1) (r_spc 2) (r_ldue 1) (r_xweb 0) hn
end Pr

set_option maxHeartbeats 0
namespace HeadT
open PySem PySem.Spec PyProof.Rows L2
def top (i : Nat) : Stmt := PySem.Challenge.pw_hourcards_k00_webs_judged.main.body.getD i (.Pass ⟨0, 0, 0, 0⟩)
def fn : List He.DefD := ([⟨("is_integer", none), "is_integer", "is_integer", defArgs (top 4), defBody (top 4), defScope (top 4), [], []⟩,
  ⟨("is_within", none), "is_within", "is_within", defArgs (top 5), defBody (top 5), defScope (top 5), [], []⟩,
  ⟨("is_pair", none), "is_pair", "is_pair", defArgs (top 6), defBody (top 6), defScope (top 6), [], []⟩,
  ⟨("are_roads", none), "are_roads", "are_roads", defArgs (top 12), defBody (top 12), defScope (top 12), [], []⟩,
  ⟨("are_counts", none), "are_counts", "are_counts", defArgs (top 13), defBody (top 13), defScope (top 13), [], []⟩,
  ⟨("Web", some "__init__"), "__init__", "Web.__init__", defArgs (inClass (top 14) 0), defBody (inClass (top 14) 0), defScope (inClass (top 14) 0), [], []⟩,
  ⟨("Web", some "keep"), "keep", "Web.keep", defArgs (inClass (top 14) 1), defBody (inClass (top 14) 1), defScope (inClass (top 14) 1), [], []⟩,
  ⟨("Web", some "__eq__"), "__eq__", "Web.__eq__", defArgs (inClass (top 14) 2), defBody (inClass (top 14) 2), defScope (inClass (top 14) 2), [], []⟩,
  ⟨("_law_hand", none), "_law_hand", "_law_hand", defArgs (top 16), defBody (top 16), defScope (top 16), [], []⟩,
  ⟨("_law_draw", none), "_law_draw", "_law_draw", defArgs (top 17), defBody (top 17), defScope (top 17), [], []⟩,
  ⟨("_law_counts", none), "_law_counts", "_law_counts", defArgs (top 18), defBody (top 18), defScope (top 18), [], []⟩,
  ⟨("_law_web", none), "_law_web", "_law_web", defArgs (top 19), defBody (top 19), defScope (top 19), [], []⟩,
  ⟨("_law_next", none), "_law_next", "_law_next", defArgs (top 20), defBody (top 20), defScope (top 20), [], []⟩,
  ⟨("_law_way", none), "_law_way", "_law_way", defArgs (top 21), defBody (top 21), defScope (top 21), [], []⟩,
  ⟨("_law_letters", none), "_law_letters", "_law_letters", defArgs (top 22), defBody (top 22), defScope (top 22), [], []⟩,
  ⟨("_law_odd", none), "_law_odd", "_law_odd", defArgs (top 23), defBody (top 23), defScope (top 23), [], []⟩,
  ⟨("_law_is_number", none), "_law_is_number", "_law_is_number", defArgs (top 24), defBody (top 24), defScope (top 24), [], []⟩,
  ⟨("_law_are_roads", none), "_law_are_roads", "_law_are_roads", defArgs (top 25), defBody (top 25), defScope (top 25), [], []⟩,
  ⟨("_law_are_counts", none), "_law_are_counts", "_law_are_counts", defArgs (top 26), defBody (top 26), defScope (top 26), [], []⟩,
  ⟨("_law_due", none), "_law_due", "_law_due", defArgs (top 27), defBody (top 27), defScope (top 27), [], []⟩,
  ⟨("_law_spoiled_roads", none), "_law_spoiled_roads", "_law_spoiled_roads", defArgs (top 28), defBody (top 28), defScope (top 28), [], []⟩,
  ⟨("_law_spoiled_counts", none), "_law_spoiled_counts", "_law_spoiled_counts", defArgs (top 29), defBody (top 29), defScope (top 29), [], []⟩,
  ⟨("law", none), "law", "law", defArgs (top 30), defBody (top 30), defScope (top 30), [], []⟩] : List He.DefD)
def fa : List He.Fa := ([.glo "is_integer", .glo "is_within", .glo "is_pair", .glo "are_roads", .glo "are_counts", .glo "_law_hand", .glo "_law_draw", .glo "_law_counts", .glo "_law_web", .glo "_law_next", .glo "_law_way", .glo "_law_letters", .glo "_law_odd", .glo "_law_is_number", .glo "_law_are_roads", .glo "_law_are_counts", .glo "_law_due", .glo "_law_spoiled_roads", .glo "_law_spoiled_counts", .glo "law", .free "len", .free "abs", .free "int", .free "tuple", .free "list"] : List He.Fa) ++ ([.free "sum", .free "all", .free "any", .free "min", .free "max", .free "sorted", .free "set", .free "str", .free "divmod", .free "isinstance", .free "bool", .free "dict", .free "range", .free "enumerate", .free "zip", .free "reversed", .free "ValueError", .free "super", .int "MOST_HOUSES" 12, .int "MOST_ROADS" 24, .int "MOST_ROOMS" 3, .int "MOST_TIME" 3, .glo "Web", .cls "Web", .noat "Web" "houses"] : List He.Fa) ++ ([.noat "Web" "roads", .noat "Web" "rooms", .noat "Web" "times", .noat "Web" "kept_next", .noat "Web" "kept_leads", .meth "Web" "keep", .meth "Web" "__eq__", .mkr "Web", .glo "BadWeb", .exm "BadWeb" "BadWeb" true] : List He.Fa)
abbrev R : PySem.W.OpenRow := PySem.W.OpenLaw.row PySem.Challenge.rw_hourcards_k00_webs_judged
def fx : List Ev.Fx := ([.kit ([(.ofString "Web"), (.ofString "HourError"), (.ofString "BadWeb")] : List Str) 1 [(0, 0), (1, 1), (2, 2), (2, 1)], .eqs "Web", .exi ["BadWeb"] [("BadWeb", ["BadWeb"])] [("BadWeb", "part")]] : List Ev.Fx)
def xn : List Ev.XnD := ([⟨"BadWeb", "__init__", "BadWeb.__init__", defArgs (inClass (top 2) 0), defBody (inClass (top 2) 0), defScope (inClass (top 2) 0), PySem.Challenge.pw_hourcards_k00_webs_judged.main.file, ["part"]⟩] : List Ev.XnD)
abbrev hk : PySem.W.Hook := Ev.hookX 4 fa fn fx xn
def ob (s : PySem.W.SharedT) : Ev.AlX := Ev.obsXG 4 fa fn fx xn (HandSHeadRun.getT s)
theorem ob_eq (s : PySem.W.SharedT) : ob s = hk.obs s.abs := Ev.obsXG_eq (HandSHeadRun.getT_eq s)
def loose : List PySem.Str := (["HourError", "BadWeb", "is_integer", "is_within", "is_pair", "MOST_HOUSES", "MOST_ROADS", "MOST_ROOMS", "MOST_TIME", "are_roads", "are_counts", "Web", "_law_hand", "_law_draw", "_law_counts", "_law_web", "_law_next", "_law_way", "_law_letters", "_law_odd", "_law_is_number", "_law_are_roads", "_law_are_counts", "_law_due", "_law_spoiled_roads", "_law_spoiled_counts"] : List PySem.Str)
theorem run (w : World) : HandSHeadRun.RunEq R (PySem.W.view R.prog [30]) hk ob 20000 loose w := by
  intro os
  kernel_rfl
end HeadT
namespace Pr
open PySem PySem.Spec PyProof.Rows L2 Ev HeadT
def nms (K : PySem.W.Frag) : Nms := ⟨K, fun k => He.ga K ((([(.ofString "Web"), (.ofString "HourError"), (.ofString "BadWeb")] : List Str)[k]?).getD "object"), nmOf names⟩
def adr (K : PySem.W.Frag) (f : Nat) : Addr := He.fAd K ((([((.ofString "BadWeb"), some (.ofString "__init__")), ((.ofString "is_integer"), none), ((.ofString "is_within"), none), ((.ofString "is_pair"), none), ((.ofString "are_roads"), none), ((.ofString "are_counts"), none), ((.ofString "Web"), some (.ofString "__init__")), ((.ofString "Web"), some (.ofString "keep")), ((.ofString "Web"), some (.ofString "__eq__")), ((.ofString "_law_hand"), none), ((.ofString "_law_draw"), none), ((.ofString "_law_counts"), none), ((.ofString "_law_web"), none), ((.ofString "_law_next"), none), ((.ofString "_law_way"), none), ((.ofString "_law_letters"), none), ((.ofString "_law_odd"), none), ((.ofString "_law_is_number"), none), ((.ofString "_law_are_roads"), none), ((.ofString "_law_are_counts"), none), ((.ofString "_law_due"), none), ((.ofString "_law_spoiled_roads"), none), ((.ofString "_law_spoiled_counts"), none), ((.ofString "law"), none)] : List (Str × Option Str))[f]?).getD ("object", none))
theorem nms_inj {K : PySem.W.Frag} (f g : Nat) (h : (nms K).nm f = (nms K).nm g) : f = g := nmOf_inj (by decide +kernel) (by decide +kernel) f g h
theorem sc1 : FnScope (["thing"] : List Str) (T.par 1) (defScope (top 4)) := ⟨rfl, rfl, rfl, by decide +kernel, rfl, by decide +kernel, by decide +kernel⟩
theorem ok1 (K : PySem.W.Frag) : okSs T (nms K) ⟨(["thing"] : List Str), defScope (top 4), defScope (top 4), false⟩ c1 (defBody (top 4)) = true := by kernel_rfl
theorem sc2 : FnScope (["thing", "least", "most"] : List Str) (T.par 2) (defScope (top 5)) := ⟨rfl, rfl, rfl, by decide +kernel, rfl, by decide +kernel, by decide +kernel⟩
theorem ok2 (K : PySem.W.Frag) : okSs T (nms K) ⟨(["thing", "least", "most"] : List Str), defScope (top 5), defScope (top 5), false⟩ c2 (defBody (top 5)) = true := by kernel_rfl
theorem sc3 : FnScope (["thing"] : List Str) (T.par 3) (defScope (top 6)) := ⟨rfl, rfl, rfl, by decide +kernel, rfl, by decide +kernel, by decide +kernel⟩
theorem ok3 (K : PySem.W.Frag) : okSs T (nms K) ⟨(["thing"] : List Str), defScope (top 6), defScope (top 6), false⟩ c3 (defBody (top 6)) = true := by kernel_rfl
theorem sc4 : FnScope (["thing", "houses", "pair", "house"] : List Str) (T.par 4) (defScope (top 12)) := ⟨rfl, rfl, rfl, by decide +kernel, rfl, by decide +kernel, by decide +kernel⟩
theorem ok4 (K : PySem.W.Frag) : okSs T (nms K) ⟨(["thing", "houses", "pair", "house"] : List Str), defScope (top 12), defScope (top 12), false⟩ c4 (defBody (top 12)) = true := by kernel_rfl
theorem sc5 : FnScope (["thing", "many", "most", "count"] : List Str) (T.par 5) (defScope (top 13)) := ⟨rfl, rfl, rfl, by decide +kernel, rfl, by decide +kernel, by decide +kernel⟩
theorem ok5 (K : PySem.W.Frag) : okSs T (nms K) ⟨(["thing", "many", "most", "count"] : List Str), defScope (top 13), defScope (top 13), false⟩ c5 (defBody (top 13)) = true := by kernel_rfl
theorem sc6 : FnScope (["self", "houses", "roads", "rooms", "times"] : List Str) (T.par 6) (defScope (inClass (top 14) 0)) := ⟨rfl, rfl, rfl, by decide +kernel, rfl, by decide +kernel, by decide +kernel⟩
theorem ok6 (K : PySem.W.Frag) : okSs T (nms K) ⟨(["self", "houses", "roads", "rooms", "times"] : List Str), defScope (inClass (top 14) 0), defScope (inClass (top 14) 0), false⟩ c6 (defBody (inClass (top 14) 0)) = true := by kernel_rfl
theorem sc7 : FnScope (["self", "houses", "roads", "rooms", "times", "begun", "road", "pair", "row"] : List Str) (T.par 7) (defScope (inClass (top 14) 1)) := ⟨rfl, rfl, rfl, by decide +kernel, rfl, by decide +kernel, by decide +kernel⟩
theorem ok7 (K : PySem.W.Frag) : okSs T (nms K) ⟨(["self", "houses", "roads", "rooms", "times", "begun", "road", "pair", "row"] : List Str), defScope (inClass (top 14) 1), defScope (inClass (top 14) 1), false⟩ c7 (defBody (inClass (top 14) 1)) = true := by kernel_rfl
theorem sc8 : FnScope (["self", "other"] : List Str) (T.par 8) (defScope (inClass (top 14) 2)) := ⟨rfl, rfl, rfl, by decide +kernel, rfl, by decide +kernel, by decide +kernel⟩
theorem ok8 (K : PySem.W.Frag) : okSs T (nms K) ⟨(["self", "other"] : List Str), defScope (inClass (top 14) 2), defScope (inClass (top 14) 2), false⟩ c8 (defBody (inClass (top 14) 2)) = true := by kernel_rfl
theorem sc9 : FnScope (["_law_script", "_law_cells", "_law_cell"] : List Str) (T.par 9) (defScope (top 16)) := ⟨rfl, rfl, rfl, by decide +kernel, rfl, by decide +kernel, by decide +kernel⟩
theorem ok9 (K : PySem.W.Frag) : okSs T (nms K) ⟨(["_law_script", "_law_cells", "_law_cell"] : List Str), defScope (top 16), defScope (top 16), false⟩ c9 (defBody (top 16)) = true := by kernel_rfl
theorem sc10 : FnScope (["_law_hand_here", "_law_many", "_law_number", "_law_cell", "_law_digit"] : List Str) (T.par 10) (defScope (top 17)) := ⟨rfl, rfl, rfl, by decide +kernel, rfl, by decide +kernel, by decide +kernel⟩
theorem ok10 (K : PySem.W.Frag) : okSs T (nms K) ⟨(["_law_hand_here", "_law_many", "_law_number", "_law_cell", "_law_digit"] : List Str), defScope (top 17), defScope (top 17), false⟩ c10 (defBody (top 17)) = true := by kernel_rfl
theorem sc11 : FnScope (["_law_hand_here", "_law_many", "_law_road"] : List Str) (T.par 11) (defScope (top 18)) := ⟨rfl, rfl, rfl, by decide +kernel, rfl, by decide +kernel, by decide +kernel⟩
theorem ok11 (K : PySem.W.Frag) : okSs T (nms K) ⟨(["_law_hand_here", "_law_many", "_law_road"] : List Str), defScope (top 18), defScope (top 18), false⟩ c11 (defBody (top 18)) = true := by kernel_rfl
theorem sc12 : FnScope (["_law_hand_here", "_law_towns", "_law_most", "_law_houses", "_law_many", "_law_chained", "_law_roads", "_law_road", "_law_begin"] : List Str) (T.par 12) (defScope (top 19)) := ⟨rfl, rfl, rfl, by decide +kernel, rfl, by decide +kernel, by decide +kernel⟩
theorem ok12 (K : PySem.W.Frag) : okSs T (nms K) ⟨(["_law_hand_here", "_law_towns", "_law_most", "_law_houses", "_law_many", "_law_chained", "_law_roads", "_law_road", "_law_begin"] : List Str), defScope (top 19), defScope (top 19), false⟩ c12 (defBody (top 19)) = true := by kernel_rfl
theorem sc13 : FnScope (["_law_web_here", "_law_road", "_law_other"] : List Str) (T.par 13) (defScope (top 20)) := ⟨rfl, rfl, rfl, by decide +kernel, rfl, by decide +kernel, by decide +kernel⟩
theorem ok13 (K : PySem.W.Frag) : okSs T (nms K) ⟨(["_law_web_here", "_law_road", "_law_other"] : List Str), defScope (top 20), defScope (top 20), false⟩ c13 (defBody (top 20)) = true := by kernel_rfl
theorem sc14 : FnScope (["_law_hand_here", "_law_web_here", "_law_most", "_law_way_here", "_law_turn", "_law_behind"] : List Str) (T.par 14) (defScope (top 21)) := ⟨rfl, rfl, rfl, by decide +kernel, rfl, by decide +kernel, by decide +kernel⟩
theorem ok14 (K : PySem.W.Frag) : okSs T (nms K) ⟨(["_law_hand_here", "_law_web_here", "_law_most", "_law_way_here", "_law_turn", "_law_behind"] : List Str), defScope (top 21), defScope (top 21), false⟩ c14 (defBody (top 21)) = true := by kernel_rfl
theorem sc15 : FnScope (["_law_hand_here", "_law_web_here", "_law_many", "_law_span", "_law_letter"] : List Str) (T.par 15) (defScope (top 22)) := ⟨rfl, rfl, rfl, by decide +kernel, rfl, by decide +kernel, by decide +kernel⟩
theorem ok15 (K : PySem.W.Frag) : okSs T (nms K) ⟨(["_law_hand_here", "_law_web_here", "_law_many", "_law_span", "_law_letter"] : List Str), defScope (top 22), defScope (top 22), false⟩ c15 (defBody (top 22)) = true := by kernel_rfl
theorem sc16 : FnScope (["_law_hand_here", "_law_deep", "_law_turn", "_law_odd_here"] : List Str) (T.par 16) (defScope (top 23)) := ⟨rfl, rfl, rfl, by decide +kernel, rfl, by decide +kernel, by decide +kernel⟩
theorem ok16 (K : PySem.W.Frag) : okSs T (nms K) ⟨(["_law_hand_here", "_law_deep", "_law_turn", "_law_odd_here"] : List Str), defScope (top 23), defScope (top 23), false⟩ c16 (defBody (top 23)) = true := by kernel_rfl
theorem sc17 : FnScope (["_law_thing", "_law_least", "_law_most"] : List Str) (T.par 17) (defScope (top 24)) := ⟨rfl, rfl, rfl, by decide +kernel, rfl, by decide +kernel, by decide +kernel⟩
theorem ok17 (K : PySem.W.Frag) : okSs T (nms K) ⟨(["_law_thing", "_law_least", "_law_most"] : List Str), defScope (top 24), defScope (top 24), false⟩ c17 (defBody (top 24)) = true := by kernel_rfl
theorem sc18 : FnScope (["_law_thing", "_law_houses", "_law_pair", "_law_house"] : List Str) (T.par 18) (defScope (top 25)) := ⟨rfl, rfl, rfl, by decide +kernel, rfl, by decide +kernel, by decide +kernel⟩
theorem ok18 (K : PySem.W.Frag) : okSs T (nms K) ⟨(["_law_thing", "_law_houses", "_law_pair", "_law_house"] : List Str), defScope (top 25), defScope (top 25), false⟩ c18 (defBody (top 25)) = true := by kernel_rfl
theorem sc19 : FnScope (["_law_thing", "_law_many", "_law_count"] : List Str) (T.par 19) (defScope (top 26)) := ⟨rfl, rfl, rfl, by decide +kernel, rfl, by decide +kernel, by decide +kernel⟩
theorem ok19 (K : PySem.W.Frag) : okSs T (nms K) ⟨(["_law_thing", "_law_many", "_law_count"] : List Str), defScope (top 26), defScope (top 26), false⟩ c19 (defBody (top 26)) = true := by kernel_rfl
theorem sc20 : FnScope (["_law_houses", "_law_roads", "_law_rooms", "_law_times"] : List Str) (T.par 20) (defScope (top 27)) := ⟨rfl, rfl, rfl, by decide +kernel, rfl, by decide +kernel, by decide +kernel⟩
theorem ok20 (K : PySem.W.Frag) : okSs T (nms K) ⟨(["_law_houses", "_law_roads", "_law_rooms", "_law_times"] : List Str), defScope (top 27), defScope (top 27), false⟩ c20 (defBody (top 27)) = true := by kernel_rfl
theorem sc21 : FnScope (["_law_hand_here", "_law_houses", "_law_roads", "_law_at", "_law_pairs", "_law_made"] : List Str) (T.par 21) (defScope (top 28)) := ⟨rfl, rfl, rfl, by decide +kernel, rfl, by decide +kernel, by decide +kernel⟩
theorem ok21 (K : PySem.W.Frag) : okSs T (nms K) ⟨(["_law_hand_here", "_law_houses", "_law_roads", "_law_at", "_law_pairs", "_law_made"] : List Str), defScope (top 28), defScope (top 28), false⟩ c21 (defBody (top 28)) = true := by kernel_rfl
theorem sc22 : FnScope (["_law_hand_here", "_law_counts_here", "_law_at", "_law_made"] : List Str) (T.par 22) (defScope (top 29)) := ⟨rfl, rfl, rfl, by decide +kernel, rfl, by decide +kernel, by decide +kernel⟩
theorem ok22 (K : PySem.W.Frag) : okSs T (nms K) ⟨(["_law_hand_here", "_law_counts_here", "_law_at", "_law_made"] : List Str), defScope (top 29), defScope (top 29), false⟩ c22 (defBody (top 29)) = true := by kernel_rfl
theorem sc23 : FnScope (["_law_script", "_law_hand_here", "_law_turn", "_law_which", "_law_due_here", "_law_told", "e", "_law_houses", "_law_roads", "_law_rooms", "_law_times", "_law_web_here"] : List Str) (T.par 23) (defScope (top 30)) := ⟨rfl, rfl, rfl, by decide +kernel, rfl, by decide +kernel, by decide +kernel⟩
theorem ok23 (K : PySem.W.Frag) : okSs T (nms K) ⟨(["_law_script", "_law_hand_here", "_law_turn", "_law_which", "_law_due_here", "_law_told", "e", "_law_houses", "_law_roads", "_law_rooms", "_law_times", "_law_web_here"] : List Str), defScope (top 30), defScope (top 30), false⟩ c23 (defBody (top 30)) = true := by kernel_rfl
theorem okf_list (f : Nat) (h : okf f = true) : f ∈ ([1, 2, 3, 4, 5, 6, 7, 8, 9, 10, 11, 12, 13, 14, 15, 16, 17, 18, 19, 20, 21, 22, 23] : List Nat) := by simpa [okf] using h
theorem prf {K : PySem.W.Frag} {hp : Heap} {mg : Str → Option Value} (X : K.In hp) (Gm : hp.Ns mainGlobals mg) (c : He.SaysD fa fn K) (cx : Ev.SaysX fa fn fx xn K) : PrF T (nms K) G P K mg (adr K) okf (PySem.Challenge.rw_hourcards_k00_webs_judged).prog where
  hK := rfl
  defs := fun f hf => by
    have hf := okf_list f hf
    simp only [List.mem_cons, List.not_mem_nil, or_false] at hf
    rcases hf with rfl | rfl | rfl | rfl | rfl | rfl | rfl | rfl | rfl | rfl | rfl | rfl | rfl | rfl | rfl | rfl | rfl | rfl | rfl | rfl | rfl | rfl | rfl
    · obtain ⟨fd, Fd⟩ := c.def_ 0 rfl
      exact ⟨_, fd, _, _, _, _, _, _, rfl, Fd, sc1, rfl, rfl, ok1 K, Fd.bindsN fun _ _ _ _ _ _ us hl => match us, hl with | [_], _ => rfl⟩
    · obtain ⟨fd, Fd⟩ := c.def_ 1 rfl
      exact ⟨_, fd, _, _, _, _, _, _, rfl, Fd, sc2, rfl, rfl, ok2 K, Fd.bindsN fun _ _ _ _ _ _ us hl => match us, hl with | [_, _, _], _ => rfl⟩
    · obtain ⟨fd, Fd⟩ := c.def_ 2 rfl
      exact ⟨_, fd, _, _, _, _, _, _, rfl, Fd, sc3, rfl, rfl, ok3 K, Fd.bindsN fun _ _ _ _ _ _ us hl => match us, hl with | [_], _ => rfl⟩
    · obtain ⟨fd, Fd⟩ := c.def_ 3 rfl
      exact ⟨_, fd, _, _, _, _, _, _, rfl, Fd, sc4, rfl, rfl, ok4 K, Fd.bindsN fun _ _ _ _ _ _ us hl => match us, hl with | [_, _], _ => rfl⟩
    · obtain ⟨fd, Fd⟩ := c.def_ 4 rfl
      exact ⟨_, fd, _, _, _, _, _, _, rfl, Fd, sc5, rfl, rfl, ok5 K, Fd.bindsN fun _ _ _ _ _ _ us hl => match us, hl with | [_, _, _], _ => rfl⟩
    · obtain ⟨fd, Fd⟩ := c.def_ 5 rfl
      exact ⟨_, fd, _, _, _, _, _, _, rfl, Fd, sc6, rfl, rfl, ok6 K, Fd.bindsN fun _ _ _ _ _ _ us hl => match us, hl with | [_, _, _, _, _], _ => rfl⟩
    · obtain ⟨fd, Fd⟩ := c.def_ 6 rfl
      exact ⟨_, fd, _, _, _, _, _, _, rfl, Fd, sc7, rfl, rfl, ok7 K, Fd.bindsN fun _ _ _ _ _ _ us hl => match us, hl with | [_, _, _, _, _], _ => rfl⟩
    · obtain ⟨fd, Fd⟩ := c.def_ 7 rfl
      exact ⟨_, fd, _, _, _, _, _, _, rfl, Fd, sc8, rfl, rfl, ok8 K, Fd.bindsN fun _ _ _ _ _ _ us hl => match us, hl with | [_, _], _ => rfl⟩
    · obtain ⟨fd, Fd⟩ := c.def_ 8 rfl
      exact ⟨_, fd, _, _, _, _, _, _, rfl, Fd, sc9, rfl, rfl, ok9 K, Fd.bindsN fun _ _ _ _ _ _ us hl => match us, hl with | [_], _ => rfl⟩
    · obtain ⟨fd, Fd⟩ := c.def_ 9 rfl
      exact ⟨_, fd, _, _, _, _, _, _, rfl, Fd, sc10, rfl, rfl, ok10 K, Fd.bindsN fun _ _ _ _ _ _ us hl => match us, hl with | [_, _], _ => rfl⟩
    · obtain ⟨fd, Fd⟩ := c.def_ 10 rfl
      exact ⟨_, fd, _, _, _, _, _, _, rfl, Fd, sc11, rfl, rfl, ok11 K, Fd.bindsN fun _ _ _ _ _ _ us hl => match us, hl with | [_, _], _ => rfl⟩
    · obtain ⟨fd, Fd⟩ := c.def_ 11 rfl
      exact ⟨_, fd, _, _, _, _, _, _, rfl, Fd, sc12, rfl, rfl, ok12 K, Fd.bindsN fun _ _ _ _ _ _ us hl => match us, hl with | [_, _, _], _ => rfl⟩
    · obtain ⟨fd, Fd⟩ := c.def_ 12 rfl
      exact ⟨_, fd, _, _, _, _, _, _, rfl, Fd, sc13, rfl, rfl, ok13 K, Fd.bindsN fun _ _ _ _ _ _ us hl => match us, hl with | [_, _], _ => rfl⟩
    · obtain ⟨fd, Fd⟩ := c.def_ 13 rfl
      exact ⟨_, fd, _, _, _, _, _, _, rfl, Fd, sc14, rfl, rfl, ok14 K, Fd.bindsN fun _ _ _ _ _ _ us hl => match us, hl with | [_, _, _], _ => rfl⟩
    · obtain ⟨fd, Fd⟩ := c.def_ 14 rfl
      exact ⟨_, fd, _, _, _, _, _, _, rfl, Fd, sc15, rfl, rfl, ok15 K, Fd.bindsN fun _ _ _ _ _ _ us hl => match us, hl with | [_, _, _, _], _ => rfl⟩
    · obtain ⟨fd, Fd⟩ := c.def_ 15 rfl
      exact ⟨_, fd, _, _, _, _, _, _, rfl, Fd, sc16, rfl, rfl, ok16 K, Fd.bindsN fun _ _ _ _ _ _ us hl => match us, hl with | [_], _ => rfl⟩
    · obtain ⟨fd, Fd⟩ := c.def_ 16 rfl
      exact ⟨_, fd, _, _, _, _, _, _, rfl, Fd, sc17, rfl, rfl, ok17 K, Fd.bindsN fun _ _ _ _ _ _ us hl => match us, hl with | [_, _, _], _ => rfl⟩
    · obtain ⟨fd, Fd⟩ := c.def_ 17 rfl
      exact ⟨_, fd, _, _, _, _, _, _, rfl, Fd, sc18, rfl, rfl, ok18 K, Fd.bindsN fun _ _ _ _ _ _ us hl => match us, hl with | [_, _], _ => rfl⟩
    · obtain ⟨fd, Fd⟩ := c.def_ 18 rfl
      exact ⟨_, fd, _, _, _, _, _, _, rfl, Fd, sc19, rfl, rfl, ok19 K, Fd.bindsN fun _ _ _ _ _ _ us hl => match us, hl with | [_, _], _ => rfl⟩
    · obtain ⟨fd, Fd⟩ := c.def_ 19 rfl
      exact ⟨_, fd, _, _, _, _, _, _, rfl, Fd, sc20, rfl, rfl, ok20 K, Fd.bindsN fun _ _ _ _ _ _ us hl => match us, hl with | [_, _, _, _], _ => rfl⟩
    · obtain ⟨fd, Fd⟩ := c.def_ 20 rfl
      exact ⟨_, fd, _, _, _, _, _, _, rfl, Fd, sc21, rfl, rfl, ok21 K, Fd.bindsN fun _ _ _ _ _ _ us hl => match us, hl with | [_, _, _], _ => rfl⟩
    · obtain ⟨fd, Fd⟩ := c.def_ 21 rfl
      exact ⟨_, fd, _, _, _, _, _, _, rfl, Fd, sc22, rfl, rfl, ok22 K, Fd.bindsN fun _ _ _ _ _ _ us hl => match us, hl with | [_, _], _ => rfl⟩
    · obtain ⟨fd, Fd⟩ := c.def_ 22 rfl
      exact ⟨_, fd, _, _, _, _, _, _, rfl, Fd, sc23, rfl, rfl, ok23 K, Fd.bindsN fun _ _ _ _ _ _ us hl => match us, hl with | [_], _ => rfl⟩
  fns := fun f x hx => by
    have hx := lookup_mem hx
    simp only [List.mem_cons, List.not_mem_nil, or_false, Prod.mk.injEq] at hx
    rcases hx with ⟨rfl, rfl⟩ | ⟨rfl, rfl⟩ | ⟨rfl, rfl⟩ | ⟨rfl, rfl⟩ | ⟨rfl, rfl⟩ | ⟨rfl, rfl⟩ | ⟨rfl, rfl⟩ | ⟨rfl, rfl⟩ | ⟨rfl, rfl⟩ | ⟨rfl, rfl⟩ | ⟨rfl, rfl⟩ | ⟨rfl, rfl⟩ | ⟨rfl, rfl⟩ | ⟨rfl, rfl⟩ | ⟨rfl, rfl⟩ | ⟨rfl, rfl⟩ | ⟨rfl, rfl⟩ | ⟨rfl, rfl⟩ | ⟨rfl, rfl⟩ | ⟨rfl, rfl⟩
    · exact ⟨rfl, He.glo_ok X Gm (c.fact 0 (f := .glo "is_integer") rfl)⟩
    · exact ⟨rfl, He.glo_ok X Gm (c.fact 1 (f := .glo "is_within") rfl)⟩
    · exact ⟨rfl, He.glo_ok X Gm (c.fact 2 (f := .glo "is_pair") rfl)⟩
    · exact ⟨rfl, He.glo_ok X Gm (c.fact 3 (f := .glo "are_roads") rfl)⟩
    · exact ⟨rfl, He.glo_ok X Gm (c.fact 4 (f := .glo "are_counts") rfl)⟩
    · exact ⟨rfl, He.glo_ok X Gm (c.fact 5 (f := .glo "_law_hand") rfl)⟩
    · exact ⟨rfl, He.glo_ok X Gm (c.fact 6 (f := .glo "_law_draw") rfl)⟩
    · exact ⟨rfl, He.glo_ok X Gm (c.fact 7 (f := .glo "_law_counts") rfl)⟩
    · exact ⟨rfl, He.glo_ok X Gm (c.fact 8 (f := .glo "_law_web") rfl)⟩
    · exact ⟨rfl, He.glo_ok X Gm (c.fact 9 (f := .glo "_law_next") rfl)⟩
    · exact ⟨rfl, He.glo_ok X Gm (c.fact 10 (f := .glo "_law_way") rfl)⟩
    · exact ⟨rfl, He.glo_ok X Gm (c.fact 11 (f := .glo "_law_letters") rfl)⟩
    · exact ⟨rfl, He.glo_ok X Gm (c.fact 12 (f := .glo "_law_odd") rfl)⟩
    · exact ⟨rfl, He.glo_ok X Gm (c.fact 13 (f := .glo "_law_is_number") rfl)⟩
    · exact ⟨rfl, He.glo_ok X Gm (c.fact 14 (f := .glo "_law_are_roads") rfl)⟩
    · exact ⟨rfl, He.glo_ok X Gm (c.fact 15 (f := .glo "_law_are_counts") rfl)⟩
    · exact ⟨rfl, He.glo_ok X Gm (c.fact 16 (f := .glo "_law_due") rfl)⟩
    · exact ⟨rfl, He.glo_ok X Gm (c.fact 17 (f := .glo "_law_spoiled_roads") rfl)⟩
    · exact ⟨rfl, He.glo_ok X Gm (c.fact 18 (f := .glo "_law_spoiled_counts") rfl)⟩
    · exact ⟨rfl, He.glo_ok X Gm (c.fact 19 (f := .glo "law") rfl)⟩
  mts := fun k m f hx => by
    have hx := find_mem hx
    simp only [List.mem_cons, List.not_mem_nil, or_false, Prod.mk.injEq] at hx
    rcases hx with ⟨rfl, rfl, rfl⟩ | ⟨rfl, rfl, rfl⟩
    · exact ⟨rfl, by decide, He.meth_ok (c.fact 55 (f := .meth "Web" "keep") rfl)⟩
    · exact ⟨rfl, by decide, He.meth_ok (c.fact 56 (f := .meth "Web" "__eq__") rfl)⟩
  inis := fun k f hx => by
    have hx := lookup_mem hx
    simp only [List.mem_cons, List.not_mem_nil, or_false, Prod.mk.injEq] at hx
    rcases hx with ⟨rfl, rfl⟩
    · exact ⟨rfl, by decide, He.mkr_ok (c.fact 57 (f := .mkr "Web") rfl)⟩
  blt := fun x hx => by
    simp only [bltNames, List.mem_cons, List.mem_nil_iff, or_false] at hx
    rcases hx with rfl | rfl | rfl | rfl | rfl | rfl | rfl | rfl | rfl | rfl | rfl | rfl | rfl | rfl | rfl | rfl | rfl | rfl | rfl | rfl | rfl | rfl | rfl
    · exact He.free_ok X Gm (c.fact 20 (f := .free "len") rfl)
    · exact He.free_ok X Gm (c.fact 21 (f := .free "abs") rfl)
    · exact He.free_ok X Gm (c.fact 22 (f := .free "int") rfl)
    · exact He.free_ok X Gm (c.fact 23 (f := .free "tuple") rfl)
    · exact He.free_ok X Gm (c.fact 24 (f := .free "list") rfl)
    · exact He.free_ok X Gm (c.fact 25 (f := .free "sum") rfl)
    · exact He.free_ok X Gm (c.fact 26 (f := .free "all") rfl)
    · exact He.free_ok X Gm (c.fact 27 (f := .free "any") rfl)
    · exact He.free_ok X Gm (c.fact 28 (f := .free "min") rfl)
    · exact He.free_ok X Gm (c.fact 29 (f := .free "max") rfl)
    · exact He.free_ok X Gm (c.fact 30 (f := .free "sorted") rfl)
    · exact He.free_ok X Gm (c.fact 31 (f := .free "set") rfl)
    · exact He.free_ok X Gm (c.fact 32 (f := .free "str") rfl)
    · exact He.free_ok X Gm (c.fact 33 (f := .free "divmod") rfl)
    · exact He.free_ok X Gm (c.fact 34 (f := .free "isinstance") rfl)
    · exact He.free_ok X Gm (c.fact 35 (f := .free "bool") rfl)
    · exact He.free_ok X Gm (c.fact 36 (f := .free "dict") rfl)
    · exact He.free_ok X Gm (c.fact 37 (f := .free "range") rfl)
    · exact He.free_ok X Gm (c.fact 38 (f := .free "enumerate") rfl)
    · exact He.free_ok X Gm (c.fact 39 (f := .free "zip") rfl)
    · exact He.free_ok X Gm (c.fact 40 (f := .free "reversed") rfl)
    · exact He.free_ok X Gm (c.fact 41 (f := .free "ValueError") rfl)
    · exact He.free_ok X Gm (c.fact 42 (f := .free "super") rfl)
  con := fun g x hx => by
    have hx := lookup_mem hx
    simp only [List.mem_cons, List.not_mem_nil, or_false, Prod.mk.injEq] at hx
    rcases hx with ⟨rfl, rfl⟩ | ⟨rfl, rfl⟩ | ⟨rfl, rfl⟩ | ⟨rfl, rfl⟩
    · obtain ⟨t, e⟩ := He.int_ok X Gm (c.fact 43 (f := .int "MOST_HOUSES" 12) rfl)
      exact ⟨_, .int 12, _, rfl, e, ⟨t, rfl⟩, trivial, fun _ _ _ => .int _⟩
    · obtain ⟨t, e⟩ := He.int_ok X Gm (c.fact 44 (f := .int "MOST_ROADS" 24) rfl)
      exact ⟨_, .int 24, _, rfl, e, ⟨t, rfl⟩, trivial, fun _ _ _ => .int _⟩
    · obtain ⟨t, e⟩ := He.int_ok X Gm (c.fact 45 (f := .int "MOST_ROOMS" 3) rfl)
      exact ⟨_, .int 3, _, rfl, e, ⟨t, rfl⟩, trivial, fun _ _ _ => .int _⟩
    · obtain ⟨t, e⟩ := He.int_ok X Gm (c.fact 46 (f := .int "MOST_TIME" 3) rfl)
      exact ⟨_, .int 3, _, rfl, e, ⟨t, rfl⟩, trivial, fun _ _ _ => .int _⟩
  cls := fun k x hx => by
    match k, hx with
    | 0, hx =>
      cases hx
      exact He.glo_ok X Gm (c.fact 47 (f := .glo "Web") rfl)
    | n + 1, hx => exact absurd hx (by simp [T])
  fld := fun k hk => by
    match k, hk with
    | 0, hk =>
      refine ⟨He.cls_ok (c.fact 48 (f := .cls "Web") rfl), fun f hf => ?_⟩
      have hf : f ∈ ([1, 2, 3, 4, 5, 6] : List Nat) := by simpa [G] using hf
      simp only [List.mem_cons, List.not_mem_nil, or_false] at hf
      rcases hf with rfl | rfl | rfl | rfl | rfl | rfl
      · exact He.noat_ok (c.fact 49 (f := .noat "Web" "houses") rfl)
      · exact He.noat_ok (c.fact 50 (f := .noat "Web" "roads") rfl)
      · exact He.noat_ok (c.fact 51 (f := .noat "Web" "rooms") rfl)
      · exact He.noat_ok (c.fact 52 (f := .noat "Web" "times") rfl)
      · exact He.noat_ok (c.fact 53 (f := .noat "Web" "kept_next") rfl)
      · exact He.noat_ok (c.fact 54 (f := .noat "Web" "kept_leads") rfl)
    | n + 1, hk => exact absurd hk (by simp [T])
  exn := fun k x hx => by
    have hx := lookup_mem hx
    simp only [List.mem_cons, List.not_mem_nil, or_false, Prod.mk.injEq] at hx
    rcases hx with ⟨rfl, rfl⟩
    · exact He.glo_ok X Gm (c.fact 58 (f := .glo "BadWeb") rfl)
  hdn := fun k x hx => by
    have hx := lookup_mem hx
    simp only [List.mem_cons, List.not_mem_nil, or_false, Prod.mk.injEq] at hx
    rcases hx with ⟨rfl, rfl⟩
    · exact He.glo_ok X Gm (c.fact 58 (f := .glo "BadWeb") rfl)
  exo := fun k hk => by
    have hk := lookup_mem hk
    simp only [List.mem_cons, List.not_mem_nil, or_false] at hk
    have h := hk
    · cases h
  exf := fun k hk => by
    have hk : k ∈ ([2] : List Nat) := by simpa [T] using hk
    simp only [List.mem_cons, List.not_mem_nil, or_false] at hk
    rcases hk with rfl
    · obtain ⟨z1, z2⟩ := cx.xin 0 rfl
      obtain ⟨Fn, z3⟩ := xin_ok (P := (PySem.Challenge.rw_hourcards_k00_webs_judged).prog) (ps := ["self", "part"]) (N := ["self", "part", "__class__"]) z1 z2 (by kernel_rfl) (by kernel_rfl) (by kernel_rfl) (by kernel_rfl) rfl rfl (fun _ _ _ _ _ us hl => match us, hl with | [_, _], _ => rfl) (by kernel_rfl)
      exact ⟨[0], rfl, by simp, by simp, _, _, Fn, z3⟩
  exm := fun j k x hj hx => by
    obtain ⟨fz, hj⟩ := Option.isSome_iff_exists.mp hj
    have hj := lookup_mem hj
    simp only [List.mem_cons, List.not_mem_nil, or_false, Prod.mk.injEq] at hj
    have hx := lookup_mem hx
    simp only [List.mem_cons, List.not_mem_nil, or_false, Prod.mk.injEq] at hx
    rcases hx with ⟨rfl, rfl⟩
    · rcases hj with ⟨rfl, _⟩
      · exact He.exm_ok (c.fact 59 (f := .exm "BadWeb" "BadWeb" true) rfl)
  exi := fun _ j hj => by
    obtain ⟨q1, q2⟩ := exiB_ok (cx.more 2 (f := .exi ["BadWeb"] [("BadWeb", ["BadWeb"])] [("BadWeb", "part")]) rfl)
    obtain ⟨fz, hj⟩ := Option.isSome_iff_exists.mp hj
    rw [hj]
    have hj := lookup_mem hj
    simp only [List.mem_cons, List.not_mem_nil, or_false, Prod.mk.injEq] at hj
    rcases hj with ⟨rfl, rfl⟩
    · obtain ⟨hx, hq⟩ := q1 "BadWeb" (by simp)
      refine ⟨hx, fun k x hk => ?_, fun fs e f hf => ?_⟩
      rotate_left
      · cases e
        simp only [List.mem_cons, List.not_mem_nil, or_false] at hf
        rcases hf with rfl
        · exact q2 ("BadWeb", "part") (by simp)
      have hk := lookup_mem hk
      simp only [List.mem_cons, List.not_mem_nil, or_false, Prod.mk.injEq] at hk
      rcases hk with ⟨rfl, rfl⟩
      · exact (hq ("BadWeb", ["BadWeb"]) (by simp)).trans (congrArg some (by decide +kernel))
  eqs := fun k hk => by
    have hk : k ∈ ([0] : List Nat) := by simpa [T] using hk
    simp only [List.mem_cons, List.not_mem_nil, or_false] at hk
    rcases hk with rfl
    · exact eqcB_ok (cx.more 1 (f := .eqs "Web") rfl)
  nsb := fun k d hk => nomatch (show false = true from hk)
  kit := fun tg ty h1 h2 => by
    have q : kitB K (nms K).cl 1 G.sub = true := cx.more 0 (f := .kit ([(.ofString "Web"), (.ofString "HourError"), (.ofString "BadWeb")] : List Str) 1 [(0, 0), (1, 1), (2, 2), (2, 1)]) rfl
    refine kit_of (N := nms K) q tg ty ?_ ?_
    · cases tg <;> first | exact h1.1 | trivial
    · cases ty <;> first | exact h2.1 | trivial
  ist := fun k hk _ => by
    have q : kitB K (nms K).cl 1 G.sub = true := cx.more 0 (f := .kit ([(.ofString "Web"), (.ofString "HourError"), (.ofString "BadWeb")] : List Str) 1 [(0, 0), (1, 1), (2, 2), (2, 1)]) rfl
    exact istB_ok (kitB_at q (c := k) hk).1
  ncl := rfl
  nm := nms_inj
end Pr
open PySem PySem.W PySem.Calls PyProof.Rows
theorem PySem.Challenge.cw_hourcards_k00_webs_judged_holds : PySem.Challenge.rw_hourcards_k00_webs_judged.Holds := by
  w_on; o_law
  refine HandSHeadRun.head_any (r := OpenLaw.row PySem.Challenge.rw_hourcards_k00_webs_judged) (q := view (OpenLaw.row PySem.Challenge.rw_hourcards_k00_webs_judged).prog [30]) (H := HeadT.hk) (ob := HeadT.ob) (M := 20000) (loose := HeadT.loose) (d := HandSHeadRun.topDef (OpenLaw.row PySem.Challenge.rw_hourcards_k00_webs_judged).prog 30) (kwd := []) HeadT.ob_eq
    (by kernel_rfl) (fun s => by kernel_rfl) HeadT.run (by kernel_rfl) (by kernel_rfl) (by kernel_rfl) (by rfl) (by first | assumption | decide +kernel) (by decide +kernel) ⟨rfl, rfl, rfl, rfl, rfl, by decide +kernel⟩ ?hw ?hc
  case hw => w_witness2
  case hc =>
    refine L2.walk_ofE (l := PySem.Challenge.rw_hourcards_k00_webs_judged) (n := 63) (k := 2 * Pr.depth + 2) (x := "_law_script") (CX := L2.CX0) rfl (by decide) (by kernel_rfl) ⟨rfl, by decide, by decide⟩ ?F ?hCX
    case F =>
      intro w mg fa h Y Gm hmg0
      obtain ⟨K, KX, cx⟩ := Y
      have c := cx.base
      have hmg : mg ("law" : PySem.Str) = some (.ref fa) := by
        have e : (HandSHeadRun.topDef (OpenLaw.row PySem.Challenge.rw_hourcards_k00_webs_judged).prog 30).name = ("law" : PySem.Str) := by kernel_rfl
        rw [← e]
        exact hmg0
      obtain ⟨fd, Fd⟩ := c.def_ 22 rfl
      have pf := Pr.prf KX Gm c cx
      have e := hmg.symm.trans (He.glo_ok KX Gm (c.fact 19 (f := .glo "law") rfl))
      cases e
      have b := L2.FunD.bindsA (ps := ["_law_script"]) Fd fun _ _ _ _ _ _ us hl => match us, hl with | [_], _ => rfl
      refine ⟨K, fd, Ev.spLaw K 63, KX, fun s u => b s [u] rfl, fun H a ns hl _ hS => ⟨a, ns, rfl, hl, hS, fun _ => rfl⟩, fun base _ _ => ?_⟩
      obtain ⟨fd', q2, q3, q4, q5, _, _, _, _, _, q6⟩ := Ev.run_ok (P := (PySem.Challenge.rw_hourcards_k00_webs_judged).prog) (w := w) (base := base) pf Pr.depth 23 rfl
      obtain rfl := Ev.fd_same Fd q6
      exact Ev.FnOk.calm q4 (Ev.law_ok (N := Pr.nms K) rfl Pr.law)
    case hCX => exact fun _ _ _ _ z => z
