import PyProof.Rows.All
import Wide.All
import OpenK.AllK
import Wide.FinOn
import KE.KStateDown
import Lean
import HandS.Base
import HandS.Call
import HandS.Ends
import HandS.More
import HandS.Words
import HandS.WordsExc
import HandS.Defaults
import HandS.Head0
import HandS.Head1
import HandS.Head2
import HandS.HeadEnd
import HandS.HeadHook1
import HandS.HeadHook2
import PyProof.TableCode
import PySem.Str
import HandS.ForExc
import HandS.Iter
import HandS.Comp
import HandS.Dict
import HandS.TupAny
import HandS.TupMul
import HandS.Wide
import KE.DataEq
import KE.DataCmp
import KE.LtData
import HandS.IsInst
import KE.SortData
import HandS.Style
import HandS.Text
import KE.GoesEnum
import KE.GoesZip
import HandS.Walk
import HandS.Zip
import HandS.Conv
import HandS.NoneIn
import HandS.Rev
import HandS.SetKeys
import HandS.ExcOwn
import HandS.TryMany
import HandS.Codes
import PySem.Challenge.RW_hourcards_k26_whole_kinds_or_a_bad_place
set_option Elab.async false
set_option linter.all false
set_option maxRecDepth 100000
set_option maxHeartbeats 0
set_option autoImplicit false
set_option autoImplicit false
/-! The core: values, expressions, statements, and what they do. Plain Lean: no program, no model in sight. -/
namespace Ev
open PySem (Str)

/-! ### values -/
inductive D where
  | non | bl (b : Bool) | int (i : Int) | str (x : Str)
  | tup (xs : List D) | lst (xs : List D)
  | dct (kvs : List (D × D))
  | obj (c : Nat) (fs : List (Nat × D))
  | ref (k : Nat)
  deriving Inhabited
/-- what may change: a slot's own thing, or a thing of the store -/
inductive Cell where
  | lst (xs : List D) | dct (kvs : List (D × D)) | obj (c : Nat) (fs : List (Nat × D))
  deriving Inhabited
def Cell.toD : Cell → D
  | .lst xs => .lst xs | .dct kvs => .dct kvs | .obj c fs => .obj c fs

mutual
def eqB : D → D → Bool
  | .non, .non => true
  | .bl a, .bl b => a == b
  | .bl a, .int j => (if a then 1 else 0) == j
  | .int i, .bl b => i == (if b then 1 else 0)
  | .int i, .int j => i == j
  | .str x, .str y => x == y
  | .lst xs, .lst ys => eqBs xs ys
  | .tup xs, .tup ys => eqBs xs ys
  | _, _ => false
def eqBs : List D → List D → Bool
  | [], [] => true
  | x :: xs, y :: ys => eqB x y && eqBs xs ys
  | _, _ => false
end
mutual
def ltB : D → D → Bool
  | .bl a, .bl b => !a && b
  | .int i, .int j => decide (i < j)
  | .str x, .str y => decide (x.cps.toList < y.cps.toList)
  | .lst xs, .lst ys => ltBs xs ys
  | .tup xs, .tup ys => ltBs xs ys
  | _, _ => false
def ltBs : List D → List D → Bool
  | [], [] => false
  | [], _ :: _ => true
  | _ :: _, [] => false
  | x :: xs, y :: ys => if eqB x y then ltBs xs ys else ltB x y
end
mutual
/-- comparable place by place -/
def alk : D → D → Bool
  | .non, .non => true
  | .bl _, .bl _ => true
  | .int _, .int _ => true
  | .str _, .str _ => true
  | .lst xs, .lst ys => alks xs ys
  | .tup xs, .tup ys => alks xs ys
  | _, _ => false
def alks : List D → List D → Bool
  | x :: xs, y :: ys => alk x y && alks xs ys
  | _, _ => true
end
mutual
/-- plain data, not too deep -/
def D.fin : Nat → D → Bool
  | _, .non | _, .bl _ | _, .int _ | _, .str _ => true
  | 0, _ => false
  | n + 1, .tup xs => D.fins n xs
  | n + 1, .lst xs => D.fins n xs
  | _, _ => false
def D.fins : Nat → List D → Bool
  | _, [] => true
  | n, x :: xs => D.fin n x && D.fins n xs
end
mutual
/-- all refs are below n -/
def D.blw (n : Nat) : D → Bool
  | .ref k => decide (k < n)
  | .tup xs | .lst xs => D.blws n xs
  | .dct kvs => D.blwk n kvs
  | .obj _ fs => D.blwf n fs
  | _ => true
def D.blws (n : Nat) : List D → Bool
  | [] => true
  | x :: xs => x.blw n && D.blws n xs
def D.blwk (n : Nat) : List (D × D) → Bool
  | [] => true
  | (k, x) :: xs => k.blw n && x.blw n && D.blwk n xs
def D.blwf (n : Nat) : List (Nat × D) → Bool
  | [] => true
  | (_, x) :: xs => x.blw n && D.blwf n xs
end
def Cell.blw (n : Nat) : Cell → Bool
  | .lst xs => D.blws n xs
  | .dct kvs => D.blwk n kvs
  | .obj _ fs => D.blwf n fs

/-! ### the language -/
inductive Op where | add | sub | mul | fdiv | mod | pow
  deriving DecidableEq
inductive Cm where | eq | ne | lt | le | gt | ge | inn | nin | isN | notN
  deriving DecidableEq
inductive Bi where
  | len | abs | int | tuple | list | sum | min1 | max1 | min2 | max2 | all | any | sorted | set | str | divmod
  | sset
  deriving DecidableEq
inductive Bm where | get | count | index | split | join | strip
  deriving DecidableEq
inductive Mm where | append | extend | pop | popAt | reverse | clear | insert | remove
  deriving DecidableEq
inductive Ty where | int | bool | str | tuple | list | dict | cls (c : Nat)
  deriving DecidableEq
inductive Ck where | plain | trunc | pure
  deriving DecidableEq
mutual
inductive Tg where
  | v (i : Nat) | tup (ts : Tgs)
inductive Tgs where
  | nil | cons (t : Tg) (ts : Tgs)
end
mutual
inductive Ex where
  | v (i : Nat) | con (g : Nat)
  | int (i : Int) | str (x : Str) | bl (b : Bool) | non
  | bin (op : Op) (a b : Ex) | neg (a : Ex) | not (a : Ex)
  | and (es : Exs) | or (es : Exs) | ife (t a b : Ex)
  | cmp (c : Cm) (a b : Ex) | chain (c c' : Cm) (a b d : Ex)
  | tup (es : Exs) | lst (es : Exs) | dct (ks vs : Exs)
  | new (e : Ex)
  | idx (a i : Ex) | sl (a lo hi : Ex) | rev (a : Ex)      -- a part left out: non; a[::-1]
  | attr (a : Ex) (f : Nat)
  | call (q : Ck) (f : Nat) (es : Exs) | mk (c : Nat) (es : Exs) | mkN (c : Nat) (es : Exs) | meth (q : Ck) (c : Nat) (o : Ex) (m : Nat) (es : Exs)
  | bi (b : Bi) (es : Exs) | bm (m : Bm) (o : Ex) (es : Exs) | mm (m : Mm) (o : Ex) (es : Exs)
  | ext (o e : Ex)
  | sdef (o k : Ex)                                        -- o.setdefault(k, []): a list of the store
  | rg (t : Bool) (a b : Ex)                               -- tuple(range(a, b)), list(..); range(b): a the 0
  | rg3 (a b c : Ex)
  | isi (e : Ex) (ts : List Ty)
  | lc (elt : Ex) (tg : Tg) (it : It) (ifs : Exs) (own : List Nat)
  | bad
inductive Exs where
  | nil | cons (e : Ex) (es : Exs)
inductive It where
  | val (e : Ex) | rng1 (e : Ex) | rng2 (a b : Ex) | enum (e : Ex) (n : Int) | zip (a b : Ex) | rev (e : Ex) | revr (e : Ex) | items (e : Ex) | vals (e : Ex)
end
mutual
inductive St where
  | asg (t : Tg) (e : Ex)
  | asgO (i : Nat) (e : Ex)        -- a slot's own new thing
  | asgF (o : Ex) (f : Nat) (e : Ex) | asgI (o i e : Ex)
  | aug (i : Nat) (op : Op) (e : Ex) | augF (o : Ex) (f : Nat) (op : Op) (e : Ex) | augI (o i : Ex) (op : Op) (e : Ex)
  | ex (e : Ex)
  | ife (c : Ex) (a b : Sts)
  | whl (n : Nat) (c : Ex) (a : Sts) (kl : List Nat)
  | for (tg : Tg) (it : It) (a : Sts) (kl : List Nat)
  | ret (e : Ex) | retN
  | brk | cnt | pass
  | rais (c : Nat) (es : Exs)
  | tryx (a : Sts) (hs : Hds)
  | bad
inductive Sts where
  | nil | cons (s : St) (ss : Sts)
inductive Hds where
  | nil | cons (c : Nat) (bd : Option Nat) (a : Sts) (hs : Hds)
end

def Ex.isNon : Ex → Bool
  | .non => true
  | _ => false
def Exs.isNil : Exs → Bool
  | .nil => true
  | _ => false
/-! ### the state -/
inductive LV where
  | d (x : D) | own (c : Cell)
structure S where
  loc : List (Option LV)
  cel : List Cell
structure Exc where
  c : Nat
  fs : List (Nat × D)
inductive Res (α : Type) where
  | ok (a : α) (s : S) | exc (e : Exc) (s : S) | stk
abbrev M (α : Type) := S → Res α
def M.bind {α β : Type} (m : M α) (f : α → M β) : M β := fun s => match m s with
  | .ok a s' => f a s'
  | .exc e s' => .exc e s'
  | .stk => .stk
def M.pure {α : Type} (a : α) : M α := fun s => .ok a s
def stk {α : Type} : M α := fun _ => .stk
def M.of {α : Type} : Option α → M α
  | some a => M.pure a
  | none => stk
/-- a def's end: what it returns, the store -/
inductive FRes where
  | ok (r : D) (c : List Cell) | exc (e : Exc) (c : List Cell) | stk
abbrev FT := Nat → List D → List Cell → FRes
structure Tab where
  con : List D
  ncls : Nat
  isf : Nat → Nat → Bool
  isa : Nat → Bool
  meth : Nat → Nat → Option Nat
  ini : Nat → Option Nat
  sub : Nat → Nat → Bool
  exf : Nat → Option (List Nat)

/-! ### data -/
def keyGet {α : Type} (k : D) : List (D × α) → Option α
  | [] => none
  | (k', x) :: r => if eqB k' k then some x else keyGet k r
def keyPut {α : Type} (k : D) (x : α) (l : List (D × α)) : List (D × α) := if (l.any fun q => eqB q.1 k) = true then l.map (fun q => if eqB q.1 k = true then (q.1, x) else q) else l ++ [(k, x)]
def fldPut {α : Type} (k : Nat) (x : α) : List (Nat × α) → List (Nat × α)
  | [] => [(k, x)]
  | (k', y) :: r => if k' = k then (k', x) :: r else (k', y) :: fldPut k x r
def D.len : D → Option Nat
  | .tup xs | .lst xs => some xs.length
  | _ => none
def D.items : D → Option (List D)
  | .tup xs | .lst xs => some xs
  | _ => none
def ixN (n : Nat) (i : Int) : Option Nat := if 0 ≤ i then (if i < n then some i.toNat else none) else if -(n : Int) ≤ i then some (i + n).toNat else none
def pickI {α : Type} (xs : List α) (i : Int) : Option α := (ixN xs.length i).bind fun j => xs[j]?
def clipI (n : Nat) (i : Int) : Nat := if 0 ≤ i then min i.toNat n else (i + n).toNat
def cutI {α : Type} (xs : List α) (lo hi : Option Int) : List α :=
  let a := match lo with | none => 0 | some i => clipI xs.length i
  let b := match hi with | none => xs.length | some i => clipI xs.length i
  (xs.drop a).take (b - a)
def D.ints : List D → Option (List Int)
  | [] => some []
  | .int i :: r => (D.ints r).map (i :: ·)
  | _ => none
def D.bls : List D → Option (List Bool)
  | [] => some []
  | .bl i :: r => (D.bls r).map (i :: ·)
  | _ => none
def big : Int := 2 ^ 62
def sml (i : Int) : Bool := decide (-big ≤ i) && decide (i < big)
def line : Nat := 16777216
/-- lo, lo + 1, .. ahead of hi -/
def rangeL (lo hi : Int) : List Int := (List.range (hi - lo).toNat).map fun (j : Nat) => lo + (j : Int)
/-- lo, lo + st, .. ahead of hi, 0 < st -/
def rangeS (lo hi st : Int) : List Int := (List.range ((hi - lo + st - 1) / st).toNat).map fun (j : Nat) => lo + (j : Int) * st
def nonB (x : D) : Bool := match x with | .non => true | _ => false
def allAlk (xs : List D) : Bool := xs.all fun x => !nonB x && xs.all fun y => alk x y
/-- all tuples with an item, or none a tuple -/
def srtOk (xs : List D) : Bool := (xs.all fun x => match x with | .tup (_ :: _) => true | _ => false) || (xs.all fun x => match x with | .tup _ | .non => false | _ => true)
def sortD (xs : List D) : List D := xs.mergeSort fun a b => !ltB b a
def minI (x : Int) (xs : List Int) : Int := xs.foldl (fun a y => if y < a then y else a) x
def maxI (x : Int) (xs : List Int) : Int := xs.foldl (fun a y => if a < y then y else a) x
def nodupD : List D → List D
  | [] => []
  | x :: xs => if xs.any (fun y => eqB y x) then nodupD xs else x :: nodupD xs

def binF : Op → D → D → Option D
  | .add, .int a, .int b => some (.int (a + b))
  | .sub, .int a, .int b => some (.int (a - b))
  | .mul, .int a, .int b => if a.natAbs < 2 ^ 64 ∨ b.natAbs < 2 ^ 64 ∨ a.natAbs.log2 + b.natAbs.log2 < 1000000 then some (.int (a * b)) else none
  | .fdiv, .int a, .int b => if 0 < b ∧ b.natAbs.log2 < 9000 then some (.int (a / b)) else none
  | .mod, .int a, .int b => if 0 < b then some (.int (a % b)) else none
  | .pow, .int a, .int b => if 0 ≤ b ∧ b ≤ 1000 ∧ a.natAbs < 2 ^ 64 then some (.int (a ^ b.toNat)) else none
  | .add, .str a, .str b => if a.cps.size + b.cps.size ≤ line then some (.str (a ++ b)) else none
  | .add, .tup a, .tup b => if a.length + b.length ≤ line then some (.tup (a ++ b)) else none
  | .add, .lst a, .lst b => if a.length + b.length ≤ line then some (.lst (a ++ b)) else none
  | .mul, .tup (x :: a'), .int b => let a := x :: a'; if 1 ≤ b ∧ b ≤ 1000 ∧ a.length ≤ 1000 then some (.tup (List.replicate b.toNat a).flatten) else none
  | _, _, _ => none
def negF : D → Option D
  | .int i => some (.int (-i))
  | _ => none
def dep : Nat := 60
def eqF (x y : D) : Option Bool := if x.fin dep && y.fin dep then some (eqB x y) else none
def ltF (x y : D) : Option Bool := if x.fin dep && y.fin dep && alk x y && !nonB x then some (ltB x y) else none
def inF (x c : D) : Option Bool := match c with
  | .lst ys | .tup ys => if x.fin dep && D.fins dep ys then some (ys.any fun y => eqB y x) else none
  | _ => none
def cmpF : Cm → D → D → Option Bool
  | .eq, x, y => eqF x y
  | .ne, x, y => (eqF x y).map (!·)
  | .lt, x, y => ltF x y
  | .gt, x, y => ltF y x
  | .le, x, y => (ltF y x).map (!·)
  | .ge, x, y => (ltF x y).map (!·)
  | .inn, x, y => inF x y
  | .nin, x, y => (inF x y).map (!·)
  | .isN, x, .non => some (nonB x)
  | .notN, x, .non => some (!nonB x)
  | .isN, .bl a, .bl b => some (decide (a = b))
  | .notN, .bl a, .bl b => some (!decide (a = b))
  | _, _, _ => none
def idxF : D → D → Option D
  | .lst xs, .int i | .tup xs, .int i => pickI xs i
  | .str x, .int i => if x.cps.size ≤ line then (pickI x.cps.toList i).map fun c => .str ⟨#[c]⟩ else none
  | _, _ => none
/-- n: the part is left out -/
def partF : Bool → D → Option (Option Int)
  | true, .non => some none
  | false, .int i => some (some i)
  | _, _ => none
def slF (a b : Option Int) (x : D) : Option D := match x with
  | .lst xs => some (.lst (cutI xs a b))
  | .tup xs => some (.tup (cutI xs a b))
  | .str x => if x.cps.size ≤ line then some (.str ⟨(cutI x.cps.toList a b).toArray⟩) else none
  | _ => none
def revF : D → Option D
  | .lst xs => some (.lst xs.reverse)
  | .tup xs => some (.tup xs.reverse)
  | _ => none
def isTy (sub : Nat → Nat → Bool) : D → Ty → Bool
  | .int _, .int | .bl _, .int | .bl _, .bool | .str _, .str | .tup _, .tuple | .lst _, .list | .dct _, .dict => true
  | .obj c _, .cls c' => sub c c'
  | _, _ => false
def biF : Bi → List D → Option D
  | .len, [.str x] => if x.cps.size ≤ line then some (.int x.cps.size) else none
  | .len, [x] => x.len.map fun n => .int n
  | .abs, [.int i] => some (.int (if i < 0 then -i else i))
  | .int, [.int i] => some (.int i)
  | .int, [.bl b] => some (.int (if b then 1 else 0))
  | .tuple, [.lst xs] => some (.tup xs)
  | .tuple, [.tup xs] => some (.tup xs)
  | .list, [.lst xs] => some (.lst xs)
  | .list, [.tup xs] => some (.lst xs)
  | .sum, [.lst xs] => (D.ints xs).map fun is => .int is.sum
  | .all, [.lst xs] => (D.bls xs).map fun bs => .bl (bs.all id)
  | .any, [.lst xs] => (D.bls xs).map fun bs => .bl (bs.any id)
  | .min1, [.lst (.int x :: xs)] => (D.ints xs).map fun is => .int (minI x is)
  | .max1, [.lst (.int x :: xs)] => (D.ints xs).map fun is => .int (maxI x is)
  | .min2, [.int a, .int b] => some (.int (if b < a then b else a))
  | .max2, [.int a, .int b] => some (.int (if b > a then b else a))
  | .divmod, [.int a, .int b] => if 0 < b ∧ b < 1073741824 then some (.tup [.int (a / b), .int (a % b)]) else none
  | .sorted, [.lst xs] => if D.fins dep xs && allAlk xs && srtOk xs && decide (xs.length ≤ line) then some (.lst (sortD xs)) else none
  | .sset, [.tup xs] => if D.fins dep xs && allAlk xs then some (.lst (sortD (nodupD xs))) else none
  | _, _ => none

/-! ### running -/
inductive PV where
  | d (x : D) | own (i : Nat)
def S.loc1 (s : S) (i : Nat) : Option LV := (s.loc[i]?).bind id
/-- what a value holds now -/
def PV.val (s : S) : PV → Option D
  | .d (.ref k) => (s.cel[k]?).map Cell.toD
  | .d x => some x
  | .own i => match s.loc1 i with
    | some (.own c) => some c.toD
    | some (.d (.ref _)) => none
    | some (.d x) => some x
    | none => none
/-- a place that may change -/
inductive Lo where
  | sl (i : Nat) | id (k : Nat)
def PV.lo : PV → Option Lo
  | .d (.ref k) => some (.id k)
  | .own i => some (.sl i)
  | _ => none
def S.get (s : S) : Lo → Option Cell
  | .sl i => match s.loc1 i with
    | some (.own c) => some c
    | _ => none
  | .id k => s.cel[k]?
def S.put (s : S) (c : Cell) : Lo → S
  | .sl i => { s with loc := s.loc.set i (some (.own c)) }
  | .id k => { s with cel := s.cel.set k c }
/-- what is to be stored: a slot's own thing is data from now on -/
def PV.store : PV → M D
  | .d x => M.pure x
  | .own i => fun s => match s.loc1 i with
    | some (.own c) => .ok c.toD { s with loc := s.loc.set i (some (.d c.toD)) }
    | some (.d x) => .ok x s
    | none => .stk
def varM (i : Nat) : M PV := fun s => match s.loc1 i with
  | some (.d x) => .ok (.d x) s
  | some (.own _) => .ok (.own i) s
  | none => .stk
def two (ma mb : M PV) (f : D → D → Option D) : M PV := M.bind ma fun a => M.bind mb fun b => fun s => match a.val s, b.val s with
  | some x, some y => (match f x y with
    | some z => .ok (.d z) s
    | none => .stk)
  | _, _ => .stk
def one (ma : M PV) (f : D → Option D) : M PV := M.bind ma fun a => fun s => match a.val s with
  | some x => (match f x with
    | some z => .ok (.d z) s
    | none => .stk)
  | none => .stk
def toB (pv : PV) : M Bool := match pv with
  | .d (.bl b) => M.pure b
  | _ => stk
def valsOf (s : S) : List PV → Option (List D)
  | [] => some []
  | a :: r => match a.val s with
    | some x => (valsOf s r).map (x :: ·)
    | none => none
def biM (b : Bi) (xs : List PV) : M PV := fun s => match valsOf s xs with
  | some ds => (match biF b ds with
    | some z => .ok (.d z) s
    | none => .stk)
  | none => .stk
/-- a dict -/
def dctM (pv : PV) : M Unit := fun s => match pv.val s with
  | some (.dct _) => .ok () s
  | _ => .stk
def isKey : D → Bool
  | .int _ | .str _ => true
  | _ => false
/-- data without a place that may change -/
def flatD : D → Bool
  | .non | .bl _ | .int _ | .str _ => true
  | _ => false
/-- a list -/
def lisM (pv : PV) : M Unit := fun s => match pv.val s with
  | some (.lst _) => .ok () s
  | _ => .stk
def bmM : Bm → PV → M Unit
  | .get, pv => dctM pv
  | .index, pv => lisM pv
  | _, _ => stk
def getM (pv : PV) (as : List D) : M D := fun s => match pv.val s, as with
  | some (.dct kvs), [k, z] => if isKey k then .ok ((keyGet k kvs).getD z) s else .stk
  | _, _ => .stk
/-- list.index(x), x in the list -/
def indM (pv : PV) (as : List D) : M D := fun s => match pv.val s, as with
  | some (.lst ts), [x] => if flatD x && ts.all flatD then (match ts.findIdx? (fun y => eqB y x) with
    | some n => .ok (.int n) s
    | none => .stk) else .stk
  | _, _ => .stk
def dgetM : Bm → PV → List D → M D
  | .get, pv, as => getM pv as
  | .index, pv, as => indM pv as
  | _, _, _ => stk
def partM (n : Bool) (l : PV) : M (Option Int) := match l with
  | .d y => M.of (partF n y)
  | _ => stk
def slM (x : PV) (a b : Option Int) : M PV := fun s => match x.val s with
  | some z => (match slF a b z with
    | some z => .ok (.d z) s
    | none => .stk)
  | none => .stk
def fldF (G : Tab) (f : Nat) : D → Option D
  | .obj c fs => if c < G.ncls ∧ G.isf c f = true then fs.lookup f else none
  | _ => none
def isaTs (G : Tab) (ts : List Ty) : Bool := ts.all fun t => match t with | .cls k => G.isa k | _ => true
def isiF (G : Tab) (ts : List Ty) (x : D) : Option D := if isaTs G ts = true then (match x with
  | .obj c fs => if c < G.ncls ∧ G.isa c = true then some (.bl (ts.any (isTy G.sub (.obj c fs)))) else none
  | .ref _ => none
  | x => some (.bl (ts.any (isTy G.sub x)))) else none
/-- the second comparison of a chain -/
def chain2 (c' : Cm) (y : PV) (mz : M PV) : M PV := M.bind mz fun z => fun s => match y.val s, z.val s with
  | some y, some z => (match cmpF c' y z with
    | some k => .ok (.d (.bl k)) s
    | none => .stk)
  | _, _ => .stk
def chainM (c c' : Cm) (x y : PV) (mz : M PV) : M PV := fun s => match x.val s, y.val s with
  | some x', some y' => (match cmpF c x' y' with
    | some true => chain2 c' y mz s
    | some false => .ok (.d (.bl false)) s
    | none => .stk)
  | _, _ => .stk
/-- a thing of the store that is given back is read as data -/
def snap (n : Nat) (c : List Cell) : D → D
  | .ref k => if k < n then .ref k else match c[k]? with
    | some x => x.toD
    | none => .ref k
  | x => x
def Exc.blw (n : Nat) (e : Exc) : Bool := D.blwf n e.fs
/-- how a call ends: plain: as it is; trunc: the store is cut to what it was; pure: in a store of its own -/
def endC (q : Ck) (c0 : List Cell) (r : FRes) (s : S) : Res D := match q, r with
  | .plain, .ok x c => .ok x { s with cel := c }
  | .plain, .exc e c => .exc e { s with cel := c }
  | .trunc, .ok x c => let y := snap c0.length c x
    if y.blw c0.length && (c.take c0.length).all (Cell.blw c0.length) then .ok y { s with cel := c.take c0.length } else .stk
  | .trunc, .exc e c => if e.blw c0.length && (c.take c0.length).all (Cell.blw c0.length) then .exc e { s with cel := c.take c0.length } else .stk
  | .pure, .ok x c => let y := snap 0 c x
    if y.blw 0 then .ok y s else .stk
  | .pure, .exc e _ => if e.blw 0 then .exc e s else .stk
  | _, .stk => .stk
def doCall (q : Ck) (r : List D → List Cell → FRes) (as : List D) : M D := fun s => match q with
  | .pure => if D.blws 0 as then endC .pure [] (r as []) s else .stk
  | q => endC q s.cel (r as s.cel) s
/-- a new object that never changes again -/
def mkObj (F : FT) (c f : Nat) (as : List D) : M D := fun s => if D.blws 0 as then (match F f (.ref 0 :: as) [.obj c []] with
    | .ok .non (.obj c' fs :: _) => if D.blwf 0 fs then .ok (.obj c' fs) s else .stk
    | .exc e _ => if e.blw 0 then .exc e s else .stk
    | _ => .stk) else .stk
/-- a new object of the store -/
def mkNew (G : Tab) (F : FT) (c : Nat) (as : List D) : M D := fun s => match G.ini c with
  | none => .stk
  | some f => match F f (.ref s.cel.length :: as) (s.cel ++ [.obj c []]) with
    | .ok .non c' => .ok (.ref s.cel.length) { s with cel := c' }
    | .exc e c' => .exc e { s with cel := c' }
    | _ => .stk
/-- the class of the object at hand -/
def clsOf (s : S) : D → Option Nat
  | .obj c _ => some c
  | .ref k => match s.cel[k]? with
    | some (.obj c _) => some c
    | _ => none
  | _ => none
def mmF : Mm → Cell → List D → Option (D × Cell)
  | .append, .lst ts, [x] => if ts.length < line then some (.non, .lst (ts ++ [x])) else none
  | .pop, .lst ts, [] => (ts.getLast?).map fun t => (t, .lst ts.dropLast)
  | .popAt, .lst ts, [.int i] => if sml i then (ixN ts.length i).bind fun j => (ts[j]?).map fun t => (t, .lst (ts.eraseIdx j)) else none
  | .reverse, .lst ts, [] => some (.non, .lst ts.reverse)
  | .extend, .lst ts, [.lst zs] => if ts.length + zs.length ≤ line then some (.non, .lst (ts ++ zs)) else none
  | .clear, .lst _, [] => some (.non, .lst [])
  | _, _, _ => none
/-- a list that may change -/
def lstM (pv : PV) : M Unit := fun s => match pv.lo with
  | some l => (match s.get l with
    | some (.lst _) => .ok () s
    | _ => .stk)
  | none => .stk
def doMm (m : Mm) (pv : PV) (as : List D) : M D := fun s => match pv.lo with
  | some l => (match s.get l with
    | some c => (match mmF m c as with
      | some (x, c') => .ok x (s.put c' l)
      | none => .stk)
    | none => .stk)
  | none => .stk
/-- list.extend(e): e's items, read now -/
def doExt (pv : PV) (a : PV) : M D := fun s => match pv.lo, a.val s with
  | some l, some x => (match s.get l, x.items with
    | some (.lst ts), some xs => if ts.length + xs.length ≤ line then .ok .non (s.put (.lst (ts ++ xs)) l) else .stk
    | _, _ => .stk)
  | _, _ => .stk
def sdefM (pv k : PV) : M PV := fun s => match pv.lo, k with
  | some l, .d k => (match s.get l with
    | some (.dct kvs) => if isKey k && decide (kvs.length < line) then (match keyGet k kvs with
        | some x => .ok (.d x) s
        | none => .ok (.d (.ref s.cel.length)) (({ s with cel := s.cel ++ [.lst []] } : S).put (.dct (kvs ++ [(k, .ref s.cel.length)])) l)) else .stk
    | _ => .stk)
  | _, _ => .stk
def wipe (vs : List Nat) (s : S) : S := { s with loc := vs.foldl (fun l i => l.set i none) s.loc }
mutual
def bindT : Tg → D → S → Option S
  | .v i, x, s => some { s with loc := s.loc.set i (some (.d x)) }
  | .tup ts, .tup xs, s => bindTs ts xs s
  | .tup ts, .lst xs, s => bindTs ts xs s
  | _, _, _ => none
def bindTs : Tgs → List D → S → Option S
  | .nil, [], s => some s
  | .cons t ts, x :: xs, s => (bindT t x s).bind (bindTs ts xs)
  | _, _, _ => none
end
/-- what is walked: data, or a list of the store as it stands -/
inductive Wk where
  | xs (l : List D) | rf (k : Nat) (n : Nat)
def walk (pv : PV) : M Wk := match pv with
  | .d (.ref k) => fun s => (match s.cel[k]? with
    | some (.lst xs) => .ok (.rf k xs.length) s
    | _ => .stk)
  | pv => M.bind pv.store fun x => M.of (x.items.map .xs)
/-- data that is walked -/
def walkD (pv : PV) : M (List D) := match pv with
  | .d (.ref _) => stk
  | pv => M.bind pv.store fun x => M.of x.items
/-- the ends of a range -/
def rngF : PV → PV → Option (Int × Int)
  | .d (.int a), .d (.int b) => if sml a && sml b then some (a, b) else none
  | _, _ => none
def enumFrom (n : Int) : List D → List D
  | [] => []
  | x :: xs => .tup [.int n, x] :: enumFrom (n + 1) xs
def zipL : List D → List D → List D
  | x :: xs, y :: ys => .tup [x, y] :: zipL xs ys
  | _, _ => []
/-- two lists or two tuples, side by side -/
def zipF : D → D → Option (List D)
  | .lst xs, .lst ys => some (zipL xs ys)
  | .tup xs, .tup ys => some (zipL xs ys)
  | _, _ => none
def walkS (pv : PV) : M D := match pv with
  | .d (.ref _) => stk
  | pv => pv.store

/-! ### flows -/
inductive Flow where
  | next | ret (t : D) | brk | cont
def loopF (bd : D → M Flow) (kl : List Nat) : List D → M Flow
  | [] => fun s => .ok .next (wipe kl s)
  | x :: xs => fun s => match bd x s with
    | .ok .next s' | .ok .cont s' => loopF bd kl xs (wipe kl s')
    | .ok .brk s' => .ok .next (wipe kl s')
    | .ok (.ret t) s' => .ok (.ret t) s'
    | .exc e s' => .exc e s'
    | .stk => .stk
/-- over the list k of the store, n long, from its place i on -/
def loopR (bd : D → M Flow) (kl : List Nat) (k n : Nat) : Nat → Nat → M Flow
  | i, 0 => fun s => match s.cel[k]? with
    | some (.lst xs) => if xs.length = n ∧ i = n then .ok .next (wipe kl s) else .stk
    | _ => .stk
  | i, m + 1 => fun s => match s.cel[k]? with
    | some (.lst xs) => if xs.length = n then (match xs[i]? with
      | some x => (match bd x s with
        | .ok .next s' | .ok .cont s' => loopR bd kl k n (i + 1) m (wipe kl s')
        | .ok .brk s' => .ok .next (wipe kl s')
        | .ok (.ret t) s' => .ok (.ret t) s'
        | .exc e s' => .exc e s'
        | .stk => .stk)
      | none => .stk) else .stk
    | _ => .stk
def loopW (c : M Bool) (bd : M Flow) (kl : List Nat) : Nat → M Flow
  | 0 => stk
  | n + 1 => fun s => match c s with
    | .ok true s1 => (match bd s1 with
      | .ok .next s' | .ok .cont s' => loopW c bd kl n (wipe kl s')
      | .ok .brk s' => .ok .next (wipe kl s')
      | .ok (.ret t) s' => .ok (.ret t) s'
      | .exc e s' => .exc e s'
      | .stk => .stk)
    | .ok false s1 => .ok .next s1
    | .exc e s' => .exc e s'
    | .stk => .stk
/-- a comprehension's turns: the items so far -/
def loopC (tg : Tg) (tt : M Bool) (el : M D) (own : List Nat) : List D → List D → M (List D)
  | acc, [] => M.pure acc
  | acc, x :: xs => fun s => match bindT tg x (wipe own s) with
    | none => .stk
    | some s1 => match tt s1 with
      | .ok true s2 => (match el s2 with
        | .ok t s3 => if acc.length < line then loopC tg tt el own (acc ++ [t]) xs s3 else .stk
        | _ => .stk)
      | .ok false s2 => loopC tg tt el own acc xs s2
      | _ => .stk
/-- a comprehension's end: its own names are as they were; a thing of one's own is forgotten -/
def LV.dat : Option LV → Option LV
  | some (.d x) => some (.d x)
  | _ => none
def unown (own : List Nat) (l0 : List (Option LV)) (s : S) : S := { s with loc := own.foldl (fun l i => l.set i (LV.dat ((l0[i]?).getD none))) s.loc }
def lcM (own : List Nat) (m : M (List D)) : M (List D) := fun s => match m s with
  | .ok ts s' => .ok ts (unown own s.loc s')
  | _ => .stk

/-! ### the evaluator -/
section
variable (G : Tab) (F : FT)
/-- data as a thing -/
def thaw : PV → Option Cell
  | .d (.lst xs) => some (.lst xs)
  | .d (.dct kvs) => some (.dct kvs)
  | _ => none
/-- a new thing of the store -/
def newM (x : PV) : M PV := fun s => match thaw x with
  | some c => .ok (.d (.ref s.cel.length)) { s with cel := s.cel ++ [c] }
  | none => .stk
/-- an object of the class c without a field m -/
def insM (c m : Nat) (x : D) : M Unit := fun s => match x with
  | .obj c' fs => if c' = c ∧ fs.lookup m = none then .ok () s else .stk
  | .ref k => (match s.cel[k]? with
    | some (.obj c' fs) => if c' = c ∧ fs.lookup m = none then .ok () s else .stk
    | _ => .stk)
  | _ => .stk
def rgF (t : Bool) (q : Int × Int) : Option D := if q.2 - q.1 ≤ line then some (if t then .tup ((rangeL q.1 q.2).map .int) else .lst ((rangeL q.1 q.2).map .int)) else none
def rg3F : PV → PV → PV → Option D
  | .d (.int a), .d (.int b), .d (.int c) => if 0 ≤ a ∧ a ≤ 1000 ∧ 0 ≤ b ∧ b ≤ 1000 ∧ 0 < c ∧ c ≤ 1000 then some (.tup ((rangeS a b c).map .int)) else none
  | _, _, _ => none
mutual
def evX : Ex → M PV
  | .v i => varM i
  | .con g => M.of ((G.con[g]?).map .d)
  | .int i => M.pure (.d (.int i))
  | .str x => M.pure (.d (.str x))
  | .bl b => M.pure (.d (.bl b))
  | .non => M.pure (.d .non)
  | .bin op a b => two (evX a) (evX b) (binF op)
  | .neg a => one (evX a) negF
  | .not a => M.bind (evX a) fun x => M.bind (toB x) fun b => M.pure (.d (.bl !b))
  | .and es => evAnd es
  | .or es => evOr es
  | .ife t a b => M.bind (evX t) fun x => M.bind (toB x) fun c => if c then evX a else evX b
  | .cmp c a b => two (evX a) (evX b) fun x y => (cmpF c x y).map .bl
  | .chain c c' a b e => M.bind (evX a) fun x => M.bind (evX b) fun y => chainM c c' x y (evX e)
  | .tup es => M.bind (evDs es) fun xs => if xs.length ≤ line then M.pure (.d (.tup xs)) else stk
  | .lst es => M.bind (evDs es) fun xs => if xs.length ≤ line then M.pure (.d (.lst xs)) else stk
  | .dct ks _ => if ks.isNil then M.pure (.d (.dct [])) else stk
  | .new e => M.bind (evX e) newM
  | .idx a i => two (evX a) (evX i) idxF
  | .sl a lo hi => M.bind (evX a) fun x => M.bind (evX lo) fun l => M.bind (partM lo.isNon l) fun i => M.bind (evX hi) fun h => M.bind (partM hi.isNon h) fun j => slM x i j
  | .rev a => one (evX a) revF
  | .attr a f => one (evX a) (fldF G f)
  | .call q f es => M.bind (evDs es) fun as => M.bind (doCall q (F f) as) fun x => M.pure (.d x)
  | .mk c es => M.bind (M.of (G.ini c)) fun f => M.bind (evDs es) fun as => M.bind (mkObj F c f as) fun x => M.pure (.d x)
  | .mkN c es => M.bind (evDs es) fun as => M.bind (mkNew G F c as) fun x => M.pure (.d x)
  | .meth q c o m es => M.bind (M.of (G.meth c m)) fun f => M.bind (evX o) fun x => M.bind x.store fun x => M.bind (insM c m x) fun _ => M.bind (evDs es) fun as => M.bind (doCall q (F f) (x :: as)) fun x => M.pure (.d x)
  | .bi b es => M.bind (evPs es) fun xs => biM b xs
  | .bm m o es => M.bind (evX o) fun x => M.bind (bmM m x) fun _ => M.bind (evDs es) fun as => M.bind (dgetM m x as) fun y => M.pure (.d y)
  | .mm m o es => M.bind (evX o) fun x => M.bind (lstM x) fun _ => M.bind (evDs es) fun as => M.bind (doMm m x as) fun y => M.pure (.d y)
  | .ext o e => M.bind (evX o) fun x => M.bind (lstM x) fun _ => M.bind (evX e) fun a => M.bind (doExt x a) fun y => M.pure (.d y)
  | .bad => stk
  | .sdef o k => M.bind (evX o) fun x => M.bind (dctM x) fun _ => M.bind (evX k) fun k => sdefM x k
  | .rg t a b => M.bind (evX a) fun x => M.bind (evX b) fun y => M.of (((rngF x y).bind (rgF t)).map .d)
  | .rg3 a b c => M.bind (evX a) fun x => M.bind (evX b) fun y => M.bind (evX c) fun z => M.of ((rg3F x y z).map .d)
  | .isi e ts => one (evX e) (isiF G ts)
  | .lc elt tg it ifs own => M.bind (evIt it) fun xs => M.bind (lcM own (loopC tg (evQs ifs) (M.bind (evX elt) PV.store) own [] xs)) fun ts => M.pure (.d (.lst ts))
def evDs : Exs → M (List D)
  | .nil => M.pure []
  | .cons e es => M.bind (evX e) fun x => M.bind x.store fun d => M.bind (evDs es) fun r => M.pure (d :: r)
def evPs : Exs → M (List PV)
  | .nil => M.pure []
  | .cons e es => M.bind (evX e) fun x => M.bind (evPs es) fun r => M.pure (x :: r)
def evAnd : Exs → M PV
  | .nil => stk
  | .cons e es => if es.isNil then evX e else M.bind (evX e) fun x => M.bind (toB x) fun c => if c then evAnd es else M.pure (.d (.bl false))
def evOr : Exs → M PV
  | .nil => stk
  | .cons e es => if es.isNil then evX e else M.bind (evX e) fun x => M.bind (toB x) fun c => if c then M.pure (.d (.bl true)) else evOr es
/-- a clause's tests -/
def evQs : Exs → M Bool
  | .nil => M.pure true
  | .cons e es => M.bind (evX e) fun x => M.bind (toB x) fun b => if b then evQs es else M.pure false
/-- data that is walked -/
def evIt : It → M (List D)
  | .val e => M.bind (evX e) walkD
  | .rng1 e => M.bind (evX e) fun x => M.of ((rngF (.d (.int 0)) x).map fun q => (rangeL q.1 q.2).map .int)
  | .rng2 a b => M.bind (evX a) fun x => M.bind (evX b) fun y => M.of ((rngF x y).map fun q => (rangeL q.1 q.2).map .int)
  | .enum e n => M.bind (evX e) fun x => M.bind (walkD x) fun xs => M.pure (enumFrom n xs)
  | .zip a b => M.bind (evX a) fun x => M.bind (evX b) fun y => M.bind (walkS x) fun xs => M.bind (walkS y) fun ys => M.of (zipF xs ys)
  | .rev e => M.bind (evX e) fun x => M.bind (walkD x) fun xs => M.pure xs.reverse
  | .revr e => M.bind (evX e) fun x => M.of ((rngF (.d (.int 0)) x).map fun q => (rangeL q.1 q.2).reverse.map .int)
  | .items _ => stk
  | .vals _ => stk
end
/-- a new thing for a slot -/
def asgOM (i : Nat) (x : PV) : M Flow := fun s => match thaw x with
  | some c => if i < s.loc.length then .ok .next { s with loc := s.loc.set i (some (.own c)) } else .stk
  | none => .stk
def asgFM (G : Tab) (x : PV) (f : Nat) (t : D) : M Flow := fun s => match x.lo with
  | some l => (match s.get l with
    | some (.obj c fs) => if (c < G.ncls ∧ G.isf c f = true) ∧ fs.length < 1000 then .ok .next (s.put (.obj c (fldPut f t fs)) l) else .stk
    | _ => .stk)
  | none => .stk
def asgIM (x y : PV) (t : D) : M Flow := fun s => match x.lo, y.val s with
  | some l, some y => (match s.get l, y with
    | some (.lst ts), .int j => (match ixN ts.length j with
      | some n => .ok .next (s.put (.lst (ts.set n t)) l)
      | none => .stk)
    | _, _ => .stk)
  | _, _ => .stk
def augV (i : Nat) : M D := fun s => match s.loc1 i with
  | some (.d (.ref _)) => .stk
  | some (.d x) => .ok x s
  | _ => .stk
def augI : Op → D → PV → Option D
  | .add, .int a, .d (.int b) => some (.int (a + b))
  | .sub, .int a, .d (.int b) => some (.int (a - b))
  | _, _, _ => none
def augB (i : Nat) (op : Op) (x : D) (y : PV) : M Flow := fun s => match augI op x y with
  | some z => .ok .next { s with loc := s.loc.set i (some (.d z)) }
  | none => .stk
def augFV (G : Tab) (x : PV) (f : Nat) : M D := fun s => match x.val s with
  | some ox => (match fldF G f ox with
    | some (.int a) => .ok (.int a) s
    | _ => .stk)
  | none => .stk
def augIV (x n : PV) : M D := fun s => match x.val s, n with
  | some (.lst ts), .d (.int i) => (match pickI ts i with
    | some (.int a) => .ok (.int a) s
    | _ => .stk)
  | _, _ => .stk
def augOp (op : Op) (a : D) (y : PV) : M D := match y with
  | .d y => M.of (binF op a y)
  | _ => stk
def bindM (t : Tg) (x : D) : M Flow := fun s => match bindT t x s with
  | some s' => .ok .next s'
  | none => .stk
def turnM (tg : Tg) (bd : M Flow) (x : D) : M Flow := fun s => match bindT tg x s with
  | some s1 => bd s1
  | none => .stk
def loopA (bd : D → M Flow) (kl : List Nat) : Wk → M Flow
  | .xs l => loopF bd kl l
  | .rf k n => loopR bd kl k n 0 n
def raisM (G : Tab) (c : Nat) (ds : List D) : M Flow := fun s => match G.exf c with
  | some fs => if fs.length = ds.length then .exc ⟨c, fs.zip ds⟩ s else .stk
  | none => .stk
/-- a suite that raises nothing -/
def noX (m : M Flow) : M Flow := fun s => match m s with
  | .exc _ _ => .stk
  | r => r
def isLoop : It → Option Ex
  | .val e => some e
  | _ => none
mutual
def evS : St → M Flow
  | .asg t e => M.bind (evX G F e) fun x => M.bind x.store fun y => bindM t y
  | .asgO i e => M.bind (evX G F e) fun x => asgOM i x
  | .asgF o f e => M.bind (evX G F e) fun t => M.bind t.store fun t => M.bind (evX G F o) fun x => asgFM G x f t
  | .asgI o i e => M.bind (evX G F e) fun t => M.bind t.store fun t => M.bind (evX G F o) fun x => M.bind (evX G F i) fun y => asgIM x y t
  | .aug i op e => M.bind (augV i) fun x => M.bind (evX G F e) fun y => augB i op x y
  | .augF o f op e => M.bind (evX G F o) fun x => M.bind (augFV G x f) fun a => M.bind (evX G F e) fun y => M.bind (augOp op a y) fun z => asgFM G x f z
  | .augI o i op e => M.bind (evX G F o) fun x => M.bind (evX G F i) fun n => M.bind (augIV x n) fun a => M.bind (evX G F e) fun y => M.bind (augOp op a y) fun z => asgIM x n z
  | .ex e => M.bind (evX G F e) fun _ => M.pure .next
  | .ife c a b => M.bind (evX G F c) fun x => M.bind (toB x) fun k => if k then evSs a else evSs b
  | .whl n c a kl => loopW (M.bind (evX G F c) toB) (evSs a) kl n
  | .for tg it a kl => match isLoop it with
    | some e => M.bind (evX G F e) fun x => M.bind (walk x) fun wk => loopA (turnM tg (evSs a)) kl wk
    | none => M.bind (evIt G F it) fun l => loopF (turnM tg (evSs a)) kl l
  | .ret e => M.bind (evX G F e) fun x => M.bind x.store fun y => M.pure (.ret y)
  | .retN => M.pure (.ret .non)
  | .brk => M.pure .brk
  | .cnt => M.pure .cont
  | .pass => M.pure .next
  | .rais c es => M.bind (evDs G F es) fun ds => raisM G c ds
  | .tryx a hs => fun s => match evSs a s with
    | .exc e s' => evHs hs e s'
    | r => r
  | .bad => stk
def evSs : Sts → M Flow
  | .nil => M.pure .next
  | .cons s ss => fun st => match evS s st with
    | .ok .next st' => evSs ss st'
    | r => r
def evHs : Hds → Exc → M Flow
  | .nil, e => fun s => .exc e s
  | .cons c bd a hs, e => if (G.exf e.c).isSome then (if G.sub e.c c then (match bd with
      | none => noX (evSs a)
      | some _ => stk) else evHs hs e) else stk
end
end
/-! ### defs -/
structure Def where
  np : Nat
  n : Nat
  body : Sts
def finish : Res Flow → FRes
  | .ok .next s => .ok .non s.cel
  | .ok (.ret t) s => .ok t s.cel
  | .exc e s => .exc e s.cel
  | _ => .stk
def runDef (G : Tab) (F : FT) (d : Def) (ts : List D) (c : List Cell) : FRes :=
  if ts.length = d.np then finish (evSs G F d.body { loc := ts.map (fun x => some (.d x)) ++ List.replicate (d.n - d.np) none, cel := c }) else .stk
/-- the program, so many calls deep -/
def run (G : Tab) (P : List Def) : Nat → FT
  | 0 => fun _ _ _ => .stk
  | k + 1 => fun f ts c => match P[f]? with
    | some d => runDef G (run G P k) d ts c
    | none => .stk
end Ev

set_option autoImplicit false
set_option linter.all false
/-! How the core's state lies in the heap. -/
namespace Ev
open PySem L2
/-- where the classes stand, how the fields are called -/
structure Nms where
  K : PySem.W.Frag
  cl : Nat → Addr
  nm : Nat → Str
variable {N : Nms}
/-- what a lock leaves out of account -/
def core : HO → HO
  | .frz _ (.dK kvs) => .dK kvs
  | .frz _ (.dT kvs) => .dT kvs
  | o => o
def Sm (B B' : Hp) : Prop := ∀ a o, B a = some o → ∃ o', B' a = some o' ∧ core o' = core o
theorem Sm.refl (B : Hp) : Sm B B := fun _ _ h => ⟨_, h, rfl⟩
theorem Sm.trans {A B C : Hp} (h : Sm A B) (k : Sm B C) : Sm A C := fun a o e => by
  obtain ⟨o1, e1, c1⟩ := h a o e
  obtain ⟨o2, e2, c2⟩ := k a o1 e1
  exact ⟨o2, e2, c2.trans c1⟩
theorem Sm.of {A B : Hp} (h : Same A B) : Sm A B := fun a o e => ⟨o, h a o e, rfl⟩
theorem core_lst {o : HO} {xs : List V} (h : core o = .lst xs) : o = .lst xs := by
  cases o <;> simp_all [core]
  rename_i u; cases u <;> simp_all [core]
theorem core_tup {o : HO} {xs : List V} (h : core o = .tup xs) : o = .tup xs := by
  cases o <;> simp_all [core]
  rename_i u; cases u <;> simp_all [core]
theorem core_ins {o : HO} {C dx : Addr} {fs : List (Str × V)} (h : core o = .ins C dx fs) : o = .ins C dx fs := by
  cases o <;> simp_all [core]
  rename_i u; cases u <;> simp_all [core]
theorem core_frzl {o : HO} {ob : Obj} {xs : List V} (h : core o = .frz ob (.lst xs)) : o = .frz ob (.lst xs) := by
  cases o <;> simp_all [core]
  rename_i u; cases u <;> simp_all [core]
theorem core_frzt {o : HO} {ob : Obj} {xs : List V} (h : core o = .frz ob (.tup xs)) : o = .frz ob (.tup xs) := by
  cases o <;> simp_all [core]
  rename_i u; cases u <;> simp_all [core]
theorem core_dK {o : HO} {kvs : List (Key × V)} (h : core o = .dK kvs) : o = .dK kvs ∨ ∃ ob, o = .frz ob (.dK kvs) := by
  cases o <;> simp_all [core]
  rename_i u; cases u <;> simp_all [core]
theorem core_dT {o : HO} {kvs : List (List Key × V)} (h : core o = .dT kvs) : o = .dT kvs ∨ ∃ ob, o = .frz ob (.dT kvs) := by
  cases o <;> simp_all [core]
  rename_i u; cases u <;> simp_all [core]
theorem SqL.sm {K : PySem.W.Frag} {B B' : Hp} {a : Addr} {xs : List V} (k : Sm B B') (h : SqL K B a xs) : SqL K B' a xs := by
  rcases h with (h | ⟨o, h⟩) | h
  · obtain ⟨o', e, c⟩ := k _ _ h
    exact .inl (.inl (by rw [e, core_lst c]))
  · obtain ⟨o', e, c⟩ := k _ _ h
    exact .inl (.inr ⟨o, by rw [e, core_frzl c]⟩)
  · exact .inr h
theorem SqT.sm {K : PySem.W.Frag} {B B' : Hp} {a : Addr} {xs : List V} (k : Sm B B') (h : SqT K B a xs) : SqT K B' a xs := by
  rcases h with (h | ⟨o, h⟩) | h
  · obtain ⟨o', e, c⟩ := k _ _ h
    exact .inl (.inl (by rw [e, core_tup c]))
  · obtain ⟨o', e, c⟩ := k _ _ h
    exact .inl (.inr ⟨o, by rw [e, core_frzt c]⟩)
  · exact .inr h
theorem Rd.smK {B B' : Hp} {a : Addr} {kvs : List (Key × V)} (k : Sm B B') (h : Rd B a (.dK kvs)) : Rd B' a (.dK kvs) := by
  rcases h with h | ⟨o, h⟩
  · obtain ⟨o', e, c⟩ := k _ _ h
    rcases core_dK c with c | ⟨ob, c⟩
    · exact .inl (by rw [e, c])
    · exact .inr ⟨ob, by rw [e, c]⟩
  · obtain ⟨o', e, c⟩ := k _ _ h
    rcases core_dK c with c | ⟨ob, c⟩
    · exact .inl (by rw [e, c])
    · exact .inr ⟨ob, by rw [e, c]⟩
theorem Rd.smT {B B' : Hp} {a : Addr} {kvs : List (List Key × V)} (k : Sm B B') (h : Rd B a (.dT kvs)) : Rd B' a (.dT kvs) := by
  rcases h with h | ⟨o, h⟩
  · obtain ⟨o', e, c⟩ := k _ _ h
    rcases core_dT c with c | ⟨ob, c⟩
    · exact .inl (by rw [e, c])
    · exact .inr ⟨ob, by rw [e, c]⟩
  · obtain ⟨o', e, c⟩ := k _ _ h
    rcases core_dT c with c | ⟨ob, c⟩
    · exact .inl (by rw [e, c])
    · exact .inr ⟨ob, by rw [e, c]⟩
/-- a key as data -/
def kD : Key → D
  | .inl i => .int i
  | .inr x => .str x
/-! ### data in the heap: n: how many things of the store there are; ad: where they stand; B: what never changes -/
mutual
inductive RepD (N : Nms) (n : Nat) (ad : Nat → Addr) (B : Hp) : V → D → Prop
  | non : RepD N n ad B .non .non
  | bl (b : Bool) : RepD N n ad B (.bl b) (.bl b)
  | int (i : Int) : RepD N n ad B (.int i) (.int i)
  | str (x : Str) : RepD N n ad B (.str x) (.str x)
  | tup {a : Addr} {xs : List V} {ds : List D} : SqT N.K B a xs → RepDs N n ad B xs ds → RepD N n ad B (.ref a) (.tup ds)
  | lst {a : Addr} {xs : List V} {ds : List D} : SqL N.K B a xs → RepDs N n ad B xs ds → RepD N n ad B (.ref a) (.lst ds)
  | obj {a dx : Addr} {c : Nat} {fv : List (Str × V)} {fs : List (Nat × D)} : B a = some (.ins (N.cl c) dx fv) → RepFs N n ad B fv fs → RepD N n ad B (.ref a) (.obj c fs)
  | dK {a : Addr} {kvs : List (Key × V)} {ds : List (D × D)} : Rd B a (.dK kvs) → RepKs N n ad B kvs ds → RepD N n ad B (.ref a) (.dct ds)
  | ref {k : Nat} : k < n → RepD N n ad B (.ref (ad k)) (.ref k)
inductive RepDs (N : Nms) (n : Nat) (ad : Nat → Addr) (B : Hp) : List V → List D → Prop
  | nil : RepDs N n ad B [] []
  | cons {v : V} {vs : List V} {d : D} {ds : List D} : RepD N n ad B v d → RepDs N n ad B vs ds → RepDs N n ad B (v :: vs) (d :: ds)
inductive RepFs (N : Nms) (n : Nat) (ad : Nat → Addr) (B : Hp) : List (Str × V) → List (Nat × D) → Prop
  | nil : RepFs N n ad B [] []
  | cons {v : V} {fv : List (Str × V)} {f : Nat} {d : D} {fs : List (Nat × D)} : RepD N n ad B v d → RepFs N n ad B fv fs → RepFs N n ad B ((N.nm f, v) :: fv) ((f, d) :: fs)
inductive RepKs (N : Nms) (n : Nat) (ad : Nat → Addr) (B : Hp) : List (Key × V) → List (D × D) → Prop
  | nil : RepKs N n ad B [] []
  | cons {k : Key} {v : V} {kvs : List (Key × V)} {d : D} {ds : List (D × D)} : RepD N n ad B v d → RepKs N n ad B kvs ds → RepKs N n ad B ((k, v) :: kvs) ((kD k, d) :: ds)
end
section
variable {n n' : Nat} {ad ad' : Nat → Addr} {B B' : Hp}
mutual
theorem RepD.mono (hn : n ≤ n') (ha : ∀ k, k < n → ad' k = ad k) (k : Sm B B') : ∀ (d : D) {v : V}, RepD N n ad B v d → RepD N n' ad' B' v d
  | .non, _, h => by cases h; exact .non
  | .bl b, _, h => by cases h; exact .bl b
  | .int b, _, h => by cases h; exact .int b
  | .str b, _, h => by cases h; exact .str b
  | .tup ds, _, h => by cases h with | tup s r => exact .tup (SqT.sm k s) (RepDs.mono hn ha k ds r)
  | .lst ds, _, h => by cases h with | lst s r => exact .lst (SqL.sm k s) (RepDs.mono hn ha k ds r)
  | .obj c fs, _, h => by
    cases h with
    | obj s r =>
      obtain ⟨o', e, c⟩ := k _ _ s
      exact .obj (by rw [e, core_ins c]) (RepFs.mono hn ha k fs r)
  | .dct ds, _, h => by cases h with | dK s r => exact .dK (Rd.smK k s) (RepKs.mono hn ha k ds r)
  | .ref j, _, h => by cases h with | ref hj => rw [← ha j hj]; exact .ref (Nat.lt_of_lt_of_le hj hn)
theorem RepDs.mono (hn : n ≤ n') (ha : ∀ k, k < n → ad' k = ad k) (k : Sm B B') : ∀ (ds : List D) {vs : List V}, RepDs N n ad B vs ds → RepDs N n' ad' B' vs ds
  | [], _, h => by cases h; exact .nil
  | d :: ds, _, h => by cases h with | cons a b => exact .cons (RepD.mono hn ha k d a) (RepDs.mono hn ha k ds b)
theorem RepFs.mono (hn : n ≤ n') (ha : ∀ k, k < n → ad' k = ad k) (k : Sm B B') : ∀ (fs : List (Nat × D)) {fv : List (Str × V)}, RepFs N n ad B fv fs → RepFs N n' ad' B' fv fs
  | [], _, h => by cases h; exact .nil
  | (_, d) :: fs, _, h => by cases h with | cons a b => exact .cons (RepD.mono hn ha k d a) (RepFs.mono hn ha k fs b)
theorem RepKs.mono (hn : n ≤ n') (ha : ∀ k, k < n → ad' k = ad k) (k : Sm B B') : ∀ (fs : List (D × D)) {fv : List (Key × V)}, RepKs N n ad B fv fs → RepKs N n' ad' B' fv fs
  | [], _, h => by cases h; exact .nil
  | (_, d) :: fs, _, h => by cases h with | cons a b => exact .cons (RepD.mono hn ha k d a) (RepKs.mono hn ha k fs b)
end
mutual
/-- where all refs are below m, no more of the store is asked -/
theorem RepD.blw {m : Nat} : ∀ (d : D) {v : V}, d.blw m = true → RepD N n ad B v d → RepD N m ad B v d
  | .non, _, _, h => by cases h; exact .non
  | .bl b, _, _, h => by cases h; exact .bl b
  | .int b, _, _, h => by cases h; exact .int b
  | .str b, _, _, h => by cases h; exact .str b
  | .tup ds, _, w, h => by cases h with | tup s r => exact .tup s (RepDs.blw ds (by simpa [D.blw] using w) r)
  | .lst ds, _, w, h => by cases h with | lst s r => exact .lst s (RepDs.blw ds (by simpa [D.blw] using w) r)
  | .obj c fs, _, w, h => by cases h with | obj s r => exact .obj s (RepFs.blw fs (by simpa [D.blw] using w) r)
  | .dct ds, _, w, h => by cases h with | dK s r => exact .dK s (RepKs.blw ds (by simpa [D.blw] using w) r)
  | .ref j, _, w, h => by cases h with | ref hj => exact .ref (by simpa [D.blw] using w)
theorem RepDs.blw {m : Nat} : ∀ (ds : List D) {vs : List V}, D.blws m ds = true → RepDs N n ad B vs ds → RepDs N m ad B vs ds
  | [], _, _, h => by cases h; exact .nil
  | d :: ds, _, w, h => by
    simp only [D.blws, Bool.and_eq_true] at w
    cases h with | cons a b => exact .cons (RepD.blw d w.1 a) (RepDs.blw ds w.2 b)
theorem RepFs.blw {m : Nat} : ∀ (fs : List (Nat × D)) {fv : List (Str × V)}, D.blwf m fs = true → RepFs N n ad B fv fs → RepFs N m ad B fv fs
  | [], _, _, h => by cases h; exact .nil
  | (_, d) :: fs, _, w, h => by
    simp only [D.blwf, Bool.and_eq_true] at w
    cases h with | cons a b => exact .cons (RepD.blw d w.1 a) (RepFs.blw fs w.2 b)
theorem RepKs.blw {m : Nat} : ∀ (fs : List (D × D)) {fv : List (Key × V)}, D.blwk m fs = true → RepKs N n ad B fv fs → RepKs N m ad B fv fs
  | [], _, _, h => by cases h; exact .nil
  | (_, d) :: fs, _, w, h => by
    simp only [D.blwk, Bool.and_eq_true] at w
    cases h with | cons a b => exact .cons (RepD.blw d w.1.2 a) (RepKs.blw fs w.2 b)
end
mutual
/-- where there is no ref, ad does not matter -/
theorem RepD.pure {m : Nat} {ad2 : Nat → Addr} : ∀ (d : D) {v : V}, d.blw 0 = true → RepD N n ad B v d → RepD N m ad2 B v d
  | .non, _, _, h => by cases h; exact .non
  | .bl b, _, _, h => by cases h; exact .bl b
  | .int b, _, _, h => by cases h; exact .int b
  | .str b, _, _, h => by cases h; exact .str b
  | .tup ds, _, w, h => by cases h with | tup s r => exact .tup s (RepDs.pure ds (by simpa [D.blw] using w) r)
  | .lst ds, _, w, h => by cases h with | lst s r => exact .lst s (RepDs.pure ds (by simpa [D.blw] using w) r)
  | .obj c fs, _, w, h => by cases h with | obj s r => exact .obj s (RepFs.pure fs (by simpa [D.blw] using w) r)
  | .dct ds, _, w, h => by cases h with | dK s r => exact .dK s (RepKs.pure ds (by simpa [D.blw] using w) r)
  | .ref j, _, w, h => by simp [D.blw] at w
theorem RepDs.pure {m : Nat} {ad2 : Nat → Addr} : ∀ (ds : List D) {vs : List V}, D.blws 0 ds = true → RepDs N n ad B vs ds → RepDs N m ad2 B vs ds
  | [], _, _, h => by cases h; exact .nil
  | d :: ds, _, w, h => by
    simp only [D.blws, Bool.and_eq_true] at w
    cases h with | cons a b => exact .cons (RepD.pure d w.1 a) (RepDs.pure ds w.2 b)
theorem RepFs.pure {m : Nat} {ad2 : Nat → Addr} : ∀ (fs : List (Nat × D)) {fv : List (Str × V)}, D.blwf 0 fs = true → RepFs N n ad B fv fs → RepFs N m ad2 B fv fs
  | [], _, _, h => by cases h; exact .nil
  | (_, d) :: fs, _, w, h => by
    simp only [D.blwf, Bool.and_eq_true] at w
    cases h with | cons a b => exact .cons (RepD.pure d w.1 a) (RepFs.pure fs w.2 b)
theorem RepKs.pure {m : Nat} {ad2 : Nat → Addr} : ∀ (fs : List (D × D)) {fv : List (Key × V)}, D.blwk 0 fs = true → RepKs N n ad B fv fs → RepKs N m ad2 B fv fs
  | [], _, _, h => by cases h; exact .nil
  | (_, d) :: fs, _, w, h => by
    simp only [D.blwk, Bool.and_eq_true] at w
    cases h with | cons a b => exact .cons (RepD.pure d w.1.2 a) (RepKs.pure fs w.2 b)
end
theorem RepDs.length : ∀ {vs : List V} {ds : List D}, RepDs N n ad B vs ds → vs.length = ds.length
  | _, _, .nil => rfl
  | _, _, .cons _ b => by simp [RepDs.length b]
theorem RepDs.get : ∀ {vs : List V} {ds : List D} {i : Nat} {d : D}, RepDs N n ad B vs ds → ds[i]? = some d → ∃ v, vs[i]? = some v ∧ RepD N n ad B v d
  | _, _, _, _, .nil, e => by simp at e
  | _, _, 0, d, .cons a _, e => by simp at e; subst e; exact ⟨_, rfl, a⟩
  | _, _, i + 1, d, .cons _ b, e => by
    obtain ⟨v, h1, h2⟩ := RepDs.get (i := i) b (by simpa using e)
    exact ⟨v, by simpa using h1, h2⟩
theorem RepDs.getV : ∀ {vs : List V} {ds : List D} {i : Nat} {v : V}, RepDs N n ad B vs ds → vs[i]? = some v → ∃ d, ds[i]? = some d ∧ RepD N n ad B v d
  | _, _, _, _, .nil, e => by simp at e
  | _, _, 0, d, .cons a _, e => by simp at e; subst e; exact ⟨_, rfl, a⟩
  | _, _, i + 1, d, .cons _ b, e => by
    obtain ⟨v, h1, h2⟩ := RepDs.getV (i := i) b (by simpa using e)
    exact ⟨v, by simpa using h1, h2⟩
theorem RepDs.set {v : V} {d : D} (h : RepD N n ad B v d) : ∀ {vs : List V} {ds : List D} (i : Nat), RepDs N n ad B vs ds → RepDs N n ad B (vs.set i v) (ds.set i d)
  | _, _, _, .nil => .nil
  | _, _, 0, .cons _ b => .cons h b
  | _, _, i + 1, .cons a b => .cons a (RepDs.set h i b)
theorem RepDs.append : ∀ {vs ws : List V} {ds es : List D}, RepDs N n ad B vs ds → RepDs N n ad B ws es → RepDs N n ad B (vs ++ ws) (ds ++ es)
  | _, _, _, _, .nil, s => s
  | _, _, _, _, .cons a b, s => .cons a (RepDs.append b s)
theorem RepDs.take : ∀ {vs : List V} {ds : List D} (m : Nat), RepDs N n ad B vs ds → RepDs N n ad B (vs.take m) (ds.take m)
  | _, _, 0, _ => .nil
  | _, _, _ + 1, .nil => .nil
  | _, _, m + 1, .cons a b => .cons a (RepDs.take m b)
theorem RepDs.drop : ∀ {vs : List V} {ds : List D} (m : Nat), RepDs N n ad B vs ds → RepDs N n ad B (vs.drop m) (ds.drop m)
  | _, _, 0, h => h
  | _, _, _ + 1, .nil => .nil
  | _, _, m + 1, .cons _ b => RepDs.drop m b
theorem RepDs.rev : ∀ {vs : List V} {ds : List D}, RepDs N n ad B vs ds → RepDs N n ad B vs.reverse ds.reverse
  | _, _, .nil => .nil
  | _, _, .cons a b => by
    rw [List.reverse_cons, List.reverse_cons]
    exact (RepDs.rev b).append (.cons a .nil)
theorem RepDs.ints : ∀ (is : List Int), RepDs N n ad B (is.map .int) (is.map .int)
  | [] => .nil
  | i :: is => .cons (.int i) (RepDs.ints is)
theorem RepDs.rep {vs : List V} {ds : List D} (r : RepDs N n ad B vs ds) : ∀ m : Nat, RepDs N n ad B (List.replicate m vs).flatten (List.replicate m ds).flatten
  | 0 => by simpa using RepDs.nil
  | m + 1 => by
    rw [List.replicate_succ, List.replicate_succ, List.flatten_cons, List.flatten_cons]
    exact r.append (RepDs.rep r m)
theorem RepFs.lookup (inj : ∀ f g, N.nm f = N.nm g → f = g) : ∀ {fv : List (Str × V)} {fs : List (Nat × D)} {f : Nat} {d : D}, RepFs N n ad B fv fs → fs.lookup f = some d → ∃ v, fv.lookup (N.nm f) = some v ∧ RepD N n ad B v d
  | _, _, _, _, .nil, e => by simp at e
  | _, _, f, d, .cons (f := g) a b, e => by
    rw [List.lookup_cons] at e ⊢
    by_cases h : f = g
    · subst h; simp at e ⊢; subst e; exact a
    · have h1 : (f == g) = false := by simpa using h
      have h2 : (N.nm f == N.nm g) = false := by simpa using fun q => h (inj _ _ q)
      rw [h1] at e
      rw [h2]
      exact RepFs.lookup inj b e
end

/-! ### masks -/
open Classical in
noncomputable def msk (H : Hp) (M : Addr → Prop) : Hp := fun a => if M a then none else H a
section
variable {H H' : Hp} {M M' : Addr → Prop}
theorem msk_le : Same (msk H M) H := fun a o h => by
  unfold msk at h
  split at h
  · cases h
  · exact h
theorem msk_of {a : Addr} (h : ¬ M a) : msk H M a = H a := if_neg h
theorem msk_get {a : Addr} {o : HO} (h : msk H M a = some o) : H a = some o ∧ ¬ M a := by
  unfold msk at h
  split at h
  · cases h
  · exact ⟨h, ‹_›⟩
theorem msk_sm (k : ∀ a o, H a = some o → ¬ M a → (∃ o', H' a = some o' ∧ core o' = core o) ∧ ¬ M' a) : Sm (msk H M) (msk H' M') := fun a o h => by
  obtain ⟨h1, h2⟩ := msk_get h
  obtain ⟨⟨o', e, c⟩, h3⟩ := k a o h1 h2
  exact ⟨o', by rw [msk_of h3]; exact e, c⟩
theorem msk_same (k : Same H H') : Same (msk H M) (msk H' M) := fun a o h => by
  obtain ⟨h1, h2⟩ := msk_get h
  rw [msk_of h2]
  exact k a o h1
end

/-! ### the state -/
def adr (ad : Nat → Addr) (σ : L2.St) : Lo → Option Addr
  | .sl i => match σ[i]? with
    | some (some (.ref a)) => some a
    | _ => none
  | .id k => some (ad k)
/-- what may change, and what is held aside -/
def Mk (ad : Nat → Addr) (σ : L2.St) (s : S) (F : Addr → Prop) : Addr → Prop := fun a => F a ∨ ∃ l c, s.get l = some c ∧ adr ad σ l = some a
def CelOk (N : Nms) (n : Nat) (ad : Nat → Addr) (B H : Hp) (a : Addr) : Cell → Prop
  | .lst ds => ∃ xs, H a = some (.lst xs) ∧ RepDs N n ad B xs ds
  | .obj c fs => ∃ dx fv, H a = some (.ins (N.cl c) dx fv) ∧ RepFs N n ad B fv fs
  | .dct ds => ∃ kvs, H a = some (.dK kvs) ∧ RepKs N n ad B kvs ds
structure Rel (N : Nms) (ad : Nat → Addr) (σ : L2.St) (H : Hp) (s : S) (F : Addr → Prop) : Prop where
  len : σ.length = s.loc.length
  dat : ∀ (i : Nat) (x : D), s.loc[i]? = some (some (LV.d x)) → ∃ v, σ[i]? = some (some v) ∧ RepD N s.cel.length ad (msk H (Mk ad σ s F)) v x
  own : ∀ l c, s.get l = some c → ∃ a, adr ad σ l = some a ∧ CelOk N s.cel.length ad (msk H (Mk ad σ s F)) H a c
  inj : ∀ l l' c c' a, s.get l = some c → s.get l' = some c' → adr ad σ l = some a → adr ad σ l' = some a → l = l'
  frn : ∀ a, F a → (∃ o, H a = some o) ∧ ∀ l c, s.get l = some c → adr ad σ l ≠ some a
structure Post (ad : Nat → Addr) (σ : L2.St) (H : Hp) (s : S) (ad' : Nat → Addr) (σ' : L2.St) (H' : Hp) (s' : S) (F : Addr → Prop) : Prop where
  agr : ∀ k, k < s.cel.length → ad' k = ad k
  len : s.cel.length ≤ s'.cel.length
  ll : s'.loc.length = s.loc.length
  sm : Sm (msk H (Mk ad σ s F)) (msk H' (Mk ad' σ' s' F))
  frn : ∀ a, F a → H' a = H a
theorem CelOk.mono {n n' : Nat} {ad ad' : Nat → Addr} {B B' H H' : Hp} {a : Addr} (hn : n ≤ n') (ha : ∀ k, k < n → ad' k = ad k) (k : Sm B B') (e : H' a = H a) : ∀ (c : Cell), CelOk N n ad B H a c → CelOk N n' ad' B' H' a c
  | .lst ds, ⟨xs, h, r⟩ => ⟨xs, e.trans h, r.mono hn ha k⟩
  | .obj c fs, ⟨dx, fv, h, r⟩ => ⟨dx, fv, e.trans h, r.mono hn ha k⟩
  | .dct ds, ⟨kvs, h, r⟩ => ⟨kvs, e.trans h, r.mono hn ha k⟩
theorem CelOk.blw {n m : Nat} {ad : Nat → Addr} {B H : Hp} {a : Addr} : ∀ (c : Cell), c.blw m = true → CelOk N n ad B H a c → CelOk N m ad B H a c
  | .lst ds, w, ⟨xs, h, r⟩ => ⟨xs, h, r.blw _ w⟩
  | .obj c fs, w, ⟨dx, fv, h, r⟩ => ⟨dx, fv, h, r.blw _ w⟩
  | .dct ds, w, ⟨kvs, h, r⟩ => ⟨kvs, h, r.blw _ w⟩
theorem CelOk.some {n : Nat} {ad : Nat → Addr} {B H : Hp} {a : Addr} : ∀ (c : Cell), CelOk N n ad B H a c → ∃ o, H a = some o
  | .lst ds, ⟨xs, h, r⟩ => ⟨_, h⟩
  | .obj c fs, ⟨dx, fv, h, r⟩ => ⟨_, h⟩
  | .dct ds, ⟨kvs, h, r⟩ => ⟨_, h⟩
/-- a thing that is read as data where it stands -/
theorem CelOk.toD {n : Nat} {ad : Nat → Addr} {B B' H : Hp} {a : Addr} (k : Sm B B') (e : B' a = H a) : ∀ (c : Cell), CelOk N n ad B H a c → RepD N n ad B' (.ref a) c.toD
  | .lst ds, ⟨xs, h, r⟩ => .lst (SqL.of (e.trans h)) (r.mono (Nat.le_refl _) (fun _ _ => rfl) k)
  | .obj c fs, ⟨dx, fv, h, r⟩ => .obj (e.trans h) (r.mono (Nat.le_refl _) (fun _ _ => rfl) k)
  | .dct ds, ⟨kvs, h, r⟩ => .dK (.inl (e.trans h)) (r.mono (Nat.le_refl _) (fun _ _ => rfl) k)
section
variable {ad ad' ad2 : Nat → Addr} {σ σ' σ2 : L2.St} {H H' H2 : Hp} {s s' s2 : S} {F : Addr → Prop}
theorem Post.refl : Post ad σ H s ad σ H s F := ⟨fun _ _ => rfl, Nat.le_refl _, rfl, Sm.refl _, fun _ _ => rfl⟩
theorem Post.trans (P : Post ad σ H s ad' σ' H' s' F) (Q : Post ad' σ' H' s' ad2 σ2 H2 s2 F) : Post ad σ H s ad2 σ2 H2 s2 F where
  agr := fun k h => (Q.agr k (Nat.lt_of_lt_of_le h P.len)).trans (P.agr k h)
  len := Nat.le_trans P.len Q.len
  ll := Q.ll.trans P.ll
  sm := P.sm.trans Q.sm
  frn := fun a h => (Q.frn a h).trans (P.frn a h)
theorem Post.rep (P : Post ad σ H s ad' σ' H' s' F) {v : V} {d : D} (r : RepD N s.cel.length ad (msk H (Mk ad σ s F)) v d) : RepD N s'.cel.length ad' (msk H' (Mk ad' σ' s' F)) v d := r.mono P.len P.agr P.sm
theorem Post.reps (P : Post ad σ H s ad' σ' H' s' F) {v : List V} {d : List D} (r : RepDs N s.cel.length ad (msk H (Mk ad σ s F)) v d) : RepDs N s'.cel.length ad' (msk H' (Mk ad' σ' s' F)) v d := r.mono P.len P.agr P.sm
/-- the heap grows -/
theorem Rel.grow (R : Rel N ad σ H s F) (k : Same H H') : Rel N ad σ H' s F where
  len := R.len
  dat := fun i x h => by
    obtain ⟨v, h1, h2⟩ := R.dat i x h
    exact ⟨v, h1, h2.mono (Nat.le_refl _) (fun _ _ => rfl) (.of (msk_same k))⟩
  own := fun l c h => by
    obtain ⟨a, h1, h2⟩ := R.own l c h
    obtain ⟨o, ho⟩ := h2.some
    exact ⟨a, h1, h2.mono (Nat.le_refl _) (fun _ _ => rfl) (.of (msk_same k)) ((k _ _ ho).trans ho.symm)⟩
  inj := R.inj
  frn := fun a h => by
    obtain ⟨⟨o, ho⟩, h2⟩ := R.frn a h
    exact ⟨⟨o, k _ _ ho⟩, h2⟩
theorem Post.grow (R : Rel N ad σ H s F) (k : Same H H') : Post ad σ H s ad σ H' s F :=
  ⟨fun _ _ => rfl, Nat.le_refl _, rfl, .of (msk_same k), fun a h => by
    obtain ⟨⟨o, ho⟩, _⟩ := R.frn a h
    rw [ho]; exact k _ _ ho⟩
theorem Rel.masked (R : Rel N ad σ H s F) {a : Addr} (h : Mk ad σ s F a) : ∃ o, H a = some o := by
  rcases h with h | ⟨l, c, h1, h2⟩
  · exact (R.frn a h).1
  · obtain ⟨b, e, ok⟩ := R.own l c h1
    rw [h2] at e; cases e
    exact ok.some
theorem loc1_some {i : Nat} {x : LV} : s.loc1 i = some x ↔ s.loc[i]? = some (some x) := by
  unfold S.loc1
  cases h : s.loc[i]? with
  | none => simp
  | some o => cases o <;> simp
theorem get_sl {i : Nat} {c : Cell} : s.get (.sl i) = some c ↔ s.loc[i]? = some (some (LV.own c)) := by
  rw [← loc1_some]
  unfold S.get
  simp only
  cases h : s.loc1 i with
  | none => simp
  | some o => cases o <;> simp
theorem get_id {k : Nat} {c : Cell} : s.get (.id k) = some c ↔ s.cel[k]? = some c := Iff.rfl
end
end Ev

set_option autoImplicit false
set_option linter.all false
/-! What the core's steps do to the relation. -/
namespace Ev
open PySem L2
variable {N : Nms}
section
variable {ad ad' ad2 : Nat → Addr} {σ σ' σ2 : L2.St} {H H' H2 : Hp} {s s' s2 : S} {F F' : Addr → Prop}
def FAdd (F : Addr → Prop) (p : Addr) : Addr → Prop := fun a => F a ∨ a = p
theorem Mk.sub (h : ∀ l c, s'.get l = some c → ∃ c', s.get l = some c' ∧ adr ad' σ' l = adr ad σ l) {a : Addr} (m : Mk ad' σ' s' F a) : Mk ad σ s F a := by
  rcases m with m | ⟨l, c, h1, h2⟩
  · exact .inl m
  · obtain ⟨c', q1, q2⟩ := h l c h1
    exact .inr ⟨l, c', q1, q2 ▸ h2⟩
theorem sm_sub {M M' : Addr → Prop} (h : ∀ a, M' a → M a) : Sm (msk H M) (msk H M') := msk_sm fun a o e n => ⟨⟨o, e, rfl⟩, fun m => n (h a m)⟩
theorem get_set_loc {i : Nat} {x : Option LV} {l : Lo} {c : Cell} (h : ({ s with loc := s.loc.set i x } : S).get l = some c) (hx : ∀ c, x ≠ some (.own c)) : s.get l = some c ∧ l ≠ .sl i := by
  cases l with
  | sl j =>
    rw [get_sl] at h
    by_cases hj : i = j
    · subst hj
      have h : (s.loc.set i x)[i]? = _ := h
      rw [List.getElem?_set, if_pos rfl] at h
      split at h
      · exact absurd (Option.some.inj h) (hx c)
      · cases h
    · simp only [List.getElem?_set, hj, if_false] at h
      exact ⟨get_sl.mpr h, fun e => hj (by cases e; rfl)⟩
  | id k => exact ⟨h, fun e => by cases e⟩
theorem adr_sl {i : Nat} {a : Addr} : adr ad σ (.sl i) = some a ↔ σ[i]? = some (some (.ref a)) := by
  show (match σ[i]? with
    | some (some (.ref a)) => some a
    | _ => none) = some a ↔ _
  constructor
  · intro h
    split at h
    · rename_i b e; rw [e]; cases h; rfl
    · cases h
  · intro h; rw [h]
theorem adr_set {i : Nat} {x : Option V} {l : Lo} (h : l ≠ .sl i) : adr ad (σ.set i x) l = adr ad σ l := by
  cases l with
  | sl j =>
    have hj : i ≠ j := fun e => h (by rw [e])
    simp only [adr, List.getElem?_set, hj, if_false]
  | id k => rfl
/-- a slot holds data from now on, or nothing -/
theorem Rel.setLoc (R : Rel N ad σ H s F) (i : Nat) (x : Option LV) (v : Option V) (hx : ∀ c, x ≠ some (.own c)) (r : ∀ d, x = some (.d d) → ∃ w, v = some w ∧ RepD N s.cel.length ad (msk H (Mk ad σ s F)) w d) :
    Rel N ad (σ.set i v) H { s with loc := s.loc.set i x } F ∧ Post ad σ H s ad (σ.set i v) H { s with loc := s.loc.set i x } F := by
  have sub : ∀ a, Mk ad (σ.set i v) { s with loc := s.loc.set i x } F a → Mk ad σ s F a := fun a => Mk.sub fun l c h => by
    obtain ⟨h1, h2⟩ := get_set_loc h hx
    exact ⟨c, h1, adr_set h2⟩
  have sm := sm_sub (H := H) sub
  refine ⟨⟨?_, ?_, ?_, ?_, ?_⟩, ⟨fun _ _ => rfl, Nat.le_refl _, by simp, sm, fun _ _ => rfl⟩⟩
  · show (σ.set i v).length = (s.loc.set i x).length
    rw [List.length_set, List.length_set, R.len]
  · intro j y h
    have h : (s.loc.set i x)[j]? = some (some (LV.d y)) := h
    show ∃ w, (σ.set i v)[j]? = some (some w) ∧ _
    by_cases hj : i = j
    · subst hj
      rw [List.getElem?_set] at h ⊢
      simp only [if_true] at h ⊢
      by_cases hl : i < s.loc.length
      · rw [if_pos hl] at h
        have h := Option.some.inj h
        obtain ⟨w, e, rw'⟩ := r y h
        rw [if_pos (by rw [R.len]; exact hl)]
        exact ⟨w, by rw [e], rw'.mono (Nat.le_refl _) (fun _ _ => rfl) sm⟩
      · rw [if_neg hl] at h; cases h
    · rw [List.getElem?_set, if_neg hj] at h ⊢
      obtain ⟨w, e, rw'⟩ := R.dat j y h
      exact ⟨w, e, rw'.mono (Nat.le_refl _) (fun _ _ => rfl) sm⟩
  · intro l c h
    obtain ⟨h1, h2⟩ := get_set_loc h hx
    obtain ⟨a, e, ok⟩ := R.own l c h1
    exact ⟨a, (adr_set h2).trans e, ok.mono (Nat.le_refl _) (fun _ _ => rfl) sm rfl⟩
  · intro l l' c c' a h h' e e'
    obtain ⟨h1, h2⟩ := get_set_loc h hx
    obtain ⟨h1', h2'⟩ := get_set_loc h' hx
    exact R.inj l l' c c' a h1 h1' ((adr_set h2).symm.trans e) ((adr_set h2').symm.trans e')
  · intro a h
    refine ⟨(R.frn a h).1, fun l c h' e => ?_⟩
    obtain ⟨h1, h2⟩ := get_set_loc h' hx
    exact (R.frn a h).2 l c h1 ((adr_set h2).symm.trans e)
theorem Rel.setD (R : Rel N ad σ H s F) (i : Nat) {v : V} {d : D} (r : RepD N s.cel.length ad (msk H (Mk ad σ s F)) v d) :
    Rel N ad (σ.set i (some v)) H { s with loc := s.loc.set i (some (.d d)) } F ∧ Post ad σ H s ad (σ.set i (some v)) H { s with loc := s.loc.set i (some (.d d)) } F :=
  R.setLoc i _ _ (fun c e => by cases e) fun d' e => by cases e; exact ⟨v, rfl, r⟩
/-- a slot is forgotten, the model's is what it is -/
theorem Rel.unset (R : Rel N ad σ H s F) (i : Nat) (v : Option V) : Rel N ad (σ.set i v) H { s with loc := s.loc.set i none } F ∧ Post ad σ H s ad (σ.set i v) H { s with loc := s.loc.set i none } F :=
  R.setLoc i _ _ (fun c e => by cases e) fun d' e => by cases e
theorem set_same {α : Type} : ∀ {l : List α} {i : Nat} {x : α}, l[i]? = some x → l.set i x = l
  | [], _, _, h => by simp at h
  | y :: l, 0, x, h => by simp at h; simp [h]
  | y :: l, i + 1, x, h => by
    have := set_same (l := l) (i := i) (x := x) (by simpa using h)
    simp [this]
theorem Rel.forget (R : Rel N ad σ H s F) (i : Nat) : Rel N ad σ H { s with loc := s.loc.set i none } F ∧ Post ad σ H s ad σ H { s with loc := s.loc.set i none } F := by
  by_cases h : i < σ.length
  · have e : σ.set i σ[i] = σ := set_same (List.getElem?_eq_getElem h)
    have := R.unset i σ[i]
    rwa [e] at this
  · have e : σ.set i none = σ := List.set_eq_of_length_le (by omega)
    have := R.unset i none
    rwa [e] at this
theorem Rel.wipe (kl : List Nat) : ∀ {s : S}, Rel N ad σ H s F → Rel N ad σ H (wipe kl s) F ∧ Post ad σ H s ad σ H (wipe kl s) F := by
  induction kl with
  | nil => intro s R; exact ⟨R, Post.refl⟩
  | cons i kl ih =>
    intro s R
    obtain ⟨R1, P1⟩ := R.forget i
    obtain ⟨R2, P2⟩ := ih R1
    exact ⟨R2, P1.trans P2⟩
/-- what is held aside is let go -/
theorem Rel.dropF (R : Rel N ad σ H s F') (h : ∀ a, F a → F' a) : Rel N ad σ H s F ∧ Sm (msk H (Mk ad σ s F')) (msk H (Mk ad σ s F)) := by
  have sm : Sm (msk H (Mk ad σ s F')) (msk H (Mk ad σ s F)) := sm_sub fun a m => m.imp (h a) id
  refine ⟨⟨R.len, fun i x e => ?_, fun l c e => ?_, R.inj, fun a e => R.frn a (h a e)⟩, sm⟩
  · obtain ⟨v, h1, h2⟩ := R.dat i x e
    exact ⟨v, h1, h2.mono (Nat.le_refl _) (fun _ _ => rfl) sm⟩
  · obtain ⟨a, h1, h2⟩ := R.own l c e
    exact ⟨a, h1, h2.mono (Nat.le_refl _) (fun _ _ => rfl) sm rfl⟩
/-- a new object is held aside -/
theorem Rel.addF (R : Rel N ad σ H s F) {p : Addr} {o : HO} (hp : H p = none) : Rel N ad σ (upd H p o) s (FAdd F p) ∧ Sm (msk H (Mk ad σ s F)) (msk (upd H p o) (Mk ad σ s (FAdd F p))) := by
  have hH : Same H (upd H p o) := fun b u e => by rw [upd_ne (ne_of_none e hp)]; exact e
  have sm : Sm (msk H (Mk ad σ s F)) (msk (upd H p o) (Mk ad σ s (FAdd F p))) := msk_sm fun a u e n => ⟨⟨u, hH a u e, rfl⟩, fun m => by
    rcases m with (m | m) | m
    · exact n (.inl m)
    · exact ne_of_none e hp m
    · exact n (.inr m)⟩
  refine ⟨⟨R.len, fun i x e => ?_, fun l c e => ?_, R.inj, fun a e => ?_⟩, sm⟩
  · obtain ⟨v, h1, h2⟩ := R.dat i x e
    exact ⟨v, h1, h2.mono (Nat.le_refl _) (fun _ _ => rfl) sm⟩
  · obtain ⟨a, h1, h2⟩ := R.own l c e
    obtain ⟨u, hu⟩ := h2.some
    exact ⟨a, h1, h2.mono (Nat.le_refl _) (fun _ _ => rfl) sm (by rw [hH _ _ hu, hu])⟩
  · rcases e with e | rfl
    · obtain ⟨⟨u, hu⟩, h2⟩ := R.frn a e
      exact ⟨⟨u, hH _ _ hu⟩, h2⟩
    · refine ⟨⟨o, upd_same⟩, fun l c e z => ?_⟩
      obtain ⟨u, hu⟩ := R.masked (.inr ⟨l, c, e, z⟩)
      rw [hp] at hu; cases hu
theorem get_put_self {c c0 : Cell} {l : Lo} (h : s.get l = some c0) : (s.put c l).get l = some c := by
  cases l with
  | sl i =>
    rw [get_sl] at h ⊢
    show (s.loc.set i (some (.own c)))[i]? = _
    rw [List.getElem?_set]
    have := (List.getElem?_eq_some_iff.mp h).1
    simp [this]
  | id k =>
    have h : s.cel[k]? = some c0 := h
    show (s.cel.set k c)[k]? = some c
    rw [List.getElem?_set]
    have := (List.getElem?_eq_some_iff.mp h).1
    simp [this]
theorem get_put_ne {c : Cell} {l l' : Lo} (h : l' ≠ l) : (s.put c l).get l' = s.get l' := by
  cases l with
  | sl i =>
    cases l' with
    | sl j =>
      have hj : i ≠ j := fun e => h (by rw [e])
      unfold S.put S.get S.loc1
      simp only [List.getElem?_set, hj, if_false]
    | id k => rfl
  | id k =>
    cases l' with
    | sl j => rfl
    | id m =>
      have hj : k ≠ m := fun e => h (by rw [e])
      show (s.cel.set k c)[m]? = s.cel[m]?
      rw [List.getElem?_set, if_neg hj]
theorem put_cel {c : Cell} {l : Lo} : (s.put c l).cel.length = s.cel.length := by
  cases l with
  | sl i => rfl
  | id k => exact List.length_set
/-- a write -/
theorem Rel.put (R : Rel N ad σ H s F) {l : Lo} {c0 c : Cell} {a : Addr} {o : HO} (hl : s.get l = some c0) (ha : adr ad σ l = some a) (ok : CelOk N s.cel.length ad (msk H (Mk ad σ s F)) (upd H a o) a c) :
    Rel N ad σ (upd H a o) (s.put c l) F ∧ Post ad σ H s ad σ (upd H a o) (s.put c l) F := by
  have hM : ∀ b, Mk ad σ (s.put c l) F b ↔ Mk ad σ s F b := fun b => by
    constructor
    · rintro (m | ⟨l', c', h1, h2⟩)
      · exact .inl m
      · by_cases e : l' = l
        · subst e; exact .inr ⟨l', c0, hl, h2⟩
        · rw [get_put_ne e] at h1; exact .inr ⟨l', c', h1, h2⟩
    · rintro (m | ⟨l', c', h1, h2⟩)
      · exact .inl m
      · by_cases e : l' = l
        · subst e; exact .inr ⟨l', c, get_put_self hl, h2⟩
        · exact .inr ⟨l', c', by rw [get_put_ne e]; exact h1, h2⟩
  have hma : Mk ad σ s F a := .inr ⟨l, c0, hl, ha⟩
  have sm : Sm (msk H (Mk ad σ s F)) (msk (upd H a o) (Mk ad σ (s.put c l) F)) := msk_sm fun b u e n => by
    refine ⟨⟨u, ?_, rfl⟩, fun m => n ((hM b).mp m)⟩
    rw [upd_ne (fun z => n (by rw [z]; exact hma))]; exact e
  have hn := put_cel (s := s) (c := c) (l := l)
  refine ⟨⟨?_, ?_, ?_, ?_, ?_⟩, ⟨fun _ _ => rfl, Nat.le_of_eq hn.symm, ?_, sm, fun b hb => ?_⟩⟩
  · rw [R.len]
    cases l with
    | sl i => exact List.length_set.symm
    | id k => rfl
  · intro i x h
    have h' : s.loc[i]? = some (some (LV.d x)) := by
      cases l with
      | sl j =>
        have h : (s.loc.set j (some (.own c)))[i]? = _ := h
        rw [List.getElem?_set] at h
        by_cases hj : j = i
        · simp only [hj, if_true] at h
          split at h
          · have := Option.some.inj (Option.some.inj h); cases this
          · cases h
        · rw [if_neg hj] at h; exact h
      | id k => exact h
    obtain ⟨v, h1, h2⟩ := R.dat i x h'
    exact ⟨v, h1, h2.mono (Nat.le_of_eq hn.symm) (fun _ _ => rfl) sm⟩
  · intro l' c' h
    by_cases e : l' = l
    · subst e
      rw [get_put_self hl] at h; cases h
      exact ⟨a, ha, ok.mono (Nat.le_of_eq hn.symm) (fun _ _ => rfl) sm rfl⟩
    · rw [get_put_ne e] at h
      obtain ⟨b, h1, h2⟩ := R.own l' c' h
      refine ⟨b, h1, h2.mono (Nat.le_of_eq hn.symm) (fun _ _ => rfl) sm (upd_ne fun z => ?_)⟩
      subst z
      exact e (R.inj _ _ _ _ _ h hl h1 ha)
  · intro l1 l2 c1 c2 b h1 h2 e1 e2
    have q : ∀ l' c', (s.put c l).get l' = some c' → ∃ c'', s.get l' = some c'' := fun l' c' h => by
      by_cases e : l' = l
      · subst e; exact ⟨_, hl⟩
      · rw [get_put_ne e] at h; exact ⟨_, h⟩
    obtain ⟨d1, q1⟩ := q l1 c1 h1
    obtain ⟨d2, q2⟩ := q l2 c2 h2
    exact R.inj _ _ _ _ _ q1 q2 e1 e2
  · intro b hb
    obtain ⟨⟨u, hu⟩, h2⟩ := R.frn b hb
    have hne : b ≠ a := fun z => h2 l c0 hl (by rw [z]; exact ha)
    refine ⟨⟨u, by rw [upd_ne hne]; exact hu⟩, fun l' c' h e => ?_⟩
    by_cases el : l' = l
    · subst el; exact h2 l' c0 hl e
    · rw [get_put_ne el] at h; exact h2 l' c' h e
  · cases l with
    | sl i => exact List.length_set
    | id k => rfl
  · exact upd_ne fun z => (R.frn b hb).2 l c0 hl (by rw [z]; exact ha)
/-- a slot's own thing is data from now on -/
theorem Rel.freeze (R : Rel N ad σ H s F) {i : Nat} {c : Cell} (hl : s.get (.sl i) = some c) : ∃ a, σ[i]? = some (some (.ref a)) ∧
    RepD N s.cel.length ad (msk H (Mk ad σ { s with loc := s.loc.set i (some (.d c.toD)) } F)) (.ref a) c.toD ∧ Rel N ad σ H { s with loc := s.loc.set i (some (.d c.toD)) } F ∧ Post ad σ H s ad σ H { s with loc := s.loc.set i (some (.d c.toD)) } F := by
  obtain ⟨a, ha, ok⟩ := R.own _ _ hl
  have hσ : σ[i]? = some (some (.ref a)) := adr_sl.mp ha
  obtain ⟨R1, P1⟩ := R.forget i
  have nm : ¬ Mk ad σ { s with loc := s.loc.set i none } F a := by
    rintro (m | ⟨l, c', h1, h2⟩)
    · exact (R.frn a m).2 _ _ hl ha
    · obtain ⟨q1, q2⟩ := get_set_loc h1 (fun c e => by cases e)
      exact q2 (R.inj _ _ _ _ _ q1 hl h2 ha)
  have rd : RepD N s.cel.length ad (msk H (Mk ad σ { s with loc := s.loc.set i none } F)) (.ref a) c.toD := ok.toD P1.sm (msk_of nm)
  have e : σ.set i (some (.ref a)) = σ := set_same hσ
  have := R1.setD i rd
  have e2 : ((s.loc.set i none).set i (some (LV.d c.toD))) = s.loc.set i (some (.d c.toD)) := List.set_set ..
  simp only [e, e2] at this
  obtain ⟨R2, P2⟩ := this
  exact ⟨a, hσ, P2.rep rd, R2, P1.trans P2⟩
end
end Ev

set_option autoImplicit false
set_option linter.all false
/-! New things; what a run guarantees. -/
namespace Ev
open PySem L2
variable {N : Nms}
section
variable {ad ad' ad0 ad2 : Nat → Addr} {σ σ' σ0 σ2 : L2.St} {H H' H0 H2 : Hp} {s s' s0 s2 : S} {F F' : Addr → Prop} {p : Addr}
/-- behind a run that made the new object p -/
structure PostN (ad : Nat → Addr) (σ : L2.St) (H : Hp) (s : S) (ad' : Nat → Addr) (σ' : L2.St) (H' : Hp) (s' : S) (F : Addr → Prop) (p : Addr) : Prop where
  agr : ∀ k, k < s.cel.length → ad' k = ad k
  len : s.cel.length ≤ s'.cel.length
  ll : s'.loc.length = s.loc.length
  sm : Sm (msk H (Mk ad σ s F)) (msk H' (Mk ad' σ' s' (FAdd F p)))
  frn : ∀ a, F a → H' a = H a
  new : ¬ F p
theorem Post.newP (P : Post ad σ H s ad' σ' H' s' F) (R : Rel N ad' σ' H' s' F) {o : HO} (hp : H' p = none) : PostN ad σ H s ad' σ' (upd H' p o) s' F p :=
  ⟨P.agr, P.len, P.ll, P.sm.trans (R.addF hp).2, fun a h => by
    obtain ⟨⟨u, hu⟩, _⟩ := R.frn a h
    rw [upd_ne (ne_of_none hu hp)]; exact P.frn a h, fun h => by
    obtain ⟨⟨u, hu⟩, _⟩ := R.frn p h
    rw [hp] at hu; cases hu⟩
theorem Post.toN (P : Post ad σ H s ad0 σ0 H0 s0 F) (Q : PostN ad0 σ0 H0 s0 ad' σ' H' s' F p) : PostN ad σ H s ad' σ' H' s' F p :=
  ⟨fun k h => (Q.agr k (Nat.lt_of_lt_of_le h P.len)).trans (P.agr k h), Nat.le_trans P.len Q.len, Q.ll.trans P.ll, P.sm.trans Q.sm, fun a h => (Q.frn a h).trans (P.frn a h), Q.new⟩
/-- the new object is data -/
theorem Rel.take (P : PostN ad σ H s ad' σ' H' s' F p) (R : Rel N ad' σ' H' s' (FAdd F p)) : Rel N ad' σ' H' s' F ∧ Post ad σ H s ad' σ' H' s' F ∧ Sm (msk H' (Mk ad' σ' s' (FAdd F p))) (msk H' (Mk ad' σ' s' F)) ∧ ¬ Mk ad' σ' s' F p := by
  obtain ⟨R1, sm⟩ := R.dropF (F := F) fun a h => .inl h
  refine ⟨R1, ⟨P.agr, P.len, P.ll, P.sm.trans sm, P.frn⟩, sm, ?_⟩
  rintro (m | ⟨l, c, h1, h2⟩)
  · exact P.new m
  · exact (R.frn p (.inr rfl)).2 l c h1 h2
theorem get_set_own {i : Nat} {c : Cell} {l : Lo} {c' : Cell} (h : ({ s with loc := s.loc.set i (some (.own c)) } : S).get l = some c') (hl : l ≠ .sl i) : s.get l = some c' := by
  cases l with
  | sl j =>
    have hj : i ≠ j := fun e => hl (by rw [e])
    rw [get_sl] at h ⊢
    have h : (s.loc.set i (some (.own c)))[j]? = _ := h
    rw [List.getElem?_set, if_neg hj] at h
    exact h
  | id k => exact h
theorem get_set_own' {i : Nat} {c : Cell} (h : i < s.loc.length) : ({ s with loc := s.loc.set i (some (.own c)) } : S).get (.sl i) = some c := by
  rw [get_sl]
  show (s.loc.set i (some (.own c)))[i]? = _
  rw [List.getElem?_set, if_pos rfl, if_pos h]
/-- the new object is a slot's own -/
theorem Rel.setOwn (P : PostN ad σ H s ad' σ' H' s' F p) (R : Rel N ad' σ' H' s' (FAdd F p)) {i : Nat} {c : Cell} (hi : i < s'.loc.length) (ok : CelOk N s'.cel.length ad' (msk H' (Mk ad' σ' s' (FAdd F p))) H' p c) :
    Rel N ad' (σ'.set i (some (.ref p))) H' { s' with loc := s'.loc.set i (some (.own c)) } F ∧ Post ad σ H s ad' (σ'.set i (some (.ref p))) H' { s' with loc := s'.loc.set i (some (.own c)) } F := by
  have hiσ : i < σ'.length := by rw [R.len]; exact hi
  have ai : adr ad' (σ'.set i (some (.ref p))) (.sl i) = some p := by
    rw [adr_sl, List.getElem?_set, if_pos rfl, if_pos hiσ]
  have old : ∀ l c', l ≠ .sl i → ({ s' with loc := s'.loc.set i (some (.own c)) } : S).get l = some c' → s'.get l = some c' ∧ adr ad' (σ'.set i (some (.ref p))) l = adr ad' σ' l := fun l c' hl h => ⟨get_set_own h hl, adr_set hl⟩
  have sm : Sm (msk H' (Mk ad' σ' s' (FAdd F p))) (msk H' (Mk ad' (σ'.set i (some (.ref p))) { s' with loc := s'.loc.set i (some (.own c)) } F)) := sm_sub fun a m => by
    rcases m with m | ⟨l, c', h1, h2⟩
    · exact .inl (.inl m)
    · by_cases hl : l = .sl i
      · subst hl
        rw [ai] at h2; cases h2
        exact .inl (.inr rfl)
      · obtain ⟨q1, q2⟩ := old l c' hl h1
        exact .inr ⟨l, c', q1, q2 ▸ h2⟩
  have apart : ∀ l c', s'.get l = some c' → adr ad' σ' l ≠ some p := (R.frn p (.inr rfl)).2
  refine ⟨⟨?_, ?_, ?_, ?_, ?_⟩, ⟨P.agr, P.len, ?_, P.sm.trans sm, P.frn⟩⟩
  · show (σ'.set i _).length = (s'.loc.set i _).length
    rw [List.length_set, List.length_set, R.len]
  · intro j y h
    have h : (s'.loc.set i (some (LV.own c)))[j]? = some (some (LV.d y)) := h
    show ∃ w, (σ'.set i _)[j]? = some (some w) ∧ _
    rw [List.getElem?_set] at h ⊢
    by_cases hj : i = j
    · subst hj
      simp only [if_true] at h
      rw [if_pos hi] at h
      have := Option.some.inj (Option.some.inj h); cases this
    · rw [if_neg hj] at h ⊢
      obtain ⟨w, e, rw'⟩ := R.dat j y h
      exact ⟨w, e, rw'.mono (Nat.le_refl _) (fun _ _ => rfl) sm⟩
  · intro l c' h
    by_cases hl : l = .sl i
    · subst hl
      rw [get_set_own' hi] at h; cases h
      exact ⟨p, ai, ok.mono (Nat.le_refl _) (fun _ _ => rfl) sm rfl⟩
    · obtain ⟨q1, q2⟩ := old l c' hl h
      obtain ⟨a, e, k⟩ := R.own l c' q1
      exact ⟨a, q2.trans e, k.mono (Nat.le_refl _) (fun _ _ => rfl) sm rfl⟩
  · intro l l' c1 c2 a h h' e e'
    by_cases hl : l = .sl i
    · by_cases hl' : l' = .sl i
      · rw [hl, hl']
      · subst hl
        rw [ai] at e; cases e
        obtain ⟨q1, q2⟩ := old l' c2 hl' h'
        exact absurd (q2.symm.trans e') (apart l' c2 q1)
    · obtain ⟨q1, q2⟩ := old l c1 hl h
      by_cases hl' : l' = .sl i
      · subst hl'
        rw [ai] at e'; cases e'
        exact absurd (q2.symm.trans e) (apart l c1 q1)
      · obtain ⟨q1', q2'⟩ := old l' c2 hl' h'
        exact R.inj l l' c1 c2 a q1 q1' (q2.symm.trans e) (q2'.symm.trans e')
  · intro a h
    obtain ⟨h1, h2⟩ := R.frn a (.inl h)
    refine ⟨h1, fun l c' h' e => ?_⟩
    by_cases hl : l = .sl i
    · subst hl
      rw [ai] at e; cases e
      exact P.new h
    · obtain ⟨q1, q2⟩ := old l c' hl h'
      exact h2 l c' q1 (q2.symm.trans e)
  · show (s'.loc.set i _).length = _
    rw [List.length_set]; exact P.ll
/-- the new object is a thing of the store -/
theorem Rel.alloc (P : PostN ad σ H s ad' σ' H' s' F p) (R : Rel N ad' σ' H' s' (FAdd F p)) {c : Cell} (ok : CelOk N s'.cel.length ad' (msk H' (Mk ad' σ' s' (FAdd F p))) H' p c) :
    ∃ ad2 : Nat → Addr, ad2 s'.cel.length = p ∧ Rel N ad2 σ' H' { s' with cel := s'.cel ++ [c] } F ∧ Post ad σ H s ad2 σ' H' { s' with cel := s'.cel ++ [c] } F ∧ (∀ k, k < s'.cel.length → ad2 k = ad' k) ∧
      Sm (msk H' (Mk ad' σ' s' (FAdd F p))) (msk H' (Mk ad2 σ' { s' with cel := s'.cel ++ [c] } F)) := by
  let ad2 : Nat → Addr := fun k => if k = s'.cel.length then p else ad' k
  have a0 : ad2 s'.cel.length = p := if_pos rfl
  have a1 : ∀ k, k < s'.cel.length → ad2 k = ad' k := fun k h => if_neg (Nat.ne_of_lt h)
  have gn : ({ s' with cel := s'.cel ++ [c] } : S).get (.id s'.cel.length) = some c := by
    show (s'.cel ++ [c])[s'.cel.length]? = some c
    simp
  have old : ∀ l c', l ≠ .id s'.cel.length → ({ s' with cel := s'.cel ++ [c] } : S).get l = some c' → s'.get l = some c' ∧ adr ad2 σ' l = adr ad' σ' l := fun l c' hl h => by
    cases l with
    | sl j => exact ⟨h, rfl⟩
    | id k =>
      have h : (s'.cel ++ [c])[k]? = some c' := h
      have hk : k < s'.cel.length := by
        have := (List.getElem?_eq_some_iff.mp h).1
        rw [List.length_append] at this
        have : k ≠ s'.cel.length := fun e => hl (by rw [e])
        simp at *
        omega
      rw [List.getElem?_append_left hk] at h
      exact ⟨h, congrArg some (a1 k hk)⟩
  have apart : ∀ l c', s'.get l = some c' → adr ad' σ' l ≠ some p := (R.frn p (.inr rfl)).2
  have ai : adr ad2 σ' (.id s'.cel.length) = some p := congrArg some a0
  have sm : Sm (msk H' (Mk ad' σ' s' (FAdd F p))) (msk H' (Mk ad2 σ' { s' with cel := s'.cel ++ [c] } F)) := sm_sub fun a m => by
    rcases m with m | ⟨l, c', h1, h2⟩
    · exact .inl (.inl m)
    · by_cases hl : l = .id s'.cel.length
      · subst hl
        rw [ai] at h2; cases h2
        exact .inl (.inr rfl)
      · obtain ⟨q1, q2⟩ := old l c' hl h1
        exact .inr ⟨l, c', q1, q2 ▸ h2⟩
  have le : s'.cel.length ≤ (s'.cel ++ [c]).length := by simp
  refine ⟨ad2, a0, ⟨R.len, ?_, ?_, ?_, ?_⟩, ⟨fun k h => (a1 k (Nat.lt_of_lt_of_le h P.len)).trans (P.agr k h), Nat.le_trans P.len le, P.ll, P.sm.trans sm, P.frn⟩, a1, sm⟩
  · intro j y h
    obtain ⟨w, e, rw'⟩ := R.dat j y h
    exact ⟨w, e, rw'.mono le a1 sm⟩
  · intro l c' h
    by_cases hl : l = .id s'.cel.length
    · subst hl
      rw [gn] at h; cases h
      exact ⟨p, ai, ok.mono le a1 sm rfl⟩
    · obtain ⟨q1, q2⟩ := old l c' hl h
      obtain ⟨a, e, k⟩ := R.own l c' q1
      exact ⟨a, q2.trans e, k.mono le a1 sm rfl⟩
  · intro l l' c1 c2 a h h' e e'
    by_cases hl : l = .id s'.cel.length
    · by_cases hl' : l' = .id s'.cel.length
      · rw [hl, hl']
      · subst hl
        rw [ai] at e; cases e
        obtain ⟨q1, q2⟩ := old l' c2 hl' h'
        exact absurd (q2.symm.trans e') (apart l' c2 q1)
    · obtain ⟨q1, q2⟩ := old l c1 hl h
      by_cases hl' : l' = .id s'.cel.length
      · subst hl'
        rw [ai] at e'; cases e'
        exact absurd (q2.symm.trans e) (apart l c1 q1)
      · obtain ⟨q1', q2'⟩ := old l' c2 hl' h'
        exact R.inj l l' c1 c2 a q1 q1' (q2.symm.trans e) (q2'.symm.trans e')
  · intro a h
    obtain ⟨h1, h2⟩ := R.frn a (.inl h)
    refine ⟨h1, fun l c' h' e => ?_⟩
    by_cases hl : l = .id s'.cel.length
    · subst hl
      rw [ai] at e; cases e
      exact P.new h
    · obtain ⟨q1, q2⟩ := old l c' hl h'
      exact h2 l c' q1 (q2.symm.trans e)
end
/-! ### what a run guarantees -/
/-- an exception as the core tells it -/
def RepE (N : Nms) (n : Nat) (ad : Nat → Addr) (B H : Hp) (e : Exc) (cls : Value) (d : Option Addr) : Prop :=
  cls = .ref (N.cl e.c) ∧ (e.fs = [] ∨ ∃ dd fv, d = some dd ∧ H dd = some (.xd fv) ∧ RepFs N n ad B fv e.fs)
def Gar {α : Type} (N : Nms) (W : WX) (ad : Nat → Addr) (σ : L2.St) (H : Hp) (s : S) (F : Addr → Prop) (r : Res α) (K : α → S → (Nat → Addr) → Hp → Prop) : Prop := match r with
  | .ok a s' => ∀ ad' H', Rel N ad' σ H' s' F → Post ad σ H s ad' σ H' s' F → K a s' ad' H'
  | .exc e s' => ∀ cls d ad' H', Rel N ad' σ H' s' F → Post ad σ H s ad' σ H' s' F → RepE N s'.cel.length ad' (msk H' (Mk ad' σ s' F)) H' e cls d → W cls d σ H'
  | .stk => False
section
variable {W : WX} {ad ad' ad0 : Nat → Addr} {σ : L2.St} {H H' H0 : Hp} {s s' s0 : S} {F : Addr → Prop} {α β : Type}
theorem Gar.from {r : Res α} {K : α → S → (Nat → Addr) → Hp → Prop} (P : Post ad0 σ H0 s0 ad σ H s F) (h : Gar N W ad0 σ H0 s0 F r K) : Gar N W ad σ H s F r K := by
  cases r with
  | ok a s' => exact fun ad' H' R' P' => h ad' H' R' (P.trans P')
  | exc e s' => exact fun cls d ad' H' R' P' => h cls d ad' H' R' (P.trans P')
  | stk => exact h
theorem Gar.mono {r : Res α} {K K' : α → S → (Nat → Addr) → Hp → Prop} (h : Gar N W ad σ H s F r K) (i : ∀ a s' ad' H', Rel N ad' σ H' s' F → Post ad σ H s ad' σ H' s' F → K a s' ad' H' → K' a s' ad' H') : Gar N W ad σ H s F r K' := by
  cases r with
  | ok a s' => exact fun ad' H' R' P' => i _ _ _ _ R' P' (h ad' H' R' P')
  | exc e s' => exact h
  | stk => exact h
theorem Gar.bind {m : M α} {f : α → M β} {K : β → S → (Nat → Addr) → Hp → Prop} (h : Gar N W ad σ H s F (M.bind m f s) K) :
    Gar N W ad σ H s F (m s) fun a s' ad' H' => Gar N W ad' σ H' s' F (f a s') K := by
  unfold M.bind at h
  cases hm : m s with
  | ok a s' => rw [hm] at h; exact fun ad' H' R' P' => h.from P'
  | exc e s' => rw [hm] at h; exact h
  | stk => rw [hm] at h; exact h
end
/-- a value -/
def RepPV (N : Nms) (ad : Nat → Addr) (σ : L2.St) (H : Hp) (s : S) (F : Addr → Prop) (v : V) : PV → Prop
  | .d x => RepD N s.cel.length ad (msk H (Mk ad σ s F)) v x
  | .own i => σ[i]? = some (some v)
theorem RepPV.post {ad ad' : Nat → Addr} {σ : L2.St} {H H' : Hp} {s s' : S} {F : Addr → Prop} {v : V} (P : Post ad σ H s ad' σ H' s' F) : ∀ {pv : PV}, RepPV N ad σ H s F v pv → RepPV N ad' σ H' s' F v pv
  | .d x, r => P.rep r
  | .own i, r => r
/-- the readings of runs -/
def tX (N : Nms) (W : WX) (m : M PV) : TE := fun σ H Q => ∃ ad s F, Rel N ad σ H s F ∧ Gar N W ad σ H s F (m s) fun pv s' ad' H' => ∀ v, RepPV N ad' σ H' s' F v pv → Q v H'
def tD (N : Nms) (W : WX) (m : M D) : TE := fun σ H Q => ∃ ad s F, Rel N ad σ H s F ∧ Gar N W ad σ H s F (m s) fun x s' ad' H' => ∀ v, RepD N s'.cel.length ad' (msk H' (Mk ad' σ s' F)) v x → Q v H'
def tT (N : Nms) (W : WX) (m : M Bool) : TT := fun σ H Q => ∃ ad s F, Rel N ad σ H s F ∧ Gar N W ad σ H s F (m s) fun b s' ad' H' => Q b H'
def tAs (N : Nms) (W : WX) (m : M (List D)) : TA := fun σ H Q => ∃ ad s F, Rel N ad σ H s F ∧ Gar N W ad σ H s F (m s) fun xs s' ad' H' => ∀ vs, RepDs N s'.cel.length ad' (msk H' (Mk ad' σ s' F)) vs xs → Q vs H'
inductive RepPs (N : Nms) (ad : Nat → Addr) (σ : L2.St) (H : Hp) (s : S) (F : Addr → Prop) : List V → List PV → Prop
  | nil : RepPs N ad σ H s F [] []
  | cons {v : V} {vs : List V} {x : PV} {xs : List PV} : RepPV N ad σ H s F v x → RepPs N ad σ H s F vs xs → RepPs N ad σ H s F (v :: vs) (x :: xs)
def tPs (N : Nms) (W : WX) (m : M (List PV)) : TA := fun σ H Q => ∃ ad s F, Rel N ad σ H s F ∧ Gar N W ad σ H s F (m s) fun xs s' ad' H' => ∀ vs, RepPs N ad' σ H' s' F vs xs → Q vs H'
theorem pe_imp {X : Cx} {e : Expr} {t t' : TE} (h : PE X e t) (i : ∀ σ H Q, t' σ H Q → t σ H Q) : PE X e t' := ⟨fun pins s σ H Q I hw => h.run pins s σ H Q I (i _ _ _ hw)⟩
theorem pt_imp {X : Cx} {e : Expr} {t t' : TT} (h : PT X e t) (i : ∀ σ H Q, t' σ H Q → t σ H Q) : PT X e t' := ⟨fun pins s σ H Q I hw => h.run pins s σ H Q I (i _ _ _ hw)⟩
theorem pa_imp {X : Cx} {e : List Expr} {t t' : TA} (h : PA X e t) (i : ∀ σ H Q, t' σ H Q → t σ H Q) : PA X e t' := ⟨fun pos pins s σ H Q I hw => h.run pos pins s σ H Q I (i _ _ _ hw)⟩
theorem ps_imp {X : Cx} {e : Stmt} {t t' : TS} (h : PS X e t) (i : ∀ D σ H, t' D σ H → t D σ H) : PS X e t' := ⟨fun pins s σ H Q I hw => h.run pins s σ H Q I (i _ _ _ hw)⟩
theorem pss_imp {X : Cx} {e : List Stmt} {t t' : TS} (h : PSs X e t) (i : ∀ D σ H, t' D σ H → t D σ H) : PSs X e t' := ⟨fun pins s σ H Q I hw => h.run pins s σ H Q I (i _ _ _ hw)⟩
/-- an object that is read: it stands in H, its parts among what never changes -/
inductive RepW (N : Nms) (n : Nat) (ad : Nat → Addr) (B H : Hp) : V → D → Prop
  | d {v : V} {x : D} : RepD N n ad B v x → RepW N n ad B H v x
  | c {a : Addr} {c : Cell} : CelOk N n ad B H a c → RepW N n ad B H (.ref a) c.toD
section
variable {ad : Nat → Addr} {σ : L2.St} {H : Hp} {s : S} {F : Addr → Prop}
theorem RepPV.val (R : Rel N ad σ H s F) {v : V} {pv : PV} {x : D} (r : RepPV N ad σ H s F v pv) (h : pv.val s = some x) : RepW N s.cel.length ad (msk H (Mk ad σ s F)) H v x := by
  cases pv with
  | d y =>
    cases y with
    | ref k =>
      have h : (s.cel[k]?).map Cell.toD = some x := h
      cases hc : s.cel[k]? with
      | none => rw [hc] at h; cases h
      | some c =>
        rw [hc] at h; cases h
        obtain ⟨a, e, ok⟩ := R.own (.id k) c hc
        have r : RepD N s.cel.length ad (msk H (Mk ad σ s F)) v (.ref k) := r
        cases r
        have e : some (ad k) = some a := e
        cases e
        exact .c ok
    | _ => cases h; exact .d r
  | own i =>
    have r : σ[i]? = some (some v) := r
    have h : (match s.loc1 i with
      | some (.own c) => some c.toD
      | some (.d (.ref _)) => none
      | some (.d x) => some x
      | none => none) = some x := h
    cases hc : s.loc1 i with
    | none => rw [hc] at h; cases h
    | some lv =>
      rw [hc] at h
      cases lv with
      | own c =>
        cases h
        obtain ⟨a, e, ok⟩ := R.own (.sl i) c (get_sl.mpr (loc1_some.mp hc))
        rw [adr_sl, r] at e; cases e
        exact .c ok
      | d y =>
        have q := R.dat i y (loc1_some.mp hc)
        obtain ⟨w, e, rd⟩ := q
        rw [r] at e; cases e
        cases y with
        | ref k => cases h
        | _ => cases h; exact .d rd
end
end Ev

set_option autoImplicit false
set_option linter.all false
set_option maxRecDepth 100000
/-! Data of the core as the library's data: ==, <, in. -/
namespace Ev
open PySem L2
variable {N : Nms}
mutual
def D.py : D → PyData
  | .bl b => .bool b
  | .int i => .int i
  | .str x => .str x
  | .tup xs => .tuple (D.pys xs)
  | .lst xs => .list (D.pys xs)
  | _ => .none
def D.pys : List D → List PyData
  | [] => []
  | x :: xs => x.py :: D.pys xs
end
mutual
theorem fin_plain : ∀ (n : Nat) (d : D), d.fin n = true → d.py.plain = true ∧ d.py.depth ≤ n
  | _, .non, _ => ⟨rfl, Nat.zero_le _⟩
  | _, .bl _, _ => ⟨rfl, Nat.zero_le _⟩
  | _, .int _, _ => ⟨rfl, Nat.zero_le _⟩
  | _, .str _, _ => ⟨rfl, Nat.zero_le _⟩
  | 0, .tup _, h => by simp [D.fin] at h
  | 0, .lst _, h => by simp [D.fin] at h
  | n + 1, .tup xs, h => by
    have q := fins_plain n xs (by simpa [D.fin] using h)
    exact ⟨by simpa [D.py, PyData.plain] using q.1, by simp only [D.py, PyData.depth]; omega⟩
  | n + 1, .lst xs, h => by
    have q := fins_plain n xs (by simpa [D.fin] using h)
    exact ⟨by simpa [D.py, PyData.plain] using q.1, by simp only [D.py, PyData.depth]; omega⟩
  | 0, .dct _, h => by simp [D.fin] at h
  | 0, .obj _ _, h => by simp [D.fin] at h
  | 0, .ref _, h => by simp [D.fin] at h
  | n + 1, .dct _, h => by simp [D.fin] at h
  | n + 1, .obj _ _, h => by simp [D.fin] at h
  | n + 1, .ref _, h => by simp [D.fin] at h
theorem fins_plain : ∀ (n : Nat) (ds : List D), D.fins n ds = true → PyData.plainAll (D.pys ds) = true ∧ PyData.depthAll (D.pys ds) ≤ n
  | _, [], _ => ⟨rfl, by simp [D.pys, PyData.depthAll]⟩
  | n, d :: ds, h => by
    simp only [D.fins, Bool.and_eq_true] at h
    have p := fin_plain n d h.1
    have q := fins_plain n ds h.2
    exact ⟨by simp [D.pys, PyData.plainAll, p.1, q.1], by simp only [D.pys, PyData.depthAll]; omega⟩
end
mutual
theorem RepD.reads {X : Cx} {pins : List (Addr × Obj)} {σ : L2.St} {H : Hp} {s : Shared} {m : Nat} {ad : Nat → Addr} (hK : X.K = N.K) (I : Inv X pins σ H s) : ∀ (n : Nat) (d : D) {v : V} {u : Value}, d.fin n = true → RepD N m ad H v d → RelV v u → ∃ as, Reads s.heap u d.py as
  | _, .non, _, _, _, h, r => by cases h; cases r; exact ⟨_, Reads.none⟩
  | _, .bl b, _, _, _, h, r => by cases h; cases r; exact ⟨_, Reads.bool b⟩
  | _, .int i, _, _, _, h, r => by cases h; obtain ⟨t, rfl⟩ := r; exact ⟨_, Reads.int i t⟩
  | _, .str x, _, _, _, h, r => by cases h; obtain ⟨t, rfl⟩ := r; exact ⟨_, Reads.str x t⟩
  | 0, .tup _, _, _, f, _, _ => by simp [D.fin] at f
  | 0, .lst _, _, _, f, _, _ => by simp [D.fin] at f
  | n + 1, .tup ds, _, _, f, h, r => by
    cases h with
    | tup hs ha =>
      cases r
      rw [← hK] at hs
      obtain ⟨its, rv, ⟨o, ho, hc, m, hd⟩, _⟩ := I.tuple hs
      obtain ⟨as, hr⟩ := RepDs.reads hK I n ds (by simpa [D.fin] using f) ha rv
      exact ⟨_, Reads.tuple ho hc hd (by simpa using hr)⟩
  | n + 1, .lst ds, _, _, f, h, r => by
    cases h with
    | lst hs ha =>
      cases r
      rw [← hK] at hs
      obtain ⟨its, rv, ⟨o, m, ho, hc, _, hd⟩, _⟩ := I.list hs
      obtain ⟨as, hr⟩ := RepDs.reads hK I n ds (by simpa [D.fin] using f) ha rv
      exact ⟨_, Reads.list ho hc hd (by simpa using hr)⟩
  | n, .dct _, _, _, f, h, _ => by cases n <;> simp [D.fin] at f
  | n, .obj _ _, _, _, f, h, _ => by cases n <;> simp [D.fin] at f
  | n, .ref _, _, _, f, h, _ => by cases n <;> simp [D.fin] at f
theorem RepDs.reads {X : Cx} {pins : List (Addr × Obj)} {σ : L2.St} {H : Hp} {s : Shared} {m : Nat} {ad : Nat → Addr} (hK : X.K = N.K) (I : Inv X pins σ H s) : ∀ (n : Nat) (ds : List D) {vs : List V} {us : List Value}, D.fins n ds = true → RepDs N m ad H vs ds → Vals vs us → ∃ as, ReadsAll s.heap us (D.pys ds) as
  | _, [], _, _, _, h, r => by cases h; cases r; exact ⟨_, ReadsAll.nil⟩
  | n, d :: ds, _, _, f, h, r => by
    simp only [D.fins, Bool.and_eq_true] at f
    cases h with
    | cons h1 h2 =>
      cases r with
      | cons r1 r2 =>
        obtain ⟨as, q1⟩ := RepD.reads hK I n d f.1 h1 r1
        obtain ⟨bs, q2⟩ := RepDs.reads hK I n ds f.2 h2 r2
        exact ⟨_, ReadsAll.cons q1 q2⟩
end
mutual
theorem eqB_py : ∀ (n m : Nat) (x y : D), x.fin n = true → y.fin m = true → eqB x y = PyData.eqv x.py y.py
  | n, m, .non, y, _, h => by cases y <;> first | rfl | (cases m <;> simp [D.fin] at h)
  | n, m, .bl a, y, _, h => by cases y <;> first | rfl | (cases m <;> simp [D.fin] at h) | simp [eqB, D.py, PyData.eqv]
  | n, m, .int a, y, _, h => by cases y <;> first | rfl | (cases m <;> simp [D.fin] at h) | simp [eqB, D.py, PyData.eqv]
  | n, m, .str a, y, _, h => by cases y <;> first | rfl | (cases m <;> simp [D.fin] at h) | simp [eqB, D.py, PyData.eqv]
  | 0, _, .tup _, _, h, _ => by simp [D.fin] at h
  | 0, _, .lst _, _, h, _ => by simp [D.fin] at h
  | n + 1, m, .tup xs, y, hx, h => by
    cases y with
    | tup ys =>
      cases m with
      | zero => simp [D.fin] at h
      | succ m =>
        simp only [eqB, D.py, PyData.eqv]
        exact eqBs_py n m xs ys (by simpa [D.fin] using hx) (by simpa [D.fin] using h)
    | _ => first | rfl | (cases m <;> simp [D.fin] at h) | simp [eqB, D.py, PyData.eqv]
  | n + 1, m, .lst xs, y, hx, h => by
    cases y with
    | lst ys =>
      cases m with
      | zero => simp [D.fin] at h
      | succ m =>
        simp only [eqB, D.py, PyData.eqv]
        exact eqBs_py n m xs ys (by simpa [D.fin] using hx) (by simpa [D.fin] using h)
    | _ => first | rfl | (cases m <;> simp [D.fin] at h) | simp [eqB, D.py, PyData.eqv]
  | n, _, .dct _, _, h, _ => by cases n <;> simp [D.fin] at h
  | n, _, .obj _ _, _, h, _ => by cases n <;> simp [D.fin] at h
  | n, _, .ref _, _, h, _ => by cases n <;> simp [D.fin] at h
theorem eqBs_py : ∀ (n m : Nat) (xs ys : List D), D.fins n xs = true → D.fins m ys = true → eqBs xs ys = PyData.eqvAll (D.pys xs) (D.pys ys)
  | _, _, [], [], _, _ => rfl
  | _, _, [], _ :: _, _, _ => rfl
  | _, _, _ :: _, [], _, _ => rfl
  | n, m, x :: xs, y :: ys, hx, hy => by
    simp only [D.fins, Bool.and_eq_true] at hx hy
    simp only [eqBs, D.pys, PyData.eqvAll, eqB_py n m x y hx.1 hy.1, eqBs_py n m xs ys hx.2 hy.2]
end
mutual
theorem alk_py : ∀ (x y : D), alk x y = true → PySem.W.alike x.py y.py = true
  | .non, y, h => by cases y <;> first | rfl | simp [alk] at h
  | .bl a, y, h => by cases y <;> first | rfl | simp [alk] at h
  | .int a, y, h => by cases y <;> first | rfl | simp [alk] at h
  | .str a, y, h => by cases y <;> first | rfl | simp [alk] at h
  | .tup xs, y, h => by
    cases y with
    | tup ys => simp only [D.py, PySem.W.alike]; exact alks_py xs ys (by simpa [alk] using h)
    | _ => simp [alk] at h
  | .lst xs, y, h => by
    cases y with
    | lst ys => simp only [D.py, PySem.W.alike]; exact alks_py xs ys (by simpa [alk] using h)
    | _ => simp [alk] at h
  | .dct _, y, h => by simp [alk] at h
  | .obj _ _, y, h => by simp [alk] at h
  | .ref _, y, h => by simp [alk] at h
theorem alks_py : ∀ (xs ys : List D), alks xs ys = true → PySem.W.alikeAll (D.pys xs) (D.pys ys) = true
  | [], _, _ => by simp [D.pys, PySem.W.alikeAll]
  | _ :: _, [], _ => by simp [D.pys, PySem.W.alikeAll]
  | x :: xs, y :: ys, h => by
    simp only [alks, Bool.and_eq_true] at h
    simp [D.pys, PySem.W.alikeAll, alk_py x y h.1, alks_py xs ys h.2]
end
mutual
theorem ltB_py : ∀ (n m : Nat) (x y : D), x.fin n = true → y.fin m = true → alk x y = true → ltB x y = PySem.W.dataLt x.py y.py
  | n, m, .non, y, _, _, h => by cases y <;> first | rfl | simp [alk] at h
  | n, m, .bl a, y, _, _, h => by
    cases y with
    | bl b =>
      simp only [ltB, D.py, PySem.W.dataLt_bool]
      cases a <;> cases b <;> rfl
    | _ => simp [alk] at h
  | n, m, .int a, y, _, _, h => by
    cases y with
    | int b => simp only [ltB, D.py, PySem.W.dataLt_int]
    | _ => simp [alk] at h
  | n, m, .str a, y, _, _, h => by
    cases y with
    | str b => simp only [ltB, D.py, PySem.W.dataLt_str]
    | _ => simp [alk] at h
  | 0, _, .tup _, _, h, _, _ => by simp [D.fin] at h
  | 0, _, .lst _, _, h, _, _ => by simp [D.fin] at h
  | n + 1, m, .tup xs, y, hx, h, ha => by
    cases y with
    | tup ys =>
      cases m with
      | zero => simp [D.fin] at h
      | succ m =>
        simp only [ltB, D.py, PySem.W.dataLt_tuple]
        exact ltBs_py n m xs ys (by simpa [D.fin] using hx) (by simpa [D.fin] using h) (by simpa [alk] using ha)
    | _ => simp [alk] at ha
  | n + 1, m, .lst xs, y, hx, h, ha => by
    cases y with
    | lst ys =>
      cases m with
      | zero => simp [D.fin] at h
      | succ m =>
        simp only [ltB, D.py, PySem.W.dataLt_list]
        exact ltBs_py n m xs ys (by simpa [D.fin] using hx) (by simpa [D.fin] using h) (by simpa [alk] using ha)
    | _ => simp [alk] at ha
  | n, _, .dct _, _, h, _, _ => by cases n <;> simp [D.fin] at h
  | n, _, .obj _ _, _, h, _, _ => by cases n <;> simp [D.fin] at h
  | n, _, .ref _, _, h, _, _ => by cases n <;> simp [D.fin] at h
theorem ltBs_py : ∀ (n m : Nat) (xs ys : List D), D.fins n xs = true → D.fins m ys = true → alks xs ys = true → ltBs xs ys = PyProof.Rows.lexLt PyProof.Rows.itemOrd (PySem.W.keyToksAll (D.pys xs)) (PySem.W.keyToksAll (D.pys ys))
  | _, _, [], [], _, _, _ => by decide +kernel
  | _, _, [], y :: ys, _, _, _ => by
    simp only [ltBs, D.pys, PySem.W.keyToksAll]
    rw [PySem.W.lex_atom (by decide)]
    decide +kernel
  | _, _, x :: xs, [], _, _, _ => by
    simp only [ltBs, D.pys, PySem.W.keyToksAll]
    rw [PySem.W.lex_atom (by decide)]
    decide +kernel
  | n, m, x :: xs, y :: ys, hx, hy, ha => by
    simp only [D.fins, Bool.and_eq_true] at hx hy
    simp only [alks, Bool.and_eq_true] at ha
    have e := eqB_py n m x y hx.1 hy.1
    simp only [ltBs, D.pys]
    cases he : eqB x y with
    | true =>
      rw [PySem.W.dataLt_all_yes (alk_py _ _ ha.1) (by rw [← e]; exact he)]
      exact ltBs_py n m xs ys hx.2 hy.2 ha.2
    | false =>
      rw [PySem.W.dataLt_all_no (alk_py _ _ ha.1) (by rw [← e]; exact he)]
      exact ltB_py n m x y hx.1 hy.1 ha.1
end
mutual
theorem alk_symm : ∀ (x y : D), alk x y = true → alk y x = true
  | .tup xs, y, h => by
    cases y with
    | tup ys => simp only [alk] at h ⊢; exact alks_symm xs ys h
    | _ => simp [alk] at h
  | .lst xs, y, h => by
    cases y with
    | lst ys => simp only [alk] at h ⊢; exact alks_symm xs ys h
    | _ => simp [alk] at h
  | .non, y, h => by cases y <;> first | rfl | simp [alk] at h
  | .bl _, y, h => by cases y <;> first | rfl | simp [alk] at h
  | .int _, y, h => by cases y <;> first | rfl | simp [alk] at h
  | .str _, y, h => by cases y <;> first | rfl | simp [alk] at h
  | .dct _, y, h => by simp [alk] at h
  | .obj _ _, y, h => by simp [alk] at h
  | .ref _, y, h => by simp [alk] at h
theorem alks_symm : ∀ (xs ys : List D), alks xs ys = true → alks ys xs = true
  | [], [], _ => by simp [alks]
  | [], _ :: _, _ => by simp [alks]
  | _ :: _, [], _ => by simp [alks]
  | x :: xs, y :: ys, h => by
    simp only [alks, Bool.and_eq_true] at h ⊢
    exact ⟨alk_symm x y h.1, alks_symm xs ys h.2⟩
end
end Ev

set_option autoImplicit false
set_option linter.all false
set_option maxRecDepth 100000
/-! Operators over data. -/
namespace Ev
open PySem L2 PyProof.Rows
variable {N : Nms}
section
variable {n : Nat} {ad : Nat → Addr} {B H : Hp} {M : Addr → Prop} {v : V}
theorem RepW.nonI (h : RepW N n ad B H v .non) : v = .non := by
  generalize e : D.non = d at h
  cases h with
  | d h => subst e; cases h; rfl
  | c ok => rename_i c; cases c <;> cases e
theorem RepW.intI {i : Int} (h : RepW N n ad B H v (.int i)) : v = .int i := by
  generalize e : D.int i = d at h
  cases h with
  | d h => subst e; cases h; rfl
  | c ok => rename_i c; cases c <;> cases e
theorem RepW.blI {i : Bool} (h : RepW N n ad B H v (.bl i)) : v = .bl i := by
  generalize e : D.bl i = d at h
  cases h with
  | d h => subst e; cases h; rfl
  | c ok => rename_i c; cases c <;> cases e
theorem RepW.strI {i : Str} (h : RepW N n ad B H v (.str i)) : v = .str i := by
  generalize e : D.str i = d at h
  cases h with
  | d h => subst e; cases h; rfl
  | c ok => rename_i c; cases c <;> cases e
theorem sm_le {H : Hp} {M : Addr → Prop} : Sm (msk H M) H := .of msk_le
theorem RepW.tupI {ds : List D} (h : RepW N n ad (msk H M) H v (.tup ds)) : ∃ a xs, v = .ref a ∧ SqT N.K (msk H M) a xs ∧ SqT N.K H a xs ∧ RepDs N n ad (msk H M) xs ds := by
  generalize e : D.tup ds = d at h
  cases h with
  | d h => subst e; cases h with | tup s r => exact ⟨_, _, rfl, s, SqT.sm sm_le s, r⟩
  | c ok => rename_i c; cases c <;> cases e
theorem RepW.lstI {ds : List D} (h : RepW N n ad (msk H M) H v (.lst ds)) : ∃ a xs, v = .ref a ∧ SqL N.K H a xs ∧ RepDs N n ad (msk H M) xs ds := by
  generalize e : D.lst ds = d at h
  cases h with
  | d h => subst e; cases h with | lst s r => exact ⟨_, _, rfl, SqL.sm sm_le s, r⟩
  | c ok =>
    rename_i c
    cases c <;> cases e
    obtain ⟨xs, h1, h2⟩ := ok
    exact ⟨_, _, rfl, SqL.of h1, h2⟩
theorem RepW.dctI {ds : List (D × D)} (h : RepW N n ad (msk H M) H v (.dct ds)) : ∃ a kvs, v = .ref a ∧ Rd H a (.dK kvs) ∧ RepKs N n ad (msk H M) kvs ds := by
  generalize e : D.dct ds = d at h
  cases h with
  | d h => subst e; cases h with | dK s r => exact ⟨_, _, rfl, Rd.smK sm_le s, r⟩
  | c ok =>
    rename_i c
    cases c <;> cases e
    obtain ⟨xs, h1, h2⟩ := ok
    exact ⟨_, _, rfl, .inl h1, h2⟩
theorem RepW.objI {c : Nat} {fs : List (Nat × D)} (h : RepW N n ad (msk H M) H v (.obj c fs)) : ∃ a dx fv, v = .ref a ∧ H a = some (.ins (N.cl c) dx fv) ∧ RepFs N n ad (msk H M) fv fs := by
  generalize e : D.obj c fs = d at h
  cases h with
  | d h =>
    subst e
    cases h with
    | obj s r => exact ⟨_, _, _, rfl, (msk_get s).1, r⟩
  | c ok =>
    rename_i c
    cases c <;> cases e
    obtain ⟨dx, xs, h1, h2⟩ := ok
    exact ⟨_, _, _, rfl, h1, h2⟩
/-- all of it as data of the whole heap -/
theorem RepW.full {x : D} (h : RepW N n ad (msk H M) H v x) : RepD N n ad H v x := by
  cases h with
  | d h => exact RepD.mono (Nat.le_refl _) (fun _ _ => rfl) sm_le _ h
  | c ok => exact CelOk.toD sm_le rfl _ ok
/-- an object that is new -/
theorem new_same {p : Addr} {o : HO} (hp : H p = none) : Same H (upd H p o) := fun b u e => by rw [upd_ne (ne_of_none e hp)]; exact e
theorem new_msk {p : Addr} {o : HO} (hM : ∀ p, M p → ∃ o, H p = some o) (hp : H p = none) : msk (upd H p o) M p = some o ∧ Sm (msk H M) (msk (upd H p o) M) := by
  refine ⟨?_, .of (msk_same (new_same hp))⟩
  rw [msk_of fun m => ?_]
  · exact upd_same
  · obtain ⟨u, hu⟩ := hM p m
    rw [hp] at hu; cases hu
theorem new_tup {p : Addr} {ys : List V} {es : List D} (hM : ∀ p, M p → ∃ o, H p = some o) (hp : H p = none) (r : RepDs N n ad (msk H M) ys es) : RepD N n ad (msk (upd H p (.tup ys)) M) (.ref p) (.tup es) :=
  let ⟨h1, h2⟩ := new_msk (o := .tup ys) hM hp
  .tup (SqT.of h1) (RepDs.mono (Nat.le_refl _) (fun _ _ => rfl) h2 _ r)
theorem new_lst {p : Addr} {ys : List V} {es : List D} (hM : ∀ p, M p → ∃ o, H p = some o) (hp : H p = none) (r : RepDs N n ad (msk H M) ys es) : RepD N n ad (msk (upd H p (.lst ys)) M) (.ref p) (.lst es) :=
  let ⟨h1, h2⟩ := new_msk (o := .lst ys) hM hp
  .lst (SqL.of h1) (RepDs.mono (Nat.le_refl _) (fun _ _ => rfl) h2 _ r)
end
/-- an operator over data -/
def rD2 (N : Nms) (f : D → D → Option D) : R2 := fun x y H Q => ∃ n ad M a b z, (∀ p, M p → ∃ o, H p = some o) ∧ RepW N n ad (msk H M) H x a ∧ RepW N n ad (msk H M) H y b ∧ f a b = some z ∧ ∀ v H', Same H H' → RepD N n ad (msk H' M) v z → Q v H'
def rD1 (N : Nms) (f : D → Option D) : V → Hp → VK → Prop := fun x H Q => ∃ n ad M a z, (∀ p, M p → ∃ o, H p = some o) ∧ RepW N n ad (msk H M) H x a ∧ f a = some z ∧ ∀ v H', Same H H' → RepD N n ad (msk H' M) v z → Q v H'
inductive RepWs (N : Nms) (n : Nat) (ad : Nat → Addr) (B H : Hp) : List V → List D → Prop
  | nil : RepWs N n ad B H [] []
  | cons {v : V} {vs : List V} {x : D} {xs : List D} : RepW N n ad B H v x → RepWs N n ad B H vs xs → RepWs N n ad B H (v :: vs) (x :: xs)
def rDs (N : Nms) (f : List D → Option D) : List V → Hp → VK → Prop := fun xs H Q => ∃ n ad M as z, (∀ p, M p → ∃ o, H p = some o) ∧ RepWs N n ad (msk H M) H xs as ∧ f as = some z ∧ ∀ v H', Same H H' → RepD N n ad (msk H' M) v z → Q v H'
section
variable {W : WX} {α β : Type}
theorem tX_two {r : R2} {f : D → D → Option D} {ma mb : M PV} (hr : ∀ x y H Q, rD2 N f x y H Q → r x y H Q) : ∀ σ H Q, tX N W (two ma mb f) σ H Q → tOp r (tX N W ma) (tX N W mb) σ H Q := by
  rintro σ H Q ⟨ad, s, F, R, h⟩
  refine ⟨ad, s, F, R, (Gar.bind h).mono fun a s1 ad1 H1 R1 P1 h1 x rx => ?_⟩
  refine ⟨ad1, s1, F, R1, (Gar.bind h1).mono fun b s2 ad2 H2 R2 P2 h2 y ry => ?_⟩
  have rx2 := rx.post P2
  cases hx : a.val s2 with
  | none => simp only [hx] at h2; exact h2.elim
  | some dx =>
    cases hy : b.val s2 with
    | none => simp only [hx, hy] at h2; exact h2.elim
    | some dy =>
      cases hf : f dx dy with
      | none => simp only [hx, hy, hf] at h2; exact h2.elim
      | some z =>
        simp only [hx, hy, hf] at h2
        exact hr _ _ _ _ ⟨_, _, Mk ad2 σ s2 F, dx, dy, z, fun p m => R2.masked m, rx2.val R2 hx, ry.val R2 hy, hf, fun v H3 sm r3 => h2 ad2 H3 (R2.grow sm) (.grow R2 sm) v r3⟩
theorem tX_one {r : V → Hp → VK → Prop} {f : D → Option D} {ma : M PV} (hr : ∀ x H Q, rD1 N f x H Q → r x H Q) : ∀ σ H Q, tX N W (one ma f) σ H Q → tUn r (tX N W ma) σ H Q := by
  rintro σ H Q ⟨ad, s, F, R, h⟩
  refine ⟨ad, s, F, R, (Gar.bind h).mono fun a s2 ad2 H2 R2 P2 h2 x rx => ?_⟩
  cases hx : a.val s2 with
  | none => simp only [hx] at h2; exact h2.elim
  | some dx =>
    cases hf : f dx with
    | none => simp only [hx, hf] at h2; exact h2.elim
    | some z =>
      simp only [hx, hf] at h2
      exact hr _ _ _ ⟨_, _, Mk ad2 σ s2 F, dx, z, fun p m => R2.masked m, rx.val R2 hx, hf, fun v H3 sm r3 => h2 ad2 H3 (R2.grow sm) (.grow R2 sm) v r3⟩
theorem RepPs.val {ad : Nat → Addr} {σ : L2.St} {H : Hp} {s : S} {F : Addr → Prop} (R : Rel N ad σ H s F) : ∀ {vs : List V} {xs : List PV} {ds : List D}, RepPs N ad σ H s F vs xs → valsOf s xs = some ds → RepWs N s.cel.length ad (msk H (Mk ad σ s F)) H vs ds
  | _, _, ds, .nil, h => by cases h; exact .nil
  | _, _, ds, .cons (x := x) (xs := xs) a b, h => by
    unfold valsOf at h
    cases hx : x.val s with
    | none => rw [hx] at h; cases h
    | some d =>
      rw [hx] at h
      cases hr : valsOf s xs with
      | none => rw [hr] at h; cases h
      | some ds' =>
        rw [hr] at h; cases h
        exact .cons (a.val R hx) (RepPs.val R b hr)
theorem RepPs.post {ad ad' : Nat → Addr} {σ : L2.St} {H H' : Hp} {s s' : S} {F : Addr → Prop} (P : Post ad σ H s ad' σ H' s' F) : ∀ {vs : List V} {xs : List PV}, RepPs N ad σ H s F vs xs → RepPs N ad' σ H' s' F vs xs
  | _, _, .nil => .nil
  | _, _, .cons a b => .cons (a.post P) (RepPs.post P b)
/-- a built-in's call -/
theorem tX_bi {r : List V → Hp → VK → Prop} {b : Bi} {m : M (List PV)} (hr : ∀ x H Q, rDs N (biF b) x H Q → r x H Q) : ∀ σ H Q, tX N W (M.bind m fun xs => biM b xs) σ H Q → tCB r (tPs N W m) σ H Q := by
  rintro σ H Q ⟨ad, s, F, R, h⟩
  refine ⟨ad, s, F, R, (Gar.bind h).mono fun xs s2 ad2 H2 R2 P2 h2 vs rv => ?_⟩
  unfold biM at h2
  cases hx : valsOf s2 xs with
  | none => simp only [hx] at h2; exact h2.elim
  | some ds =>
    cases hf : biF b ds with
    | none => simp only [hx, hf] at h2; exact h2.elim
    | some z =>
      simp only [hx, hf] at h2
      exact hr _ _ _ ⟨_, _, Mk ad2 σ s2 F, ds, z, fun p m => R2.masked m, rv.val R2 hx, hf, fun v H3 sm r3 => h2 ad2 H3 (R2.grow sm) (.grow R2 sm) v r3⟩
end
def opS : Op → Operator
  | .add => .Add | .sub => .Sub | .mul => .Mult | .fdiv => .FloorDiv | .mod => .Mod | .pow => .Pow
theorem sizeLine_line : sizeLine = line := by rw [sizeLine_eq]; rfl
section
variable {X : Cx} {a b : Addr} {xs ys : List V}
/-- list + list, of any lists that are read -/
theorem op_catL : OpR X (binaryOp .Add) (fun x y H Q => ∃ l b xs zs, x = .ref l ∧ y = .ref b ∧ SqL X.K H l xs ∧ SqL X.K H b zs ∧ xs.length + zs.length ≤ sizeLine ∧ ∀ p, H p = none → Q (.ref p) (upd H p (.lst (xs ++ zs)))) := by
  intro pins s σ H x y v u Q I rx ry h
  obtain ⟨l, b, xs, zs, rfl, rfl, hH, hB, hz, q⟩ := h
  cases rx
  cases ry
  obtain ⟨its, r, ⟨⟨cls, dd, data, sl⟩, n, ho, hc, hn, hd⟩, z⟩ := I.list hH
  obtain ⟨its2, r2, ⟨⟨cls2, dd2, data2, sl2⟩, n2, ho2, hc2, hn2, hd2⟩, z2⟩ := I.list hB
  simp only at hc hd hc2 hd2
  subst hc hd hc2 hd2
  have e : its.toArray ++ its2.toArray = (its ++ its2).toArray := by simp
  have l1 := r.length
  have l2 := r2.length
  refine concat_meets ⟨_, ho, rfl⟩ ⟨_, ho2, rfl⟩ noFill_list_add seq_list_add PySem.F.slot_list_add PySem.F.entry_list_add (PySem.F.args_list_add_2 _ _) (list_addW l b its.toArray its2.toArray n n2 dd dd2 sl sl2 (by simp; omega)) ⟨ho, ho2, ?_⟩
  rw [e]
  exact ⟨.ref _, _, I.lnew (t' := s.toks) (r.append r2) (by rw [List.length_append]; omega), rfl, q _ I.fresh⟩
end
/-! ### tuple * 1 -/
open PySem in
theorem tuple_mul1 (l : Addr) (items : Array Value) (n : Nat) (dd : Option Addr) (sl : Array (Option Value)) (u : Tok) :
    Meets (Builtin.«tuple.__mul__» ⟨[.ref l, .int 1 u], []⟩) (fun _ R s => s.heap.get? l = some { cls := .type "tuple", dict := dd, data := .seq items n, slots := sl } ∧ R (.ok (.ret (Value.ref l))) s) :=
  .of_wp fun prog w A R s h => by
    obtain ⟨hp, g, d, tk, os⟩ := s
    obtain ⟨hl, h⟩ := h
    have f1 := AutoSeq1.idx_int
    have c1 : (items.isEmpty || (1 : Int) == 1) = true := by rw [Bool.or_eq_true]; exact .inr rfl
    wp_walk using AutoSeq1.wpAny_loadPart' hl
    repeat (first
      | (refine wpAny_ite_true (decide_eq_true c1) ?_; wp_walk using AutoSeq1.wpAny_loadPart' hl))
    exact ⟨_, rfl, h⟩
section
variable {X : Cx}
theorem op_rep1 : OpR X (binaryOp .Mult) (fun x y H Q => ∃ l xs, x = .ref l ∧ y = .int 1 ∧ SqT X.K H l xs ∧ Q (.ref l) H) := by
  intro pins s σ H x y v u Q I rx ry h
  obtain ⟨l, xs, rfl, rfl, hT, q⟩ := h
  cases rx
  obtain ⟨t, rfl⟩ := ry
  obtain ⟨its, r, ⟨⟨cls, dd, data, sl⟩, ho, hc, n, hd⟩, hs⟩ := I.tuple hT
  simp only at hc hd
  subst hc hd
  exact wpAny_binaryOp_repeat_ref (T := "tuple") (U := "int") (by decide) ⟨_, ho, rfl⟩ (fun s' => typeIs_int s' 1 t) noFill_tuple_mul F.fills_int_mul F.slot_int_rmul repeat_tuple F.slot_int_index.lookup
    (call_meets F.slot_int_rmul (typeIs_int s 1 t) F.entry_int_rmul (F.args_int_rmul_2 _ _) (int_rmul_tuple 1 t l its.toArray n dd sl)
      ⟨ho, rfl, ⟨_, ho, rfl⟩, call_meets F.slot_tuple_mul ⟨_, ho, rfl⟩ F.entry_tuple_mul (F.args_tuple_mul_2 _ _) (tuple_mul1 l its.toArray n dd sl t) ⟨ho, ⟨.ref l, H, I, rfl, q⟩⟩⟩)
end
section
variable {X : Cx}
theorem op_bin (hK : X.K = N.K) (op : Op) : OpR X (binaryOp (opS op)) (rD2 N (binF op)) := by
  intro pins s σ H x y v u Q I rx ry h
  obtain ⟨n, ad, M, a, b, z, hM, ra, rb, hf, q⟩ := h
  cases op with
  | add =>
    cases a <;> cases b <;> simp only [binF] at hf <;> try (cases hf; done)
    · rename_i i j
      obtain rfl := ra.intI
      obtain rfl := rb.intI
      cases hf
      exact op_add pins s σ H _ _ v u Q I rx ry ⟨_, _, rfl, rfl, q _ _ (Same.refl _) (.int _)⟩
    · obtain rfl := ra.strI
      obtain rfl := rb.strI
      split at hf
      · rename_i hl
        cases hf
        exact op_add_str pins s σ H _ _ v u Q I rx ry ⟨_, _, rfl, rfl, by rw [sizeLine_line]; exact hl, q _ _ (Same.refl _) (.str _)⟩
      · cases hf
    · rename_i ds es
      obtain ⟨a, xs, rfl, sa', sa, da⟩ := ra.tupI
      obtain ⟨b, ys, rfl, sb', sb, db⟩ := rb.tupI
      split at hf
      · rename_i hl
        cases hf
        rw [← hK] at sa sb
        refine op_catA pins s σ H _ _ v u Q I rx ry ⟨_, _, _, _, rfl, rfl, sa, sb, by rw [sizeLine_line, da.length, db.length]; exact hl, fun e => ?_, fun _ e => ?_, fun _ _ p hp => ?_⟩
        · subst e
          cases da
          exact q _ _ (Same.refl _) (.tup sb' db)
        · subst e
          cases db
          rw [List.append_nil] at q
          exact q _ _ (Same.refl _) (.tup sa' da)
        · exact q _ _ (new_same hp) (new_tup hM hp (da.append db))
      · cases hf
    · rename_i ds es
      obtain ⟨a, xs, rfl, sa, da⟩ := ra.lstI
      obtain ⟨b, ys, rfl, sb, db⟩ := rb.lstI
      split at hf
      · rename_i hl
        cases hf
        rw [← hK] at sa sb
        exact op_catL pins s σ H _ _ v u Q I rx ry ⟨_, _, _, _, rfl, rfl, sa, sb, by rw [sizeLine_line, da.length, db.length]; exact hl, fun p hp => q _ _ (new_same hp) (new_lst hM hp (da.append db))⟩
      · cases hf
  | sub =>
    cases a <;> cases b <;> simp only [binF] at hf <;> try (cases hf; done)
    obtain rfl := ra.intI
    obtain rfl := rb.intI
    cases hf
    exact op_sub pins s σ H _ _ v u Q I rx ry ⟨_, _, rfl, rfl, q _ _ (Same.refl _) (.int _)⟩
  | mul =>
    cases a <;> cases b <;> simp only [binF] at hf <;> try (cases hf; done)
    · rename_i i j
      obtain rfl := ra.intI
      obtain rfl := rb.intI
      split at hf
      · rename_i hc
        cases hf
        rcases hc with hc | hc | hc
        · exact op_mul pins s σ H _ _ v u Q I rx ry ⟨_, _, rfl, rfl, .inl ⟨by omega, by omega⟩, q _ _ (Same.refl _) (.int _)⟩
        · exact op_mul pins s σ H _ _ v u Q I rx ry ⟨_, _, rfl, rfl, .inr ⟨by omega, by omega⟩, q _ _ (Same.refl _) (.int _)⟩
        · exact op_mulW pins s σ H _ _ v u Q I rx ry ⟨_, _, rfl, rfl, hc, q _ _ (Same.refl _) (.int _)⟩
      · cases hf
    · rename_i ds j
      cases ds with
      | nil => cases hf
      | cons d0 ds =>
      obtain ⟨a, xs, rfl, sa', sa, da⟩ := ra.tupI
      obtain rfl := rb.intI
      simp only at hf
      split at hf
      · rename_i hl
        cases hf
        rw [← hK] at sa
        have le := da.length
        by_cases h1 : j = 1
        · subst h1
          have e1 : (List.replicate (1 : Int).toNat (d0 :: ds)).flatten = d0 :: ds := by simp
          rw [e1] at q
          exact op_rep1 pins s σ H _ _ v u Q I rx ry ⟨_, _, rfl, rfl, sa, q _ _ (Same.refl _) (.tup sa' da)⟩
        refine op_repT pins s σ H _ _ v u Q I rx ry ⟨_, _, _, rfl, rfl, sa, ?_, by omega, hl.2.1, by rw [le]; exact hl.2.2, fun p hp => ?_⟩
        · intro e; subst e; simp at le
        · exact q _ _ (new_same hp) (new_tup hM hp (da.rep _))
      · cases hf
  | fdiv =>
    cases a <;> cases b <;> simp only [binF] at hf <;> try (cases hf; done)
    obtain rfl := ra.intI
    obtain rfl := rb.intI
    split at hf
    · rename_i hc
      cases hf
      exact op_fdivW pins s σ H _ _ v u Q I rx ry ⟨_, _, rfl, rfl, hc, q _ _ (Same.refl _) (.int _)⟩
    · cases hf
  | mod =>
    cases a <;> cases b <;> simp only [binF] at hf <;> try (cases hf; done)
    obtain rfl := ra.intI
    obtain rfl := rb.intI
    split at hf
    · rename_i hc
      cases hf
      exact op_mod pins s σ H _ _ v u Q I rx ry ⟨_, _, rfl, rfl, hc, q _ _ (Same.refl _) (.int _)⟩
    · cases hf
  | pow =>
    cases a <;> cases b <;> simp only [binF] at hf <;> try (cases hf; done)
    obtain rfl := ra.intI
    obtain rfl := rb.intI
    split at hf
    · rename_i hc
      cases hf
      exact op_pow pins s σ H _ _ v u Q I rx ry ⟨_, _, rfl, rfl, ⟨hc.1, by omega, hc.2.2⟩, q _ _ (Same.refl _) (.int _)⟩
    · cases hf
end
end Ev

set_option autoImplicit false
set_option linter.all false
set_option maxRecDepth 100000
/-! Comparisons, places, built-ins. -/
namespace Ev
open PySem L2 PyProof.Rows
variable {N : Nms}
def cmS : Cm → CmpOp
  | .eq => .Eq | .ne => .NotEq | .lt => .Lt | .le => .LtE | .gt => .Gt | .ge => .GtE | .inn => .In | .nin => .NotIn | .isN => .Is | .notN => .IsNot
theorem nonB_of {n : Nat} {ad : Nat → Addr} {H : Hp} {M : Addr → Prop} {v : V} {x : D} (h : RepW N n ad (msk H M) H v x) : decide (v = .non) = nonB x := by
  cases h with
  | d h => cases h <;> rfl
  | c ok => rename_i c; cases c <;> rfl
theorem pys_len : ∀ xs : List D, (D.pys xs).length = xs.length
  | [] => rfl
  | x :: xs => by simp [D.pys, pys_len xs]
theorem any_py {x : D} {n : Nat} (hx : x.fin n = true) : ∀ ys : List D, D.fins n ys = true → (ys.any fun y => eqB y x) = (D.pys ys).any fun z => PyData.eqv z x.py
  | [], _ => rfl
  | y :: ys, h => by
    simp only [D.fins, Bool.and_eq_true] at h
    simp only [List.any_cons, D.pys, eqB_py n n y x h.1 hx, any_py hx ys h.2]
section
variable {X : Cx}
theorem fin_bl {pins : List (Addr × Obj)} {σ : L2.St} {H : Hp} {s : Shared} {Q : VK} {b : Bool} (I : Inv X pins σ H s) (q : Q (.bl b) H) : EP X pins σ Q (.bool b) s := ⟨.bl b, H, I, rfl, q⟩
theorem op_cmp (hK : X.K = N.K) (hu : X.A.units + 200 < cLine) (c : Cm) : OpR X (compareOp (cmS c)) (rD2 N fun x y => (cmpF c x y).map .bl) := by
  intro pins s σ H x y v u Q I rx ry h
  obtain ⟨n, ad, M, a, b, z, hM, ra, rb, hf, q⟩ := h
  have q' : ∀ k, z = .bl k → Q (.bl k) H := fun k e => by subst e; exact q _ _ (Same.refl _) (.bl k)
  have rdA : ∀ {m : Nat}, a.fin m = true → ∃ as, Reads s.heap v a.py as := fun {m} hm => RepD.reads hK I m a hm ra.full rx
  have rdB : ∀ {m : Nat}, b.fin m = true → ∃ as, Reads s.heap u b.py as := fun {m} hm => RepD.reads hK I m b hm rb.full ry
  cases c with
  | eq =>
    simp only [cmpF, eqF] at hf
    split at hf
    · rename_i hc
      simp only [Bool.and_eq_true] at hc
      cases hf
      obtain ⟨as, h1⟩ := rdA hc.1
      obtain ⟨bs, h2⟩ := rdB hc.2
      obtain ⟨p1, p2⟩ := fin_plain _ _ hc.1
      obtain ⟨p3, p4⟩ := fin_plain _ _ hc.2
      refine SeqAt.eq_plain h1 h2 p1 p3 (by unfold dep at *; omega) (fin_bl I ?_)
      rw [← eqB_py _ _ _ _ hc.1 hc.2]
      exact q' _ rfl
    · cases hf
  | ne =>
    simp only [cmpF, eqF] at hf
    split at hf
    · rename_i hc
      simp only [Bool.and_eq_true] at hc
      cases hf
      obtain ⟨as, h1⟩ := rdA hc.1
      obtain ⟨bs, h2⟩ := rdB hc.2
      obtain ⟨p1, p2⟩ := fin_plain _ _ hc.1
      obtain ⟨p3, p4⟩ := fin_plain _ _ hc.2
      refine SeqAt.ne_plain h1 h2 p1 p3 (by unfold dep at *; omega) (fin_bl I ?_)
      rw [← eqB_py _ _ _ _ hc.1 hc.2]
      exact q' _ rfl
    · cases hf
  | lt =>
    simp only [cmpF, ltF] at hf
    split at hf
    · rename_i hc
      simp only [Bool.and_eq_true, Bool.not_eq_true'] at hc
      obtain ⟨⟨⟨h1, h2⟩, h3⟩, h4⟩ := hc
      cases hf
      obtain ⟨as, r1⟩ := rdA h1
      obtain ⟨bs, r2⟩ := rdB h2
      obtain ⟨p1, p2⟩ := fin_plain _ _ h1
      refine PySem.W.lt_data r1 r2 (alk_py _ _ h3) (by cases a <;> simp_all [D.py, nonB, D.fin, dep]) (by unfold dep at *; omega) (fin_bl I ?_)
      rw [← ltB_py _ _ _ _ h1 h2 h3]
      exact q' _ rfl
    · cases hf
  | gt =>
    simp only [cmpF, ltF] at hf
    split at hf
    · rename_i hc
      simp only [Bool.and_eq_true, Bool.not_eq_true'] at hc
      obtain ⟨⟨⟨h1, h2⟩, h3⟩, h4⟩ := hc
      cases hf
      obtain ⟨as, r1⟩ := rdA h2
      obtain ⟨bs, r2⟩ := rdB h1
      obtain ⟨p1, p2⟩ := fin_plain _ _ h2
      have h3' := alk_symm _ _ h3
      refine PySem.W.gt_data r1 r2 (alk_py _ _ h3') (by cases a <;> cases b <;> simp_all [D.py, nonB, alk]) (by unfold dep at *; omega) (fin_bl I ?_)
      rw [← ltB_py _ _ _ _ h1 h2 h3]
      exact q' _ rfl
    · cases hf
  | le =>
    simp only [cmpF, ltF] at hf
    split at hf
    · rename_i hc
      simp only [Bool.and_eq_true, Bool.not_eq_true'] at hc
      obtain ⟨⟨⟨h1, h2⟩, h3⟩, h4⟩ := hc
      cases hf
      obtain ⟨as, r1⟩ := rdA h2
      obtain ⟨bs, r2⟩ := rdB h1
      obtain ⟨p1, p2⟩ := fin_plain _ _ h2
      have h3' := alk_symm _ _ h3
      refine PySem.W.le_data r1 r2 (alk_py _ _ h3') (by cases a <;> cases b <;> simp_all [D.py, nonB, alk]) (by unfold dep at *; omega) (fin_bl I ?_)
      rw [← ltB_py _ _ _ _ h1 h2 h3]
      exact q' _ rfl
    · cases hf
  | ge =>
    simp only [cmpF, ltF] at hf
    split at hf
    · rename_i hc
      simp only [Bool.and_eq_true, Bool.not_eq_true'] at hc
      obtain ⟨⟨⟨h1, h2⟩, h3⟩, h4⟩ := hc
      cases hf
      obtain ⟨as, r1⟩ := rdA h1
      obtain ⟨bs, r2⟩ := rdB h2
      obtain ⟨p1, p2⟩ := fin_plain _ _ h1
      refine PySem.W.ge_data r1 r2 (alk_py _ _ h3) (by cases a <;> simp_all [D.py, nonB, D.fin, dep]) (by unfold dep at *; omega) (fin_bl I ?_)
      rw [← ltB_py _ _ _ _ h1 h2 h3]
      exact q' _ rfl
    · cases hf
  | inn =>
    cases b <;> simp only [cmpF, inF] at hf <;> try (cases hf; done)
    all_goals
      split at hf
      · rename_i ys hc
        simp only [Bool.and_eq_true] at hc
        cases hf
        obtain ⟨as, r1⟩ := rdA hc.1
        obtain ⟨bs, r2⟩ := rdB (m := dep + 1) (by simpa [D.fin] using hc.2)
        obtain ⟨p1, p2⟩ := fin_plain _ _ hc.1
        obtain ⟨p3, p4⟩ := fins_plain _ _ hc.2
        first
          | (refine SeqAt.in_list_data r2 r1 p3 p1 (by unfold dep at *; omega) (fin_bl I ?_)
             rw [← any_py hc.1 _ hc.2]
             exact q' _ rfl)
          | (refine SeqAt.in_tuple_data r2 r1 p3 p1 (by unfold dep at *; omega) (fin_bl I ?_)
             rw [← any_py hc.1 _ hc.2]
             exact q' _ rfl)
      · cases hf
  | nin =>
    cases b <;> simp only [cmpF, inF] at hf <;> try (cases hf; done)
    all_goals
      split at hf
      · rename_i ys hc
        simp only [Bool.and_eq_true] at hc
        cases hf
        obtain ⟨as, r1⟩ := rdA hc.1
        obtain ⟨bs, r2⟩ := rdB (m := dep + 1) (by simpa [D.fin] using hc.2)
        obtain ⟨p1, p2⟩ := fin_plain _ _ hc.1
        obtain ⟨p3, p4⟩ := fins_plain _ _ hc.2
        first
          | (refine SeqAt.notIn_list_data r2 r1 p3 p1 (by unfold dep at *; omega) (fin_bl I ?_)
             rw [← any_py hc.1 _ hc.2]
             exact q' _ rfl)
          | (refine SeqAt.notIn_tuple_data r2 r1 p3 p1 (by unfold dep at *; omega) (fin_bl I ?_)
             rw [← any_py hc.1 _ hc.2]
             exact q' _ rfl)
      · cases hf
  | isN =>
    cases b <;> simp only [cmpF] at hf <;> try (cases hf; done)
    · obtain rfl := rb.nonI
      cases hf
      refine op_isN pins s σ H x .non v u Q I rx ry ⟨rfl, ?_⟩
      rw [nonB_of ra]
      exact q' _ rfl
    · cases a <;> simp only [cmpF] at hf <;> try (cases hf; done)
      obtain rfl := ra.blI
      obtain rfl := rb.blI
      cases hf
      exact op_isBl pins s σ H _ _ v u Q I rx ry ⟨_, _, rfl, rfl, q' _ rfl⟩
  | notN =>
    cases b <;> simp only [cmpF] at hf <;> try (cases hf; done)
    · obtain rfl := rb.nonI
      cases hf
      refine op_notN pins s σ H x .non v u Q I rx ry ⟨rfl, ?_⟩
      rw [nonB_of ra]
      exact q' _ rfl
    · cases a <;> simp only [cmpF] at hf <;> try (cases hf; done)
      obtain rfl := ra.blI
      obtain rfl := rb.blI
      cases hf
      exact op_notBl pins s σ H _ _ v u Q I rx ry ⟨_, _, rfl, rfl, q' _ rfl⟩
end
end Ev

set_option autoImplicit false
set_option linter.all false
set_option maxRecDepth 100000
/-! Places, slices, built-ins. -/
namespace Ev
open PySem L2 PyProof.Rows
variable {N : Nms}
section
variable {n : Nat} {ad : Nat → Addr} {B H : Hp}
theorem RepDs.intsV : ∀ {xs : List V} {ds : List D} {is : List Int}, RepDs N n ad B xs ds → D.ints ds = some is → xs = is.map V.int
  | _, _, is, .nil, e => by cases e; rfl
  | _, _, is, .cons (d := d) (ds := ds) a b, e => by
    cases d <;> simp only [D.ints] at e <;> try (cases e; done)
    cases a
    cases h : D.ints ds with
    | none => rw [h] at e; cases e
    | some js =>
      rw [h] at e; cases e
      rw [RepDs.intsV b h]; rfl
theorem RepDs.blsV : ∀ {xs : List V} {ds : List D} {is : List Bool}, RepDs N n ad B xs ds → D.bls ds = some is → xs = is.map V.bl
  | _, _, is, .nil, e => by cases e; rfl
  | _, _, is, .cons (d := d) (ds := ds) a b, e => by
    cases d <;> simp only [D.bls] at e <;> try (cases e; done)
    cases a
    cases h : D.bls ds with
    | none => rw [h] at e; cases e
    | some js =>
      rw [h] at e; cases e
      rw [RepDs.blsV b h]; rfl
end
theorem minI_spec (x : Int) (xs : List Int) : minI x xs ∈ x :: xs ∧ ∀ y ∈ x :: xs, minI x xs ≤ y := by
  unfold minI
  induction xs generalizing x with
  | nil => simp
  | cons y ys ih =>
    simp only [List.foldl_cons]
    obtain ⟨h1, h2⟩ := ih (if y < x then y else x)
    refine ⟨?_, fun z hz => ?_⟩
    · rcases List.mem_cons.mp h1 with h | h
      · rw [h]; split <;> simp
      · simp [h]
    · have h3 := h2 (if y < x then y else x) (by simp)
      generalize List.foldl (fun a y => if y < a then y else a) (if y < x then y else x) ys = m at *
      rcases List.mem_cons.mp hz with rfl | hz
      · split at h3 <;> omega
      · rcases List.mem_cons.mp hz with rfl | hz
        · split at h3 <;> omega
        · exact h2 z (by simp [hz])
theorem maxI_spec (x : Int) (xs : List Int) : maxI x xs ∈ x :: xs ∧ ∀ y ∈ x :: xs, y ≤ maxI x xs := by
  unfold maxI
  induction xs generalizing x with
  | nil => simp
  | cons y ys ih =>
    simp only [List.foldl_cons]
    obtain ⟨h1, h2⟩ := ih (if x < y then y else x)
    refine ⟨?_, fun z hz => ?_⟩
    · rcases List.mem_cons.mp h1 with h | h
      · rw [h]; split <;> simp
      · simp [h]
    · have h3 := h2 (if x < y then y else x) (by simp)
      generalize List.foldl (fun a y => if a < y then y else a) (if x < y then y else x) ys = m at *
      rcases List.mem_cons.mp hz with rfl | hz
      · split at h3 <;> omega
      · rcases List.mem_cons.mp hz with rfl | hz
        · split at h3 <;> omega
        · exact h2 z (by simp [hz])
/-! ### places -/
theorem ixN_L2 (n : Nat) (i : Int) : Ev.ixN n i = L2.ixN n i := rfl
section
variable {X : Cx}
theorem ix_all (hK : X.K = N.K) : IxR X (rD2 N idxF) := by
  intro value slice pins s σ H x y v u Q I rx ry h hs
  obtain ⟨n, ad, M, a, b, z, hM, ra, rb, hf, q⟩ := h
  cases a <;> simp only [idxF] at hf <;> try (cases hf; done)
  · -- text
    rename_i tx
    cases b <;> simp only at hf <;> try (cases hf; done)
    rename_i i
    obtain rfl := ra.strI
    obtain rfl := rb.intI
    split at hf
    · rename_i hl
      cases hp : pickI tx.cps.toList i with
      | none => rw [hp] at hf; cases hf
      | some c =>
        rw [hp] at hf; cases hf
        exact ix_str value slice pins s σ H _ _ v u Q I rx ry ⟨_, _, c, rfl, rfl, by rw [sizeLine_line]; exact hl, hp, q _ _ (Same.refl _) (.str _)⟩ hs
    · cases hf
  · cases b <;> simp only at hf <;> try (cases hf; done)
    rename_i ds i
    obtain ⟨p, xs, rfl, _, sa, da⟩ := ra.tupI
    obtain rfl := rb.intI
    unfold pickI at hf
    cases hp : Ev.ixN ds.length i with
    | none => rw [hp] at hf; cases hf
    | some j =>
      rw [hp] at hf
      obtain ⟨w, e, rw'⟩ := da.get hf
      rw [← hK] at sa
      refine ix_tup value slice pins s σ H _ _ v u Q I rx ry ⟨_, _, _, w, rfl, rfl, sa, ?_, q _ _ (Same.refl _) rw'⟩ hs
      unfold atI
      rw [← ixN_L2, da.length, hp]
      exact e
  · cases b <;> simp only at hf <;> try (cases hf; done)
    rename_i ds i
    obtain ⟨p, xs, rfl, sa, da⟩ := ra.lstI
    obtain rfl := rb.intI
    unfold pickI at hf
    cases hp : Ev.ixN ds.length i with
    | none => rw [hp] at hf; cases hf
    | some j =>
      rw [hp] at hf
      obtain ⟨w, e, rw'⟩ := da.get hf
      rw [← hK] at sa
      refine ix_list value slice pins s σ H _ _ v u Q I rx ry ⟨_, _, _, w, rfl, rfl, sa, ?_, q _ _ (Same.refl _) rw'⟩ hs
      unfold atI
      rw [← ixN_L2, da.length, hp]
      exact e
end
/-! ### slices -/
theorem clip_sIx (n d : Nat) (lo : Option Int) : HT.sIx n d lo = (match lo with | none => d | some i => clipI n i) := by
  cases lo with
  | none => rfl
  | some i =>
    show (if i < 0 then (i + (n : Int)).toNat else min i.toNat n) = clipI n i
    unfold clipI
    by_cases h : i < 0
    · rw [if_pos h, if_neg (by omega)]
    · rw [if_neg h, if_pos (by omega)]
theorem cutI_eq {α : Type} (xs : List α) (lo hi : Option Int) : cutI xs lo hi = (xs.drop (HT.sIx xs.length 0 lo)).take (HT.sIx xs.length xs.length hi - HT.sIx xs.length 0 lo) := by
  rw [clip_sIx, clip_sIx]
  cases lo <;> cases hi <;> rfl
theorem RepDs.cut {n : Nat} {ad : Nat → Addr} {B : Hp} {xs : List V} {ds : List D} (r : RepDs N n ad B xs ds) (lo hi : Option Int) : RepDs N n ad B (cutV xs lo hi) (cutI ds lo hi) := by
  rw [cutI_eq]
  unfold cutV
  rw [r.length]
  exact (r.drop _).take _
/-- a slice's reading -/
def rSl (N : Nms) : V → Option Int → Option Int → Hp → VK → Prop := fun x lo hi H Q => ∃ n ad M a z, (∀ p, M p → ∃ o, H p = some o) ∧ RepW N n ad (msk H M) H x a ∧
  (match a with
    | .lst xs => some (D.lst (cutI xs lo hi))
    | .tup xs => some (D.tup (cutI xs lo hi))
    | .str x => if x.cps.size ≤ line then some (D.str ⟨(cutI x.cps.toList lo hi).toArray⟩) else none
    | _ => none) = some z ∧ ∀ v H', Same H H' → RepD N n ad (msk H' M) v z → Q v H'
def rSlAll (K : PySem.W.Frag) : V → Option Int → Option Int → Hp → VK → Prop := fun x lo hi H Q => rSlL K x lo hi H Q ∨ rSlA K x lo hi H Q ∨ rSlS x lo hi H Q
theorem sl_all {X : Cx} : SlR X (rSlAll X.K) := SlR.or sl_list (SlR.or sl_tupA sl_str)
theorem rSl_all {K : PySem.W.Frag} (hK : K = N.K) {x : V} {lo hi : Option Int} {H : Hp} {Q : VK} (h : rSl N x lo hi H Q) : rSlAll K x lo hi H Q := by
  obtain ⟨n, ad, M, a, z, hM, ra, hf, q⟩ := h
  subst hK
  cases a <;> simp only at hf <;> try (cases hf; done)
  · rename_i tx
    obtain rfl := ra.strI
    split at hf
    · rename_i hl
      cases hf
      refine .inr (.inr ⟨tx, rfl, by rw [sizeLine_line]; exact hl, ?_⟩)
      have e : cutS tx lo hi = ⟨(cutI tx.cps.toList lo hi).toArray⟩ := by
        rw [cutI_eq]
        unfold cutS Str.length
        simp only [Array.length_toList]
      rw [e]
      exact q _ _ (Same.refl _) (.str _)
    · cases hf
  · cases hf
    obtain ⟨p, xs, rfl, sa', sa, da⟩ := ra.tupI
    refine .inr (.inl ⟨p, xs, rfl, sa, ?_⟩)
    have e := da.cut lo hi
    refine ⟨fun hw => ?_, fun hw p hp => q _ _ (new_same hp) (new_tup hM hp e)⟩
    have : cutV xs lo hi = xs := by
      unfold cutV
      rw [hw.1, hw.2]
      simp
    rw [this] at e
    exact q _ _ (Same.refl _) (.tup sa' e)
  · cases hf
    obtain ⟨p, xs, rfl, sa, da⟩ := ra.lstI
    exact .inl ⟨p, xs, rfl, sa, fun p hp => q _ _ (new_same hp) (new_lst hM hp (da.cut lo hi))⟩
end Ev

set_option autoImplicit false
set_option linter.all false
set_option maxRecDepth 100000
/-! Built-in calls. -/
namespace Ev
open PySem L2 PyProof.Rows
variable {N : Nms}
def biV : Bi → Value
  | .len => .builtin "len" | .abs => .builtin "abs" | .int => .type "int" | .tuple => .type "tuple" | .list => .type "list" | .sum => .builtin "sum" | .all => .builtin "all" | .any => .builtin "any"
  | .min1 | .min2 => .builtin "min" | .max1 | .max2 => .builtin "max" | .sorted => .builtin "sorted" | .divmod => .builtin "divmod" | _ => .none
def biOk : Bi → Bool
  | .len | .abs | .int | .tuple | .list | .sum | .all | .any | .min1 | .min2 | .max1 | .max2 | .sorted | .divmod => true
  | _ => false
section
variable {n : Nat} {ad : Nat → Addr} {B H : Hp}
theorem RepWs.one {xs : List V} {a : D} (h : RepWs N n ad B H xs [a]) : ∃ x, xs = [x] ∧ RepW N n ad B H x a := by
  cases h with
  | cons a b => cases b; exact ⟨_, rfl, a⟩
theorem RepWs.two {xs : List V} {a b : D} (h : RepWs N n ad B H xs [a, b]) : ∃ x y, xs = [x, y] ∧ RepW N n ad B H x a ∧ RepW N n ad B H y b := by
  cases h with
  | cons a b =>
    cases b with
    | cons b c => cases c; exact ⟨_, _, rfl, a, b⟩
theorem RepKs.length : ∀ {vs : List (Key × V)} {ds : List (D × D)}, RepKs N n ad B vs ds → vs.length = ds.length
  | _, _, .nil => rfl
  | _, _, .cons _ b => by simp [RepKs.length b]
end
/-! ### sorted -/
theorem zip_mono {α β : Type} : ∀ {xs : List α} {ys : List β}, xs.length = ys.length → (xs.zip ys).map (·.1) = xs ∧ (xs.zip ys).map (·.2) = ys
  | [], [], _ => ⟨rfl, rfl⟩
  | [], _ :: _, h => by simp at h
  | _ :: _, [], h => by simp at h
  | x :: xs, y :: ys, h => by
    obtain ⟨h1, h2⟩ := zip_mono (xs := xs) (ys := ys) (by simpa using h)
    simp [h1, h2]
theorem RepDs.zipMem {n : Nat} {ad : Nat → Addr} {B : Hp} : ∀ {xs : List V} {ds : List D}, RepDs N n ad B xs ds → ∀ p ∈ xs.zip ds, RepD N n ad B p.1 p.2
  | _, _, .nil, p, h => by simp at h
  | _, _, .cons a b, p, h => by
    rcases List.mem_cons.mp h with rfl | h
    · exact a
    · exact RepDs.zipMem b p h
theorem RepDs.ofMem {n : Nat} {ad : Nat → Addr} {B : Hp} : ∀ {ps : List (V × D)}, (∀ p ∈ ps, RepD N n ad B p.1 p.2) → RepDs N n ad B (ps.map (·.1)) (ps.map (·.2))
  | [], _ => .nil
  | p :: ps, h => .cons (h p (by simp)) (RepDs.ofMem fun q hq => h q (by simp [hq]))
theorem each_zip {R : Value → V × D → Prop} : ∀ {its : List Value} {xs : List V} {ds : List D}, its.length = xs.length → xs.length = ds.length → (∀ (i : Nat) u x d, its[i]? = some u → xs[i]? = some x → ds[i]? = some d → R u (x, d)) → PySem.W.EachIs R its (xs.zip ds)
  | [], [], [], _, _, _ => .nil
  | u :: us, x :: xs, d :: ds, h1, h2, h => .cons (h 0 u x d rfl rfl rfl) (each_zip (by simpa using h1) (by simpa using h2) fun i a b c e1 e2 e3 => h (i + 1) a b c (by simpa using e1) (by simpa using e2) (by simpa using e3))
  | [], _ :: _, _, h, _, _ => by simp at h
  | _ :: _, [], _, h, _, _ => by simp at h
  | [], [], _ :: _, _, h, _ => by simp at h
  | _ :: _, _ :: _, [], _, h, _ => by simp at h
theorem each_vals {its : List Value} : ∀ {ps : List (V × D)}, PySem.W.EachIs (fun u (p : V × D) => RelV p.1 u) its ps → Vals (ps.map (·.1)) its := by
  intro ps h
  induction h with
  | nil => exact .nil
  | cons a _ ih => exact .cons a ih
theorem fins_mem {n : Nat} : ∀ {ds : List D}, D.fins n ds = true → ∀ d ∈ ds, d.fin n = true
  | [], _, d, h => by simp at h
  | x :: xs, h, d, hd => by
    simp only [D.fins, Bool.and_eq_true] at h
    rcases List.mem_cons.mp hd with rfl | hd
    · exact h.1
    · exact fins_mem h.2 d hd
theorem pys_map : ∀ ds : List D, D.pys ds = ds.map D.py
  | [] => rfl
  | d :: ds => by simp [D.pys, pys_map ds]
section
variable {X : Cx}
theorem sorted_okN (hK : X.K = N.K) (hu : X.A.units + 200 < cLine) {pins : List (Addr × Obj)} {σ : L2.St} {H : Hp} {s : Shared} {Q : VK} {n : Nat} {ad : Nat → Addr} {M : Addr → Prop} {x : V} {v : Value} {ds : List D}
    (I : Inv X pins σ H s) (hM : ∀ p, M p → ∃ o, H p = some o) (rx : RelV x v) (ra : RepW N n ad (msk H M) H x (.lst ds)) (h1 : D.fins dep ds = true) (h2 : allAlk ds = true) (h3 : srtOk ds = true) (h4 : ds.length ≤ line)
    (q : ∀ p ys, H p = none → RepDs N n ad (msk H M) ys (sortD ds) → Q (.ref p) (upd H p (.lst ys))) : wpAny (model X.prog X.w) X.A (call (.builtin "sorted") [v]) (EP X pins σ Q) X.xe s := by
  obtain ⟨a, xs, rfl, sa, da⟩ := ra.lstI
  cases rx
  have sa' := sa
  rw [← hK] at sa'
  obtain ⟨its, rv, hl, hz⟩ := I.list sa'
  have l1 := rv.length
  have l2 := da.length
  have all : ∀ d ∈ ds, ∀ e ∈ ds, alk d e = true := fun d hd e he => by
    unfold allAlk at h2
    simp only [List.all_eq_true, Bool.and_eq_true] at h2
    exact (h2 d hd).2 e he
  have e : PySem.W.EachIs (fun u (p : V × D) => RelV p.1 u) its (xs.zip ds) := each_zip l1.symm l2 fun i u x d e1 e2 e3 => by
    obtain ⟨u', h, r⟩ := rv.get e2
    rw [e1] at h; cases h
    exact r
  have er : PySem.W.EachIs (fun u (p : V × D) => ∃ as, Reads s.heap u p.2.py as) its (xs.zip ds) := each_zip l1.symm l2 fun i u x d e1 e2 e3 => by
    obtain ⟨u', h, r⟩ := rv.get e2
    rw [e1] at h; cases h
    obtain ⟨x', hx, rd⟩ := da.get e3
    rw [e2] at hx; cases hx
    exact RepD.reads hK I dep d (fins_mem h1 d (List.mem_of_getElem? e3)) (RepD.mono (Nat.le_refl _) (fun _ _ => rfl) sm_le _ rd) r
  have zm := zip_mono (ys := ds) l2
  have hal : PySem.W.AllAlike ((xs.zip ds).map fun p => p.2.py) := by
    intro d hd d' hd'
    obtain ⟨p, hp, rfl⟩ := List.mem_map.mp hd
    obtain ⟨p', hp', rfl⟩ := List.mem_map.mp hd'
    exact alk_py _ _ (all _ (List.of_mem_zip hp).2 _ (List.of_mem_zip hp').2)
  have hk : PySem.W.Sortable ((xs.zip ds).map fun p => p.2.py) := by
    unfold srtOk at h3
    simp only [Bool.or_eq_true, List.all_eq_true] at h3
    rcases h3 with h3 | h3
    · refine .inl fun d hd => ?_
      obtain ⟨p, hp, rfl⟩ := List.mem_map.mp hd
      have := h3 _ (List.of_mem_zip hp).2
      split at this
      · rename_i y ys e
        exact ⟨y.py, D.pys ys, by simp only [e, D.py, D.pys]⟩
      · cases this
    · refine .inr fun d hd => ?_
      obtain ⟨p, hp, rfl⟩ := List.mem_map.mp hd
      have g := h3 _ (List.of_mem_zip hp).2
      have f := fins_mem h1 _ (List.of_mem_zip hp).2
      generalize p.2 = y at g f
      cases y <;> simp_all [D.py, D.fin, dep]
  have hzl : (xs.zip ds).length = ds.length := by rw [List.length_zip, l2, Nat.min_self]
  refine PySem.W.sorted_data (bs := xs.zip ds) (enc := fun p => p.2.py) hl.isList e er hal hk (by rw [hzl, sizeLine_line]; exact h4) (fun p hp => ?_) fun out ho eo => ?_
  · have := (fin_plain dep p.2 (fins_mem h1 _ (List.of_mem_zip hp).2)).2
    unfold dep at this
    show X.A.units + 2 + p.2.py.depth < cLine
    omega
  · have le : ∀ p ∈ xs.zip ds, ∀ p' ∈ xs.zip ds, PySem.W.dataLe false (fun (p : V × D) => p.2.py) p p' = (fun a b => !ltB b a) p.2 p'.2 := fun p hp p' hp' => by
      have m1 := (List.of_mem_zip hp).2
      have m2 := (List.of_mem_zip hp').2
      rw [PySem.W.dataLe_eq]
      show (!PySem.W.dataLt p'.2.py p.2.py) = !ltB p'.2 p.2
      rw [ltB_py dep dep _ _ (fins_mem h1 _ m2) (fins_mem h1 _ m1) (all _ m2 _ m1)]
    have srt : ((xs.zip ds).mergeSort (PySem.W.dataLe false fun (p : V × D) => p.2.py)).map (·.2) = sortD ds := by
      unfold sortD
      conv => rhs; rw [← zm.2]
      exact List.map_mergeSort le
    have pm : ∀ p ∈ (xs.zip ds).mergeSort (PySem.W.dataLe false fun (p : V × D) => p.2.py), RepD N n ad (msk H M) p.1 p.2 := fun p hp => da.zipMem p (List.mem_mergeSort.mp hp)
    have rds := RepDs.ofMem pm
    rw [srt] at rds
    have rvo := each_vals eo
    obtain ⟨ep, he'⟩ := PyProof.Rows.sortedAll_at s.heap its out.toArray
    have hfresh : H (s.heap.objs.size + 1) = none := I.hok.fresh (Nat.le_succ _)
    have hlen : (((xs.zip ds).mergeSort (PySem.W.dataLe false fun (p : V × D) => p.2.py)).map (·.1)).length ≤ sizeLine := by
      rw [rvo.length, ho, hzl, sizeLine_line]; exact h4
    exact ⟨.ref _, upd H (s.heap.objs.size + 1) (.lst _), I.laid (t' := s.toks) (fun _ _ => PyProof.Rows.sortedAll_old) (Nat.le_succ _) ⟨hlen, out, ep, rvo, he'⟩, rfl, q _ _ hfresh rds⟩
theorem sorted_ok (hK : X.K = N.K) (hu : X.A.units + 200 < cLine) {pins : List (Addr × Obj)} {σ : L2.St} {H : Hp} {s : Shared} {Q : VK} {n : Nat} {ad : Nat → Addr} {M : Addr → Prop} {x : V} {v : Value} {ds : List D}
    (I : Inv X pins σ H s) (hM : ∀ p, M p → ∃ o, H p = some o) (rx : RelV x v) (ra : RepW N n ad (msk H M) H x (.lst ds)) (h1 : D.fins dep ds = true) (h2 : allAlk ds = true) (h3 : srtOk ds = true) (h4 : ds.length ≤ line)
    (q : ∀ v H', Same H H' → RepD N n ad (msk H' M) v (.lst (sortD ds)) → Q v H') : wpAny (model X.prog X.w) X.A (call (.builtin "sorted") [v]) (EP X pins σ Q) X.xe s :=
  sorted_okN hK hu I hM rx ra h1 h2 h3 h4 fun p ys hp rds => q _ _ (new_same hp) (new_lst hM hp rds)
/-- sorted, a new list -/
def rSrtN (N : Nms) : List V → Hp → VK → Prop := fun xs H Q => ∃ x n ad M ds, xs = [x] ∧ (∀ p, M p → ∃ o, H p = some o) ∧ RepW N n ad (msk H M) H x (.lst ds) ∧ D.fins dep ds = true ∧ allAlk ds = true ∧ srtOk ds = true ∧ ds.length ≤ line ∧
  ∀ p ys, H p = none → RepDs N n ad (msk H M) ys (sortD ds) → Q (.ref p) (upd H p (.lst ys))
theorem call_srtN (hK : X.K = N.K) (hu : X.A.units + 200 < cLine) : CallR X (.builtin "sorted") (rSrtN N) := by
  intro pins s σ H xs us Q I r h
  obtain ⟨x, n, ad, M, ds, rfl, hM, w, h1, h2, h3, h4, q⟩ := h
  obtain ⟨u, rfl, ru⟩ := vals1 r
  exact sorted_okN hK hu I hM ru w h1 h2 h3 h4 q
theorem call_bi (hK : X.K = N.K) (hu : X.A.units + 200 < cLine) (hc : X.calm = true) (b : Bi) (hb : biOk b = true) : CallR X (biV b) (rDs N (biF b)) := by
  intro pins s σ H xs us Q I r h
  obtain ⟨n, ad, M, as, z, hM, ra, hf, q⟩ := h
  have fin1 : ∀ a, as = [a] → ∃ x u, xs = [x] ∧ us = [u] ∧ RelV x u ∧ RepW N n ad (msk H M) H x a := fun a e => by
    subst e
    obtain ⟨x, rfl, w⟩ := ra.one
    obtain ⟨u, rfl, ru⟩ := vals1 r
    exact ⟨x, u, rfl, rfl, ru, w⟩
  cases b <;> try (simp [biOk] at hb; done)
  · -- len
    rcases as with _ | ⟨a0, as1⟩
    · exact nomatch (show (none : Option D) = some z from hf)
    rcases as1 with _ | ⟨a1, as1⟩
    rotate_left
    · cases a0 <;> first | exact nomatch (show (none : Option D) = some z from hf) | (simp [biF] at hf; done)
    cases a0 <;> try (exact nomatch (show (none : Option D) = some z from hf))
    · rename_i x
      obtain ⟨_, u, rfl, rfl, ru, w⟩ := fin1 _ rfl
      obtain rfl := w.strI
      simp only [biF] at hf
      split at hf
      · rename_i hl
        cases hf
        exact call_len pins s σ H _ _ Q I r ⟨_, x.cps.size, rfl, ⟨by rw [sizeLine_line]; exact hl, rfl⟩, q _ _ (Same.refl _) (.int _)⟩
      · cases hf
    · rename_i ds
      obtain ⟨_, u, rfl, rfl, ru, w⟩ := fin1 _ rfl
      obtain ⟨a, ys, rfl, _, sa, da⟩ := w.tupI
      cases hf
      rw [← hK] at sa
      exact call_len pins s σ H _ _ Q I r ⟨_, ds.length, rfl, .inr ⟨ys, sa, da.length.symm⟩, q _ _ (Same.refl _) (.int _)⟩
    · rename_i ds
      obtain ⟨_, u, rfl, rfl, ru, w⟩ := fin1 _ rfl
      obtain ⟨a, ys, rfl, sa, da⟩ := w.lstI
      cases hf
      rw [← hK] at sa
      exact call_len pins s σ H _ _ Q I r ⟨_, ds.length, rfl, .inl ⟨ys, sa, da.length.symm⟩, q _ _ (Same.refl _) (.int _)⟩
  · -- abs
    rcases as with _ | ⟨a0, as1⟩
    · exact nomatch (show (none : Option D) = some z from hf)
    rcases as1 with _ | ⟨a1, as1⟩
    rotate_left
    · cases a0 <;> first | exact nomatch (show (none : Option D) = some z from hf) | (simp [biF] at hf; done)
    cases a0 <;> try (exact nomatch (show (none : Option D) = some z from hf))
    rename_i i
    obtain ⟨_, u, rfl, rfl, ru, w⟩ := fin1 _ rfl
    obtain rfl := w.intI
    cases hf
    exact call_abs pins s σ H _ _ Q I r ⟨i, rfl, q _ _ (Same.refl _) (.int _)⟩
  · -- int
    rcases as with _ | ⟨a0, as1⟩
    · exact nomatch (show (none : Option D) = some z from hf)
    rcases as1 with _ | ⟨a1, as1⟩
    rotate_left
    · cases a0 <;> first | exact nomatch (show (none : Option D) = some z from hf) | (simp [biF] at hf; done)
    cases a0 <;> try (exact nomatch (show (none : Option D) = some z from hf))
    · rename_i i
      obtain ⟨_, u, rfl, rfl, ru, w⟩ := fin1 _ rfl
      obtain rfl := w.blI
      cases hf
      exact call_int1 pins s σ H _ _ Q I r (.inr ⟨i, rfl, q _ _ (Same.refl _) (.int _)⟩)
    · rename_i i
      obtain ⟨_, u, rfl, rfl, ru, w⟩ := fin1 _ rfl
      obtain rfl := w.intI
      cases hf
      exact call_int1 pins s σ H _ _ Q I r (.inl ⟨i, rfl, q _ _ (Same.refl _) (.int _)⟩)
  · -- tuple
    rcases as with _ | ⟨a0, as1⟩
    · exact nomatch (show (none : Option D) = some z from hf)
    rcases as1 with _ | ⟨a1, as1⟩
    rotate_left
    · cases a0 <;> first | exact nomatch (show (none : Option D) = some z from hf) | (simp [biF] at hf; done)
    cases a0 <;> try (exact nomatch (show (none : Option D) = some z from hf))
    · rename_i ds
      obtain ⟨_, u, rfl, rfl, ru, w⟩ := fin1 _ rfl
      obtain ⟨a, ys, rfl, sa', sa, da⟩ := w.tupI
      cases hf
      rw [← hK] at sa
      exact call_tuple_of pins s σ H _ _ Q I r ⟨a, ys, rfl, .inr ⟨sa, q _ _ (Same.refl _) (.tup sa' da)⟩⟩
    · rename_i ds
      obtain ⟨_, u, rfl, rfl, ru, w⟩ := fin1 _ rfl
      obtain ⟨a, ys, rfl, sa, da⟩ := w.lstI
      cases hf
      rw [← hK] at sa
      exact call_tuple_of pins s σ H _ _ Q I r ⟨a, ys, rfl, .inl ⟨sa, fun l hl => q _ _ (new_same hl) (new_tup hM hl da)⟩⟩
  · -- list
    rcases as with _ | ⟨a0, as1⟩
    · exact nomatch (show (none : Option D) = some z from hf)
    rcases as1 with _ | ⟨a1, as1⟩
    rotate_left
    · cases a0 <;> first | exact nomatch (show (none : Option D) = some z from hf) | (simp [biF] at hf; done)
    cases a0 <;> try (exact nomatch (show (none : Option D) = some z from hf))
    · rename_i ds
      obtain ⟨_, u, rfl, rfl, ru, w⟩ := fin1 _ rfl
      obtain ⟨a, ys, rfl, sa', sa, da⟩ := w.tupI
      cases hf
      rw [← hK] at sa
      exact call_list_of pins s σ H _ _ Q I r ⟨a, ys, rfl, .inr sa, fun l hl => q _ _ (new_same hl) (new_lst hM hl da)⟩
    · rename_i ds
      obtain ⟨_, u, rfl, rfl, ru, w⟩ := fin1 _ rfl
      obtain ⟨a, ys, rfl, sa, da⟩ := w.lstI
      cases hf
      rw [← hK] at sa
      exact call_list_of pins s σ H _ _ Q I r ⟨a, ys, rfl, .inl sa, fun l hl => q _ _ (new_same hl) (new_lst hM hl da)⟩
  · -- sum
    rcases as with _ | ⟨a0, as1⟩
    · exact nomatch (show (none : Option D) = some z from hf)
    rcases as1 with _ | ⟨a1, as1⟩
    rotate_left
    · cases a0 <;> first | exact nomatch (show (none : Option D) = some z from hf) | (simp [biF] at hf; done)
    cases a0 <;> try (exact nomatch (show (none : Option D) = some z from hf))
    rename_i ds
    obtain ⟨_, u, rfl, rfl, ru, w⟩ := fin1 _ rfl
    obtain ⟨a, ys, rfl, sa, da⟩ := w.lstI
    simp only [biF] at hf
    cases e : D.ints ds with
    | none => rw [e] at hf; cases hf
    | some is =>
      rw [e] at hf; cases hf
      rw [← hK, da.intsV e] at sa
      exact cr_sum hc pins s σ H _ _ Q I r ⟨a, is, rfl, sa, q _ _ (Same.refl _) (.int _)⟩
  · -- min1
    rcases as with _ | ⟨a0, as1⟩
    · exact nomatch (show (none : Option D) = some z from hf)
    rcases as1 with _ | ⟨a1, as1⟩
    rotate_left
    · cases a0 <;> first | exact nomatch (show (none : Option D) = some z from hf) | (simp [biF] at hf; done)
    cases a0 <;> try (exact nomatch (show (none : Option D) = some z from hf))
    rename_i l0
    rcases l0 with _ | ⟨b0, ds⟩ <;> try (exact nomatch (show (none : Option D) = some z from hf))
    cases b0 <;> try (exact nomatch (show (none : Option D) = some z from hf))
    rename_i i
    obtain ⟨_, u, rfl, rfl, ru, w⟩ := fin1 _ rfl
    obtain ⟨a, ys, rfl, sa, da⟩ := w.lstI
    simp only [biF] at hf
    cases e : D.ints ds with
    | none => rw [e] at hf; cases hf
    | some is =>
      rw [e] at hf; cases hf
      have e' : D.ints (.int i :: ds) = some (i :: is) := by simp [D.ints, e]
      rw [← hK, da.intsV e'] at sa
      refine cr_min hc pins s σ H _ _ Q I r ⟨a, i :: is, rfl, sa, by simp, fun m hm hle => ?_⟩
      obtain ⟨h1, h2⟩ := minI_spec i is
      have : m = minI i is := Int.le_antisymm (hle _ h1) (h2 _ hm)
      rw [this]
      exact q _ _ (Same.refl _) (.int _)
  · -- max1
    rcases as with _ | ⟨a0, as1⟩
    · exact nomatch (show (none : Option D) = some z from hf)
    rcases as1 with _ | ⟨a1, as1⟩
    rotate_left
    · cases a0 <;> first | exact nomatch (show (none : Option D) = some z from hf) | (simp [biF] at hf; done)
    cases a0 <;> try (exact nomatch (show (none : Option D) = some z from hf))
    rename_i l0
    rcases l0 with _ | ⟨b0, ds⟩ <;> try (exact nomatch (show (none : Option D) = some z from hf))
    cases b0 <;> try (exact nomatch (show (none : Option D) = some z from hf))
    rename_i i
    obtain ⟨_, u, rfl, rfl, ru, w⟩ := fin1 _ rfl
    obtain ⟨a, ys, rfl, sa, da⟩ := w.lstI
    simp only [biF] at hf
    cases e : D.ints ds with
    | none => rw [e] at hf; cases hf
    | some is =>
      rw [e] at hf; cases hf
      have e' : D.ints (.int i :: ds) = some (i :: is) := by simp [D.ints, e]
      rw [← hK, da.intsV e'] at sa
      refine cr_max hc pins s σ H _ _ Q I r ⟨a, i :: is, rfl, sa, by simp, fun m hm hle => ?_⟩
      obtain ⟨h1, h2⟩ := maxI_spec i is
      have : m = maxI i is := Int.le_antisymm (h2 _ hm) (hle _ h1)
      rw [this]
      exact q _ _ (Same.refl _) (.int _)
  · -- min2
    rcases as with _ | ⟨a0, as1⟩
    · exact nomatch (show (none : Option D) = some z from hf)
    cases a0 <;> try (exact nomatch (show (none : Option D) = some z from hf))
    rcases as1 with _ | ⟨a1, as1⟩
    · exact nomatch (show (none : Option D) = some z from hf)
    cases a1 <;> try (exact nomatch (show (none : Option D) = some z from hf))
    rcases as1 with _ | ⟨a2, as1⟩
    rotate_left
    · exact nomatch (show (none : Option D) = some z from hf)
    rename_i i j
    obtain ⟨x, y, rfl, w1, w2⟩ := ra.two
    obtain rfl := w1.intI
    obtain rfl := w2.intI
    cases hf
    exact call_min2 hc pins s σ H _ _ Q I r ⟨i, j, rfl, q _ _ (Same.refl _) (.int _)⟩
  · -- max2
    rcases as with _ | ⟨a0, as1⟩
    · exact nomatch (show (none : Option D) = some z from hf)
    cases a0 <;> try (exact nomatch (show (none : Option D) = some z from hf))
    rcases as1 with _ | ⟨a1, as1⟩
    · exact nomatch (show (none : Option D) = some z from hf)
    cases a1 <;> try (exact nomatch (show (none : Option D) = some z from hf))
    rcases as1 with _ | ⟨a2, as1⟩
    rotate_left
    · exact nomatch (show (none : Option D) = some z from hf)
    rename_i i j
    obtain ⟨x, y, rfl, w1, w2⟩ := ra.two
    obtain rfl := w1.intI
    obtain rfl := w2.intI
    cases hf
    exact call_max2 hc pins s σ H _ _ Q I r ⟨i, j, rfl, q _ _ (Same.refl _) (.int _)⟩
  · -- all
    rcases as with _ | ⟨a0, as1⟩
    · exact nomatch (show (none : Option D) = some z from hf)
    rcases as1 with _ | ⟨a1, as1⟩
    rotate_left
    · cases a0 <;> first | exact nomatch (show (none : Option D) = some z from hf) | (simp [biF] at hf; done)
    cases a0 <;> try (exact nomatch (show (none : Option D) = some z from hf))
    rename_i ds
    obtain ⟨_, u, rfl, rfl, ru, w⟩ := fin1 _ rfl
    obtain ⟨a, ys, rfl, sa, da⟩ := w.lstI
    simp only [biF] at hf
    cases e : D.bls ds with
    | none => rw [e] at hf; cases hf
    | some is =>
      rw [e] at hf; cases hf
      rw [← hK, da.blsV e] at sa
      exact cr_all hc pins s σ H _ _ Q I r ⟨a, is, rfl, sa, q _ _ (Same.refl _) (.bl _)⟩
  · -- any
    rcases as with _ | ⟨a0, as1⟩
    · exact nomatch (show (none : Option D) = some z from hf)
    rcases as1 with _ | ⟨a1, as1⟩
    rotate_left
    · cases a0 <;> first | exact nomatch (show (none : Option D) = some z from hf) | (simp [biF] at hf; done)
    cases a0 <;> try (exact nomatch (show (none : Option D) = some z from hf))
    rename_i ds
    obtain ⟨_, u, rfl, rfl, ru, w⟩ := fin1 _ rfl
    obtain ⟨a, ys, rfl, sa, da⟩ := w.lstI
    simp only [biF] at hf
    cases e : D.bls ds with
    | none => rw [e] at hf; cases hf
    | some is =>
      rw [e] at hf; cases hf
      rw [← hK, da.blsV e] at sa
      exact cr_any hc pins s σ H _ _ Q I r ⟨a, is, rfl, sa, q _ _ (Same.refl _) (.bl _)⟩
  · -- sorted
    rcases as with _ | ⟨a0, as1⟩
    · exact nomatch (show (none : Option D) = some z from hf)
    rcases as1 with _ | ⟨a1, as1⟩
    rotate_left
    · cases a0 <;> first | exact nomatch (show (none : Option D) = some z from hf) | (simp [biF] at hf; done)
    cases a0 <;> try (exact nomatch (show (none : Option D) = some z from hf))
    rename_i ds
    obtain ⟨_, u, rfl, rfl, ru, w⟩ := fin1 _ rfl
    have hf : (if _ then _ else _) = _ := hf
    split at hf
    · rename_i hh
      simp only [Bool.and_eq_true, decide_eq_true_eq] at hh
      cases hf
      exact sorted_ok hK hu I hM ru w hh.1.1.1 hh.1.1.2 hh.1.2 hh.2 q
    · cases hf
  · -- divmod
    rcases as with _ | ⟨a0, as1⟩
    · exact nomatch (show (none : Option D) = some z from hf)
    cases a0 <;> try (exact nomatch (show (none : Option D) = some z from hf))
    rcases as1 with _ | ⟨a1, as1⟩
    · exact nomatch (show (none : Option D) = some z from hf)
    cases a1 <;> try (exact nomatch (show (none : Option D) = some z from hf))
    rcases as1 with _ | ⟨a2, as1⟩
    rotate_left
    · exact nomatch (show (none : Option D) = some z from hf)
    rename_i i j
    obtain ⟨x, y, rfl, w1, w2⟩ := ra.two
    obtain rfl := w1.intI
    obtain rfl := w2.intI
    have hf : (if _ then _ else _) = _ := hf
    split at hf
    · rename_i hh
      cases hf
      exact call_divmod pins s σ H _ _ Q I r ⟨i, j, rfl, hh, fun p hp => q _ _ (new_same hp) (new_tup hM hp (.cons (.int _) (.cons (.int _) .nil)))⟩
    · cases hf
end
end Ev

set_option autoImplicit false
set_option linter.all false
set_option maxRecDepth 100000
/-! The syntax that the core tells, and what its expressions do. -/
namespace Ev
open PySem L2 PyProof.Rows
/-- names: the module's defs, classes, constants -/
structure Nam where
  fn : Nat → Option Str
  cls : List Str
  con : Nat → Option Str
  par : Nat → List Str
  exc : Nat → Option Str := fun _ => none
  hnd : Nat → Option Str := fun _ => none
/-- a scope: the slots' names, whether it is an except suite -/
structure Sx where
  N : List Str
  sc : Scope
  ow : Scope
  hot : Bool
/-- a comprehension's block within -/
def Sx.blk (c : Sx) (s : Scope) : Sx := { c with sc := relS s c.sc, ow := s }
def celB (sc : Scope) (x : Str) : Bool := match sc.names.lookup x with
  | some .cell => true
  | _ => false
def visB (sc : Scope) (x : Str) : Bool := match sc.names.lookup x with
  | some .local | some .cell | some .free => true
  | _ => false
def locB (sc : Scope) (x : Str) : Bool := match sc.names.lookup x with
  | some .local => true
  | _ => false
def glB (sc : Scope) (x : Str) : Bool := match sc.names.lookup x with
  | some .globalImplicit => true
  | _ => false
def dbgB (x : Str) : Bool := !(x == ("__debug__" : Str)) && !(x == ("__classdict__" : Str)) && !(x == ("__name__" : Str))
def noSlice : Expr → Bool
  | .Slice _ _ _ _ => false
  | _ => true
def noCall : Expr → Bool
  | .Call (.Name _ _) [] [] _ => false
  | _ => true
theorem noCall_base {x : Expr} {m : Str} {env : Env} {w : Sem PySem.Value} (h : noCall x = true) : attributeBase x m env w = w := by
  unfold attributeBase
  split
  · exact nomatch (show false = true from h)
  · rfl
def noSet : Expr → Bool
  | .Set _ _ _ => false
  | _ => true
def okPart (f : Expr → Bool) (n : Bool) : Option Expr → Bool
  | none => n
  | some e => f e && !n
def plainE : Expr → Bool
  | .Starred _ _ => false
  | _ => true
def tyName : Ty → Option Str
  | .int => some "int" | .bool => some "bool" | .str => some "str" | .tuple => some "tuple" | .list => some "list" | .dict => some "dict" | .cls _ => none
def biName : Bi → Str
  | .len => "len" | .abs => "abs" | .int => "int" | .tuple => "tuple" | .list => "list" | .sum => "sum" | .all => "all" | .any => "any"
  | .min1 | .min2 => "min" | .max1 | .max2 => "max" | .sorted => "sorted" | .set => "set" | .str => "str" | .divmod => "divmod" | .sset => "sorted"
/-- the names that must be built-in ones -/
def bltNames : List Str := ["len", "abs", "int", "tuple", "list", "sum", "all", "any", "min", "max", "sorted", "set", "str", "divmod", "isinstance", "bool", "dict", "range", "enumerate", "zip", "reversed"]
mutual
def tgSl : Tg → List Nat
  | .v i => [i]
  | .tup ts => tgSls ts
def tgSls : Tgs → List Nat
  | .nil => []
  | .cons t ts => tgSl t ++ tgSls ts
end
section
variable (T : Nam) (N : Nms) (c : Sx)
def okTy (t : Ty) (e : Expr) : Bool := match t, e with
  | .cls k, .Name x _ => decide (T.cls[k]? = some x) && glB c.sc x && dbgB x
  | t, .Name x _ => decide (tyName t = some x) && glB c.sc x
  | _, _ => false
def okTys : List Ty → List Expr → Bool
  | [], [] => true
  | t :: ts, e :: es => okTy T c t e && okTys ts es
  | _, _ => false
def okTysE (ts : List Ty) : Expr → Bool
  | .Tuple l _ _ => okTys T c ts l && decide (ts.length ≤ 100)
  | _ => false
def okIsi : List Ty → Expr → Bool
  | [t], z => okTy T c t z
  | ts, z => okTysE T c ts z
/-- what range(..) is given -/
def rgArgs : Expr → List Expr
  | .Call (.Name r _) l [] _ => if decide (r = "range") && glB c.sc r then l else []
  | _ => []
def okRg (fa fb : Expr → Bool) (z : Bool) : List Expr → Bool
  | [y] => z && fb y && plainE y
  | [x, y] => fa x && plainE x && fb y && plainE y
  | _ => false
def okRg3 (fa fb fc : Expr → Bool) : List Expr → Bool
  | [x, y, z] => fa x && plainE x && fb y && plainE y && fc z && plainE z
  | _ => false
mutual
def okTg : Tg → Expr → Bool
  | .v i, e => match e with
    | .Name x _ => decide (c.N[i]? = some x) && (locB c.sc x || celB c.sc x && celB c.ow x)
    | _ => false
  | .tup ts, e => match e with
    | .Tuple es _ _ => okTgs ts es && !c.hot
    | _ => false
def okTgs : Tgs → List Expr → Bool
  | .nil, es => match es with
    | [] => true
    | _ => false
  | .cons t ts, es => match es with
    | e :: es => okTg t e && okTgs ts es
    | _ => false
end
end
def mmName : Mm → Str
  | .append => "append" | .extend => "extend" | .pop | .popAt => "pop" | .reverse => "reverse" | .clear => "clear" | .insert => "insert" | .remove => "remove"
def mmOk : Mm → Bool
  | .append | .extend | .pop | .popAt | .reverse | .clear => true
  | _ => false
/-- a comprehension's own slots -/
def ownOf (N : List Str) (own : List Nat) : List (Str × Nat) := own.filterMap fun i => (N[i]?).map fun x => (x, i)
def isZero : Ex → Bool
  | .int i => decide (i = 0)
  | _ => false
mutual
def okX (T : Nam) (N : Nms) (c : Sx) : Ex → Expr → Bool
  | .v i, e => match e with
    | .Name x _ => decide (c.N[i]? = some x) && visB c.sc x && dbgB x
    | _ => false
  | .con g, e => match e with
    | .Name x _ => decide (T.con g = some x) && glB c.sc x && dbgB x
    | _ => false
  | .int i, e => match e with
    | .Constant (.int j) _ _ => decide (i = j)
    | _ => false
  | .str i, e => match e with
    | .Constant (.str j) _ _ => decide (i = j)
    | _ => false
  | .bl i, e => match e with
    | .Constant (.bool j) _ _ => i == j
    | _ => false
  | .non, e => match e with
    | .Constant .none _ _ => true
    | _ => false
  | .bin op a b, e => match e with
    | .BinOp x o y _ => decide (o = opS op) && okX T N c a x && okX T N c b y
    | _ => false
  | .neg a, e => match e with
    | .UnaryOp .USub x _ => okX T N c a x
    | _ => false
  | .not a, e => match e with
    | .UnaryOp .Not x _ => okX T N c a x
    | _ => false
  | .and es, e => match e with
    | .BoolOp .And l _ => okBs T N c es l
    | _ => false
  | .or es, e => match e with
    | .BoolOp .Or l _ => okBs T N c es l
    | _ => false
  | .ife t a b, e => match e with
    | .IfExp z x y _ => okX T N c t z && okX T N c a x && okX T N c b y
    | _ => false
  | .cmp o a b, e => match e with
    | .Compare x [o'] [y] _ => decide (o' = cmS o) && okX T N c a x && okX T N c b y && !behindInMarks o' y
    | _ => false
  | .chain o o2 a b d, e => match e with
    | .Compare x [o', o2'] [y, z] _ => decide (o' = cmS o) && decide (o2' = cmS o2) && okX T N c a x && okX T N c b y && okX T N c d z && !lastMarks [o', o2'] [y, z]
    | _ => false
  | .tup es, e => match e with
    | .Tuple l _ _ => okXs T N c es l
    | _ => false
  | .lst es, e => match e with
    | .List l _ => okXs T N c es l
    | _ => false
  | .dct _ _, _ => false
  | .new e, x => okN T N c e x
  | .bad, _ => true
  | .idx a i, e => match e with
    | .Subscript x y _ => okX T N c a x && okX T N c i y && noSlice y
    | _ => false
  | .sl a lo hi, e => match e with
    | .Subscript x (.Slice l h none _) _ => okX T N c a x && okPart (okX T N c lo) lo.isNon l && okPart (okX T N c hi) hi.isNon h
    | _ => false
  | .rev _, _ => false
  | .attr a f, e => match e with
    | .Attribute x y _ => okX T N c a x && decide (y = N.nm f) && noCall x
    | _ => false
  | .call q f es, e => match e with
    | .Call (.Name x _) (y :: l) [] _ => decide (T.fn f = some x) && glB c.sc x && dbgB x && okXs T N c es (y :: l) && !c.hot
    | .Call (.Name x _) [] [] _ => decide (T.fn f = some x) && glB c.sc x && dbgB x && okXs T N c es [] && !c.hot
    | _ => false
  | .mk k es, e => match e with
    | .Call (.Name x _) l [] _ => decide (T.cls[k]? = some x) && glB c.sc x && dbgB x && okXs T N c es l && !c.hot
    | _ => false
  | .mkN _ _, _ => false
  | .meth _ _ o m es, e => match e with
    | .Call (.Attribute x n ap) l [] cp => decide (n = N.nm m) && noCall x && (ap.endLine == cp.line) && decide (l.length < 28) && okX T N c o x && okXs T N c es l && !c.hot
    | _ => false
  | .bi b es, e => match e with
    | .Call (.Name x _) (y :: l) [] _ => decide (x = biName b) && biOk b && glB c.sc x && okXs T N c es (y :: l) && !c.hot
    | _ => false
  | .bm m o es, e => match e with
    | .Call (.Attribute x n ap) [y, z] [] cp => decide (m = .get) && decide (n = "get") && noCall x && (ap.endLine == cp.line) && okX T N c o x && okXs T N c es [y, z]
    | .Call (.Attribute x n ap) [y] [] cp => decide (m = .index) && decide (n = "index") && noCall x && (ap.endLine == cp.line) && okX T N c o x && okXs T N c es [y]
    | _ => false
  | .mm m o es, e => match e with
    | .Call (.Attribute x n ap) l [] cp => decide (n = mmName m) && mmOk m && noCall x && (ap.endLine == cp.line) && decide (l.length < 28) && okX T N c o x && okXs T N c es l
    | _ => false
  | .ext _ _, _ => false
  | .sdef o k, e => match e with
    | .Call (.Attribute x n ap) [y, .List [] _] [] cp => decide (n = "setdefault") && noCall x && (ap.endLine == cp.line) && okX T N c o x && okX T N c k y && plainE y
    | _ => false
  | .rg t a b, e => match e with
    | .Call (.Name x _) [z] [] _ => decide (x = if t then "tuple" else "list") && glB c.sc x && !c.hot && okRg (okX T N c a) (okX T N c b) (isZero a) (rgArgs c z)
    | _ => false
  | .rg3 a b d, e => match e with
    | .Call (.Name x _) [z] [] _ => decide (x = "tuple") && glB c.sc x && !c.hot && okRg3 (okX T N c a) (okX T N c b) (okX T N c d) (rgArgs c z)
    | _ => false
  | .isi a ts, e => match e with
    | .Call (.Name x _) [y, z] [] _ => decide (x = "isinstance") && glB c.sc x && okX T N c a y && plainE y && okIsi T c ts z
    | _ => false
  | .lc elt tg it ifs own, e => match e with
    | .ListComp x [⟨t, i, l, k⟩] sc _ => decide (k = 0) && blkC c.N c.sc sc (ownOf c.N own) && decide ((ownOf c.N own).map (·.2) = own) && okIt T N c it t i && okTg (c.blk sc) tg t && (tgSl tg).all (fun i => own.contains i) && okQs T N (c.blk sc) ifs l && okX T N (c.blk sc) elt x && !c.hot && noSet i
    | _ => false
/-- a new list -/
def okN (T : Nam) (N : Nms) (c : Sx) : Ex → Expr → Bool
  | .lst es, e => match e with
    | .List l _ => okXs T N c es l
    | _ => false
  | .lc elt tg it ifs own, e => match e with
    | .ListComp x [⟨t, i, l, k⟩] sc _ => decide (k = 0) && blkC c.N c.sc sc (ownOf c.N own) && decide ((ownOf c.N own).map (·.2) = own) && okIt T N c it t i && okTg (c.blk sc) tg t && (tgSl tg).all (fun i => own.contains i) && okQs T N (c.blk sc) ifs l && okX T N (c.blk sc) elt x && !c.hot && noSet i
    | _ => false
  | .dct ks _, e => match e with
    | .Dict [] [] _ => ks.isNil
    | _ => false
  | .bi b es, e => match e with
    | .Call (.Name x _) (y :: l) [] _ => (decide (b = .list) && decide (x = "list") || decide (b = .sorted) && decide (x = "sorted")) && glB c.sc x && okXs T N c es (y :: l)
    | _ => false
  | _, _ => false
def okBs (T : Nam) (N : Nms) (c : Sx) : Exs → List Expr → Bool
  | .nil, l => match l with
    | [] => true
    | _ => false
  | .cons e es, l => match l with
    | x :: l => okX T N c e x && okBs T N c es l
    | _ => false
def okXs (T : Nam) (N : Nms) (c : Sx) : Exs → List Expr → Bool
  | .nil, l => match l with
    | [] => true
    | _ => false
  | .cons e es, l => match l with
    | x :: l => okX T N c e x && plainE x && okXs T N c es l
    | _ => false
def okQs (T : Nam) (N : Nms) (c : Sx) : Exs → List Expr → Bool
  | .nil, l => match l with
    | [] => true
    | _ => false
  | .cons e es, l => match es, l with
    | .nil, [x] => okX T N c e x
    | _, _ => false
def okIt (T : Nam) (N : Nms) (c : Sx) : It → Expr → Expr → Bool
  | .val e, _, x => okX T N c e x && noSet x
  | .rng1 e, _, x => match x with
    | .Call (.Name r _) [y] [] _ => decide (r = "range") && glB c.sc r && okX T N c e y && plainE y
    | _ => false
  | .rng2 a b, _, x => match x with
    | .Call (.Name r _) [y, z] [] _ => decide (r = "range") && glB c.sc r && okX T N c a y && plainE y && okX T N c b z && plainE z
    | _ => false
  | .enum e n, t, x => match t with
    | .Tuple _ _ _ => (match x with
      | .Call (.Name r _) [y] [] _ => decide (n = 0) && decide (r = "enumerate") && glB c.sc r && okX T N c e y && plainE y
      | .Call (.Name r _) [y, .Constant (.int k) _ _] [] _ => decide (n = k) && decide (0 ≤ n) && decide (n < 1000) && decide (r = "enumerate") && glB c.sc r && okX T N c e y && plainE y
      | _ => false)
    | _ => false
  | .zip a b, t, x => match t with
    | .Tuple _ _ _ => (match x with
      | .Call (.Name r _) [y, z] [] _ => decide (r = "zip") && glB c.sc r && okX T N c a y && plainE y && okX T N c b z && plainE z
      | _ => false)
    | _ => false
  | .rev e, _, x => match x with
    | .Call (.Name r _) [y] [] _ => decide (r = "reversed") && glB c.sc r && okX T N c e y && plainE y
    | _ => false
  | _, _, _ => false
end
end Ev

set_option autoImplicit false
set_option linter.all false
set_option maxRecDepth 100000
/-! Contexts; the readings of small expressions. -/
namespace Ev
open PySem L2 PyProof.Rows
/-- what isinstance looks at -/
inductive Tag where | non | bl | int | str | tup | lst | dct | obj (c : Nat)
def tagV (N : Nms) : Tag → Value
  | .non => .type "NoneType" | .bl => .type "bool" | .int => .type "int" | .str => .type "str" | .tup => .type "tuple" | .lst => .type "list" | .dct => .type "dict" | .obj c => .ref (N.cl c)
def tyV1 (N : Nms) : Ty → Value
  | .int => .type "int" | .bool => .type "bool" | .str => .type "str" | .tuple => .type "tuple" | .list => .type "list" | .dict => .type "dict" | .cls c => .ref (N.cl c)
def tyVV (N : Nms) : Ty → V
  | .int => .ty "int" | .bool => .ty "bool" | .str => .ty "str" | .tuple => .ty "tuple" | .list => .ty "list" | .dict => .ty "dict" | .cls c => .ref (N.cl c)
def tagOf : D → Option Tag
  | .non => some .non | .bl _ => some .bl | .int _ => some .int | .str _ => some .str | .tup _ => some .tup | .lst _ => some .lst | .dct _ => some .dct | .obj c _ => some (.obj c) | .ref _ => none
def isTag (sub : Nat → Nat → Bool) : Tag → Ty → Bool
  | .int, .int | .bl, .int | .bl, .bool | .str, .str | .tup, .tuple | .lst, .list | .dct, .dict => true
  | .obj c, .cls c' => sub c c'
  | _, _ => false
theorem isTy_tag (sub : Nat → Nat → Bool) (x : D) (t : Tag) (ty : Ty) (h : tagOf x = some t) : isTy sub x ty = isTag sub t ty := by
  cases x <;> simp only [tagOf] at h <;> cases h <;> cases ty <;> rfl
/-- a class of exceptions without an __init__ of its own -/
structure ExcP (K : PySem.W.Frag) (C : Addr) : Prop where
  ex : PySem.W.excIn K C He.veBase "ValueError.__new__" = true
  kp : PySem.W.keepIn K (.ref C) = true
  sb : PySem.W.subIn K (.ref C) (.type "BaseException") = some true
  ty : PySem.W.typeIn K (.ref C) = some (.type "type")
/-- the text's facts of a context: W: what is wanted of an exception -/
structure XOk (T : Nam) (N : Nms) (G : Tab) (c : Sx) (X : Cx) (W : WX) : Prop where
  hK : X.K = N.K
  hN : X.N = c.N
  nd : c.N.Nodup
  sc : X.env.scope = c.sc
  un : X.A.units + 200 < cLine
  calm : c.hot = false → X.calm = true
  fnc : ∀ x, c.ow.names.lookup x = some .cell → X.fn x = true
  tk : Takes X W
  blt : ∀ x ∈ bltNames, X.mg x = none
  con : ∀ (g : Nat) (x : Str), T.con g = some x → ∃ d v u, G.con[g]? = some d ∧ X.mg x = some u ∧ RelV v u ∧ (match d with | .ref _ => False | _ => True) ∧ ∀ n ad B, RepD N n ad B v d
  cls : ∀ (k : Nat) (x : Str), T.cls[k]? = some x → X.mg x = some (.ref (N.cl k))
  exn : ∀ (k : Nat) (x : Str), T.exc k = some x → X.mg x = some (.ref (N.cl k))
  hdn : ∀ (k : Nat) (x : Str), T.hnd k = some x → X.mg x = some (.ref (N.cl k))
  exo : ∀ (k : Nat), G.exf k = some [] → ExcP N.K (N.cl k)
  exm : ∀ (j k : Nat) (x : Str), (G.exf j).isSome = true → T.hnd k = some x → PySem.W.exmOne N.K (.ref (N.cl j)) (.ref (N.cl k)) = some (G.sub j k)
  ncl : T.cls.length = G.ncls
  nm : ∀ f g, N.nm f = N.nm g → f = g
  kit : ∀ tg ty, (match tg with | .obj c => c < T.cls.length ∧ G.isa c = true | _ => True) → (match ty with | .cls c => c < T.cls.length ∧ G.isa c = true | _ => True) → PySem.W.kitOne N.K (tagV N tg) (tyV1 N ty) = some (isTag G.sub tg ty)
  fld : ∀ k < T.cls.length, Cls N.K (N.cl k) ∧ (∀ f, G.isf k f = true → NoAttr N.K (N.cl k) (N.nm f))
  ist : ∀ k < T.cls.length, G.isa k = true → PySem.W.findIn N.K (.ref (N.cl k)) "__class__" = some (some (.builtin "object.__class__")) ∧
    PySem.W.specialIn N.K (.builtin "object.__class__") "__get__" = some (some (.builtin "getset_descriptor.__get__")) ∧ PySem.W.takesIn N.K (.builtin "object.__class__") = some true ∧ PySem.W.mroIn N.K (N.cl k) (.type "object") = some true
variable {T : Nam} {N : Nms} {G : Tab} {c : Sx} {X : Cx} {W : WX}
theorem vis_of (h : X.env.scope = c.sc) {x : Str} (v : visB c.sc x = true) : Vis X.env.scope x := by
  rw [h]
  unfold visB at v
  unfold Vis
  split at v <;> simp_all
theorem gl_of (h : X.env.scope = c.sc) {x : Str} (v : glB c.sc x = true) : Gl X x := by
  show X.env.scope.names.lookup x = some .globalImplicit
  rw [h]
  unfold glB at v
  split at v
  · assumption
  · cases v
theorem dbg_of {x : Str} (v : dbgB x = true) : (x == ("__debug__" : Str)) = false ∧ (x == ("__classdict__" : Str)) = false ∧ (x == ("__name__" : Str)) = false := by
  unfold dbgB at v
  simp only [Bool.and_eq_true, Bool.not_eq_true'] at v
  exact ⟨v.1.1, v.1.2, v.2⟩
/-- an expression's two readings -/
structure Good (N : Nms) (W : WX) (X : Cx) (e : Expr) (m : M PV) : Prop where
  pe : PE X e (tX N W m)
  pt : PT X e (tT N W (M.bind m toB))
theorem toB_inv {ad : Nat → Addr} {σ : L2.St} {H : Hp} {s : S} {F : Addr → Prop} {pv : PV} {K : Bool → S → (Nat → Addr) → Hp → Prop} (h : Gar N W ad σ H s F (toB pv s) K) (R : Rel N ad σ H s F) : ∃ b, pv = .d (.bl b) ∧ K b s ad H := by
  unfold toB at h
  split at h
  · exact ⟨_, rfl, h ad H R Post.refl⟩
  · exact h.elim
theorem tX_tB {m : M PV} : ∀ σ H Q, tT N W (M.bind m toB) σ H Q → tB (tX N W m) σ H Q := by
  rintro σ H Q ⟨ad, s, F, R, h⟩
  refine ⟨ad, s, F, R, (Gar.bind h).mono fun pv s1 ad1 H1 R1 P1 h1 v rv => ?_⟩
  obtain ⟨b, rfl, k⟩ := toB_inv h1 R1
  cases rv
  exact ⟨b, rfl, k⟩
theorem Good.val {e : Expr} {m : M PV} (h : PE X e (tX N W m)) (he : ∀ whole, isTrue e X.env whole = (do let v ← whole; standAt e.pos; holding [v] (truthy v))) : Good N W X e m :=
  ⟨h, pt_imp (pt_val h he) tX_tB⟩
theorem Gar.pure {α : Type} {ad : Nat → Addr} {σ : L2.St} {H : Hp} {s : S} {F : Addr → Prop} {a : α} {K : α → S → (Nat → Addr) → Hp → Prop} (R : Rel N ad σ H s F) (h : Gar N W ad σ H s F (.ok a s) K) : K a s ad H := h ad H R Post.refl
/-- data that is there without a step -/
theorem tX_pure {d : D} {v : V} (hd : ∀ n ad B, RepD N n ad B v d) : ∀ σ H Q, tX N W (M.pure (.d d)) σ H Q → tC v σ H Q := by
  rintro σ H Q ⟨ad, s, F, R, h⟩
  exact Gar.pure R h v (hd _ _ _)
theorem tX_var {i : Nat} : ∀ σ H Q, tX N W (varM i) σ H Q → tVar i σ H Q := by
  rintro σ H Q ⟨ad, s, F, R, h⟩
  unfold varM at h
  cases hl : s.loc1 i with
  | none => rw [hl] at h; exact h.elim
  | some lv =>
    rw [hl] at h
    cases lv with
    | d x =>
      obtain ⟨v, e, r⟩ := R.dat i x (loc1_some.mp hl)
      exact ⟨v, e, Gar.pure R h v r⟩
    | own ce =>
      obtain ⟨a, e, _⟩ := R.own (.sl i) ce (get_sl.mpr (loc1_some.mp hl))
      rw [adr_sl] at e
      exact ⟨_, e, Gar.pure R h _ e⟩
example (f : FT) (i : Nat) : evX G f (.v i) = varM i := by rfl
example (f : FT) (a b : Ex) (op : Op) : evX G f (.bin op a b) = two (evX G f a) (evX G f b) (binF op) := by rfl
/-- storing: no step of the model -/
theorem store_ok {ad : Nat → Addr} {σ : L2.St} {H : Hp} {s : S} {F : Addr → Prop} {pv : PV} {v : V} {K : D → S → (Nat → Addr) → Hp → Prop} (R : Rel N ad σ H s F) (r : RepPV N ad σ H s F v pv) (h : Gar N W ad σ H s F (pv.store s) K) :
    ∃ d s', Rel N ad σ H s' F ∧ Post ad σ H s ad σ H s' F ∧ RepD N s'.cel.length ad (msk H (Mk ad σ s' F)) v d ∧ K d s' ad H := by
  cases pv with
  | d x => exact ⟨x, s, R, Post.refl, r, h ad H R Post.refl⟩
  | own i =>
    have r : σ[i]? = some (some v) := r
    have h : Gar N W ad σ H s F (match s.loc1 i with
      | some (LV.own c) => Res.ok c.toD { s with loc := s.loc.set i (some (LV.d c.toD)) }
      | some (LV.d x) => Res.ok x s
      | none => Res.stk) K := h
    cases hl : s.loc1 i with
    | none => rw [hl] at h; exact h.elim
    | some lv =>
      rw [hl] at h
      cases lv with
      | d x =>
        obtain ⟨w, e, rd⟩ := R.dat i x (loc1_some.mp hl)
        rw [r] at e; cases e
        exact ⟨x, s, R, Post.refl, rd, h ad H R Post.refl⟩
      | own ce =>
        obtain ⟨a, e, rd, R', P'⟩ := R.freeze (get_sl.mpr (loc1_some.mp hl))
        rw [r] at e; cases e
        exact ⟨_, _, R', P', rd, h ad H R' P'⟩
theorem tD_store {m : M PV} : ∀ σ H Q, tD N W (M.bind m fun x => x.store) σ H Q → tX N W m σ H Q := by
  rintro σ H Q ⟨ad, s, F, R, h⟩
  refine ⟨ad, s, F, R, (Gar.bind h).mono fun pv s1 ad1 H1 R1 P1 h1 v rv => ?_⟩
  obtain ⟨d, s', R', P', rd, k⟩ := store_ok R1 rv h1
  exact k v rd
/-- lists of values -/
theorem tAs_nil : ∀ σ H Q, tAs N W (M.pure []) σ H Q → tNil σ H Q := by
  rintro σ H Q ⟨ad, s, F, R, h⟩
  exact Gar.pure R h [] .nil
theorem tAs_cons {m : M PV} {mr : M (List D)} : ∀ σ H Q, tAs N W (M.bind m fun x => M.bind x.store fun d => M.bind mr fun r => M.pure (d :: r)) σ H Q → tCons (tX N W m) (tAs N W mr) σ H Q := by
  rintro σ H Q ⟨ad, s, F, R, h⟩
  refine ⟨ad, s, F, R, (Gar.bind h).mono fun pv s1 ad1 H1 R1 P1 h1 v rv => ?_⟩
  obtain ⟨d, s', R', P', rd, k⟩ := store_ok R1 rv (Gar.bind h1)
  refine ⟨ad1, s', F, R', (Gar.bind k).mono fun r s2 ad2 H2 R2 P2 h2 vs rvs => ?_⟩
  exact Gar.pure R2 h2 (v :: vs) (.cons (P2.rep rd) rvs)
theorem tPs_nil : ∀ σ H Q, tPs N W (M.pure []) σ H Q → tNil σ H Q := by
  rintro σ H Q ⟨ad, s, F, R, h⟩
  exact Gar.pure R h [] .nil
theorem tPs_cons {m : M PV} {mr : M (List PV)} : ∀ σ H Q, tPs N W (M.bind m fun x => M.bind mr fun r => M.pure (x :: r)) σ H Q → tCons (tX N W m) (tPs N W mr) σ H Q := by
  rintro σ H Q ⟨ad, s, F, R, h⟩
  refine ⟨ad, s, F, R, (Gar.bind h).mono fun pv s1 ad1 H1 R1 P1 h1 v rv => ?_⟩
  refine ⟨ad1, s1, F, R1, (Gar.bind h1).mono fun r s2 ad2 H2 R2 P2 h2 vs rvs => ?_⟩
  exact Gar.pure R2 h2 (v :: vs) (.cons (rv.post P2) rvs)
/-- a new tuple, a new list -/
theorem tX_tup {m : M (List D)} : ∀ σ H Q, tX N W (M.bind m fun xs => if xs.length ≤ line then M.pure (.d (.tup xs)) else stk) σ H Q → tTup (tAs N W m) σ H Q := by
  rintro σ H Q ⟨ad, s, F, R, h⟩
  refine ⟨ad, s, F, R, (Gar.bind h).mono fun xs s1 ad1 H1 R1 P1 h1 vs rv => ?_⟩
  split at h1
  · rename_i hl
    refine ⟨by rw [rv.length, sizeLine_line]; exact hl, fun p hp => ?_⟩
    exact h1 ad1 _ (R1.grow (new_same hp)) (.grow R1 (new_same hp)) _ (new_tup (fun p m => R1.masked m) hp rv)
  · exact h1.elim
theorem tX_lst {m : M (List D)} : ∀ σ H Q, tX N W (M.bind m fun xs => if xs.length ≤ line then M.pure (.d (.lst xs)) else stk) σ H Q → tLst (tAs N W m) σ H Q := by
  rintro σ H Q ⟨ad, s, F, R, h⟩
  refine ⟨ad, s, F, R, (Gar.bind h).mono fun xs s1 ad1 H1 R1 P1 h1 vs rv => ?_⟩
  split at h1
  · rename_i hl
    refine ⟨by rw [rv.length, sizeLine_line]; exact hl, fun p hp => ?_⟩
    exact h1 ad1 _ (R1.grow (new_same hp)) (.grow R1 (new_same hp)) _ (new_lst (fun p m => R1.masked m) hp rv)
  · exact h1.elim
/-- if t then a else b -/
theorem tX_ife {mt ma mb : M PV} : ∀ σ H Q, tX N W (M.bind mt fun x => M.bind (toB x) fun c => if c then ma else mb) σ H Q → tIf (tT N W (M.bind mt toB)) (tX N W ma) (tX N W mb) σ H Q := by
  rintro σ H Q ⟨ad, s, F, R, h⟩
  refine ⟨ad, s, F, R, ?_⟩
  have e : M.bind mt (fun x => M.bind (toB x) fun c => if c then ma else mb) = M.bind (M.bind mt toB) (fun c => if c then ma else mb) := by
    funext s; unfold M.bind; cases mt s <;> rfl
  rw [e] at h
  refine (Gar.bind h).mono fun b s1 ad1 H1 R1 P1 h1 => ?_
  cases b with
  | true => exact ⟨ad1, s1, F, R1, h1⟩
  | false => exact ⟨ad1, s1, F, R1, h1⟩
theorem bind_assoc {α β γ : Type} (m : M α) (f : α → M β) (g : β → M γ) : M.bind (M.bind m f) g = M.bind m fun x => M.bind (f x) g := by
  funext s; unfold M.bind; cases m s <;> rfl
theorem tX_not {m : M PV} : ∀ σ H Q, tX N W (M.bind m fun x => M.bind (toB x) fun b => M.pure (.d (.bl !b))) σ H Q → tNotV (tX N W m) σ H Q := by
  rintro σ H Q ⟨ad, s, F, R, h⟩
  refine ⟨ad, s, F, R, (Gar.bind h).mono fun pv s1 ad1 H1 R1 P1 h1 v rv => ?_⟩
  obtain ⟨b, rfl, k⟩ := toB_inv (Gar.bind h1) R1
  cases rv
  exact ⟨b, rfl, Gar.pure R1 k _ (.bl _)⟩
theorem tT_not {m : M PV} : ∀ σ H Q, tT N W (M.bind (M.bind m fun x => M.bind (toB x) fun b => M.pure (.d (.bl !b))) toB) σ H Q → tNot (tT N W (M.bind m toB)) σ H Q := by
  rintro σ H Q ⟨ad, s, F, R, h⟩
  refine ⟨ad, s, F, R, ?_⟩
  have e : M.bind (M.bind m fun x => M.bind (toB x) fun b => M.pure (.d (.bl !b))) toB = M.bind (M.bind m toB) fun b => M.pure !b := by
    rw [bind_assoc, bind_assoc]
    congr; funext x; rw [bind_assoc]; rfl
  rw [e] at h
  exact (Gar.bind h).mono fun b s1 ad1 H1 R1 P1 h1 => Gar.pure R1 h1
theorem tX_and {ma mb : M PV} : ∀ σ H Q, tX N W (M.bind ma fun x => M.bind (toB x) fun c => if c then mb else M.pure (.d (.bl false))) σ H Q → tAndV (tX N W ma) (tX N W mb) σ H Q := by
  rintro σ H Q ⟨ad, s, F, R, h⟩
  refine ⟨ad, s, F, R, (Gar.bind h).mono fun pv s1 ad1 H1 R1 P1 h1 v rv => ?_⟩
  obtain ⟨b, rfl, k⟩ := toB_inv (Gar.bind h1) R1
  cases rv
  cases b with
  | true => exact ⟨true, rfl, ad1, s1, F, R1, k⟩
  | false => exact ⟨false, rfl, Gar.pure R1 k _ (.bl _)⟩
theorem tX_or {ma mb : M PV} : ∀ σ H Q, tX N W (M.bind ma fun x => M.bind (toB x) fun c => if c then M.pure (.d (.bl true)) else mb) σ H Q → tOrV (tX N W ma) (tX N W mb) σ H Q := by
  rintro σ H Q ⟨ad, s, F, R, h⟩
  refine ⟨ad, s, F, R, (Gar.bind h).mono fun pv s1 ad1 H1 R1 P1 h1 v rv => ?_⟩
  obtain ⟨b, rfl, k⟩ := toB_inv (Gar.bind h1) R1
  cases rv
  cases b with
  | true => exact ⟨true, rfl, Gar.pure R1 k _ (.bl _)⟩
  | false => exact ⟨false, rfl, ad1, s1, F, R1, k⟩
theorem tT_and {ma mb : M PV} : ∀ σ H Q, tT N W (M.bind (M.bind ma fun x => M.bind (toB x) fun c => if c then mb else M.pure (.d (.bl false))) toB) σ H Q → tAnd (tT N W (M.bind ma toB)) (tT N W (M.bind mb toB)) σ H Q := by
  rintro σ H Q ⟨ad, s, F, R, h⟩
  refine ⟨ad, s, F, R, ?_⟩
  have e : M.bind (M.bind ma fun x => M.bind (toB x) fun c => if c then mb else M.pure (.d (.bl false))) toB = M.bind (M.bind ma toB) fun c => if c then M.bind mb toB else M.pure false := by
    rw [bind_assoc, bind_assoc]
    congr; funext x; rw [bind_assoc]; congr; funext c; cases c <;> rfl
  rw [e] at h
  refine (Gar.bind h).mono fun b s1 ad1 H1 R1 P1 h1 => ?_
  cases b with
  | true => exact ⟨ad1, s1, F, R1, h1⟩
  | false => exact Gar.pure R1 h1
theorem tT_or {ma mb : M PV} : ∀ σ H Q, tT N W (M.bind (M.bind ma fun x => M.bind (toB x) fun c => if c then M.pure (.d (.bl true)) else mb) toB) σ H Q → tOr (tT N W (M.bind ma toB)) (tT N W (M.bind mb toB)) σ H Q := by
  rintro σ H Q ⟨ad, s, F, R, h⟩
  refine ⟨ad, s, F, R, ?_⟩
  have e : M.bind (M.bind ma fun x => M.bind (toB x) fun c => if c then M.pure (.d (.bl true)) else mb) toB = M.bind (M.bind ma toB) fun c => if c then M.pure true else M.bind mb toB := by
    rw [bind_assoc, bind_assoc]
    congr; funext x; rw [bind_assoc]; congr; funext c; cases c <;> rfl
  rw [e] at h
  refine (Gar.bind h).mono fun b s1 ad1 H1 R1 P1 h1 => ?_
  cases b with
  | true => exact Gar.pure R1 h1
  | false => exact ⟨ad1, s1, F, R1, h1⟩
/-- a comparison as a test -/
theorem tT_two {r : R2} {f : D → D → Option D} {ma mb : M PV} (hr : ∀ x y H Q, rD2 N f x y H Q → r x y H Q) : ∀ σ H Q, tT N W (M.bind (two ma mb f) toB) σ H Q → tTest (tOp r (tX N W ma) (tX N W mb)) σ H Q := by
  rintro σ H Q h
  exact tX_two hr σ H _ (tX_tB σ H Q h)
theorem tX_chain {ma mb md : M PV} {o o2 : Cm} : ∀ σ H Q, tX N W (M.bind ma fun x => M.bind mb fun y => chainM o o2 x y md) σ H Q →
    tChain (rD2 N fun x y => (cmpF o x y).map .bl) (rD2 N fun x y => (cmpF o2 x y).map .bl) (tX N W ma) (tX N W mb) (tX N W md) σ H Q := by
  rintro σ H Q ⟨ad, s, F, R, h⟩
  refine ⟨ad, s, F, R, (Gar.bind h).mono fun a s1 ad1 H1 R1 P1 h1 x rx => ?_⟩
  refine ⟨ad1, s1, F, R1, (Gar.bind h1).mono fun b s2 ad2 H2 R2 P2 h2 y ry => ?_⟩
  have rx2 := rx.post P2
  unfold chainM at h2
  cases hx : a.val s2 with
  | none => simp only [hx] at h2; exact h2.elim
  | some dx =>
    cases hy : b.val s2 with
    | none => simp only [hx, hy] at h2; exact h2.elim
    | some dy =>
      simp only [hx, hy] at h2
      cases hf : cmpF o dx dy with
      | none => rw [hf] at h2; exact h2.elim
      | some k =>
        rw [hf] at h2
        refine ⟨_, _, Mk ad2 σ s2 F, dx, dy, .bl k, fun p m => R2.masked m, rx2.val R2 hx, ry.val R2 hy, by simp [hf], fun v H3 sm r3 => ?_⟩
        cases r3
        refine ⟨k, rfl, ?_⟩
        cases k with
        | false => exact h2 ad2 H3 (R2.grow sm) (.grow R2 sm) _ (.bl _)
        | true =>
          simp only [if_true]
          unfold chain2 at h2
          have h3 := h2.from (.grow R2 sm)
          refine ⟨ad2, s2, F, R2.grow sm, (Gar.bind h3).mono fun z s4 ad4 H4 R4 P4 h4 w rw' => ?_⟩
          have ry4 := (ry.post (.grow R2 sm)).post P4
          cases hy4 : b.val s4 with
          | none => simp only [hy4] at h4; exact h4.elim
          | some dy4 =>
            cases hz4 : z.val s4 with
            | none => simp only [hy4, hz4] at h4; exact h4.elim
            | some dz4 =>
              simp only [hy4, hz4] at h4
              cases hf4 : cmpF o2 dy4 dz4 with
              | none => rw [hf4] at h4; exact h4.elim
              | some k4 =>
                rw [hf4] at h4
                exact ⟨_, _, Mk ad4 σ s4 F, dy4, dz4, .bl k4, fun p m => R4.masked m, ry4.val R4 hy4, rw'.val R4 hz4, by simp [hf4], fun v H5 sm5 r5 => h4 ad4 H5 (R4.grow sm5) (.grow R4 sm5) v r5⟩
end Ev

set_option autoImplicit false
set_option linter.all false
set_option maxRecDepth 100000
/-! Calls. -/
namespace Ev
open PySem L2 PyProof.Rows
variable {T : Nam} {N : Nms} {G : Tab} {c : Sx} {X : Cx} {W : WX}
/-- a def's promise, by what the core says it gives -/
def spF (N : Nms) (np : Nat) (r : List D → List Cell → FRes) : Sp := fun vs H Q E => vs.length = np ∧ ∃ (ad : Nat → Addr) (cel : List Cell) (F : Addr → Prop) (as : List D), Rel N ad [] H ⟨[], cel⟩ F ∧ RepDs N cel.length ad (msk H (Mk ad [] ⟨[], cel⟩ F)) vs as ∧
  match r as cel with
  | .ok x c' => ∀ ad' H' v, Rel N ad' [] H' ⟨[], c'⟩ F → Post ad [] H ⟨[], cel⟩ ad' [] H' ⟨[], c'⟩ F → RepD N c'.length ad' (msk H' (Mk ad' [] ⟨[], c'⟩ F)) v x → Q v H'
  | .exc e c' => ∀ ad' H' cls d, Rel N ad' [] H' ⟨[], c'⟩ F → Post ad [] H ⟨[], cel⟩ ad' [] H' ⟨[], c'⟩ F → RepE N c'.length ad' (msk H' (Mk ad' [] ⟨[], c'⟩ F)) H' e cls d → E cls d H'
  | .stk => False
section
variable {ad ad' : Nat → Addr} {σ : L2.St} {H H' : Hp} {s : S} {F : Addr → Prop} {c' : List Cell}
/-- what a callee must leave: the caller's own things -/
def Hid (ad : Nat → Addr) (σ : L2.St) (s : S) (F : Addr → Prop) : Addr → Prop := fun a => F a ∨ ∃ i c, s.get (.sl i) = some c ∧ adr ad σ (.sl i) = some a
theorem noSl {i : Nat} {cc : Cell} {cel : List Cell} : ¬ (⟨[], cel⟩ : S).get (.sl i) = some cc := by
  rw [get_sl]; simp
theorem Mk_hid (a : Addr) : Mk ad [] ⟨[], s.cel⟩ (Hid ad σ s F) a ↔ Mk ad σ s F a := by
  constructor
  · rintro ((h | ⟨i, cc, h1, h2⟩) | ⟨l, cc, h1, h2⟩)
    · exact .inl h
    · exact .inr ⟨_, cc, h1, h2⟩
    · cases l with
      | sl i => exact absurd h1 noSl
      | id k => exact .inr ⟨.id k, cc, h1, h2⟩
  · rintro (h | ⟨l, cc, h1, h2⟩)
    · exact .inl (.inl h)
    · cases l with
      | sl i => exact .inl (.inr ⟨i, cc, h1, h2⟩)
      | id k => exact .inr ⟨.id k, cc, h1, h2⟩
theorem msk_congr {M M' : Addr → Prop} (h : ∀ a, M a ↔ M' a) : msk H M = msk H M' := by
  funext a
  unfold msk
  by_cases m : M a
  · rw [if_pos m, if_pos ((h a).mp m)]
  · rw [if_neg m, if_neg fun q => m ((h a).mpr q)]
theorem Rel.toStore (R : Rel N ad σ H s F) : Rel N ad [] H ⟨[], s.cel⟩ (Hid ad σ s F) where
  len := rfl
  dat := fun i x h => by simp at h
  own := fun l cc h => by
    cases l with
    | sl i => exact absurd h noSl
    | id k =>
      obtain ⟨a, e, ok⟩ := R.own (.id k) cc h
      refine ⟨a, e, ?_⟩
      rw [msk_congr (Mk_hid (ad := ad) (σ := σ) (s := s) (F := F))]
      exact ok
  inj := fun l l' cc cc' a h h' e e' => by
    cases l with
    | sl i => exact absurd h noSl
    | id k =>
      cases l' with
      | sl i => exact absurd h' noSl
      | id k' => exact R.inj (.id k) (.id k') cc cc' a h h' e e'
  frn := fun a h => by
    refine ⟨R.masked ((Mk_hid a).mp (.inl h)), fun l cc h' e => ?_⟩
    cases l with
    | sl i => exact absurd h' noSl
    | id k =>
      rcases h with h | ⟨i, c2, h1, h2⟩
      · exact (R.frn a h).2 (.id k) cc h' e
      · have := R.inj (.sl i) (.id k) c2 cc a h1 h' h2 e
        cases this
/-- behind a call: m things of the store are kept -/
theorem Rel.back (R : Rel N ad σ H s F) (R' : Rel N ad' [] H' ⟨[], c'⟩ (Hid ad σ s F)) (P : Post ad [] H ⟨[], s.cel⟩ ad' [] H' ⟨[], c'⟩ (Hid ad σ s F)) (m : Nat) (h1 : s.cel.length ≤ m) (h2 : m ≤ c'.length)
    (hc : ∀ k cc, k < m → c'[k]? = some cc → CelOk N m ad' (msk H' (Mk ad' [] ⟨[], c'⟩ (Hid ad σ s F))) H' (ad' k) cc) :
    Rel N ad' σ H' { s with cel := c'.take m } F ∧ Post ad σ H s ad' σ H' { s with cel := c'.take m } F ∧ Sm (msk H' (Mk ad' [] ⟨[], c'⟩ (Hid ad σ s F))) (msk H' (Mk ad' σ { s with cel := c'.take m } F)) := by
  have hl : (c'.take m).length = m := by rw [List.length_take]; omega
  have gid : ∀ k cc, ({ s with cel := c'.take m } : S).get (.id k) = some cc → k < m ∧ c'[k]? = some cc := fun k cc h => by
    have h : (c'.take m)[k]? = some cc := h
    have hk : k < m := by
      have := (List.getElem?_eq_some_iff.mp h).1
      rw [hl] at this; exact this
    rw [List.getElem?_take, if_pos hk] at h
    exact ⟨hk, h⟩
  have gsl : ∀ i cc, ({ s with cel := c'.take m } : S).get (.sl i) = some cc ↔ s.get (.sl i) = some cc := fun i cc => Iff.rfl
  have asl : ∀ i, adr ad' σ (.sl i) = adr ad σ (.sl i) := fun i => rfl
  have sub : ∀ a, Mk ad' σ { s with cel := c'.take m } F a → Mk ad' [] ⟨[], c'⟩ (Hid ad σ s F) a := by
    rintro a (h | ⟨l, cc, q1, q2⟩)
    · exact .inl (.inl h)
    · cases l with
      | sl i => exact .inl (.inr ⟨i, cc, q1, q2⟩)
      | id k => exact .inr ⟨.id k, cc, (gid k cc q1).2, q2⟩
  have sm2 := sm_sub (H := H') sub
  have sm : Sm (msk H (Mk ad σ s F)) (msk H' (Mk ad' σ { s with cel := c'.take m } F)) := by
    rw [← msk_congr (Mk_hid (ad := ad) (σ := σ) (s := s) (F := F))]
    exact P.sm.trans sm2
  have agr : ∀ k, k < s.cel.length → ad' k = ad k := P.agr
  have ln : s.cel.length ≤ ({ s with cel := c'.take m } : S).cel.length := by show _ ≤ (c'.take m).length; rw [hl]; exact h1
  refine ⟨⟨R.len, ?_, ?_, ?_, ?_⟩, ⟨agr, ln, rfl, sm, fun a h => P.frn a (.inl h)⟩, sm2⟩
  · intro i x h
    obtain ⟨v, e, r⟩ := R.dat i x h
    exact ⟨v, e, r.mono ln agr sm⟩
  · intro l cc h
    cases l with
    | sl i =>
      obtain ⟨a, e, ok⟩ := R.own (.sl i) cc h
      exact ⟨a, e, ok.mono ln agr sm (P.frn a (.inr ⟨i, cc, h, e⟩))⟩
    | id k =>
      obtain ⟨hk, h⟩ := gid k cc h
      refine ⟨ad' k, rfl, (hc k cc hk h).mono (Nat.le_of_eq hl.symm) (fun _ _ => rfl) sm2 rfl⟩
  · intro l l' cc cc' a h h' e e'
    cases l with
    | sl i =>
      cases l' with
      | sl j => exact R.inj _ _ cc cc' a h h' e e'
      | id k =>
        obtain ⟨hk, h'⟩ := gid k cc' h'
        exact absurd e' ((R'.frn a (.inr ⟨i, cc, h, e⟩)).2 (.id k) cc' h')
    | id k =>
      obtain ⟨hk, h⟩ := gid k cc h
      cases l' with
      | sl j => exact absurd e ((R'.frn a (.inr ⟨j, cc', h', e'⟩)).2 (.id k) cc h)
      | id k' =>
        obtain ⟨hk', h'⟩ := gid k' cc' h'
        exact R'.inj _ _ cc cc' a h h' e e'
  · intro a h
    obtain ⟨q1, q2⟩ := R'.frn a (.inl h)
    refine ⟨q1, fun l cc h' e => ?_⟩
    cases l with
    | sl i => exact (R.frn a h).2 (.sl i) cc h' e
    | id k => exact q2 (.id k) cc (gid k cc h').2 e
/-- a store of its own -/
theorem Rel.fresh (R : Rel N ad σ H s F) : Rel N ad [] H ⟨[], []⟩ (Mk ad σ s F) where
  len := rfl
  dat := fun i x h => by simp at h
  own := fun l cc h => by
    cases l with
    | sl i => exact absurd h noSl
    | id k => have h : ([] : List Cell)[k]? = some cc := h; simp at h
  inj := fun l l' cc cc' a h h' e e' => by
    cases l with
    | sl i => exact absurd h noSl
    | id k => have h : ([] : List Cell)[k]? = some cc := h; simp at h
  frn := fun a h => ⟨R.masked h, fun l cc h' e => by
    cases l with
    | sl i => exact absurd h' noSl
    | id k => have h' : ([] : List Cell)[k]? = some cc := h'; simp at h'⟩
theorem Mk_fresh (a : Addr) {M : Addr → Prop} : Mk ad [] ⟨[], []⟩ M a ↔ M a := by
  constructor
  · rintro (h | ⟨l, cc, h1, h2⟩)
    · exact h
    · cases l with
      | sl i => exact absurd h1 noSl
      | id k => have h1 : ([] : List Cell)[k]? = some cc := h1; simp at h1
  · exact .inl
/-- behind a call in a store of its own (cel: what it began with) -/
theorem Rel.backP {H0 : Hp} {ad0 : Nat → Addr} {cel : List Cell} (R : Rel N ad σ H s F) (k0 : Same H H0) (P : Post ad0 [] H0 ⟨[], cel⟩ ad' [] H' ⟨[], c'⟩ (Mk ad σ s F)) (hcel : Sm (msk H (Mk ad σ s F)) (msk H0 (Mk ad0 [] ⟨[], cel⟩ (Mk ad σ s F)))) :
    Rel N ad σ H' s F ∧ Post ad σ H s ad σ H' s F ∧ Sm (msk H' (Mk ad' [] ⟨[], c'⟩ (Mk ad σ s F))) (msk H' (Mk ad σ s F)) := by
  have sm2 : Sm (msk H' (Mk ad' [] ⟨[], c'⟩ (Mk ad σ s F))) (msk H' (Mk ad σ s F)) := sm_sub fun a h => .inl h
  have sm : Sm (msk H (Mk ad σ s F)) (msk H' (Mk ad σ s F)) := (hcel.trans P.sm).trans sm2
  have hk : ∀ a, Mk ad σ s F a → H' a = H a := fun a h => by
    rw [P.frn a h]
    obtain ⟨o, ho⟩ := R.masked h
    rw [ho]; exact k0 a o ho
  refine ⟨⟨R.len, ?_, ?_, R.inj, ?_⟩, ⟨fun _ _ => rfl, Nat.le_refl _, rfl, sm, fun a h => hk a (.inl h)⟩, sm2⟩
  · intro i x h
    obtain ⟨v, e, r⟩ := R.dat i x h
    exact ⟨v, e, r.mono (Nat.le_refl _) (fun _ _ => rfl) sm⟩
  · intro l cc h
    obtain ⟨a, e, ok⟩ := R.own l cc h
    exact ⟨a, e, ok.mono (Nat.le_refl _) (fun _ _ => rfl) sm (hk a (.inr ⟨l, cc, h, e⟩))⟩
  · intro a h
    obtain ⟨⟨o, ho⟩, h2⟩ := R.frn a h
    exact ⟨⟨o, (hk a (.inl h)).trans ho⟩, h2⟩
theorem blw_of {n : Nat} {cc : Cell} (h : cc.blw n = true) {ad : Nat → Addr} {B H : Hp} {a : Addr} {m : Nat} (ok : CelOk N m ad B H a cc) : CelOk N n ad B H a cc := ok.blw _ h
theorem Cell.toD_blw {n : Nat} : ∀ (cc : Cell), cc.toD.blw n = cc.blw n
  | .lst _ => by simp [Cell.toD, Cell.blw, D.blw]
  | .dct _ => by simp [Cell.toD, Cell.blw, D.blw]
  | .obj _ _ => by simp [Cell.toD, Cell.blw, D.blw]
/-- a thing that is given back, read as data -/
theorem snap_rep {n : Nat} {B' : Hp} (R' : Rel N ad' [] H' ⟨[], c'⟩ F) (sm : Sm (msk H' (Mk ad' [] ⟨[], c'⟩ F)) B') (hn : n ≤ c'.length) (free : ∀ k cc, n ≤ k → c'[k]? = some cc → B' (ad' k) = H' (ad' k)) {v : V} {x : D}
    (r : RepD N c'.length ad' (msk H' (Mk ad' [] ⟨[], c'⟩ F)) v x) (hb : (snap n c' x).blw n = true) : RepD N n ad' B' v (snap n c' x) := by
  cases x with
  | ref k =>
    cases r with
    | ref hk =>
    simp only [snap] at hb ⊢
    by_cases h : k < n
    · rw [if_pos h]; exact .ref h
    · rw [if_neg h] at hb ⊢
      cases hc : c'[k]? with
      | none =>
        have := List.getElem?_eq_none_iff.mp hc
        omega
      | some cc =>
        rw [hc] at hb
        simp only at hb ⊢
        obtain ⟨a, e, ok⟩ := R'.own (.id k) cc hc
        have e : some (ad' k) = some a := e
        cases e
        rw [Cell.toD_blw] at hb
        exact (blw_of hb ok).toD sm (free k cc (by omega) hc) _
  | _ => exact (r.mono (Nat.le_refl _) (fun _ _ => rfl) sm).blw _ hb
theorem RepE.mono {n n' : Nat} {ad ad' : Nat → Addr} {B B' H : Hp} {e : Exc} {cls : Value} {d : Option Addr} (hn : n ≤ n') (ha : ∀ k, k < n → ad' k = ad k) (k : Sm B B') (r : RepE N n ad B H e cls d) : RepE N n' ad' B' H e cls d :=
  ⟨r.1, r.2.imp id fun ⟨dd, fv, e1, e2, e3⟩ => ⟨dd, fv, e1, e2, e3.mono hn ha k⟩⟩
theorem RepE.blw {n m : Nat} {ad : Nat → Addr} {B H : Hp} {e : Exc} {cls : Value} {d : Option Addr} (h : e.blw m = true) (r : RepE N n ad B H e cls d) : RepE N m ad B H e cls d :=
  ⟨r.1, r.2.imp id fun ⟨dd, fv, e1, e2, e3⟩ => ⟨dd, fv, e1, e2, e3.blw _ h⟩⟩
theorem RepE.pure {n m : Nat} {ad ad' : Nat → Addr} {B H : Hp} {e : Exc} {cls : Value} {d : Option Addr} (h : e.blw 0 = true) (r : RepE N n ad B H e cls d) : RepE N m ad' B H e cls d :=
  ⟨r.1, r.2.imp id fun ⟨dd, fv, e1, e2, e3⟩ => ⟨dd, fv, e1, e2, e3.pure _ h⟩⟩
/-- a call keeps what the core says -/
theorem call_sp {q : Ck} {np : Nat} {r : List D → List Cell → FRes} {as : List D} {vs : List V} {Q : VK} (R : Rel N ad σ H s F) (rv : RepDs N s.cel.length ad (msk H (Mk ad σ s F)) vs as) (hn : vs.length = np)
    (h : Gar N W ad σ H s F (doCall q r as s) fun x s' ad' H' => ∀ v, RepD N s'.cel.length ad' (msk H' (Mk ad' σ s' F)) v x → Q v H') : spF N np r vs H Q (WE W σ) := by
  refine ⟨hn, ?_⟩
  have shared : q ≠ .pure → ∃ (ad : Nat → Addr) (cel : List Cell) (F : Addr → Prop) (as : List D), Rel N ad [] H ⟨[], cel⟩ F ∧ RepDs N cel.length ad (msk H (Mk ad [] ⟨[], cel⟩ F)) vs as ∧
      match r as cel with
      | .ok x c' => ∀ ad' H' v, Rel N ad' [] H' ⟨[], c'⟩ F → Post ad [] H ⟨[], cel⟩ ad' [] H' ⟨[], c'⟩ F → RepD N c'.length ad' (msk H' (Mk ad' [] ⟨[], c'⟩ F)) v x → Q v H'
      | .exc e c' => ∀ ad' H' cls d, Rel N ad' [] H' ⟨[], c'⟩ F → Post ad [] H ⟨[], cel⟩ ad' [] H' ⟨[], c'⟩ F → RepE N c'.length ad' (msk H' (Mk ad' [] ⟨[], c'⟩ F)) H' e cls d → WE W σ cls d H'
      | .stk => False := fun hq => by
    refine ⟨ad, s.cel, Hid ad σ s F, as, R.toStore, by rw [msk_congr (Mk_hid (ad := ad) (σ := σ) (s := s) (F := F))]; exact rv, ?_⟩
    have plainC : ∀ (c' : List Cell) (ad' : Nat → Addr) (H' : Hp), Rel N ad' [] H' ⟨[], c'⟩ (Hid ad σ s F) → ∀ k cc, k < c'.length → c'[k]? = some cc → CelOk N c'.length ad' (msk H' (Mk ad' [] ⟨[], c'⟩ (Hid ad σ s F))) H' (ad' k) cc := fun c' ad' H' R' k cc _ hc => by
      obtain ⟨a, e, ok⟩ := R'.own (.id k) cc hc
      have e : some (ad' k) = some a := e
      cases e
      exact ok
    have truncC : ∀ (c' : List Cell) (ad' : Nat → Addr) (H' : Hp), (c'.take s.cel.length).all (Cell.blw s.cel.length) = true → Rel N ad' [] H' ⟨[], c'⟩ (Hid ad σ s F) →
        ∀ k cc, k < s.cel.length → c'[k]? = some cc → CelOk N s.cel.length ad' (msk H' (Mk ad' [] ⟨[], c'⟩ (Hid ad σ s F))) H' (ad' k) cc := fun c' ad' H' hb R' k cc hk hc => by
      obtain ⟨a, e, ok⟩ := R'.own (.id k) cc hc
      have e : some (ad' k) = some a := e
      cases e
      refine blw_of (List.all_eq_true.mp hb cc ?_) ok
      exact List.mem_of_getElem? (i := k) (by rw [List.getElem?_take, if_pos hk]; exact hc)
    cases q with
    | pure => exact absurd rfl hq
    | plain =>
      have h : Gar N W ad σ H s F (endC .plain s.cel (r as s.cel) s) _ := h
      cases hr : r as s.cel with
      | ok x c' =>
        rw [hr] at h
        intro ad' H' v R' P' rx
        obtain ⟨R2, P2, sm⟩ := R.back R' P' c'.length P'.len (Nat.le_refl _) (plainC c' ad' H' R')
        rw [List.take_length] at R2 P2 sm
        exact h ad' H' R2 P2 v (rx.mono (Nat.le_refl _) (fun _ _ => rfl) sm)
      | exc e c' =>
        rw [hr] at h
        intro ad' H' cls d R' P' rx
        obtain ⟨R2, P2, sm⟩ := R.back R' P' c'.length P'.len (Nat.le_refl _) (plainC c' ad' H' R')
        rw [List.take_length] at R2 P2 sm
        exact h cls d ad' H' R2 P2 (rx.mono (Nat.le_refl _) (fun _ _ => rfl) sm)
      | stk => rw [hr] at h; exact h
    | trunc =>
      have h : Gar N W ad σ H s F (endC .trunc s.cel (r as s.cel) s) _ := h
      cases hr : r as s.cel with
      | ok x c' =>
        rw [hr] at h
        intro ad' H' v R' P' rx
        unfold endC at h
        simp only at h
        split at h
        · rename_i hb
          simp only [Bool.and_eq_true] at hb
          obtain ⟨R2, P2, sm⟩ := R.back R' P' s.cel.length (Nat.le_refl _) P'.len (truncC c' ad' H' hb.2 R')
          have hl : (c'.take s.cel.length).length = s.cel.length := by rw [List.length_take]; have : s.cel.length ≤ c'.length := P'.len; omega
          refine h ad' H' R2 P2 v ?_
          show RepD N (c'.take s.cel.length).length _ _ _ _
          rw [hl]
          refine snap_rep R' sm P'.len (fun k cc hk hc => ?_) rx hb.1
          refine msk_of fun m => ?_
          rcases m with m | ⟨l, c2, q1, q2⟩
          · exact (R'.frn _ (.inl m)).2 (.id k) cc hc rfl
          · cases l with
            | sl i => exact (R'.frn _ (.inr ⟨i, c2, q1, q2⟩)).2 (.id k) cc hc rfl
            | id j =>
              have q1 : (c'.take s.cel.length)[j]? = some c2 := q1
              have hj := (List.getElem?_eq_some_iff.mp q1).1
              rw [hl] at hj
              rw [List.getElem?_take, if_pos hj] at q1
              have := R'.inj (.id j) (.id k) c2 cc _ q1 hc q2 rfl
              cases this
              have hk : s.cel.length ≤ k := hk
              omega
        · exact h.elim
      | exc e c' =>
        rw [hr] at h
        intro ad' H' cls d R' P' rx
        unfold endC at h
        simp only at h
        split at h
        · rename_i hb
          simp only [Bool.and_eq_true] at hb
          obtain ⟨R2, P2, sm⟩ := R.back R' P' s.cel.length (Nat.le_refl _) P'.len (truncC c' ad' H' hb.2 R')
          have hl : (c'.take s.cel.length).length = s.cel.length := by rw [List.length_take]; have : s.cel.length ≤ c'.length := P'.len; omega
          refine h cls d ad' H' R2 P2 ?_
          show RepE N (c'.take s.cel.length).length _ _ _ _ _ _
          rw [hl]
          exact (rx.blw hb.1).mono (Nat.le_refl _) (fun _ _ => rfl) sm
        · exact h.elim
      | stk => rw [hr] at h; exact h
  cases q with
  | plain => exact shared (by intro z; cases z)
  | trunc => exact shared (by intro z; cases z)
  | pure =>
    have h : Gar N W ad σ H s F (if D.blws 0 as then endC .pure [] (r as []) s else .stk) _ := h
    split at h
    · rename_i hb
      have mf : msk H (Mk ad [] ⟨[], []⟩ (Mk ad σ s F)) = msk H (Mk ad σ s F) := msk_congr fun a => Mk_fresh a
      refine ⟨ad, [], Mk ad σ s F, as, R.fresh, ?_, ?_⟩
      · rw [mf]
        exact RepDs.pure _ hb rv
      · have hcel : Sm (msk H (Mk ad σ s F)) (msk H (Mk ad [] ⟨[], []⟩ (Mk ad σ s F))) := by rw [mf]; exact Sm.refl _
        cases hr : r as [] with
        | ok x c' =>
          rw [hr] at h
          intro ad' H' v R' P' rx
          unfold endC at h
          simp only at h
          split at h
          · rename_i hb2
            obtain ⟨R2, P2, sm⟩ := R.backP (Same.refl _) P' hcel
            refine h ad H' R2 P2 v ?_
            have := snap_rep (n := 0) R' sm (Nat.zero_le _) (fun k cc hk hc => ?_) rx hb2
            · exact RepD.pure _ hb2 this
            · exact msk_of fun m => (R'.frn _ m).2 (.id k) cc hc rfl
          · exact h.elim
        | exc e c' =>
          rw [hr] at h
          intro ad' H' cls d R' P' rx
          unfold endC at h
          simp only at h
          split at h
          · rename_i hb2
            obtain ⟨R2, P2, sm⟩ := R.backP (Same.refl _) P' hcel
            exact h cls d ad H' R2 P2 ((rx.mono (Nat.le_refl _) (fun _ _ => rfl) sm).pure hb2)
          · exact h.elim
        | stk => rw [hr] at h; exact h
    · exact h.elim
end
/-- a def that may be called: it stands at fa -/
structure FnAt (N : Nms) (X : Cx) (F : FT) (f : Nat) (fa : Addr) (k : Nat) (fd : FuncData) (ps : List Str) : Prop where
  kp : PySem.W.keepIn X.K (.ref fa) = true
  bd : Binds X.K fd ps []
  ok : FnOk X.prog X.w X.K X.mg X.base (L2.CX X.prog X.w) k fa fd ps (spF N ps.length (F f))
  ln : ∀ as c, F f as c ≠ .stk → as.length = ps.length
/-- the defs that may be called -/
structure Fns (T : Nam) (N : Nms) (G : Tab) (X : Cx) (F : FT) : Prop where
  fn : ∀ (f : Nat) (x : Str), T.fn f = some x → ∃ (fa : Addr) (fd : FuncData) (ps : List Str) (k : Nat), X.mg x = some (.ref fa) ∧ Room k X.A ∧ FnAt N X F f fa k fd ps
  mt : ∀ (c m f : Nat), G.meth c m = some f → ∃ (fa : Addr) (fd : FuncData) (ps : List Str) (k : Nat), c < G.ncls ∧ Meth X.K (N.cl c) (N.nm m) fa ∧ Room k X.A ∧ FnAt N X F f fa k fd ps
  mak : ∀ (c f : Nat), G.ini c = some f → ∃ (fa : Addr) (fd : FuncData) (ps : List Str) (k : Nat), c < G.ncls ∧ L2.Mk X.K (N.cl c) fa ∧ Room (k + 1) X.A ∧ FnAt N X F f fa k fd ps
theorem endC_stk {q : Ck} {c0 : List Cell} {s : S} : endC q c0 .stk s = .stk := by cases q <;> rfl
theorem doCall_len {q : Ck} {np : Nat} {r : List D → List Cell → FRes} (hl : ∀ as c, r as c ≠ .stk → as.length = np) {ad1 : Nat → Addr} {σ : L2.St} {H1 : Hp} {s1 : S} {F : Addr → Prop} {as : List D} {K : D → S → (Nat → Addr) → Hp → Prop} (h2 : Gar N W ad1 σ H1 s1 F (doCall q r as s1) K) : as.length = np := by
  cases q with
  | pure =>
    have h3 : Gar N W ad1 σ H1 s1 F (if D.blws 0 as then endC .pure [] (r as []) s1 else .stk) _ := h2
    by_cases hb : D.blws 0 as = true
    · rw [if_pos hb] at h3
      by_cases e : r as [] = .stk
      · rw [e, endC_stk] at h3; exact h3.elim
      · exact hl _ _ e
    · rw [if_neg hb] at h3; exact h3.elim
  | plain =>
    have h3 : Gar N W ad1 σ H1 s1 F (endC .plain s1.cel (r as s1.cel) s1) _ := h2
    by_cases e : r as s1.cel = .stk
    · rw [e, endC_stk] at h3; exact h3.elim
    · exact hl _ _ e
  | trunc =>
    have h3 : Gar N W ad1 σ H1 s1 F (endC .trunc s1.cel (r as s1.cel) s1) _ := h2
    by_cases e : r as s1.cel = .stk
    · rw [e, endC_stk] at h3; exact h3.elim
    · exact hl _ _ e
theorem tX_call {q : Ck} {np : Nat} {r : List D → List Cell → FRes} {m : M (List D)} (hl : ∀ as c, r as c ≠ .stk → as.length = np) : ∀ σ H Q, tX N W (M.bind m fun as => M.bind (doCall q r as) fun x => M.pure (.d x)) σ H Q → tCallS (spF N np r) (WE W) (tAs N W m) σ H Q := by
  rintro σ H Q ⟨ad, s, F, R, h⟩
  refine ⟨ad, s, F, R, (Gar.bind h).mono fun as s1 ad1 H1 R1 P1 h1 vs rv => ?_⟩
  have h2 := Gar.bind h1
  refine call_sp (q := q) R1 rv ?_ (h2.mono fun x s2 ad2 H2 R2 P2 k v rx => Gar.pure R2 k v rx)
  rw [rv.length]
  exact doCall_len hl h2
end Ev

set_option autoImplicit false
set_option linter.all false
set_option maxRecDepth 100000
/-! enumerate of lists and of tuples, from any count. -/
namespace Ev
open PySem L2 PyProof.Rows
def IteL (K : PySem.W.Frag) (a : Addr) (k0 : Int) : L2.It :=
  ⟨fun i H => ∃ (xs : List V) (x : V), SqL K H a xs ∧ xs[i]? = some x, fun i H v H' => ∃ T x, v = .ref T ∧ H T = none ∧ H' = upd H T (.tup [.int (k0 + (i : Nat)), x]) ∧ ∀ xs, SqL K H a xs → xs[i]? = some x, fun i H => ∃ xs : List V, SqL K H a xs ∧ xs.length = i⟩
theorem turn_enumL {P : Program} {w : World} {K : PySem.W.Frag} {elts : List Expr} {kk : Nat} {tpos : Pos} (a e it : Addr) (k0 : Int) :
    Turn P w K (.Tuple elts kk tpos) (IteL K a k0) [e, it] e (fun i h => (∃ old, IsEnum h e it (k0 + (i : Nat)) old) ∧ h.IsListIter it a i ∧ e ≠ it) where
  mem := by simp
  obj := fun i h st b hb => by
    obtain ⟨⟨old, he⟩, ⟨o, ho, hc, hd⟩, _⟩ := st
    have e' : b = e ∨ b = it := by simpa using hb
    rcases e' with z | z
    · rw [z]; exact ⟨_, he, fun v q => nomatch q⟩
    · rw [z]; exact ⟨o, ho, fun v q => by rw [hd] at q; cases q⟩
  keep := fun i h h' st k => let ⟨⟨old, he⟩, hi, hne⟩ := st; ⟨⟨old, k e (by simp) _ he⟩, hi.at fun o q => k it (by simp) o q, hne⟩
  item := by
    intro X hP hw hK hc i pins s σ H E I hf st hg
    subst hP hw hK
    obtain ⟨⟨old, he⟩, hit, hne⟩ := st
    obtain ⟨xs, x, hq, hx⟩ := hg
    obtain ⟨its, rv, p, hz⟩ := I.list hq
    obtain ⟨u, hu, ru⟩ := rv.get hx
    have hel : e < s.heap.objs.size := Heap.lt_size he
    have hil : it < s.heap.objs.size := by obtain ⟨_, q, _⟩ := hit; exact Heap.lt_size q
    have hlt : i < its.toArray.size := by
      have := (List.getElem?_eq_some_iff.mp hu).1
      simpa using this
    have hal : a ≠ it := fun z => by
      obtain ⟨o1, q1, q2, _⟩ := hit
      obtain ⟨o2, q3, q4, _⟩ := p.isList
      rw [z, q1] at q3; cases q3
      rw [q2] at q4; exact absurd q4 (by simp)
    have hae : e ≠ a := fun z => by
      obtain ⟨o2, q3, q4, _⟩ := p.isList
      rw [← z, he] at q3; cases q3
      exact absurd q4 (by simp)
    have D := Draws.list (prog := X.prog) (w := X.w) (A := X.A.in1) (I.ok.hd hc) it a hal its.toArray
    refine wpAny_pyNext_enum_itemC D he ⟨hit, p.isList⟩ hlt hne (by simp [hne, hae]) fun y h' tk hP ho hit' hT hsz hk => ?_
    have ey : y = u := by
      have q : its.toArray[i]? = some y := hP
      have q2 : its.toArray[i]? = some u := by simpa using hu
      rw [q2] at q; exact (Option.some.inj q).symm
    subst ey
    refine ⟨_, rfl, wpAny_letOwnedTupleGo_enum (s := { s with heap := h', toks := tk + 1 }) ho fun h'' he' sb => ?_⟩
    have hT2 : h''.get? s.heap.objs.size = some { cls := .type "tuple", data := .seq #[.int (k0 + (i : Nat)) tk, y] } := (sb.2 _ (Nat.ne_of_gt hel)).trans hT
    have new : ObjOk X.prog X.w (upd H s.heap.objs.size (.tup [.int (k0 + (i : Nat)), x])) h'' s.heap.objs.size (.tup [.int (k0 + (i : Nat)), x]) :=
      ⟨by show 2 ≤ sizeLine; decide, [.int (k0 + (i : Nat)) tk, y], .cons ⟨_, rfl⟩ (.cons ru .nil), ⟨_, hT2, rfl, _, rfl⟩⟩
    have I1 : Inv X pins σ (upd H s.heap.objs.size (.tup [.int (k0 + (i : Nat)), x])) { s with heap := h'', toks := tk + 1 } :=
      I.turnedNew (ch := [e, it]) (fun b ob hb q => (sb.2 b (fun z => hb (by simp [z]))).trans (hk b ob (fun z => hb (by simp [z])) (fun z => hb (by simp [z])) q)) hf (Nat.le_refl _) new
    refine ⟨.ref s.heap.objs.size, _, I1, rfl, ⟨_, x, rfl, I.hok.fresh (Nat.le_refl _), rfl, fun ys hy => by rw [I.list_inj hy hq]; exact hx⟩, ⟨⟨y, ?_⟩, hit'.1.at fun o q => (sb.2 it (Ne.symm hne)).trans q, hne⟩, fun b hb => ?_⟩
    · have e1 : k0 + ((i + 1 : Nat) : Int) = k0 + (i : Nat) + 1 := by omega
      rw [e1]; exact he'
    · have hb' : b < s.heap.objs.size := by
        have e' : b = e ∨ b = it := by simpa using hb
        rcases e' with z | z
        · rw [z]; exact hel
        · rw [z]; exact hil
      rw [upd_ne (Nat.ne_of_lt hb')]
      exact (hf b hb).1
  done := by
    intro X hP hw hK hc i pins s σ H E I hf st hg
    subst hP hw hK
    obtain ⟨⟨old, he⟩, hit, hne⟩ := st
    obtain ⟨xs, hq, hx⟩ := hg
    obtain ⟨its, rv, p, hz⟩ := I.list hq
    obtain ⟨f0, f1, f2, f3, f4, f5⟩ := hf it (by simp)
    have hl := rv.length
    have hal : a ≠ it := fun z => by
      obtain ⟨o1, q1, q2, _⟩ := hit
      obtain ⟨o2, q3, q4, _⟩ := p.isList
      rw [z, q1] at q3; cases q3
      rw [q2] at q4; exact absurd q4 (by simp)
    have D := Draws.list (prog := X.prog) (w := X.w) (A := X.A.in1) (I.ok.hd hc) it a hal its.toArray
    have hi : its.toArray.size = i := by simp; omega
    exact wpAny_pyNext_enum_endD D he ⟨by rw [hi]; exact hit, p.isList⟩ fun h' eb => ⟨rfl, I.turned (t' := s.toks) (fun b o hb q => eb b o hb q) f0 f1 f3 f4 f5⟩
  self := fun A i s Q E st h => let ⟨⟨_, he⟩, _⟩ := st; wpAny_pyIter_enum he h
def IteT (K : PySem.W.Frag) (a : Addr) (k0 : Int) : L2.It :=
  ⟨fun i H => ∃ (xs : List V) (x : V), SqT K H a xs ∧ xs[i]? = some x, fun i H v H' => ∃ T x, v = .ref T ∧ H T = none ∧ H' = upd H T (.tup [.int (k0 + (i : Nat)), x]) ∧ ∀ xs, SqT K H a xs → xs[i]? = some x, fun i H => ∃ xs : List V, SqT K H a xs ∧ xs.length = i⟩
theorem turn_enumT {P : Program} {w : World} {K : PySem.W.Frag} {elts : List Expr} {kk : Nat} {tpos : Pos} (a e it : Addr) (k0 : Int) :
    Turn P w K (.Tuple elts kk tpos) (IteT K a k0) [e, it] e (fun i h => (∃ old, IsEnum h e it (k0 + (i : Nat)) old) ∧ h.IsTupleIter it a i ∧ e ≠ it) where
  mem := by simp
  obj := fun i h st b hb => by
    obtain ⟨⟨old, he⟩, ⟨o, ho, hc, hd⟩, _⟩ := st
    have e' : b = e ∨ b = it := by simpa using hb
    rcases e' with z | z
    · rw [z]; exact ⟨_, he, fun v q => nomatch q⟩
    · rw [z]; exact ⟨o, ho, fun v q => by rw [hd] at q; cases q⟩
  keep := fun i h h' st k => let ⟨⟨old, he⟩, hi, hne⟩ := st; ⟨⟨old, k e (by simp) _ he⟩, hi.at fun o q => k it (by simp) o q, hne⟩
  item := by
    intro X hP hw hK hc i pins s σ H E I hf st hg
    subst hP hw hK
    obtain ⟨⟨old, he⟩, hit, hne⟩ := st
    obtain ⟨xs, x, hq, hx⟩ := hg
    obtain ⟨its, rv, p, hz⟩ := I.tuple hq
    obtain ⟨u, hu, ru⟩ := rv.get hx
    have hel : e < s.heap.objs.size := Heap.lt_size he
    have hil : it < s.heap.objs.size := by obtain ⟨_, q, _⟩ := hit; exact Heap.lt_size q
    have hlt : i < its.toArray.size := by
      have := (List.getElem?_eq_some_iff.mp hu).1
      simpa using this
    have hal : a ≠ it := fun z => by
      obtain ⟨o1, q1, q2, _⟩ := hit
      obtain ⟨o2, q3, q4, _⟩ := p
      rw [z, q1] at q3; cases q3
      rw [q2] at q4; exact absurd q4 (by simp)
    have hae : e ≠ a := fun z => by
      obtain ⟨o2, q3, q4, _⟩ := p
      rw [← z, he] at q3; cases q3
      exact absurd q4 (by simp)
    have D := Draws.tuple (prog := X.prog) (w := X.w) (A := X.A.in1) (I.ok.hd hc) it a hal its.toArray
    refine wpAny_pyNext_enum_itemC D he ⟨hit, p⟩ hlt hne (by simp [hne, hae]) fun y h' tk hP ho hit' hT hsz hk => ?_
    have ey : y = u := by
      have q : its.toArray[i]? = some y := hP
      have q2 : its.toArray[i]? = some u := by simpa using hu
      rw [q2] at q; exact (Option.some.inj q).symm
    subst ey
    refine ⟨_, rfl, wpAny_letOwnedTupleGo_enum (s := { s with heap := h', toks := tk + 1 }) ho fun h'' he' sb => ?_⟩
    have hT2 : h''.get? s.heap.objs.size = some { cls := .type "tuple", data := .seq #[.int (k0 + (i : Nat)) tk, y] } := (sb.2 _ (Nat.ne_of_gt hel)).trans hT
    have new : ObjOk X.prog X.w (upd H s.heap.objs.size (.tup [.int (k0 + (i : Nat)), x])) h'' s.heap.objs.size (.tup [.int (k0 + (i : Nat)), x]) :=
      ⟨by show 2 ≤ sizeLine; decide, [.int (k0 + (i : Nat)) tk, y], .cons ⟨_, rfl⟩ (.cons ru .nil), ⟨_, hT2, rfl, _, rfl⟩⟩
    have I1 : Inv X pins σ (upd H s.heap.objs.size (.tup [.int (k0 + (i : Nat)), x])) { s with heap := h'', toks := tk + 1 } :=
      I.turnedNew (ch := [e, it]) (fun b ob hb q => (sb.2 b (fun z => hb (by simp [z]))).trans (hk b ob (fun z => hb (by simp [z])) (fun z => hb (by simp [z])) q)) hf (Nat.le_refl _) new
    refine ⟨.ref s.heap.objs.size, _, I1, rfl, ⟨_, x, rfl, I.hok.fresh (Nat.le_refl _), rfl, fun ys hy => by rw [I.tuple_inj hy hq]; exact hx⟩, ⟨⟨y, ?_⟩, hit'.1.at fun o q => (sb.2 it (Ne.symm hne)).trans q, hne⟩, fun b hb => ?_⟩
    · have e1 : k0 + ((i + 1 : Nat) : Int) = k0 + (i : Nat) + 1 := by omega
      rw [e1]; exact he'
    · have hb' : b < s.heap.objs.size := by
        have e' : b = e ∨ b = it := by simpa using hb
        rcases e' with z | z
        · rw [z]; exact hel
        · rw [z]; exact hil
      rw [upd_ne (Nat.ne_of_lt hb')]
      exact (hf b hb).1
  done := by
    intro X hP hw hK hc i pins s σ H E I hf st hg
    subst hP hw hK
    obtain ⟨⟨old, he⟩, hit, hne⟩ := st
    obtain ⟨xs, hq, hx⟩ := hg
    obtain ⟨its, rv, p, hz⟩ := I.tuple hq
    obtain ⟨f0, f1, f2, f3, f4, f5⟩ := hf it (by simp)
    have hl := rv.length
    have hal : a ≠ it := fun z => by
      obtain ⟨o1, q1, q2, _⟩ := hit
      obtain ⟨o2, q3, q4, _⟩ := p
      rw [z, q1] at q3; cases q3
      rw [q2] at q4; exact absurd q4 (by simp)
    have D := Draws.tuple (prog := X.prog) (w := X.w) (A := X.A.in1) (I.ok.hd hc) it a hal its.toArray
    have hi : its.toArray.size = i := by simp; omega
    exact wpAny_pyNext_enum_endD D he ⟨by rw [hi]; exact hit, p⟩ fun h' eb => ⟨rfl, I.turned (t' := s.toks) (fun b o hb q => eb b o hb q) f0 f1 f3 f4 f5⟩
  self := fun A i s Q E st h => let ⟨⟨_, he⟩, _⟩ := st; wpAny_pyIter_enum he h
end Ev

set_option autoImplicit false
set_option linter.all false
set_option maxRecDepth 100000
/-! What is walked. -/
namespace PySem
set_option maxHeartbeats 1000000 in
theorem evl_enumerate_new1 {v : Value} {o : Obj} {H : Heap → Prop} (B : Begins v o H) :
    Meets (Builtin.«enumerate.__new__» ⟨[.type "enumerate", v], []⟩) (fun _ R s => H s.heap ∧
      R (.ok (.ret (.ref (s.heap.push o).objs.size))) { s with heap := (s.heap.push o).push { cls := .type "enumerate", data := .fields #[.none, .bool false, .ref s.heap.objs.size, rawInt 0, .none, .none] } }) :=
  .of_wp fun prog w A R s h => by
    obtain ⟨hp, g, d, tk, os⟩ := s; obtain ⟨h1, h⟩ := h
    have hsub := sub_enumerate
    have q1 : ∀ {A' : Around} {E : Value → Shared → Prop} {Q : Value → Shared → Prop}, Q (.ref hp.objs.size) ⟨hp.push o, g, d, tk, os⟩ → wpAny (model prog w) A' (pyIter v) Q E ⟨hp, g, d, tk, os⟩ :=
      fun q => B.iter prog w _ _ ⟨hp, g, d, tk, os⟩ _ h1 q
    wp_walk using q1
    refine wpAny_stack_any fun st => wpAny_pure ?_
    split
    · rename_i c _ _ _ _ _
      cases (c == Value.type "enumerate")
      · wp_walk using q1
        exact ⟨_, rfl, h⟩
      · wp_walk using q1
        exact ⟨_, rfl, h⟩
    · wp_walk using q1
      exact ⟨_, rfl, h⟩
theorem evl_enum_begins1 {prog : Program} {w : World} {A : Around} {E : Value → Shared → Prop} {s : Shared} {v : Value} {o : Obj} {H : Heap → Prop} {Q : Value → Shared → Prop} (B : Begins v o H) (h1 : H s.heap)
    (h : ∀ h', IsEnum h' (s.heap.objs.size + 1) s.heap.objs.size 0 .none → h'.get? s.heap.objs.size = some o → h'.objs.size = s.heap.objs.size + 2 →
      (∀ b o, s.heap.get? b = some o → h'.get? b = some o) → Q (.ref (s.heap.objs.size + 1)) { s with heap := h' }) :
    wpAny (model prog w) A (call (.type "enumerate") [v]) Q E s := by
  refine callType_new F.called_enumerate (by decide) (F.typeCall_enumerate_1 _) (F.newCall_enumerate_1 _) (fun obj => F.args_object_init_2 obj _) F.entry_enumerate_new
    (evl_enumerate_new1 B) ⟨h1, ?_⟩
  have hz : (s.heap.push o).objs.size = s.heap.objs.size + 1 := Heap.size_push ..
  show _ ∧ _
  rw [hz]
  have he : IsEnum ((s.heap.push o).push { cls := .type "enumerate", data := .fields #[.none, .bool false, .ref s.heap.objs.size, rawInt 0, .none, .none] }) (s.heap.objs.size + 1) s.heap.objs.size 0 .none := by
    have := Heap.get?_push_size (s.heap.push o) (o := { cls := .type "enumerate", data := .fields #[.none, .bool false, .ref s.heap.objs.size, rawInt 0, .none, .none] }) rfl
    rw [hz] at this; exact this
  refine ⟨⟨_, he, rfl⟩, h _ he (Heap.get?_push_of_some _ (Heap.get?_push_size _ B.free)) (by rw [Heap.size_push, hz]) fun b o x => Heap.get?_push_of_some _ (Heap.get?_push_of_some _ x)⟩
end PySem
namespace Ev
open PySem L2 PyProof.Rows
variable {T : Nam} {N : Nms} {G : Tab} {c : Sx} {X : Cx} {W : WX}
/-- enumerate's reading, from the count k0 -/
def rEnum (K : PySem.W.Frag) (k0 : Int) (x : V) (H : Hp) (R : L2.It → Hp → Prop) : Prop := ∃ a xs, x = .ref a ∧ ((SqL K H a xs ∧ R (IteL K a k0) H) ∨ (SqT K H a xs ∧ R (IteT K a k0) H))
theorem enum_pie {pins : List (Addr × Obj)} {σ : L2.St} {H1 : Hp} {s1 : Shared} {x : V} {v : Value} {R : L2.It → Hp → Prop} {elts : List Expr} {kk : Nat} {tpos : Pos} {k0 : Int} {us : List Value}
    (mk : ∀ {v : Value} {o : Obj} {Hq : Heap → Prop} {Q : Value → Shared → Prop}, Begins v o Hq → Hq s1.heap →
      (∀ h', IsEnum h' (s1.heap.objs.size + 1) s1.heap.objs.size k0 .none → h'.get? s1.heap.objs.size = some o → h'.objs.size = s1.heap.objs.size + 2 →
      (∀ b o, s1.heap.get? b = some o → h'.get? b = some o) → Q (.ref (s1.heap.objs.size + 1)) { s1 with heap := h' }) → wpAny (model X.prog X.w) X.A (call (.type "enumerate") (v :: us)) Q X.xe s1)
    (I1 : Inv X pins σ H1 s1) (rx : RelV x v) (h : rEnum X.K k0 x H1 R) :
    wpAny (model X.prog X.w) X.A (call (.type "enumerate") (v :: us)) (fun it s2 => wpAny (model X.prog X.w) X.A (pyIter it) (PIE X pins σ (.Tuple elts kk tpos) R) X.xe s2) X.xe s1 := by
  obtain ⟨a, xs, rfl, h⟩ := h
  cases rx
  have fpk : ∀ {h' : Heap} (b : Addr), b ∈ [s1.heap.objs.size + 1, s1.heap.objs.size] → FpOk X pins H1 b := fun {h'} b hb => by
    have e' : b = s1.heap.objs.size + 1 ∨ b = s1.heap.objs.size := by simpa using hb
    have hle : s1.heap.objs.size ≤ b := by
      rcases e' with z | z
      · rw [z]; exact Nat.le_add_right _ _
      · rw [z]; exact Nat.le_refl _
    exact I1.fpOk hle (I1.hok.fresh hle)
  rcases h with ⟨hq, q⟩ | ⟨hq, q⟩
  · obtain ⟨its, rv, p', hz⟩ := I1.list hq
    refine mk (begins_list a its.toArray) p'.isList fun h' he hit hsz hk => wpAny_pyIter_enum he ?_
    have I2 : Inv X pins σ H1 { s1 with heap := h' } := I1.kept (t' := s1.toks) hk
    exact ⟨s1.heap.objs.size + 1, [s1.heap.objs.size + 1, s1.heap.objs.size], _, _, H1, rfl, I2, turn_enumL a (s1.heap.objs.size + 1) s1.heap.objs.size k0, ⟨⟨.none, by simpa using he⟩, ⟨_, hit, rfl, rfl⟩, Nat.succ_ne_self _⟩, fun b hb => fpk (h' := h') b hb, q⟩
  · obtain ⟨its, rv, p', hz⟩ := I1.tuple hq
    refine mk (begins_tuple a its.toArray) p' fun h' he hit hsz hk => wpAny_pyIter_enum he ?_
    have I2 : Inv X pins σ H1 { s1 with heap := h' } := I1.kept (t' := s1.toks) hk
    exact ⟨s1.heap.objs.size + 1, [s1.heap.objs.size + 1, s1.heap.objs.size], _, _, H1, rfl, I2, turn_enumT a (s1.heap.objs.size + 1) s1.heap.objs.size k0, ⟨⟨.none, by simpa using he⟩, ⟨_, hit, rfl, rfl⟩, Nat.succ_ne_self _⟩, fun b hb => fpk (h' := h') b hb, q⟩
theorem pi_enum1 {e : Expr} {te : TE} {p pos tpos : Pos} {elts : List Expr} {kk : Nat} (hg : Gl X "enumerate") (hm : X.mg "enumerate" = none) (he : PE X e te) (hs : starEach [e] X.env = (false, eval e X.env) :: starEach [] X.env) :
    PI X (.Tuple elts kk tpos) (.Call (.Name "enumerate" p) [e] [] pos) (fun σ H R => te σ H fun x H1 => rEnum X.K 0 x H1 R) := by
  refine ⟨fun pins s σ H R I h => ?_⟩
  refine Call_ (ld_blt I hg hm boot_enumerate (PyProof.Rows.callWith_type1 (one_arg he I h (fun v s2 x H2 I2 r q => ?_) hs) hs))
  exact enum_pie (us := []) (fun B h1 h => evl_enum_begins1 B h1 h) I2 r q
theorem pi_enum2 {e : Expr} {te : TE} {p pos tpos cp : Pos} {elts : List Expr} {kk cj : Nat} {k0 : Int} (hg : Gl X "enumerate") (hm : X.mg "enumerate" = none) (he : PE X e te) (hk : 0 ≤ k0 ∧ k0 < 1000) (hs : starEach [e, .Constant (.int k0) cj cp] X.env = (false, eval e X.env) :: starEach [.Constant (.int k0) cj cp] X.env) :
    PI X (.Tuple elts kk tpos) (.Call (.Name "enumerate" p) [e, .Constant (.int k0) cj cp] [] pos) (fun σ H R => te σ H fun x H1 => rEnum X.K k0 x H1 R) := by
  refine ⟨fun pins s σ H R I h => ?_⟩
  have hs2 : starEach [.Constant (.int k0) cj cp] X.env = (false, eval (.Constant (.int k0) cj cp) X.env) :: starEach [] X.env := by rfl
  refine Call_ (ld_blt I hg hm boot_enumerate (PyProof.Rows.callWith_type1 (args_cons (thn (he.run pins s σ H _ I h) fun v s1 ⟨x, H1, I1, r1, q1⟩ => one_arg (ta := tC (.int k0)) pe_int I1 (R := fun y H2 => y = .int k0 ∧ rEnum X.K k0 x H2 R) ⟨rfl, q1⟩ (fun u s2 y H2 I2 r2 q => ?_) hs2) hs) hs (by rw [hs2]; rfl)))
  obtain ⟨rfl, q⟩ := q
  obtain ⟨t, rfl⟩ := r2
  exact enum_pie (us := [.int k0 t]) (fun B h1 h => enum_begins B h1 (by omega) (by omega) h) I2 r1 q
end Ev

set_option autoImplicit false
set_option linter.all false
set_option maxRecDepth 100000
/-! Walks over data; comprehensions. -/
namespace Ev
open PySem L2 PyProof.Rows
variable {T : Nam} {N : Nms} {G : Tab} {c : Sx} {X : Cx} {W : WX}
/-- J gives the data ds, whatever happens to things that may change -/
def Wlk (N : Nms) (n0 : Nat) (ad0 : Nat → Addr) (B0 : Hp) (J : L2.It) (ds : List D) : Prop := ∃ (g : Hp → Prop) (Y : Nat → Hp → V → Hp → Prop), Walk J ds.length g Y ∧ (∀ H, Sm B0 H → g H) ∧
  ∀ i H x H', Y i H x H' → ∀ n ad M, n0 ≤ n → (∀ k, k < n0 → ad k = ad0 k) → Sm B0 (msk H M) → (∀ p, M p → ∃ o, H p = some o) → ∃ d, ds[i]? = some d ∧ Same H H' ∧ RepD N n ad (msk H' M) x d
def tI (N : Nms) (W : WX) (m : M (List D)) : TI := fun σ H R => ∃ ad s F, Rel N ad σ H s F ∧ Gar N W ad σ H s F (m s) fun ds s' ad' H' => ∀ J, Wlk N s'.cel.length ad' (msk H' (Mk ad' σ s' F)) J ds → R J H'
theorem pi_imp {tg it : Expr} {t t' : TI} (h : PI X tg it t) (i : ∀ σ H Q, t' σ H Q → t σ H Q) : PI X tg it t' := ⟨fun pins s σ H Q I hw => h.run pins s σ H Q I (i _ _ _ hw)⟩
section
variable {n0 : Nat} {ad0 : Nat → Addr} {B0 : Hp} {a : Addr} {xs : List V} {ds : List D}
theorem wlk_list (s : SqL N.K B0 a xs) (r : RepDs N n0 ad0 B0 xs ds) : Wlk N n0 ad0 B0 (Itl N.K a) ds := by
  refine ⟨fun H => SqL N.K H a xs, YAt xs, ?_, fun H k => SqL.sm k s, ?_⟩
  · have := walk_list (K := N.K) (a := a) (xs := xs)
    rw [r.length] at this; exact this
  · rintro i H x H' ⟨rfl, e⟩ n ad M hn ha k hM
    obtain ⟨d, h1, h2⟩ := r.getV e
    exact ⟨d, h1, Same.refl _, h2.mono hn ha k⟩
theorem wlk_tup (s : SqT N.K B0 a xs) (r : RepDs N n0 ad0 B0 xs ds) : Wlk N n0 ad0 B0 (Itt N.K a) ds := by
  refine ⟨fun H => SqT N.K H a xs, YAt xs, ?_, fun H k => SqT.sm k s, ?_⟩
  · have := walk_tup (K := N.K) (a := a) (xs := xs)
    rw [r.length] at this; exact this
  · rintro i H x H' ⟨rfl, e⟩ n ad M hn ha k hM
    obtain ⟨d, h1, h2⟩ := r.getV e
    exact ⟨d, h1, Same.refl _, h2.mono hn ha k⟩
theorem enumFrom_len (k0 : Int) : ∀ (ds : List D) , (enumFrom k0 ds).length = ds.length := fun ds => by
  induction ds generalizing k0 with
  | nil => rfl
  | cons d ds ih => simp [enumFrom, ih]
theorem enumFrom_get : ∀ (ds : List D) (k0 : Int) (i : Nat) (d : D), ds[i]? = some d → (enumFrom k0 ds)[i]? = some (.tup [.int (k0 + i), d])
  | [], _, _, _, h => by simp at h
  | x :: xs, k0, 0, d, h => by
    have h : x = d := by simpa using h
    subst h
    simp [enumFrom]
  | x :: xs, k0, i + 1, d, h => by
    have := enumFrom_get xs (k0 + 1) i d (by simpa using h)
    simp only [enumFrom, List.getElem?_cons_succ, this]
    congr 3
    have : k0 + 1 + (i : Int) = k0 + ((i + 1 : Nat) : Int) := by omega
    rw [this]
theorem yld_pair {i : Nat} {k0 : Int} {H : Hp} {x : V} {H' : Hp} {f : Nat → Option V} (r : RepDs N n0 ad0 B0 xs ds) (hf : ∀ i x, f i = some x → xs[i]? = some x) (y : YPair (fun i => some (.int (k0 + (i : Nat)))) f i H x H') (n : Nat) (ad : Nat → Addr) (M : Addr → Prop)
    (hn : n0 ≤ n) (ha : ∀ k, k < n0 → ad k = ad0 k) (k : Sm B0 (msk H M)) (hM : ∀ p, M p → ∃ o, H p = some o) : ∃ d, (enumFrom k0 ds)[i]? = some d ∧ Same H H' ∧ RepD N n ad (msk H' M) x d := by
  obtain ⟨T, u, w, rfl, hT, rfl, e1, e2⟩ := y
  cases e1
  obtain ⟨d, h1, h2⟩ := r.getV (hf i w e2)
  exact ⟨_, enumFrom_get ds k0 i d h1, new_same hT, new_tup hM hT (.cons (.int _) (.cons (h2.mono hn ha k) .nil))⟩
theorem wlk_enumL (k0 : Int) (s : SqL N.K B0 a xs) (r : RepDs N n0 ad0 B0 xs ds) : Wlk N n0 ad0 B0 (IteL N.K a k0) (enumFrom k0 ds) := by
  refine ⟨fun H => SqL N.K H a xs, YPair (fun i => some (.int (k0 + (i : Nat)))) (fun i => xs[i]?), ?_, fun H k => SqL.sm k s, fun i H x H' y n ad M => yld_pair r (fun i x h => h) y n ad M⟩
  rw [enumFrom_len, ← r.length]
  refine ⟨fun i H hi h => ?_, fun H h => ⟨xs, h, rfl⟩, fun i H x H' hi h y => ?_⟩
  · exact ⟨xs, xs[i], h, List.getElem?_eq_getElem hi⟩
  · obtain ⟨T, u, e1, e2, e3, e4⟩ := y
    exact ⟨T, _, u, e1, e2, e3, rfl, e4 xs h⟩
theorem wlk_enumT (k0 : Int) (s : SqT N.K B0 a xs) (r : RepDs N n0 ad0 B0 xs ds) : Wlk N n0 ad0 B0 (IteT N.K a k0) (enumFrom k0 ds) := by
  refine ⟨fun H => SqT N.K H a xs, YPair (fun i => some (.int (k0 + (i : Nat)))) (fun i => xs[i]?), ?_, fun H k => SqT.sm k s, fun i H x H' y n ad M => yld_pair r (fun i x h => h) y n ad M⟩
  rw [enumFrom_len, ← r.length]
  refine ⟨fun i H hi h => ?_, fun H h => ⟨xs, h, rfl⟩, fun i H x H' hi h y => ?_⟩
  · exact ⟨xs, xs[i], h, List.getElem?_eq_getElem hi⟩
  · obtain ⟨T, u, e1, e2, e3, e4⟩ := y
    exact ⟨T, _, u, e1, e2, e3, rfl, e4 xs h⟩
theorem wlk_range (lo hi : Int) : Wlk N n0 ad0 B0 (Itr lo (hi - lo).toNat) ((rangeL lo hi).map .int) := by
  have hl : ((rangeL lo hi).map D.int).length = (hi - lo).toNat := by simp [rangeL]
  refine ⟨fun _ => True, fun i H x H' => i < (hi - lo).toNat ∧ YFn (fun i => .int (lo + (i : Nat))) i H x H', ?_, fun _ _ => trivial, ?_⟩
  · have := walk_range (lo := lo) (n := (hi - lo).toNat)
    rw [hl]
    exact this.mono (fun _ h => h) (fun i H x H' hi _ y => ⟨hi, y⟩)
  · rintro i H x H' ⟨hi, rfl, rfl⟩ n ad M hn ha k hM
    refine ⟨.int (lo + (i : Nat)), ?_, Same.refl _, .int _⟩
    simp [rangeL, hi]
end
/-! ### what the core's walks read -/
theorem walkD_inv {ad : Nat → Addr} {σ : L2.St} {H : Hp} {s : S} {F : Addr → Prop} {pv : PV} {v : V} {K : List D → S → (Nat → Addr) → Hp → Prop} (R : Rel N ad σ H s F) (r : RepPV N ad σ H s F v pv) (h : Gar N W ad σ H s F (walkD pv s) K) :
    ∃ a xs ds s', v = .ref a ∧ Rel N ad σ H s' F ∧ Post ad σ H s ad σ H s' F ∧ (SqL N.K (msk H (Mk ad σ s' F)) a xs ∨ SqT N.K (msk H (Mk ad σ s' F)) a xs) ∧ RepDs N s'.cel.length ad (msk H (Mk ad σ s' F)) xs ds ∧ K ds s' ad H := by
  have go : ∀ {pv : PV}, RepPV N ad σ H s F v pv → Gar N W ad σ H s F (M.bind pv.store (fun x => M.of x.items) s) K →
      ∃ a xs ds s', v = .ref a ∧ Rel N ad σ H s' F ∧ Post ad σ H s ad σ H s' F ∧ (SqL N.K (msk H (Mk ad σ s' F)) a xs ∨ SqT N.K (msk H (Mk ad σ s' F)) a xs) ∧ RepDs N s'.cel.length ad (msk H (Mk ad σ s' F)) xs ds ∧ K ds s' ad H := fun {pv} r h => by
    obtain ⟨d, s', R', P', rd, k⟩ := store_ok R r (Gar.bind h)
    cases d with
    | lst ds =>
      cases rd with
      | lst q1 q2 => exact ⟨_, _, _, s', rfl, R', P', .inl q1, q2, Gar.pure R' k⟩
    | tup ds =>
      cases rd with
      | tup q1 q2 => exact ⟨_, _, _, s', rfl, R', P', .inr q1, q2, Gar.pure R' k⟩
    | _ => exact k.elim
  cases pv with
  | d x =>
    cases x with
    | ref k => exact h.elim
    | _ => exact go r h
  | own i => exact go r h
/-- a list or a tuple -/
theorem pi_seq {tg l : Expr} {tl : TE} (hl : PE X l tl) : PI X tg l (fun σ H R => tl σ H fun x H1 => ∃ a xs, x = .ref a ∧ ((SqL X.K H1 a xs ∧ R (Itl X.K a) H1) ∨ (SqT X.K H1 a xs ∧ R (Itt X.K a) H1))) := by
  refine ⟨fun pins s σ H R I h => ?_⟩
  refine thn (hl.run pins s σ H _ I h) fun v s1 ⟨x, H1, I1, r1, a, xs, e, q1⟩ => ?_
  subst e
  cases r1
  rcases q1 with ⟨hq, q⟩ | ⟨hq, q⟩
  · obtain ⟨its, rv, p, hz⟩ := I1.list hq
    refine wpAny_pyIter_list p.isList ?_
    refine ⟨s1.heap.objs.size, [s1.heap.objs.size], _, _, H1, rfl, I1.kept (t' := s1.toks) fun b o e => Heap.get?_push_of_some _ e, turn_list a _, ⟨_, Heap.get?_push_size _ rfl, rfl, rfl⟩, fun b hb => ?_, q⟩
    have e : b = s1.heap.objs.size := by simpa using hb
    subst e
    exact I1.fpOk (Nat.le_refl _) (I1.hok.fresh (Nat.le_refl _))
  · obtain ⟨its, rv, p, hz⟩ := I1.tuple hq
    refine wpAny_pyIter_tuple (show s1.heap.IsTuple a its.toArray from p) ?_
    refine ⟨s1.heap.objs.size, [s1.heap.objs.size], _, _, H1, rfl, I1.kept (t' := s1.toks) fun b o e => Heap.get?_push_of_some _ e, turn_tuple a _, ⟨_, Heap.get?_push_size _ rfl, rfl, rfl⟩, fun b hb => ?_, q⟩
    have e : b = s1.heap.objs.size := by simpa using hb
    subst e
    exact I1.fpOk (Nat.le_refl _) (I1.hok.fresh (Nat.le_refl _))
theorem tI_val {m : M PV} : ∀ σ H R, tI N W (M.bind m walkD) σ H R → (tX N W m) σ H fun x H1 => ∃ a xs, x = .ref a ∧ ((SqL N.K H1 a xs ∧ R (Itl N.K a) H1) ∨ (SqT N.K H1 a xs ∧ R (Itt N.K a) H1)) := by
  rintro σ H Q ⟨ad, s, F, R, h⟩
  refine ⟨ad, s, F, R, (Gar.bind h).mono fun pv s1 ad1 H1 R1 P1 h1 v rv => ?_⟩
  obtain ⟨a, xs, ds, s', rfl, R', P', q, rd, k⟩ := walkD_inv R1 rv h1
  refine ⟨a, xs, rfl, ?_⟩
  rcases q with q | q
  · exact .inl ⟨SqL.sm sm_le q, k _ (wlk_list q rd)⟩
  · exact .inr ⟨SqT.sm sm_le q, k _ (wlk_tup q rd)⟩
theorem tI_enum {m : M PV} {k0 : Int} : ∀ σ H R, tI N W (M.bind m fun x => M.bind (walkD x) fun xs => M.pure (enumFrom k0 xs)) σ H R → (tX N W m) σ H fun x H1 => rEnum N.K k0 x H1 R := by
  rintro σ H Q ⟨ad, s, F, R, h⟩
  refine ⟨ad, s, F, R, (Gar.bind h).mono fun pv s1 ad1 H1 R1 P1 h1 v rv => ?_⟩
  obtain ⟨a, xs, ds, s', rfl, R', P', q, rd, k⟩ := walkD_inv R1 rv (Gar.bind h1)
  have k := Gar.pure R' k
  refine ⟨a, xs, rfl, ?_⟩
  rcases q with q | q
  · exact .inl ⟨SqL.sm sm_le q, k _ (wlk_enumL k0 q rd)⟩
  · exact .inr ⟨SqT.sm sm_le q, k _ (wlk_enumT k0 q rd)⟩
theorem sml_of {i : Int} (h : sml i = true) : -(2 ^ 62) ≤ i ∧ i < 2 ^ 62 := by
  unfold sml big at h
  simpa using h
theorem rngF_inv {x y : PV} {q : Int × Int} (h : rngF x y = some q) : x = .d (.int q.1) ∧ y = .d (.int q.2) ∧ sml q.1 = true ∧ sml q.2 = true := by
  unfold rngF at h
  split at h
  · split at h
    · rename_i hc
      simp only [Bool.and_eq_true] at hc
      cases h
      exact ⟨rfl, rfl, hc.1, hc.2⟩
    · cases h
  · cases h
theorem of_inv {α : Type} {ad : Nat → Addr} {σ : L2.St} {H : Hp} {s : S} {F : Addr → Prop} {o : Option α} {K : α → S → (Nat → Addr) → Hp → Prop} (R : Rel N ad σ H s F) (h : Gar N W ad σ H s F (M.of o s) K) : ∃ a, o = some a ∧ K a s ad H := by
  cases o with
  | none => exact h.elim
  | some a => exact ⟨a, rfl, Gar.pure R h⟩
theorem tI_rng1 {m : M PV} : ∀ σ H R, tI N W (M.bind m fun x => M.of ((rngF (.d (.int 0)) x).map fun q => (rangeL q.1 q.2).map .int)) σ H R → iRng1 (tCons (tX N W m) tNil) σ H R := by
  rintro σ H Q ⟨ad, s, F, R, h⟩
  refine ⟨ad, s, F, R, (Gar.bind h).mono fun pv s1 ad1 H1 R1 P1 h1 v rv => ?_⟩
  obtain ⟨ds, e, k⟩ := of_inv R1 h1
  cases hr : rngF (.d (.int 0)) pv with
  | none => rw [hr] at e; cases e
  | some q =>
    rw [hr] at e; cases e
    obtain ⟨e1, rfl, s1, s2⟩ := rngF_inv hr
    have e1 : (0 : Int) = q.1 := by injection e1 with e1; injection e1
    cases rv
    have b := sml_of s2
    refine ⟨q.2, rfl, b.1, b.2, ?_⟩
    have := k _ (wlk_range q.1 q.2)
    rw [← e1] at this
    have e : (q.2 - 0).toNat = q.2.toNat := by rw [Int.sub_zero]
    rwa [e] at this
theorem tI_rng2 {m m2 : M PV} : ∀ σ H R, tI N W (M.bind m fun x => M.bind m2 fun y => M.of ((rngF x y).map fun q => (rangeL q.1 q.2).map .int)) σ H R → iRng2 (tCons (tX N W m) (tCons (tX N W m2) tNil)) σ H R := by
  rintro σ H Q ⟨ad, s, F, R, h⟩
  refine ⟨ad, s, F, R, (Gar.bind h).mono fun pv s1 ad1 H1 R1 P1 h1 v rv => ?_⟩
  refine ⟨ad1, s1, F, R1, (Gar.bind h1).mono fun pv2 s2 ad2 H2 R2 P2 h2 v2 rv2 => ?_⟩
  obtain ⟨ds, e, k⟩ := of_inv R2 h2
  cases hr : rngF pv pv2 with
  | none => rw [hr] at e; cases e
  | some q =>
    rw [hr] at e; cases e
    obtain ⟨rfl, rfl, s1, s2⟩ := rngF_inv hr
    cases rv
    cases rv2
    have b := sml_of s1
    have b2 := sml_of s2
    exact ⟨q.1, q.2, rfl, ⟨b.1, b.2, b2.1, b2.2⟩, k _ (wlk_range q.1 q.2)⟩
end Ev

set_option autoImplicit false
set_option linter.all false
set_option maxRecDepth 100000
/-! Targets; comprehensions. -/
namespace Ev
open PySem L2 PyProof.Rows
variable {T : Nam} {N : Nms} {G : Tab} {c : Sx} {X : Cx} {W : WX}
def Tgs.len : Tgs → Nat
  | .nil => 0
  | .cons _ ts => ts.len + 1
/-- (a, b, ..) = a tuple or a list of that length -/
def gSq (K : PySem.W.Frag) (n : Nat) (t : TGs) : TG := fun v σ H Q => gTup K n t v σ H Q ∨ gUnl K n t v σ H Q
theorem pg_sq {es : List Expr} {k : Nat} {t : TGs} {n : Nat} {pos : Pos} (hc : X.calm = true) (h : PGs X es t)
    (hn : (assignEach es X.env).length = n) (hst : (assignEach es X.env).findIdx? (·.1) = none) : PG X (.Tuple es k pos) (gSq X.K n t) :=
  ⟨fun pins s σ H v u Q I r hw => hw.elim (fun hw => (pg_tup hc h hn hst).run pins s σ H v u Q I r hw) fun hw => (pg_unl hc h hn hst).run pins s σ H v u Q I r hw⟩
mutual
def gTg (K : PySem.W.Frag) : Tg → TG
  | .v i => gName i
  | .tup ts => gSq K ts.len (gTgs K ts)
def gTgs (K : PySem.W.Frag) : Tgs → TGs
  | .nil => gNil
  | .cons t ts => gCons (gTg K t) (gTgs K ts)
end
/-- sets of slots among vs -/
inductive SetIn (vs : List Nat) : L2.St → L2.St → Prop
  | refl (σ : L2.St) : SetIn vs σ σ
  | step {σ σ' : L2.St} {i : Nat} {v : Option V} : SetIn vs (σ.set i v) σ' → i ∈ vs → SetIn vs σ σ'
theorem SetIn.trans {vs : List Nat} {σ σ' σ2 : L2.St} (h : SetIn vs σ σ') : SetIn vs σ' σ2 → SetIn vs σ σ2 := by
  induction h with
  | refl => exact id
  | step _ hi ih => exact fun k => .step (ih k) hi
theorem wipe_set (vs : List Nat) : ∀ (σ : L2.St) (i : Nat) (v : Option V), i ∈ vs → L2.wipe (σ.set i v) vs = L2.wipe σ vs := by
  induction vs with
  | nil => intro σ i v h; simp at h
  | cons j vs ih =>
    intro σ i v h
    unfold L2.wipe
    by_cases hij : i ∈ vs
    · rw [ih σ i v hij]
    · have e : i = j := by
        rcases List.mem_cons.mp h with h | h
        · exact h
        · exact absurd h hij
      subst e
      have comm : ∀ (ws : List Nat) (σ : L2.St), i ∉ ws → L2.wipe (σ.set i v) ws = (L2.wipe σ ws).set i v := by
        intro ws
        induction ws with
        | nil => intro σ _; rfl
        | cons k ws ih2 =>
          intro σ hn
          unfold L2.wipe
          rw [ih2 σ fun z => hn (List.mem_cons_of_mem _ z)]
          exact List.set_comm _ _ (fun z => hn (by rw [z]; exact List.mem_cons_self ..))
      rw [comm vs σ hij, List.set_set]
theorem SetIn.wipe {vs : List Nat} {σ σ' : L2.St} (h : SetIn vs σ σ') : L2.wipe σ' vs = L2.wipe σ vs := by
  induction h with
  | refl => rfl
  | step _ hi ih => rw [ih, wipe_set vs _ _ _ hi]
section
variable {ad : Nat → Addr} {H : Hp} {F : Addr → Prop}
mutual
theorem bind_ok {vs : List Nat} : ∀ (t : Tg) (x : D) (v : V) {σ : L2.St} {s s1 : S} {Q : L2.St → Hp → Prop}, (∀ i ∈ tgSl t, i ∈ vs) → bindT t x s = some s1 → Rel N ad σ H s F → RepD N s.cel.length ad (msk H (Mk ad σ s F)) v x →
    (∀ σ1, Rel N ad σ1 H s1 F → Post ad σ H s ad σ1 H s1 F → SetIn vs σ σ1 → Q σ1 H) → gTg N.K t v σ H Q
  | .v i, x, v, σ, s, s1, Q, hv, e, R, r, k => by
    have e : some ({ s with loc := s.loc.set i (some (.d x)) } : S) = some s1 := e
    cases e
    obtain ⟨R1, P1⟩ := R.setD i r
    exact k _ R1 P1 (.step (.refl _) (hv i (by simp [tgSl])))
  | .tup ts, x, v, σ, s, s1, Q, hv, e, R, r, k => by
    cases x with
    | tup xs =>
      have e : bindTs ts xs s = some s1 := e
      cases r with
      | tup sq rs =>
        refine .inl ⟨_, _, rfl, SqT.sm sm_le sq, ?_, binds_ok (vs := vs) ts xs _ (fun i hi => hv i hi) e R rs k⟩
        rw [rs.length]
        exact bindTs_len ts xs e
    | lst xs =>
      have e : bindTs ts xs s = some s1 := e
      cases r with
      | lst sq rs =>
        refine .inr ⟨_, _, rfl, SqL.sm sm_le sq, ?_, binds_ok (vs := vs) ts xs _ (fun i hi => hv i hi) e R rs k⟩
        rw [rs.length]
        exact bindTs_len ts xs e
    | _ => exact nomatch (show (none : Option S) = some s1 from e)
theorem binds_ok {vs : List Nat} : ∀ (ts : Tgs) (xs : List D) (ws : List V) {σ : L2.St} {s s1 : S} {Q : L2.St → Hp → Prop}, (∀ i ∈ tgSls ts, i ∈ vs) → bindTs ts xs s = some s1 → Rel N ad σ H s F → RepDs N s.cel.length ad (msk H (Mk ad σ s F)) ws xs →
    (∀ σ1, Rel N ad σ1 H s1 F → Post ad σ H s ad σ1 H s1 F → SetIn vs σ σ1 → Q σ1 H) → gTgs N.K ts ws σ H Q
  | .nil, [], ws, σ, s, s1, Q, hv, e, R, r, k => by
    have e : some s = some s1 := e
    cases e
    cases r
    exact ⟨rfl, k σ R Post.refl (.refl _)⟩
  | .nil, _ :: _, ws, σ, s, s1, Q, hv, e, R, r, k => nomatch (show (none : Option S) = some s1 from e)
  | .cons _ _, [], ws, σ, s, s1, Q, hv, e, R, r, k => nomatch (show (none : Option S) = some s1 from e)
  | .cons t ts, x :: xs, ws, σ, s, s1, Q, hv, e, R, r, k => by
    have e : (bindT t x s).bind (bindTs ts xs) = some s1 := e
    cases hb : bindT t x s with
    | none => rw [hb] at e; cases e
    | some s' =>
      rw [hb] at e
      cases r with
      | cons r1 r2 =>
        refine ⟨_, _, rfl, bind_ok (vs := vs) t x _ (fun i hi => hv i (by simp [tgSls, hi])) hb R r1 fun σ1 R1 P1 S1 => ?_⟩
        exact binds_ok (vs := vs) ts xs _ (fun i hi => hv i (by simp [tgSls, hi])) e R1 (P1.reps r2) fun σ2 R2 P2 S2 => k σ2 R2 (P1.trans P2) (S1.trans S2)
theorem bindTs_len : ∀ (ts : Tgs) (xs : List D) {s s1 : S}, bindTs ts xs s = some s1 → xs.length = ts.len
  | .nil, [], s, s1, e => rfl
  | .nil, _ :: _, s, s1, e => nomatch (show (none : Option S) = some s1 from e)
  | .cons _ _, [], s, s1, e => nomatch (show (none : Option S) = some s1 from e)
  | .cons t ts, x :: xs, s, s1, e => by
    have e : (bindT t x s).bind (bindTs ts xs) = some s1 := e
    cases hb : bindT t x s with
    | none => rw [hb] at e; cases e
    | some s' =>
      rw [hb] at e
      have := bindTs_len ts xs e
      simp [Tgs.len, this]
end
end
/-- what a context says of names that are stored -/
structure TOk (c : Sx) (X : Cx) : Prop where
  hN : X.N = c.N
  nd : c.N.Nodup
  sc : X.env.scope = c.sc
  calm : c.hot = false → X.calm = true
  fnc : ∀ x, c.ow.names.lookup x = some .cell → X.fn x = true
theorem starE {e : Expr} {es : List Expr} {env : Env} (h : plainE e = true) : starEach (e :: es) env = (false, eval e env) :: starEach es env := by
  cases e <;> first | rfl | (simp [plainE] at h)
mutual
theorem pg_core (o : TOk c X) (hK : X.K = N.K) : ∀ (t : Tg) (e : Expr), okTg c t e = true → PG X e (gTg N.K t)
  | .v i, e, h => by
    cases e <;> try (exact nomatch (show false = true from h))
    rename_i x p
    have h : (decide (c.N[i]? = some x) && (locB c.sc x || celB c.sc x && celB c.ow x)) = true := h
    simp only [Bool.and_eq_true, decide_eq_true_eq, Bool.or_eq_true] at h
    obtain ⟨h1, h2⟩ := h
    have cl : ∀ {sc : Scope}, celB sc x = true → sc.names.lookup x = some .cell := fun {sc} h => by
      unfold celB at h
      split at h
      · assumption
      · cases h
    have lk : c.sc.names.lookup x = some .local ∨ (c.sc.names.lookup x = some .cell ∧ c.ow.names.lookup x = some .cell) := by
      rcases h2 with h2 | h2
      · unfold locB at h2
        split at h2
        · exact .inl ‹_›
        · cases h2
      · exact .inr ⟨cl h2.1, cl h2.2⟩
    refine pg_name (by rw [o.hN]; exact o.nd) (by rw [o.hN]; exact h1) ?_ ?_
    · unfold L2.Loc; rw [o.sc]; exact lk.imp id And.left
    · rw [o.sc]
      rcases lk with lk | lk
      · exact .inr lk
      · exact .inl (o.fnc x lk.2)
  | .tup ts, e, h => by
    cases e <;> try (exact nomatch (show false = true from h))
    rename_i es k p
    have h : (okTgs c ts es && !c.hot) = true := h
    simp only [Bool.and_eq_true, Bool.not_eq_true'] at h
    obtain ⟨h1, h2⟩ := h
    obtain ⟨q1, q2, q3⟩ := pgs_core o hK ts es h1
    show PG X _ (gSq N.K ts.len (gTgs N.K ts))
    rw [← hK]
    exact pg_sq (o.calm h2) (by rw [hK]; exact q1) q2 q3
theorem pgs_core (o : TOk c X) (hK : X.K = N.K) : ∀ (ts : Tgs) (es : List Expr), okTgs c ts es = true → PGs X es (gTgs N.K ts) ∧ (assignEach es X.env).length = ts.len ∧ (assignEach es X.env).findIdx? (·.1) = none
  | .nil, es, h => by
    cases es with
    | nil => exact ⟨pgs_nil, rfl, rfl⟩
    | cons => exact nomatch (show false = true from h)
  | .cons t ts, es, h => by
    cases es with
    | nil => exact nomatch (show false = true from h)
    | cons e es =>
      have h : (okTg c t e && okTgs c ts es) = true := h
      simp only [Bool.and_eq_true] at h
      obtain ⟨q1, q2, q3⟩ := pgs_core o hK ts es h.2
      have pe : plainE e = true := by
        cases e <;> first | rfl | (cases t <;> exact nomatch (show false = true from h.1))
      have ae : assignEach (e :: es) X.env = (false, assign e X.env) :: assignEach es X.env := by
        cases e <;> first | rfl | (simp [plainE] at pe)
      refine ⟨pgs_cons (pg_core o hK t e h.1) q1 (by rw [ae]; rfl), by rw [ae, List.length_cons, q2]; rfl, ?_⟩
      rw [ae, List.findIdx?_cons]
      simp [q3]
end
end Ev

set_option autoImplicit false
set_option linter.all false
set_option maxRecDepth 100000
/-! Comprehensions. -/
namespace Ev
open PySem L2 PyProof.Rows
variable {T : Nam} {N : Nms} {G : Tab} {c : Sx} {X : Cx} {W : WX}
theorem foldl_set_len {α : Type} (f : Nat → α) : ∀ (own : List Nat) (l : List α), (own.foldl (fun l i => l.set i (f i)) l).length = l.length
  | [], l => rfl
  | j :: own, l => by rw [List.foldl_cons, foldl_set_len f own, List.length_set]
theorem foldl_set_get {α : Type} (f : Nat → α) : ∀ (own : List Nat) (l : List α) (i : Nat), (own.foldl (fun l i => l.set i (f i)) l)[i]? = if i ∈ own ∧ i < l.length then some (f i) else l[i]?
  | [], l, i => by simp
  | j :: own, l, i => by
    rw [List.foldl_cons, foldl_set_get f own (l.set j (f j)) i, List.length_set]
    by_cases h : i ∈ own ∧ i < l.length
    · rw [if_pos h, if_pos ⟨List.mem_cons_of_mem _ h.1, h.2⟩]
    · rw [if_neg h, List.getElem?_set]
      by_cases e : j = i
      · subst e
        by_cases hl : j < l.length
        · simp [hl]
        · simp [hl]
      · rw [if_neg e]
        have : ¬ (i ∈ j :: own ∧ i < l.length) := fun ⟨a, b⟩ => h ⟨(List.mem_cons.mp a).resolve_left fun z => e z.symm, b⟩
        rw [if_neg this]
theorem l2wipe_get (σ : L2.St) : ∀ (own : List Nat) (i : Nat), (L2.wipe σ own)[i]? = if i ∈ own ∧ i < σ.length then some none else σ[i]?
  | [], i => by simp [L2.wipe]
  | j :: own, i => by
    unfold L2.wipe
    rw [List.getElem?_set, L2.wipe_length, l2wipe_get σ own i]
    by_cases e : j = i
    · subst e
      by_cases hl : j < σ.length
      · simp [hl]
      · simp [hl]
    · rw [if_neg e]
      by_cases h : i ∈ own ∧ i < σ.length
      · rw [if_pos h, if_pos ⟨List.mem_cons_of_mem _ h.1, h.2⟩]
      · rw [if_neg h, if_neg fun ⟨a, b⟩ => h ⟨(List.mem_cons.mp a).resolve_left fun z => e z.symm, b⟩]
theorem wipe_get (own : List Nat) (s : S) (i : Nat) : (wipe own s).loc[i]? = if i ∈ own ∧ i < s.loc.length then some none else s.loc[i]? := foldl_set_get (fun _ => none) own s.loc i
theorem wipe_cel (own : List Nat) (s : S) : (wipe own s).cel = s.cel := rfl
theorem wipe_llen (own : List Nat) (s : S) : (wipe own s).loc.length = s.loc.length := foldl_set_len (fun _ => none) own s.loc
section
variable {ad ad' ad1 : Nat → Addr} {σ : L2.St} {H H1 : Hp} {s s1 : S} {F : Addr → Prop}
theorem wipe_sl {own : List Nat} {i : Nat} {cc : Cell} (h : (wipe own s).get (.sl i) = some cc) : s.get (.sl i) = some cc ∧ i ∉ own := by
  rw [get_sl, wipe_get] at h
  split at h
  · cases h
  · rename_i hn
    refine ⟨get_sl.mpr h, fun hi => hn ⟨hi, ?_⟩⟩
    exact (List.getElem?_eq_some_iff.mp h).1
/-- the own slots are forgotten on both sides -/
theorem Rel.wipeBoth (own : List Nat) (R : Rel N ad σ H s F) : Rel N ad (L2.wipe σ own) H (Ev.wipe own s) F ∧ Post ad σ H s ad (L2.wipe σ own) H (Ev.wipe own s) F := by
  have ag : ∀ l cc, (Ev.wipe own s).get l = some cc → s.get l = some cc ∧ adr ad (L2.wipe σ own) l = adr ad σ l := fun l cc h => by
    cases l with
    | sl i =>
      obtain ⟨h1, h2⟩ := wipe_sl h
      refine ⟨h1, ?_⟩
      simp only [adr, l2wipe_get, h2, false_and, if_false]
    | id k => exact ⟨h, rfl⟩
  have sm : Sm (msk H (Mk ad σ s F)) (msk H (Mk ad (L2.wipe σ own) (Ev.wipe own s) F)) := sm_sub fun a => Mk.sub fun l cc h => let ⟨h1, h2⟩ := ag l cc h; ⟨cc, h1, h2⟩
  refine ⟨⟨?_, ?_, ?_, ?_, ?_⟩, ⟨fun _ _ => rfl, Nat.le_refl _, wipe_llen own s, sm, fun _ _ => rfl⟩⟩
  · rw [L2.wipe_length, wipe_llen, R.len]
  · intro i x h
    rw [wipe_get] at h
    split at h
    · cases h
    · rename_i hn
      obtain ⟨v, e, r⟩ := R.dat i x h
      refine ⟨v, ?_, r.mono (Nat.le_refl _) (fun _ _ => rfl) sm⟩
      rw [l2wipe_get, if_neg (by rw [R.len]; exact hn)]
      exact e
  · intro l cc h
    obtain ⟨h1, h2⟩ := ag l cc h
    obtain ⟨a, e, ok⟩ := R.own l cc h1
    exact ⟨a, h2.trans e, ok.mono (Nat.le_refl _) (fun _ _ => rfl) sm rfl⟩
  · intro l l' c1 c2 a h h' e e'
    obtain ⟨h1, h2⟩ := ag l c1 h
    obtain ⟨h1', h2'⟩ := ag l' c2 h'
    exact R.inj l l' c1 c2 a h1 h1' (h2.symm.trans e) (h2'.symm.trans e')
  · intro a h
    refine ⟨(R.frn a h).1, fun l cc h' e => ?_⟩
    obtain ⟨h1, h2⟩ := ag l cc h'
    exact (R.frn a h).2 l cc h1 (h2.symm.trans e)
/-- a comprehension's own names are as they were -/
theorem Rel.unown {F' : Addr → Prop} (own : List Nat) (R1 : Rel N ad1 σ H1 s1 F) (R : Rel N ad (L2.wipe σ own) H (Ev.wipe own s) F') (agr : ∀ k, k < s1.cel.length → ad k = ad1 k) (len : s1.cel.length ≤ s.cel.length)
    (sm1 : Sm (msk H1 (Mk ad1 σ s1 F)) (msk H (Mk ad (L2.wipe σ own) (Ev.wipe own s) F'))) (hl : s.loc.length = s1.loc.length) :
    Rel N ad σ H (Ev.unown own s1.loc s) F' ∧ Sm (msk H (Mk ad (L2.wipe σ own) (Ev.wipe own s) F')) (msk H (Mk ad σ (Ev.unown own s1.loc s) F')) := by
  have gl : ∀ i, (Ev.unown own s1.loc s).loc[i]? = if i ∈ own ∧ i < s.loc.length then some (LV.dat ((s1.loc[i]?).getD none)) else s.loc[i]? := fun i => foldl_set_get (fun i => LV.dat ((s1.loc[i]?).getD none)) own s.loc i
  have ll : (Ev.unown own s1.loc s).loc.length = s.loc.length := foldl_set_len (fun i => LV.dat ((s1.loc[i]?).getD none)) own s.loc
  have nd : ∀ (o : Option LV) cc, LV.dat o ≠ some (.own cc) := fun o cc e => by
    unfold LV.dat at e
    split at e
    · cases e
    · cases e
  have ag : ∀ l cc, (Ev.unown own s1.loc s).get l = some cc → (Ev.wipe own s).get l = some cc ∧ adr ad σ l = adr ad (L2.wipe σ own) l := fun l cc h => by
    cases l with
    | sl i =>
      rw [get_sl, gl] at h
      split at h
      · exact absurd (Option.some.inj h) (nd _ _)
      · rename_i hn
        have hi : i < s.loc.length := (List.getElem?_eq_some_iff.mp h).1
        have ho : i ∉ own := fun z => hn ⟨z, hi⟩
        refine ⟨?_, ?_⟩
        · rw [get_sl, wipe_get, if_neg fun z => ho z.1]; exact h
        · simp only [adr, l2wipe_get, ho, false_and, if_false]
    | id k => exact ⟨h, rfl⟩
  have sm : Sm (msk H (Mk ad (L2.wipe σ own) (Ev.wipe own s) F')) (msk H (Mk ad σ (Ev.unown own s1.loc s) F')) := sm_sub fun a => Mk.sub fun l cc h => let ⟨h1, h2⟩ := ag l cc h; ⟨cc, h1, h2⟩
  have cl : (Ev.unown own s1.loc s).cel = s.cel := rfl
  refine ⟨⟨?_, ?_, ?_, ?_, ?_⟩, sm⟩
  · rw [ll, hl]; exact R1.len
  · intro i x h
    rw [gl] at h
    split at h
    · rename_i hn
      have h := Option.some.inj h
      have e1 : s1.loc[i]? = some (some (LV.d x)) := by
        cases q : s1.loc[i]? with
        | none => rw [q] at h; cases h
        | some o =>
          rw [q] at h
          cases o with
          | none => cases h
          | some lv => cases lv <;> cases h; rfl
      obtain ⟨v, e, r⟩ := R1.dat i x e1
      exact ⟨v, e, r.mono len agr (sm1.trans sm)⟩
    · rename_i hn
      have hi : i < s.loc.length := (List.getElem?_eq_some_iff.mp h).1
      have ho : i ∉ own := fun z => hn ⟨z, hi⟩
      obtain ⟨v, e, r⟩ := R.dat i x (by rw [wipe_get, if_neg fun z => ho z.1]; exact h)
      rw [l2wipe_get, if_neg fun z => ho z.1] at e
      exact ⟨v, e, r.mono (Nat.le_refl _) (fun _ _ => rfl) sm⟩
  · intro l cc h
    obtain ⟨h1, h2⟩ := ag l cc h
    obtain ⟨a, e, ok⟩ := R.own l cc h1
    exact ⟨a, h2.trans e, ok.mono (Nat.le_refl _) (fun _ _ => rfl) sm rfl⟩
  · intro l l' c1 c2 a h h' e e'
    obtain ⟨h1, h2⟩ := ag l c1 h
    obtain ⟨h1', h2'⟩ := ag l' c2 h'
    exact R.inj l l' c1 c2 a h1 h1' (h2.symm.trans e) (h2'.symm.trans e')
  · intro a h
    refine ⟨(R.frn a h).1, fun l cc h' e => ?_⟩
    obtain ⟨h1, h2⟩ := ag l cc h'
    exact (R.frn a h).2 l cc h1 (h2.symm.trans e)
end
/-- Same under the mask, one object set apart -/
theorem PostN.grow {ad ad' : Nat → Addr} {σ σ' : L2.St} {H H' H2 : Hp} {s s' : S} {F : Addr → Prop} {p : Addr} (P : PostN ad σ H s ad' σ' H' s' F p) {ad2 : Nat → Addr} {σ2 : L2.St} {s2 : S} (Q : Post ad' σ' H' s' ad2 σ2 H2 s2 (FAdd F p)) : PostN ad σ H s ad2 σ2 H2 s2 F p :=
  ⟨fun k h => (Q.agr k (Nat.lt_of_lt_of_le h P.len)).trans (P.agr k h), Nat.le_trans P.len Q.len, Q.ll.trans P.ll, P.sm.trans Q.sm, fun a h => (Q.frn a (.inl h)).trans (P.frn a h), P.new⟩
/-- the object that is held aside is written -/
theorem Rel.putF {ad : Nat → Addr} {σ : L2.St} {H : Hp} {s : S} {F : Addr → Prop} {p : Addr} {o : HO} (R : Rel N ad σ H s (FAdd F p)) : Rel N ad σ (upd H p o) s (FAdd F p) ∧ Sm (msk H (Mk ad σ s (FAdd F p))) (msk (upd H p o) (Mk ad σ s (FAdd F p))) := by
  have hm : Mk ad σ s (FAdd F p) p := .inl (.inr rfl)
  have e : msk (upd H p o) (Mk ad σ s (FAdd F p)) = msk H (Mk ad σ s (FAdd F p)) := by
    funext a
    unfold msk
    by_cases h : Mk ad σ s (FAdd F p) a
    · rw [if_pos h, if_pos h]
    · rw [if_neg h, if_neg h, upd_ne fun z => h (by rw [z]; exact hm)]
  refine ⟨⟨R.len, fun i x h => ?_, fun l cc h => ?_, R.inj, fun a h => ?_⟩, by rw [e]; exact Sm.refl _⟩
  · rw [e]; exact R.dat i x h
  · obtain ⟨a, h1, h2⟩ := R.own l cc h
    refine ⟨a, h1, ?_⟩
    rw [e]
    have hne : a ≠ p := fun z => (R.frn p (.inr rfl)).2 l cc h (by rw [← z]; exact h1)
    exact h2.mono (Nat.le_refl _) (fun _ _ => rfl) (Sm.refl _) (upd_ne hne)
  · obtain ⟨⟨u, hu⟩, h2⟩ := R.frn a h
    refine ⟨?_, h2⟩
    by_cases hp : a = p
    · rw [hp]; exact ⟨o, upd_same⟩
    · exact ⟨u, by rw [upd_ne hp]; exact hu⟩
theorem wipe_idem (σ : L2.St) (own : List Nat) : L2.wipe (L2.wipe σ own) own = L2.wipe σ own := by
  refine List.ext_getElem? fun i => ?_
  rw [l2wipe_get, L2.wipe_length, l2wipe_get]
  by_cases h : i ∈ own ∧ i < σ.length
  · rw [if_pos h, if_pos h]
  · rw [if_neg h, if_neg h]
abbrev Wf : WX := fun _ _ _ _ => False
/-- a list that a comprehension makes: its reading, before it is taken as data -/
theorem lc_core {mi : M (List D)} {tg : Tg} {mt : M Bool} {me : M PV} {own : List Nat} (htg : ∀ i ∈ tgSl tg, i ∈ own) {σ : L2.St} {H : Hp} {ad : Nat → Addr} {s : S} {F : Addr → Prop} (R : Rel N ad σ H s F)
    {Q : VK} {Gd : (Nat → Addr) → Hp → S → Res (List D) → Prop} (hst : ∀ ad H s, ¬ Gd ad H s .stk) (h : Gar N W ad σ H s F (mi s) fun xs s1 ad1 H1 => Gd ad1 H1 s1 (lcM own (loopC tg mt (M.bind me PV.store) own [] xs) s1))
    (hQ : ∀ ts s' ad' H' D vacc ad1 H1 s1, Rel N ad' σ H' s' (FAdd F D) → PostN ad1 σ H1 s1 ad' σ H' s' F D → H' D = some (.lst vacc) → RepDs N s'.cel.length ad' (msk H' (Mk ad' σ s' (FAdd F D))) vacc ts → Gd ad1 H1 s1 (.ok ts s') → ts.length ≤ line → Q (.ref D) H') :
    tLc (tI N W mi) (gTg N.K tg) (tT N Wf mt) (tX N Wf me) own σ H Q := by
  refine ⟨ad, s, F, R, h.mono fun ds s1 ad1 H1 R1 P1 h1 J wk D hD => ?_⟩
  unfold lcM at h1
  cases hl : loopC tg mt (M.bind me PV.store) own [] ds s1 with
  | exc e s' => rw [hl] at h1; exact (hst _ _ _ h1).elim
  | stk => rw [hl] at h1; exact (hst _ _ _ h1).elim
  | ok ts sE =>
    rw [hl] at h1
    obtain ⟨g, Y, w, wG, wY⟩ := wk
    obtain ⟨R2, P2⟩ := R1.wipeBoth own
    obtain ⟨R3, sm3⟩ := R2.addF (o := .lst []) hD
    have N3 : PostN ad1 σ H1 s1 ad1 (L2.wipe σ own) (upd H1 D (.lst [])) (Ev.wipe own s1) F D := (P2.newP R2 hD)
    have base : Sm (msk H1 (Mk ad1 σ s1 F)) (msk (upd H1 D (.lst [])) (Mk ad1 (L2.wipe σ own) (Ev.wipe own s1) (FAdd F D))) := N3.sm
    refine lc_it w (fun i H => ∃ ad' s' acc vacc, Rel N ad' (L2.wipe σ own) H (Ev.wipe own s') (FAdd F D) ∧ PostN ad1 σ H1 s1 ad' (L2.wipe σ own) H (Ev.wipe own s') F D ∧ H D = some (.lst vacc) ∧
      RepDs N s'.cel.length ad' (msk H (Mk ad' (L2.wipe σ own) (Ev.wipe own s') (FAdd F D))) vacc acc ∧ loopC tg mt (M.bind me PV.store) own acc (ds.drop i) s' = .ok ts sE ∧ acc.length ≤ line) ?_ ?_ ?_ ?_
    · exact ⟨ad1, s1, [], [], R3, N3, upd_same, .nil, hl, Nat.zero_le _⟩
    · rintro i H hi ⟨ad', s', acc, vacc, R', P', _, _, _⟩
      exact wG H (P'.sm.trans sm_le)
    · rintro i x H H' hi ⟨ad', s', acc, vacc, R', P', hA, ra, hlp, hal⟩ y
      obtain ⟨d, hd, sH, rd⟩ := wY i H x H' y _ ad' _ P'.len P'.agr P'.sm (fun p m => R'.masked m)
      have hdrop : ds.drop i = d :: ds.drop (i + 1) := by
        have hi' := (List.getElem?_eq_some_iff.mp hd).1
        rw [List.drop_eq_getElem_cons hi']
        have := (List.getElem?_eq_some_iff.mp hd).2
        rw [this]
      rw [hdrop] at hlp
      unfold loopC at hlp
      cases hb : bindT tg d (Ev.wipe own s') with
      | none => simp only [hb] at hlp; cases hlp
      | some sb =>
        simp only [hb] at hlp
        have Rg := R'.grow sH
        have Pg := Post.grow R' sH
        refine bind_ok (N := N) (vs := own) tg d x htg hb Rg rd fun σ1 Rb Pb Sb => ⟨by rw [Sb.wipe, wipe_idem], ad', sb, FAdd F D, Rb, ?_⟩
        have hDb : H' D = some (.lst vacc) := sH _ _ hA
        have w1 : L2.wipe σ1 own = L2.wipe σ own := by rw [Sb.wipe, wipe_idem]
        cases hm : mt sb with
        | exc e s2 => simp only [hm] at hlp; cases hlp
        | stk => simp only [hm] at hlp; cases hlp
        | ok b s2 =>
          simp only [hm] at hlp
          intro ad2 H2 R2' P2'
          have P0 := (Pg.trans Pb).trans P2'
          have hD2 : H2 D = some (.lst vacc) := (P2'.frn D (.inr rfl)).trans hDb
          cases b with
          | false =>
            simp only at hlp
            simp only [Bool.false_eq_true, if_false]
            obtain ⟨Rw, Pw⟩ := R2'.wipeBoth own
            rw [w1] at Rw Pw
            have P3 := P0.trans Pw
            exact ⟨ad2, s2, acc, vacc, Rw, P'.grow P3, hD2, P3.reps ra, hlp, hal⟩
          | true =>
            simp only at hlp
            simp only [if_true]
            refine ⟨ad2, s2, FAdd F D, R2', ?_⟩
            have hbm : M.bind me PV.store s2 = (match me s2 with
              | .ok a s' => PV.store a s'
              | .exc e s' => .exc e s'
              | .stk => .stk) := by unfold M.bind; cases me s2 <;> rfl
            rw [hbm] at hlp
            cases he : me s2 with
            | exc e s3 => rw [he] at hlp; cases hlp
            | stk => rw [he] at hlp; cases hlp
            | ok pv s3 =>
              rw [he] at hlp
              simp only at hlp
              intro ad3 H3 R3' P3' v rv
              have hst : Gar N Wf ad3 σ1 H3 s3 (FAdd F D) (pv.store s3) (fun t s4 ad H => pv.store s3 = .ok t s4) := by
                cases hps : pv.store s3 with
                | ok t s4 => exact fun _ _ _ _ => rfl
                | exc e s4 => rw [hps] at hlp; cases hlp
                | stk => rw [hps] at hlp; cases hlp
              obtain ⟨t, s4, R4, P4, rt, e4⟩ := store_ok R3' rv hst
              rw [e4] at hlp
              simp only at hlp
              split at hlp
              · rename_i hlen
                have hD3 : H3 D = some (.lst vacc) := (P3'.frn D (.inr rfl)).trans hD2
                have P5 := (P0.trans P3').trans P4
                obtain ⟨Rw, Pw⟩ := R4.wipeBoth own
                rw [w1] at Rw Pw
                obtain ⟨Rq, smq⟩ := Rw.putF (o := .lst (vacc ++ [v]))
                have P6 := P5.trans Pw
                have vl : vacc.length < sizeLine := by rw [ra.length, sizeLine_line]; exact hlen
                have racc := (P6.reps ra).append (.cons (Pw.rep rt) .nil)
                refine ⟨vacc, hD3, vl, ad3, s4, acc ++ [t], vacc ++ [v], Rq, ?_, upd_same, racc.mono (Nat.le_refl _) (fun _ _ => rfl) smq, hlp, by simp; omega⟩
                have P7 := P'.grow P6
                exact ⟨P7.agr, P7.len, P7.ll, P7.sm.trans smq, fun a ha => by
                  rw [upd_ne fun z => P7.new (by rw [← z]; exact ha)]; exact P7.frn a ha, P7.new⟩
              · cases hlp
    · rintro H ⟨ad', s', acc, vacc, R', P', hA, ra, hlp, hal⟩
      rw [List.drop_length] at hlp
      have hlp : (Res.ok acc s' : Res (List Ev.D)) = .ok ts sE := hlp
      obtain ⟨rfl, rfl⟩ : acc = ts ∧ s' = sE := by
        injection hlp with e1 e2
        exact ⟨e1, e2⟩
      have hll : s'.loc.length = s1.loc.length := by
        have := P'.ll
        rw [wipe_llen] at this
        exact this
      obtain ⟨Ru, smu⟩ := Rel.unown own R1 R' P'.agr P'.len P'.sm hll
      have Nu : PostN ad1 σ H1 s1 ad' σ H (unown own s1.loc s') F D := ⟨P'.agr, P'.len, (foldl_set_len _ _ _).trans hll, P'.sm.trans smu, P'.frn, P'.new⟩
      exact hQ acc (unown own s1.loc s') ad' H D vacc ad1 H1 s1 Ru Nu hA (ra.mono (Nat.le_refl _) (fun _ _ => rfl) smu) h1 hal
def lcR : Res (List D) → Res PV
  | .ok ts s' => .ok (PV.d (.lst ts)) s'
  | .exc e s' => .exc e s'
  | .stk => .stk
theorem lcR_eq (m : M (List D)) : (M.bind m fun ts => M.pure (PV.d (.lst ts))) = fun s => lcR (m s) := by
  funext s; unfold M.bind; cases m s <;> rfl
/-- as data -/
theorem tX_lc {mi : M (List D)} {tg : Tg} {mt : M Bool} {me : M PV} {own : List Nat} (htg : ∀ i ∈ tgSl tg, i ∈ own) : ∀ σ H Q, tX N W (M.bind mi fun xs => M.bind (lcM own (loopC tg mt (M.bind me PV.store) own [] xs)) fun ts => M.pure (.d (.lst ts))) σ H Q →
    tLc (tI N W mi) (gTg N.K tg) (tT N Wf mt) (tX N Wf me) own σ H Q := by
  rintro σ H Q ⟨ad, s, F, R, h⟩
  simp only [lcR_eq] at h
  refine lc_core (Gd := fun ad1 H1 s1 r => Gar N W ad1 σ H1 s1 F (lcR r) fun pv s' ad' H' => ∀ v, RepPV N ad' σ H' s' F v pv → Q v H') htg R (fun _ _ _ h => h) (Gar.bind h) fun ts s' ad' H' Da vacc ad1 H1 s1 R' P' hA ra hg hl => ?_
  obtain ⟨Rt, Pt, smt, nm⟩ := Rel.take P' R'
  refine hg ad' H' Rt Pt _ (RepD.lst (SqL.of ?_) (ra.mono (Nat.le_refl _) (fun _ _ => rfl) smt))
  rw [msk_of nm]; exact hA
end Ev

set_option autoImplicit false
set_option linter.all false
set_option maxRecDepth 100000
/-! zip, reversed. -/
namespace Ev
open PySem L2 PyProof.Rows
variable {T : Nam} {N : Nms} {G : Tab} {c : Sx} {X : Cx} {W : WX}
theorem zipL_len : ∀ (xs ys : List D), (zipL xs ys).length = min xs.length ys.length
  | [], ys => by simp [zipL]
  | x :: xs, [] => by simp [zipL]
  | x :: xs, y :: ys => by simp [zipL, zipL_len xs ys]
theorem zipL_get : ∀ (xs ys : List D) (i : Nat) (x y : D), xs[i]? = some x → ys[i]? = some y → (zipL xs ys)[i]? = some (.tup [x, y])
  | [], ys, i, x, y, h, _ => by simp at h
  | x :: xs, [], i, _, _, _, h => by simp at h
  | x :: xs, y :: ys, 0, u, w, h, h2 => by
    have h : x = u := by simpa using h
    have h2 : y = w := by simpa using h2
    subst h; subst h2
    simp [zipL]
  | x :: xs, y :: ys, i + 1, u, w, h, h2 => by
    have := zipL_get xs ys i u w (by simpa using h) (by simpa using h2)
    simpa [zipL] using this
section
variable {n0 : Nat} {ad0 : Nat → Addr} {B0 : Hp} {a b : Addr} {xs ys : List V} {ds es : List D}
theorem yld_zip {i : Nat} {H : Hp} {x : V} {H' : Hp} (r : RepDs N n0 ad0 B0 xs ds) (r2 : RepDs N n0 ad0 B0 ys es) (y : YPair (fun i => xs[i]?) (fun i => ys[i]?) i H x H') (n : Nat) (ad : Nat → Addr) (M : Addr → Prop)
    (hn : n0 ≤ n) (ha : ∀ k, k < n0 → ad k = ad0 k) (k : Sm B0 (msk H M)) (hM : ∀ p, M p → ∃ o, H p = some o) : ∃ d, (zipL ds es)[i]? = some d ∧ Same H H' ∧ RepD N n ad (msk H' M) x d := by
  obtain ⟨T, u, w, rfl, hT, rfl, e1, e2⟩ := y
  obtain ⟨d, h1, h2⟩ := r.getV e1
  obtain ⟨d', h1', h2'⟩ := r2.getV e2
  exact ⟨_, zipL_get ds es i d d' h1 h1', new_same hT, new_tup hM hT (.cons (h2.mono hn ha k) (.cons (h2'.mono hn ha k) .nil))⟩
theorem wlk_zipL (s : SqL N.K B0 a xs) (s2 : SqL N.K B0 b ys) (r : RepDs N n0 ad0 B0 xs ds) (r2 : RepDs N n0 ad0 B0 ys es) : Wlk N n0 ad0 B0 (Itz N.K a b) (zipL ds es) := by
  refine ⟨fun H => SqL N.K H a xs ∧ SqL N.K H b ys, YPair (fun i => xs[i]?) (fun i => ys[i]?), ?_, fun H k => ⟨SqL.sm k s, SqL.sm k s2⟩, fun i H x H' y n ad M => yld_zip r r2 y n ad M⟩
  rw [zipL_len, ← r.length, ← r2.length]
  refine ⟨fun i H hi h => ?_, fun H h => ⟨xs, ys, h.1, h.2, by omega⟩, fun i H x H' hi h y => ?_⟩
  · have h1 : i < xs.length := by omega
    have h2 : i < ys.length := by omega
    exact ⟨xs, ys, xs[i], ys[i], h.1, h.2, List.getElem?_eq_getElem h1, List.getElem?_eq_getElem h2⟩
  · obtain ⟨T, u, w, e1, e2, e3, e4, e5⟩ := y
    exact ⟨T, u, w, e1, e2, e3, e4 xs h.1, e5 ys h.2⟩
theorem wlk_zipT (s : SqT N.K B0 a xs) (s2 : SqT N.K B0 b ys) (r : RepDs N n0 ad0 B0 xs ds) (r2 : RepDs N n0 ad0 B0 ys es) : Wlk N n0 ad0 B0 (RZ.ItzT N.K a b) (zipL ds es) := by
  refine ⟨fun H => SqT N.K H a xs ∧ SqT N.K H b ys, YPair (fun i => xs[i]?) (fun i => ys[i]?), ?_, fun H k => ⟨SqT.sm k s, SqT.sm k s2⟩, fun i H x H' y n ad M => yld_zip r r2 y n ad M⟩
  rw [zipL_len, ← r.length, ← r2.length]
  refine ⟨fun i H hi h => ?_, fun H h => ⟨xs, ys, h.1, h.2, by omega⟩, fun i H x H' hi h y => ?_⟩
  · have h1 : i < xs.length := by omega
    have h2 : i < ys.length := by omega
    exact ⟨xs, ys, xs[i], ys[i], h.1, h.2, List.getElem?_eq_getElem h1, List.getElem?_eq_getElem h2⟩
  · obtain ⟨T, u, w, e1, e2, e3, e4, e5⟩ := y
    exact ⟨T, u, w, e1, e2, e3, e4 xs h.1, e5 ys h.2⟩
theorem yld_rev {i : Nat} {H : Hp} {x : V} {H' : Hp} (r : RepDs N n0 ad0 B0 xs ds) (y : i < xs.length ∧ H' = H ∧ xs[xs.length - 1 - i]? = some x) (n : Nat) (ad : Nat → Addr) (M : Addr → Prop)
    (hn : n0 ≤ n) (ha : ∀ k, k < n0 → ad k = ad0 k) (k : Sm B0 (msk H M)) : ∃ d, ds.reverse[i]? = some d ∧ Same H H' ∧ RepD N n ad (msk H' M) x d := by
  obtain ⟨hi, rfl, e⟩ := y
  obtain ⟨d, h1, h2⟩ := r.getV e
  refine ⟨d, ?_, Same.refl _, h2.mono hn ha k⟩
  have := r.length
  rw [List.getElem?_reverse (by omega), ← this]
  exact h1
theorem wlk_revL (s : SqL N.K B0 a xs) (r : RepDs N n0 ad0 B0 xs ds) : Wlk N n0 ad0 B0 (Itv N.K a xs.length) ds.reverse := by
  refine ⟨fun H => SqL N.K H a xs, fun i H x H' => i < xs.length ∧ H' = H ∧ xs[xs.length - 1 - i]? = some x, ?_, fun H k => SqL.sm k s, fun i H x H' y n ad M h1 h2 h3 _ => yld_rev r y n ad M h1 h2 h3⟩
  rw [List.length_reverse, ← r.length]
  refine ⟨fun i H hi h => ⟨hi, xs, xs[xs.length - 1 - i]'(by omega), h, List.getElem?_eq_getElem (by omega)⟩, fun H h => Nat.le_refl _, fun i H x H' hi h y => ⟨hi, y.1, y.2 xs h⟩⟩
theorem wlk_revT (s : SqT N.K B0 a xs) (r : RepDs N n0 ad0 B0 xs ds) : Wlk N n0 ad0 B0 (RT.ItvT N.K a xs.length) ds.reverse := by
  refine ⟨fun H => SqT N.K H a xs, fun i H x H' => i < xs.length ∧ H' = H ∧ xs[xs.length - 1 - i]? = some x, ?_, fun H k => SqT.sm k s, fun i H x H' y n ad M h1 h2 h3 _ => yld_rev r y n ad M h1 h2 h3⟩
  rw [List.length_reverse, ← r.length]
  refine ⟨fun i H hi h => ⟨hi, xs, xs[xs.length - 1 - i]'(by omega), h, List.getElem?_eq_getElem (by omega)⟩, fun H h => Nat.le_refl _, fun i H x H' hi h y => ⟨hi, y.1, y.2 xs h⟩⟩
end
theorem walkS_inv {ad : Nat → Addr} {σ : L2.St} {H : Hp} {s : S} {F : Addr → Prop} {pv : PV} {v : V} {K : D → S → (Nat → Addr) → Hp → Prop} (R : Rel N ad σ H s F) (r : RepPV N ad σ H s F v pv) (h : Gar N W ad σ H s F (walkS pv s) K) :
    ∃ d s', Rel N ad σ H s' F ∧ Post ad σ H s ad σ H s' F ∧ RepD N s'.cel.length ad (msk H (Mk ad σ s' F)) v d ∧ K d s' ad H := by
  cases pv with
  | d x =>
    cases x with
    | ref k => exact h.elim
    | _ => exact store_ok R r h
  | own i => exact store_ok R r h
theorem tI_zip {m m2 : M PV} : ∀ σ H R, tI N W (M.bind m fun x => M.bind m2 fun y => M.bind (walkS x) fun xs => M.bind (walkS y) fun ys => M.of (zipF xs ys)) σ H R → RZ.iZipA N.K (tCons (tX N W m) (tCons (tX N W m2) tNil)) σ H R := by
  rintro σ H Q ⟨ad, s, F, R, h⟩
  refine ⟨ad, s, F, R, (Gar.bind h).mono fun pv s1 ad1 H1 R1 P1 h1 v rv => ?_⟩
  refine ⟨ad1, s1, F, R1, (Gar.bind h1).mono fun pv2 s2 ad2 H2 R2 P2 h2 v2 rv2 => ?_⟩
  obtain ⟨d, s3, R3, P3, rd, k⟩ := walkS_inv R2 (rv.post P2) (Gar.bind h2)
  obtain ⟨d2, s4, R4, P4, rd2, k2⟩ := walkS_inv R3 (rv2.post P3) (Gar.bind k)
  have rd := P4.rep rd
  obtain ⟨ds, e, k⟩ := of_inv R4 k2
  unfold zipF at e
  split at e
  · cases e
    cases rd with
    | lst q1 q2 =>
      cases rd2 with
      | lst q3 q4 => exact ⟨_, _, _, _, rfl, .inl ⟨SqL.sm sm_le q1, SqL.sm sm_le q3, k _ (wlk_zipL q1 q3 q2 q4)⟩⟩
  · cases e
    cases rd with
    | tup q1 q2 =>
      cases rd2 with
      | tup q3 q4 => exact ⟨_, _, _, _, rfl, .inr ⟨SqT.sm sm_le q1, SqT.sm sm_le q3, k _ (wlk_zipT q1 q3 q2 q4)⟩⟩
  · cases e
theorem tI_rev {m : M PV} : ∀ σ H R, tI N W (M.bind m fun x => M.bind (walkD x) fun xs => M.pure xs.reverse) σ H R → RT.iRevA N.K (tX N W m) σ H R := by
  rintro σ H Q ⟨ad, s, F, R, h⟩
  refine ⟨ad, s, F, R, (Gar.bind h).mono fun pv s1 ad1 H1 R1 P1 h1 v rv => ?_⟩
  obtain ⟨a, xs, ds, s', rfl, R', P', q, rd, k⟩ := walkD_inv R1 rv (Gar.bind h1)
  have k := Gar.pure R' k
  refine ⟨a, xs, rfl, ?_⟩
  rcases q with q | q
  · exact .inl ⟨SqL.sm sm_le q, k _ (wlk_revL q rd)⟩
  · exact .inr ⟨SqT.sm sm_le q, k _ (wlk_revT q rd)⟩
end Ev

set_option autoImplicit false
set_option linter.all false
set_option maxRecDepth 100000
set_option maxHeartbeats 1000000
/-! What the core says of an expression is so. -/
namespace Ev
open PySem L2 PyProof.Rows
variable {T : Nam} {N : Nms} {G : Tab} {W : WX} {F : FT}
theorem XOk.tok {c : Sx} {X : Cx} (o : XOk T N G c X W) : TOk c X := ⟨o.hN, o.nd, o.sc, o.calm, o.fnc⟩
theorem XOk.blk {c : Sx} {X : Cx} (o : XOk T N G c X W) (s : Shared) (H : Hp) (C : Addr) (cl : List (Str × Addr)) (fp : List Addr) (sc : Scope) : XOk T N G (c.blk sc) (X.blk s H sc (compEnvC sc cl C X.env) fp) Wf where
  hK := o.hK
  hN := o.hN
  nd := o.nd
  sc := by
    show relS sc X.env.scope = relS sc c.sc
    rw [o.sc]
  un := o.un
  calm := o.calm
  fnc := fun x h => by
    show (sc.names.lookup x == some .cell) = true
    have h : sc.names.lookup x = some .cell := h
    rw [h]; rfl
  tk := fun u s' x => by
    obtain ⟨_, _, _, _, _, _, _, _, _, _, _, _, _, _, _, _, z⟩ := x
    exact z.elim
  blt := o.blt
  con := o.con
  cls := o.cls
  exn := o.exn
  hdn := o.hdn
  exo := o.exo
  exm := o.exm
  ncl := o.ncl
  nm := o.nm
  kit := o.kit
  fld := o.fld
  ist := o.ist
theorem Fns.blk {X : Cx} (f : Fns T N G X F) (s : Shared) (H : Hp) (sc : Scope) (e : Env) (fp : List Addr) : Fns T N G (X.blk s H sc e fp) F :=
  ⟨fun g x h => by
    obtain ⟨fa, fd, ps, k, q1, q2, q3⟩ := f.fn g x h
    exact ⟨fa, fd, ps, k, q1, q2, ⟨q3.kp, q3.bd, q3.ok, q3.ln⟩⟩, fun c m g h => by
    obtain ⟨fa, fd, ps, k, q0, q1, q2, q3⟩ := f.mt c m g h
    exact ⟨fa, fd, ps, k, q0, q1, q2, ⟨q3.kp, q3.bd, q3.ok, q3.ln⟩⟩, fun c g h => by
    obtain ⟨fa, fd, ps, k, q0, q1, q2, q3⟩ := f.mak c g h
    exact ⟨fa, fd, ps, k, q0, q1, q2, ⟨q3.kp, q3.bd, q3.ok, q3.ln⟩⟩⟩
/-- the defs that may be called where nothing is handled -/
def FnsH (T : Nam) (N : Nms) (G : Tab) (c : Sx) (X : Cx) (F : FT) : Prop := c.hot = false → Fns T N G X F
theorem FnsH.blk {c : Sx} {X : Cx} {F : FT} (f : FnsH T N G c X F) (s : Shared) (H : Hp) (sc : Scope) (e : Env) (fp : List Addr) : FnsH T N G (c.blk sc) (X.blk s H sc e fp) F := fun h => (f h).blk s H sc e fp
theorem mem_blt {b : Bi} : biName b ∈ bltNames := by cases b <;> decide
theorem biName_val {b : Bi} (h : biOk b = true) : bootBuiltins (biName b) = some (biV b) := by
  cases b <;> first | (simp [biOk] at h; done) | decide +kernel
section
variable {c : Sx} {X : Cx}
/-- where isinstance is asked -/
theorem tyx_of (o : XOk T N G c X W) {n : Nat} {ad : Nat → Addr} {M : Addr → Prop} {H : Hp} {v : V} {x : D} {t : Tag} (r : RepW N n ad (msk H M) H v x) (ht : tagOf x = some t) (hc : ∀ k, t = .obj k → k < T.cls.length ∧ G.isa k = true) : TyX N.K H v (tagV N t) := by
  cases x <;> simp only [tagOf] at ht <;> cases ht
  · obtain rfl := r.nonI; exact .base .non
  · obtain rfl := r.blI; exact .base (.bl _)
  · obtain rfl := r.intI; exact .base (.int _)
  · obtain rfl := r.strI; exact .base (.str _)
  · obtain ⟨a, xs, rfl, _, s, _⟩ := r.tupI
    rcases s with (s | ⟨ob, s⟩) | ⟨ob, its, m, k, cl, _⟩
    · exact .base (.tup s)
    · exact .fTuple s
    · exact .kTuple k cl
  · obtain ⟨a, xs, rfl, s, _⟩ := r.lstI
    rcases s with (s | ⟨ob, s⟩) | ⟨ob, its, m, k, cl, _⟩
    · exact .base (.lst s)
    · exact .base (.frz s)
    · exact .kList k cl
  · obtain ⟨a, xs, rfl, s, _⟩ := r.dctI
    rcases s with s | ⟨ob, s⟩
    · exact .base (.dK s)
    · exact .fDict s
  · rename_i k fs
    obtain ⟨a, dx, fv, rfl, s, _⟩ := r.objI
    obtain ⟨h1, h2⟩ := o.fld k (hc k rfl).1
    obtain ⟨h3, h4, h5, h6⟩ := o.ist k (hc k rfl).1 (hc k rfl).2
    exact .base (.ins s h1 h3 h4 h5 h6)
theorem kit_all (o : XOk T N G c X W) (tg : Tag) (hg : ∀ k, tg = .obj k → k < T.cls.length ∧ G.isa k = true) : ∀ ts : List Ty, (∀ k, Ty.cls k ∈ ts → k < T.cls.length ∧ G.isa k = true) → PySem.W.kitAny N.K (tagV N tg) (ts.map (tyV1 N)) = some (ts.any (isTag G.sub tg))
  | [], _ => rfl
  | t :: ts, h => by
    have e := o.kit tg t (by cases tg <;> first | trivial | exact hg _ rfl) (by cases t <;> first | trivial | exact h _ (by simp))
    show (match PySem.W.kitOne N.K (tagV N tg) (tyV1 N t) with
      | some true => some true
      | some false => PySem.W.kitAny N.K (tagV N tg) (ts.map (tyV1 N))
      | none => none) = _
    rw [e, List.any_cons]
    cases isTag G.sub tg t with
    | true => rfl
    | false => exact kit_all o tg hg ts fun k hk => h k (List.mem_cons_of_mem _ hk)
theorem isiF_inv {ts : List Ty} {x z : D} (h : isiF G ts x = some z) : ∃ tg, tagOf x = some tg ∧ (∀ k, tg = .obj k → k < G.ncls ∧ G.isa k = true) ∧ (∀ k, Ty.cls k ∈ ts → G.isa k = true) ∧ z = .bl (ts.any (isTag G.sub tg)) := by
  have any_eq : ∀ (tg : Tag), tagOf x = some tg → ts.any (isTy G.sub x) = ts.any (isTag G.sub tg) := fun tg e => by
    congr 1; funext t; exact isTy_tag _ _ _ _ e
  unfold isiF at h
  split at h
  rotate_left
  · cases h
  rename_i hts
  have ht : ∀ k, Ty.cls k ∈ ts → G.isa k = true := fun k hk => List.all_eq_true.mp hts (.cls k) hk
  cases x with
  | ref k => cases h
  | obj k fs =>
    simp only at h
    split at h
    · rename_i hk
      cases h
      exact ⟨.obj k, rfl, fun j e => by cases e; exact hk, ht, by rw [any_eq _ rfl]⟩
    · cases h
  | non => cases h; exact ⟨_, rfl, (fun j e => by cases e), ht, by rw [any_eq _ rfl]⟩
  | bl b => cases h; exact ⟨_, rfl, (fun j e => by cases e), ht, by rw [any_eq _ rfl]⟩
  | int i => cases h; exact ⟨_, rfl, (fun j e => by cases e), ht, by rw [any_eq _ rfl]⟩
  | str i => cases h; exact ⟨_, rfl, (fun j e => by cases e), ht, by rw [any_eq _ rfl]⟩
  | tup i => cases h; exact ⟨_, rfl, (fun j e => by cases e), ht, by rw [any_eq _ rfl]⟩
  | lst i => cases h; exact ⟨_, rfl, (fun j e => by cases e), ht, by rw [any_eq _ rfl]⟩
  | dct i => cases h; exact ⟨_, rfl, (fun j e => by cases e), ht, by rw [any_eq _ rfl]⟩
theorem clsV_ty (t : Ty) : ClsV (tyVV N t) (tyV1 N t) := by cases t <;> first | exact .ty _ | exact .own _
theorem tX_isi1 (o : XOk T N G c X W) {t : Ty} (ht : ∀ k, t = .cls k → k < T.cls.length) {m : M PV} : ∀ σ H Q, tX N W (one m (isiF G [t])) σ H Q → tCB (rIsi N.K) (tCons (tX N W m) (tCons (tC (tyVV N t)) tNil)) σ H Q := by
  intro σ H Q h
  refine tX_one (r := fun x H Q => rIsi N.K [x, tyVV N t] H Q) (fun x H Q ⟨n, ad, M, a, z, hM, ra, hf, q⟩ => ?_) σ H Q h
  obtain ⟨tg, e1, e2, e3, rfl⟩ := isiF_inv hf
  have e2' : ∀ k, tg = .obj k → k < T.cls.length ∧ G.isa k = true := fun k e => by rw [o.ncl]; exact e2 k e
  have ht' : ∀ k, k < T.cls.length → G.isa k = true → k < T.cls.length ∧ G.isa k = true := fun k a b => ⟨a, b⟩
  refine ⟨x, tyVV N t, tagV N tg, tyV1 N t, isTag G.sub tg t, rfl, clsV_ty t, tyx_of o ra e1 e2', ?_, ?_⟩
  · exact o.kit tg t (by cases tg <;> first | trivial | exact e2' _ rfl) (by cases t <;> first | trivial | exact ⟨ht _ rfl, e3 _ (by simp)⟩)
  · have : ([t].any (isTag G.sub tg)) = isTag G.sub tg t := by simp
    rw [this] at q
    exact q _ _ (Same.refl _) (.bl _)
def tTys (N : Nms) : List Ty → TA
  | [] => tNil
  | t :: ts => tCons (tC (tyVV N t)) (tTys N ts)
theorem tTys_ok : ∀ (ts : List Ty) (σ : L2.St) (H : Hp) (Q : List V → Hp → Prop), Q (ts.map (tyVV N)) H → tTys N ts σ H Q
  | [], _, _, _, h => h
  | t :: ts, σ, H, Q, h => tTys_ok ts σ H (fun xs H2 => Q (tyVV N t :: xs) H2) h
theorem paired_ty : ∀ ts : List Ty, Paired ClsV (ts.map (tyVV N)) (ts.map (tyV1 N))
  | [] => .nil
  | t :: ts => .cons (clsV_ty t) (paired_ty ts)
theorem RepW.grow {n : Nat} {ad : Nat → Addr} {M : Addr → Prop} {H H' : Hp} {v : V} {x : D} (r : RepW N n ad (msk H M) H v x) (sm : Same H H') : RepW N n ad (msk H' M) H' v x := by
  cases r with
  | d r => exact .d (RepD.mono (Nat.le_refl _) (fun _ _ => rfl) (.of (msk_same sm)) _ r)
  | c ok =>
    obtain ⟨o, ho⟩ := ok.some
    exact .c (ok.mono (Nat.le_refl _) (fun _ _ => rfl) (.of (msk_same sm)) ((sm _ _ ho).trans ho.symm))
theorem tX_isiT (o : XOk T N G c X W) {ts : List Ty} (ht : ∀ k, Ty.cls k ∈ ts → k < T.cls.length) (hl : ts.length ≤ 100) {m : M PV} : ∀ σ H Q, tX N W (one m (isiF G ts)) σ H Q → tCB (rIsiT N.K) (tCons (tX N W m) (tCons (tTup (tTys N ts)) tNil)) σ H Q := by
  intro σ H Q h
  refine tX_one (r := fun x H Q => tTup (tTys N ts) σ H fun y H2 => rIsiT N.K [x, y] H2 Q) (fun x H Q ⟨n, ad, M, a, z, hM, ra, hf, q⟩ => ?_) σ H Q h
  obtain ⟨tg, e1, e2, e3, rfl⟩ := isiF_inv hf
  have e2' : ∀ k, tg = .obj k → k < T.cls.length ∧ G.isa k = true := fun k e => by rw [o.ncl]; exact e2 k e
  have ht' : ∀ k, k < T.cls.length → G.isa k = true → k < T.cls.length ∧ G.isa k = true := fun k a b => ⟨a, b⟩
  refine tTys_ok ts σ H _ ⟨by rw [List.length_map, sizeLine_line]; unfold line; omega, fun p hp => ?_⟩
  exact ⟨x, p, _, tagV N tg, _, ts.any (isTag G.sub tg), rfl, upd_same, paired_ty ts, tyx_of o (ra.grow (new_same hp)) e1 e2', kit_all o tg e2' ts (fun k hk => ⟨ht k hk, e3 k hk⟩), q _ _ (new_same hp) (.bl _)⟩
/-- e.f -/
theorem tX_fld (o : XOk T N G c X W) {f : Nat} {m : M PV} : ∀ σ H Q, tX N W (one m (fldF G f)) σ H Q → tFld N.K (tX N W m) (N.nm f) σ H Q := by
  intro σ H Q h
  refine tX_one (r := fun x H1 Q => ∃ a C dx fs v, x = .ref a ∧ H1 a = some (.ins C dx fs) ∧ Cls N.K C ∧ NoAttr N.K C (N.nm f) ∧ fs.lookup (N.nm f) = some v ∧ Q v H1) (fun x H Q ⟨n, ad, M, a, z, hM, ra, hf, q⟩ => ?_) σ H Q h
  cases a with
  | obj k fs =>
    simp only [fldF] at hf
    split at hf
    · rename_i hk
      obtain ⟨a, dx, fv, rfl, s, rf⟩ := ra.objI
      obtain ⟨h1, h2⟩ := o.fld k (by rw [o.ncl]; exact hk.1)
      obtain ⟨v, e, rv⟩ := rf.lookup o.nm hf
      exact ⟨a, _, dx, fv, v, rfl, s, h1, h2 f hk.2, e, q _ _ (Same.refl _) rv⟩
    · cases hf
  | _ => cases hf
/-- a slice -/
def PartV (n : Bool) (v : V) (a : Option Int) : Prop := if n = true then a = none else ∃ i, v = .int i ∧ a = some i
theorem part_v {n : Bool} {pv : PV} {v : V} {ad : Nat → Addr} {σ : L2.St} {H : Hp} {s : S} {F : Addr → Prop} {K : Option Int → S → (Nat → Addr) → Hp → Prop} (R : Rel N ad σ H s F) (r : RepPV N ad σ H s F v pv) (h : Gar N W ad σ H s F (partM n pv s) K) : ∃ a, PartV n v a ∧ K a s ad H := by
  cases pv with
  | own i => exact h.elim
  | d y =>
    have h : Gar N W ad σ H s F (M.of (partF n y) s) K := h
    obtain ⟨a, e, k⟩ := of_inv R h
    refine ⟨a, ?_, k⟩
    unfold PartV
    cases n <;> cases y <;> simp only [partF] at e <;> cases e
    · cases r; exact ⟨_, rfl, rfl⟩
    · rfl
theorem tX_sl {n1 n2 : Bool} {m ml mh : M PV} : ∀ σ H Q, tX N W (M.bind m fun x => M.bind ml fun l => M.bind (partM n1 l) fun i => M.bind mh fun h => M.bind (partM n2 h) fun j => slM x i j) σ H Q →
    (tX N W m) σ H fun x H1 => tX N W ml σ H1 fun l H2 => ∃ a, PartV n1 l a ∧ tX N W mh σ H2 fun h H3 => ∃ b, PartV n2 h b ∧ rSl N x a b H3 Q := by
  rintro σ H Q ⟨ad, s, F, R, h⟩
  refine ⟨ad, s, F, R, (Gar.bind h).mono fun a s1 ad1 H1 R1 P1 h1 x rx => ?_⟩
  refine ⟨ad1, s1, F, R1, (Gar.bind h1).mono fun b s2 ad2 H2 R2 P2 h2 l rl => ?_⟩
  obtain ⟨lo, hlo, h2⟩ := part_v R2 rl (Gar.bind h2)
  refine ⟨lo, hlo, ad2, s2, F, R2, (Gar.bind h2).mono fun d s3 ad3 H3 R3 P3 h3 u ru => ?_⟩
  obtain ⟨hi, hhi, h3⟩ := part_v R3 ru (Gar.bind h3)
  refine ⟨hi, hhi, ?_⟩
  have rx3 := (rx.post P2).post P3
  unfold slM at h3
  cases hv : a.val s3 with
  | none => rw [hv] at h3; exact h3.elim
  | some z0 =>
    rw [hv] at h3
    simp only at h3
    cases hs : slF lo hi z0 with
    | none => rw [hs] at h3; exact h3.elim
    | some z =>
      rw [hs] at h3
      refine ⟨_, _, Mk ad3 σ s3 F, z0, z, fun p m => R3.masked m, rx3.val R3 hv, ?_, fun v H4 sm r4 => h3 ad3 H4 (R3.grow sm) (.grow R3 sm) v r4⟩
      cases z0 <;> exact hs
end
end Ev

set_option autoImplicit false
set_option linter.all false
set_option maxRecDepth 100000
set_option maxHeartbeats 1000000
/-! Ranges as tuples and lists; f(); tests by if-expressions. -/
namespace Ev
open PySem L2 PyProof.Rows
variable {T : Nam} {N : Nms} {G : Tab} {W : WX} {F : FT}
section
variable {X : Cx}
theorem pt_ifExp {c a b : Expr} {pos : Pos} {t u v : TT} (hc : PT X c t) (ha : PT X a u) (hb : PT X b v) : PT X (.IfExp c a b pos) (fun σ H Q => t σ H fun d H1 => if d = true then u σ H1 Q else v σ H1 Q) := by
  refine ⟨fun pins s σ H Q I h => ?_⟩
  refine isTrue_IfExp (thn (hc.run pins s σ H _ I h) fun d s1 ⟨H1, I1, q1⟩ => ?_)
  cases d with
  | true => exact ha.run pins s1 σ H1 Q I1 q1
  | false => exact hb.run pins s1 σ H1 Q I1 q1
theorem tT_ife {mt ma mb : M PV} : ∀ σ H Q, tT N W (M.bind (M.bind mt fun x => M.bind (toB x) fun c => if c then ma else mb) toB) σ H Q → (tT N W (M.bind mt toB)) σ H fun d H1 => if d = true then tT N W (M.bind ma toB) σ H1 Q else tT N W (M.bind mb toB) σ H1 Q := by
  rintro σ H Q ⟨ad, s, F, R, h⟩
  refine ⟨ad, s, F, R, ?_⟩
  have e : M.bind (M.bind mt fun x => M.bind (toB x) fun c => if c then ma else mb) toB = M.bind (M.bind mt toB) (fun c => if c then M.bind ma toB else M.bind mb toB) := by
    rw [bind_assoc, bind_assoc]
    congr; funext x; rw [bind_assoc]; congr; funext c; cases c <;> rfl
  rw [e] at h
  refine (Gar.bind h).mono fun b s1 ad1 H1 R1 P1 h1 => ?_
  cases b with
  | true => exact ⟨ad1, s1, F, R1, h1⟩
  | false => exact ⟨ad1, s1, F, R1, h1⟩
section
variable {f : Addr} {fd : FuncData} {ps : List Str} {sp : Sp} {k : Nat} {E : L2.St → XK} {x : Str} {p pos : Pos}
theorem pe_callS0 (Fo : FnOk X.prog X.w X.K X.mg X.base (L2.CX X.prog X.w) k f fd ps sp) (hr : Room k X.A) (hg : Gl X x) (hm : X.mg x = some (.ref f)) (hk : PySem.W.keepIn X.K (.ref f) = true) (hb : Binds X.K fd ps []) (hx : ∀ σ, PassesAt (L2.CX X.prog X.w) X σ (E σ))
    (hdb : (x == ("__debug__" : Str)) = false) : PE X (.Call (.Name x p) [] [] pos) (tCallS sp E tNil) := by
  refine ⟨fun pins s σ H Q I h => ?_⟩
  refine wpAny_Call_Name_kw (ld_glob I hg hm ?_ hdb)
  exact PySem.W.callWith_K0 I.kIn hk (run_fnS (us := []) Fo hr hb (hx σ) I .nil h)
end
/-- tuple(range(a, b, c)) -/
def rgC (a c : Int) (n : Nat) : List V := (List.range n).map fun i => V.int (a + (i : Nat) * c)
theorem vals_rgC {a c : Int} {n : Nat} {acc : Array Value} (h : ItemsOf (fun i v => ∃ t, v = .int (a + i * c) t) acc n) : Vals (rgC a c n) acc.toList := by
  have e : acc.toList.length = n := by rw [Array.length_toList]; exact h.1
  unfold rgC
  rw [← e]
  refine vals_of_get acc.toList _ fun j u hj => ?_
  obtain ⟨t, rfl⟩ := h.2 j u (by rw [← hj, Array.getElem?_toList])
  exact ⟨t, rfl⟩
def tTupRg3 (ta : TA) : TE := fun σ H Q => ta σ H fun vs H1 => ∃ (i j c : Int) (n : Nat), vs = [.int i, .int j, .int c] ∧ RgC i j c n ∧ n ≤ 2 ^ 24 ∧ ∀ q, H1 q = none → Q (.ref q) (upd H1 q (.tup (rgC i c n)))
theorem pe_tupRg3 {a b c : Expr} {ta : TA} {p pos p2 pos2 : Pos} (hcm : X.calm = true) (hg : Gl X "tuple") (hm : X.mg "tuple" = none) (hg2 : Gl X "range") (hm2 : X.mg "range" = none) (ha : PA X [a, b, c] ta)
    (hs : starEach [a, b, c] X.env = (false, eval a X.env) :: starEach [b, c] X.env) (hpl : ∀ pos : Pos, (backTo pos (starEach [b, c] X.env)).any (·.1) = false) :
    PE X (.Call (.Name "tuple" p) [.Call (.Name "range" p2) [a, b, c] [] pos2] [] pos) (tTupRg3 ta) := by
  refine ⟨fun pins s σ H Q I h => ?_⟩
  have na : starEach [Expr.Call (.Name "range" p2) [a, b, c] [] pos2] X.env = (false, eval (.Call (.Name "range" p2) [a, b, c] [] pos2) X.env) :: starEach [] X.env := by rfl
  refine Call_ (ld_blt I hg hm boot_tuple (PyProof.Rows.callWith_type1 (args_cons (Call_ (ld_blt I hg2 hm2 boot_range (PyProof.Rows.callWith_type1 (thn (ha.run pos2 pins s σ H _ I h) fun us s1 ⟨vs, H1, I1, r1, q1⟩ => ?_) hs (hpl pos2)))) na) na))
  obtain ⟨i, j, k, n, e, ⟨c0, c1, c2, c3⟩, hn, q⟩ := q1
  subst e
  cases r1 with
  | cons r rr =>
    cases rr with
    | cons r' rr =>
      cases rr with
      | cons r'' rr =>
        cases rr
        obtain ⟨t, rfl⟩ := r
        obtain ⟨t', rfl⟩ := r'
        obtain ⟨t'', rfl⟩ := r''
        refine call_range_3 c0 ?_ (.inl (PyProof.noPylong_small c1))
        refine args_nil ?_
        have I1' : Inv X pins σ H1 { s1 with heap := s1.heap.push { cls := .type "range", data := .fields #[.int i t, .int j t', .int k t''] } } := I1.kept (t' := s1.toks) fun b o e => Heap.get?_push_of_some _ e
        refine call_tuple_range (n := n) (I1'.ok.hd hcm) (IsRange.new _ _ _ _ _ _ _) c2 c3 hn fun h' tk acc hk hi => ?_
        have I2 : Inv X pins σ H1 { s1 with heap := h', toks := tk } := I1'.kept hk
        refine ⟨.ref h'.objs.size, upd H1 h'.objs.size (.tup (rgC i k n)), I2.laid (t' := tk) (fun c o e => Heap.get?_push_of_some _ e) (Nat.le_refl _) (show ObjOk X.prog X.w _ _ _ (.tup (rgC i k n)) from ⟨?_, acc.toList, vals_rgC hi, ?_⟩), rfl, q _ (I2.hok.fresh (Nat.le_refl _))⟩
        · unfold rgC; rw [List.length_map, List.length_range, sizeLine_eq]; omega
        · rw [Array.toArray_toList]; exact IsTup.new _ _
end
/-! ### the core's ranges -/
section
variable {ad : Nat → Addr} {σ : L2.St} {H : Hp} {s : S} {F : Addr → Prop}
theorem reps_rgV {n : Nat} {B : Hp} (lo hi : Int) : RepDs N n ad B (rgV lo hi) ((rangeL lo hi).map .int) := by
  have e : rgV lo hi = (rangeL lo hi).map .int := by unfold rgV rangeL; rw [List.map_map]; rfl
  rw [e]
  exact RepDs.ints _
theorem rgOk_of {q : Int × Int} (h1 : sml q.1 = true) (h2 : sml q.2 = true) (h3 : q.2 - q.1 ≤ line) : RgOk q.1 q.2 := by
  have b := sml_of h1
  have b2 := sml_of h2
  refine ⟨b.1, b.2, b2.1, b2.2, ?_⟩
  unfold line at h3
  omega
/-- how a new tuple or list of ints is read -/
theorem rg_fin {t : Bool} {q : Int × Int} {K : PV → S → (Nat → Addr) → Hp → Prop} {z : D} (R : Rel N ad σ H s F) (hz : rgF t q = some z) (k : Gar N W ad σ H s F (.ok (.d z) s) K) {p : Addr} (hp : H p = none) :
    ∃ ad' s' H', H' = upd H p (if t = true then .tup (rgV q.1 q.2) else .lst (rgV q.1 q.2)) ∧ RepPV N ad' σ H' s' F (.ref p) (.d z) ∧ K (.d z) s' ad' H' := by
  unfold rgF at hz
  split at hz
  · cases hz
    refine ⟨ad, s, _, rfl, ?_, ?_⟩
    · cases t with
      | true => exact new_tup (fun p m => R.masked m) hp (reps_rgV _ _)
      | false => exact new_lst (fun p m => R.masked m) hp (reps_rgV _ _)
    · exact k ad _ (R.grow (new_same hp)) (.grow R (new_same hp))
  · cases hz
end
theorem rgF_le {t : Bool} {q : Int × Int} {z : D} (h : rgF t q = some z) : q.2 - q.1 ≤ line := by
  unfold rgF at h
  split at h
  · assumption
  · cases h
theorem tX_rg {t : Bool} {ma mb : M PV} : ∀ σ H Q, tX N W (M.bind ma fun x => M.bind mb fun y => M.of (((rngF x y).bind (rgF t)).map .d)) σ H Q → (if t = true then tTupRg (tRg2 (tX N W ma) (tX N W mb)) else tLstRg (tRg2 (tX N W ma) (tX N W mb))) σ H Q := by
  rintro σ H Q ⟨ad, s, F, R, h⟩
  have core : tRg2 (tX N W ma) (tX N W mb) σ H fun a b H1 => RgOk a b ∧ ∀ q, H1 q = none → Q (.ref q) (upd H1 q (if t = true then .tup (rgV a b) else .lst (rgV a b))) := by
    refine ⟨ad, s, F, R, (Gar.bind h).mono fun pv s1 ad1 H1 R1 P1 h1 v rv => ?_⟩
    refine ⟨ad1, s1, F, R1, (Gar.bind h1).mono fun pv2 s2 ad2 H2 R2 P2 h2 v2 rv2 => ?_⟩
    cases hr : rngF pv pv2 with
    | none => rw [hr] at h2; exact h2.elim
    | some q =>
      rw [hr] at h2
      have h2 : Gar N W ad2 σ H2 s2 F (M.of ((rgF t q).map PV.d) s2) _ := h2
      cases hz : rgF t q with
      | none => rw [hz] at h2; exact h2.elim
      | some z =>
        rw [hz] at h2
        obtain ⟨rfl, rfl, b1, b2⟩ := rngF_inv hr
        cases rv
        cases rv2
        refine ⟨q.1, q.2, rfl, rfl, rgOk_of b1 b2 (rgF_le hz), fun p hp => ?_⟩
        obtain ⟨ad', s', H', e, r, k⟩ := rg_fin R2 hz h2 hp
        rw [← e]
        exact k _ r
  cases t with
  | true => exact core
  | false => exact core
theorem tX_rg0 {t : Bool} {mb : M PV} : ∀ σ H Q, tX N W (M.bind (M.pure (.d (.int 0))) fun x => M.bind mb fun y => M.of (((rngF x y).bind (rgF t)).map .d)) σ H Q → (if t = true then tTupRg (tRg1 (tX N W mb)) else tLstRg (tRg1 (tX N W mb))) σ H Q := by
  intro σ H Q h
  have h1 := tX_rg (t := t) σ H Q h
  have z : ∀ (Q : Int → Int → Hp → Prop), tRg2 (tX N W (M.pure (.d (.int 0)))) (tX N W mb) σ H Q → tRg1 (tX N W mb) σ H Q := by
    intro Q ⟨ad, s, F, R, h⟩
    have h := Gar.pure R h (.int 0) (.int 0)
    obtain ⟨ad1, s1, F1, R1, h⟩ := h
    refine ⟨ad1, s1, F1, R1, h.mono fun pv s2 ad2 H2 R2 P2 k v rv => ?_⟩
    obtain ⟨i, j, e1, e2, q⟩ := k v rv
    injection e1 with e1
    subst e1
    exact ⟨j, e2, q⟩
  cases t with
  | true => exact z _ h1
  | false => exact z _ h1
theorem rg3_ok {a b c : Int} (ha : 0 ≤ a) (ha' : a ≤ 1000) (hb : 0 ≤ b) (hb' : b ≤ 1000) (hc : 0 < c) (hc' : c ≤ 1000) : RgC a b c ((b - a + c - 1) / c).toNat ∧ ((b - a + c - 1) / c).toNat ≤ 2 ^ 24 := by
  have e : Builtin.Range.rangeSize a b c = (((b - a + c - 1) / c).toNat : Nat) := by
    unfold Builtin.Range.rangeSize
    rw [if_pos (show c > 0 from hc)]
    have q : (b - a + c - 1) / c = (b - a - 1) / c + 1 := by
      rw [show b - a + c - 1 = (b - a - 1) + c by omega, Int.add_ediv_of_dvd_right (Int.dvd_refl c), Int.ediv_self (by omega)]
    split
    · rename_i h
      have : 0 ≤ (b - a - 1) / c := Int.ediv_nonneg (by omega) (by omega)
      rw [q]; omega
    · rename_i h
      have : (b - a - 1) / c < 0 := Int.ediv_neg_of_neg_of_pos (by omega) hc
      rw [q]; omega
  have le : ((b - a + c - 1) / c).toNat ≤ 2 ^ 24 := by
    have : (b - a + c - 1) / c ≤ b - a + c - 1 ∨ b - a + c - 1 < 0 := by
      by_cases h : 0 ≤ b - a + c - 1
      · exact .inl (Int.ediv_le_self _ h)
      · exact .inr (by omega)
    rcases this with h | h
    · omega
    · have := Int.ediv_neg_of_neg_of_pos h hc
      omega
  refine ⟨⟨by omega, by omega, ?_, e⟩, le⟩
  unfold Builtin.Range.small
  rw [e]
  simp only [Builtin.Range.rangeFitsLong, Bool.and_eq_true, Bool.or_eq_true, decide_eq_true_eq, beq_iff_eq, show c > 0 from hc, if_true]
  have : (((b - a + c - 1) / c).toNat : Int) ≤ 2 ^ 24 := by exact_mod_cast le
  omega
theorem reps_rgC {n : Nat} {ad : Nat → Addr} {B : Hp} (a b c : Int) : RepDs N n ad B (rgC a c ((b - a + c - 1) / c).toNat) ((rangeS a b c).map .int) := by
  have e : rgC a c ((b - a + c - 1) / c).toNat = (rangeS a b c).map .int := by unfold rgC rangeS; rw [List.map_map]; rfl
  rw [e]
  exact RepDs.ints _
theorem tX_rg3 {ma mb mc : M PV} : ∀ σ H Q, tX N W (M.bind ma fun x => M.bind mb fun y => M.bind mc fun z => M.of ((rg3F x y z).map .d)) σ H Q → tTupRg3 (tCons (tX N W ma) (tCons (tX N W mb) (tCons (tX N W mc) tNil))) σ H Q := by
  rintro σ H Q ⟨ad, s, F, R, h⟩
  refine ⟨ad, s, F, R, (Gar.bind h).mono fun pv s1 ad1 H1 R1 P1 h1 v rv => ?_⟩
  refine ⟨ad1, s1, F, R1, (Gar.bind h1).mono fun pv2 s2 ad2 H2 R2 P2 h2 v2 rv2 => ?_⟩
  refine ⟨ad2, s2, F, R2, (Gar.bind h2).mono fun pv3 s3 ad3 H3 R3 P3 h3 v3 rv3 => ?_⟩
  cases hr : rg3F pv pv2 pv3 with
  | none => rw [hr] at h3; exact h3.elim
  | some z =>
    rw [hr] at h3
    unfold rg3F at hr
    split at hr
    · rename_i a b c
      split at hr
      · rename_i hb
        obtain ⟨b1, b2, b3, b4, b5, b6⟩ := hb
        cases hr
        cases rv
        cases rv2
        cases rv3
        obtain ⟨q1, q2⟩ := rg3_ok b1 b2 b3 b4 b5 b6
        refine ⟨a, b, c, _, rfl, q1, q2, fun p hp => ?_⟩
        exact h3 ad3 _ (R3.grow (new_same hp)) (.grow R3 (new_same hp)) _ (new_tup (fun p m => R3.masked m) hp (reps_rgC a b c))
      · cases hr
    · cases hr
end Ev

set_option autoImplicit false
set_option linter.all false
set_option maxRecDepth 100000
set_option maxHeartbeats 1000000
/-! New lists; methods that change a list. -/
namespace Ev
open PySem L2 PyProof.Rows
variable {T : Nam} {N : Nms} {G : Tab} {W : WX} {F : FT}
section
variable {ad : Nat → Addr} {σ : L2.St} {H : Hp} {s : S} {F : Addr → Prop} {α : Type}
/-- a run whose answer is a new object -/
def GarN (N : Nms) (W : WX) (ad : Nat → Addr) (σ : L2.St) (H : Hp) (s : S) (F : Addr → Prop) (r : Res α) (K : α → S → (Nat → Addr) → Hp → Addr → Prop) : Prop := match r with
  | .ok a s' => ∀ ad' H' p, Rel N ad' σ H' s' (FAdd F p) → PostN ad σ H s ad' σ H' s' F p → K a s' ad' H' p
  | .exc e s' => ∀ cls d ad' H', Rel N ad' σ H' s' F → Post ad σ H s ad' σ H' s' F → RepE N s'.cel.length ad' (msk H' (Mk ad' σ s' F)) H' e cls d → W cls d σ H'
  | .stk => False
end
theorem GarN.bind {α β : Type} {ad : Nat → Addr} {σ : L2.St} {H : Hp} {s : S} {F : Addr → Prop} {m : M α} {f : α → M β} {K : β → S → (Nat → Addr) → Hp → Addr → Prop} (h : GarN N W ad σ H s F (M.bind m f s) K) :
    Gar N W ad σ H s F (m s) fun a s' ad' H' => GarN N W ad' σ H' s' F (f a s') K := by
  unfold M.bind at h
  cases hm : m s with
  | ok a s' =>
    rw [hm] at h
    have h : GarN N W ad σ H s F (f a s') K := h
    intro ad' H' R' P'
    show GarN N W ad' σ H' s' F (f a s') K
    cases hf : f a s' with
    | ok b s2 => rw [hf] at h; exact fun ad2 H2 p R2 P2 => h ad2 H2 p R2 (P'.toN P2)
    | exc e s2 => rw [hf] at h; exact fun cls d ad2 H2 R2 P2 => h cls d ad2 H2 R2 (P'.trans P2)
    | stk => rw [hf] at h; exact h
  | exc e s' => rw [hm] at h; exact h
  | stk => rw [hm] at h; exact h
def KN (N : Nms) (σ : L2.St) (F : Addr → Prop) (Q : VK) : PV → S → (Nat → Addr) → Hp → Addr → Prop := fun pv s' ad' H' p => ∀ c, thaw pv = some c → CelOk N s'.cel.length ad' (msk H' (Mk ad' σ s' (FAdd F p))) H' p c → Q (.ref p) H'
def tN (N : Nms) (W : WX) (m : M PV) : TE := fun σ H Q => ∃ ad s F, Rel N ad σ H s F ∧ GarN N W ad σ H s F (m s) (KN N σ F Q)
theorem tN_lst {m : M (List D)} : ∀ σ H Q, tN N W (M.bind m fun xs => if xs.length ≤ line then M.pure (.d (.lst xs)) else stk) σ H Q → tLst (tAs N W m) σ H Q := by
  rintro σ H Q ⟨ad, s, F, R, h⟩
  refine ⟨ad, s, F, R, (GarN.bind h).mono fun xs s1 ad1 H1 R1 P1 h1 vs rv => ?_⟩
  split at h1
  · rename_i hl
    refine ⟨by rw [rv.length, sizeLine_line]; exact hl, fun p hp => ?_⟩
    obtain ⟨R2, sm⟩ := R1.addF (o := .lst vs) hp
    exact h1 ad1 _ p R2 (Post.newP .refl R1 hp) (.lst xs) rfl ⟨vs, upd_same, rv.mono (Nat.le_refl _) (fun _ _ => rfl) sm⟩
  · exact h1.elim
theorem tN_lc {mi : M (List D)} {tg : Tg} {mt : M Bool} {me : M PV} {own : List Nat} (htg : ∀ i ∈ tgSl tg, i ∈ own) : ∀ σ H Q, tN N W (M.bind mi fun xs => M.bind (lcM own (loopC tg mt (M.bind me PV.store) own [] xs)) fun ts => M.pure (.d (.lst ts))) σ H Q →
    tLc (tI N W mi) (gTg N.K tg) (tT N Wf mt) (tX N Wf me) own σ H Q := by
  rintro σ H Q ⟨ad, s, F, R, h⟩
  simp only [lcR_eq] at h
  refine lc_core (Gd := fun ad1 H1 s1 r => GarN N W ad1 σ H1 s1 F (lcR r) (KN N σ F Q)) htg R (fun _ _ _ h => h) (GarN.bind h) fun ts s' ad' H' Da vacc ad1 H1 s1 R' P' hA ra hg hl => ?_
  exact hg ad' H' Da R' P' (.lst ts) rfl ⟨vacc, hA, ra⟩
/-- a new thing of the store -/
theorem tX_new {m : M PV} : ∀ σ H Q, tX N W (M.bind m newM) σ H Q → tN N W m σ H Q := by
  rintro σ H Q ⟨ad, s, F, R, h⟩
  refine ⟨ad, s, F, R, ?_⟩
  unfold M.bind at h
  cases hm : m s with
  | stk => rw [hm] at h; exact h
  | exc e s' => rw [hm] at h; exact h
  | ok pv s' =>
    rw [hm] at h
    intro ad' H' p R' P' c hc ok
    have h : Gar N W ad σ H s F (newM pv s') _ := h
    unfold newM at h
    rw [hc] at h
    obtain ⟨ad2, e2, R2, P2, a2, sm2⟩ := Rel.alloc P' R' ok
    refine h ad2 H' R2 P2 _ ?_
    rw [← e2]
    exact RepD.ref (by show s'.cel.length < (s'.cel ++ [c]).length; simp)
/-! ### list.extend(a list) -/
open PySem in
theorem ext_ll (l : Addr) (items : Array Value) (n : Nat) (b : Addr) (sl : Array (Option Value)) (items2 : Array Value) (n2 : Nat) (hc0 : ¬(!items.isEmpty && Builtin.List.listTooLong (items.size + items2.size)) = true) (hc1 : items.size ≤ sizeLine) (hs2 : items.size + items2.size ≤ sizeLine + 1) :
    Meets (Builtin.«list.extend» ⟨[.ref l, .ref b], []⟩) (fun _ R s => s.heap.get? l = some { cls := .type "list", dict := none, data := .seq items n, slots := #[] } ∧ s.heap.get? b = some { cls := .type "list", dict := none, data := .seq items2 n2, slots := sl } ∧ R (.ok (.ret Value.none)) { s with heap := s.heap.update l (Obj.mapSeq fun x => x ++ items2), toks := s.toks }) :=
  .of_wp fun prog w A R s h => by
    obtain ⟨hp, g, d, tk, os⟩ := s
    obtain ⟨hl, hb, h⟩ := h
    have f3 := AutoSeq1.sub_list_list
    have hz' : (items ++ items2).size ≤ sizeLine + 1 := by rw [Array.size_append]; exact hs2
    wp_walk using (wpAny_updateSeq hl rfl (hz := hc1) (_hz' := hz')), AutoSeq1.wpAny_loadPart' hl, AutoSeq1.wpAny_loadPart' hb
    exact ⟨_, rfl, h⟩
def rExt (K : PySem.W.Frag) : V → List V → Hp → VK → Prop := fun x vs H Q => ∃ l b xs zs, x = .ref l ∧ vs = [.ref b] ∧ H l = some (.lst xs) ∧ SqL K H b zs ∧ xs.length + zs.length ≤ sizeLine ∧ Q .non (upd H l (.lst (xs ++ zs)))
theorem mt_ext {X : Cx} : MtM X "list.extend" (rExt X.K) := by
  intro pins s σ H x vs v us Q I rx rv h
  obtain ⟨l, b, xs, zs, rfl, rfl, hH, hB, hz, q⟩ := h
  cases rx
  obtain ⟨u, rfl, ru⟩ := rv.one
  cases ru
  obtain ⟨z, its, n, r, hl, e⟩ := I.lstM hH
  obtain ⟨its2, r2, ⟨⟨cls, dd, data, sl⟩, n2, e2, hc, hdn, hd⟩, _⟩ := I.list hB
  simp only at hc hd hdn
  subst hc hd hdn
  have hl2 := r2.length
  have hsz : its.toArray.size + its2.toArray.size ≤ sizeLine := by rw [List.size_toArray, List.size_toArray]; omega
  have hlong : ¬ (!its.toArray.isEmpty && Builtin.List.listTooLong (its.toArray.size + its2.toArray.size)) = true := by
    rw [notLongL hsz, Bool.and_false]
    exact Bool.false_ne_true
  refine call_meets F.slot_list_extend ⟨_, e, rfl⟩ F.entry_list_extend (F.args_list_extend_2 _ _)
    (ext_ll l its.toArray n b sl its2.toArray n2 hlong (by rw [List.size_toArray]; omega) (by omega)) ⟨e, e2, ?_⟩
  refine ⟨.non, _, I.lset (its' := its ++ its2) hH e (by simp) (r.append r2) ?_, rfl, q⟩
  rw [List.length_append]
  omega
/-! ### methods -/
def mmRule (K : PySem.W.Frag) : Mm → V → List V → Hp → VK → Prop
  | .extend => rExt K
  | .append => rAppend | .pop => rPop | .popAt => rPopAt | .reverse => rReverse | .clear => rClear
  | _ => fun _ _ _ _ => False
theorem lo_ref {ad : Nat → Addr} {σ : L2.St} {H : Hp} {s : S} {F : Addr → Prop} {pv : PV} {v : V} {l : Lo} {a : Addr} (hl : pv.lo = some l) (r : RepPV N ad σ H s F v pv) (e : adr ad σ l = some a) : v = .ref a := by
  cases pv with
  | own i =>
    cases hl
    have r : σ[i]? = some (some v) := r
    have e := adr_sl.mp e
    rw [r] at e; cases e; rfl
  | d x =>
    cases x <;> cases hl
    have r : RepD N s.cel.length ad (msk H (Mk ad σ s F)) v (.ref _) := r
    cases r
    have e : some (ad _) = some a := e
    cases e; rfl
theorem lstM_inv {ad : Nat → Addr} {σ : L2.St} {H : Hp} {s : S} {F : Addr → Prop} {pv : PV} {v : V} {K : Unit → S → (Nat → Addr) → Hp → Prop} (R : Rel N ad σ H s F) (r : RepPV N ad σ H s F v pv) (h : Gar N W ad σ H s F (lstM pv s) K) :
    ∃ a xs, v = .ref a ∧ H a = some (.lst xs) ∧ K () s ad H := by
  unfold lstM at h
  cases hl : pv.lo with
  | none => rw [hl] at h; exact h.elim
  | some l =>
    rw [hl] at h
    simp only at h
    split at h
    · rename_i ts hg
      obtain ⟨a, e, ok⟩ := R.own l _ hg
      obtain ⟨xs, hx, rx⟩ := ok
      refine ⟨a, xs, ?_, hx, h ad H R Post.refl⟩
      exact lo_ref hl r e
    · exact h.elim
/-- a list at hand -/
theorem lst_at {ad : Nat → Addr} {σ : L2.St} {H : Hp} {s : S} {F : Addr → Prop} {pv : PV} {v : V} {l : Lo} {c : Cell} (R : Rel N ad σ H s F) (r : RepPV N ad σ H s F v pv) (hl : pv.lo = some l) (hg : s.get l = some c) :
    ∃ a, v = .ref a ∧ adr ad σ l = some a ∧ CelOk N s.cel.length ad (msk H (Mk ad σ s F)) H a c := by
  obtain ⟨a, e, ok⟩ := R.own l _ hg
  exact ⟨a, lo_ref hl r e, e, ok⟩
theorem doMm_ok {mm : Mm} (hm : mmOk mm = true) {ad : Nat → Addr} {σ : L2.St} {H : Hp} {s : S} {F : Addr → Prop} {pv : PV} {v : V} {as : List D} {vs : List V} {Q : VK} (R : Rel N ad σ H s F) (r : RepPV N ad σ H s F v pv)
    (ra : RepDs N s.cel.length ad (msk H (Mk ad σ s F)) vs as) (h : Gar N W ad σ H s F (doMm mm pv as s) fun x s' ad' H' => ∀ v, RepD N s'.cel.length ad' (msk H' (Mk ad' σ s' F)) v x → Q v H') : mmRule N.K mm v vs H Q := by
  unfold doMm at h
  cases hl : pv.lo with
  | none => rw [hl] at h; exact h.elim
  | some l =>
    rw [hl] at h
    simp only at h
    cases hg : s.get l with
    | none => rw [hg] at h; exact h.elim
    | some c =>
      rw [hg] at h
      simp only at h
      obtain ⟨a, rfl, e, ok⟩ := lst_at R r hl hg
      cases hf : mmF mm c as with
      | none => rw [hf] at h; exact h.elim
      | some q =>
        obtain ⟨x, c'⟩ := q
        rw [hf] at h
        -- the change
        have fin : ∀ {xs' : List V} {ts' : List D} {w : V}, c' = .lst ts' → RepDs N s.cel.length ad (msk H (Mk ad σ s F)) xs' ts' → RepD N s.cel.length ad (msk H (Mk ad σ s F)) w x → Q w (upd H a (.lst xs')) := fun {xs' ts' w} e1 rx rw' => by
          subst e1
          obtain ⟨R', P'⟩ := R.put (o := .lst xs') hg e (c := .lst ts') ⟨xs', upd_same, rx⟩
          exact h ad _ R' P' w (P'.rep rw')
        cases c with
        | lst ts =>
          obtain ⟨xs, hx, rx⟩ := ok
          cases mm <;> try (exact nomatch (show false = true from hm))
          · -- append
            rcases as with _ | ⟨y, _ | ⟨y2, as⟩⟩ <;> simp only [mmF] at hf <;> try (cases hf; done)
            split at hf
            · rename_i hlen
              cases hf
              cases ra with | cons ry rn => cases rn; exact ⟨a, xs, _, rfl, rfl, hx, by rw [rx.length, sizeLine_line]; exact hlen, fin rfl (rx.append (.cons ry .nil)) .non⟩
            · cases hf
          · -- extend
            rcases as with _ | ⟨y, _ | ⟨y2, as⟩⟩ <;> try (cases y <;> simp only [mmF] at hf <;> cases hf; done)
            · simp only [mmF] at hf; cases hf
            · cases y <;> simp only [mmF] at hf <;> try (cases hf; done)
              rename_i zs
              split at hf
              · rename_i hlen
                cases hf
                cases ra with | cons ry rn =>
                cases rn
                cases ry with | lst sq rz =>
                exact ⟨a, _, xs, _, rfl, rfl, hx, SqL.sm (Sm.of msk_le) sq, by rw [rx.length, rz.length, sizeLine_line]; exact hlen, fin rfl (rx.append rz) .non⟩
              · cases hf
          · -- pop
            rcases as with _ | ⟨y, as⟩ <;> simp only [mmF] at hf <;> try (cases hf; done)
            cases hla : ts.getLast? with
            | none => rw [hla] at hf; cases hf
            | some t =>
              rw [hla] at hf; cases hf
              cases ra
              rw [List.getLast?_eq_getElem?] at hla
              obtain ⟨w, e2, rw'⟩ := rx.get hla
              refine ⟨a, xs, w, rfl, rfl, hx, by rw [rx.length]; exact e2, fin rfl ?_ rw'⟩
              rw [List.dropLast_eq_take, List.dropLast_eq_take, rx.length]
              exact rx.take _
          · -- popAt
            rcases as with _ | ⟨y, _ | ⟨y2, as⟩⟩ <;> try (cases y <;> simp only [mmF] at hf <;> cases hf; done)
            · simp only [mmF] at hf; cases hf
            · cases y <;> simp only [mmF] at hf <;> try (cases hf; done)
              rename_i i
              split at hf
              · rename_i hs
                cases hn : Ev.ixN ts.length i with
                | none => rw [hn] at hf; cases hf
                | some j =>
                  rw [hn] at hf
                  have hf : (ts[j]?).map (fun t => (t, Cell.lst (ts.eraseIdx j))) = some (x, c') := hf
                  cases hj : ts[j]? with
                  | none => rw [hj] at hf; cases hf
                  | some t =>
                    rw [hj] at hf; cases hf
                    cases ra with | cons ry rn =>
                    cases rn
                    cases ry
                    obtain ⟨w, e2, rw'⟩ := rx.get hj
                    have b := sml_of hs
                    refine ⟨a, xs, i, j, w, rfl, rfl, hx, by omega, by omega, ?_, e2, fin rfl ?_ rw'⟩
                    · rw [ixN_L2] at hn
                      rw [rx.length]
                      exact (ixN_seq hn).1
                    · rw [List.eraseIdx_eq_take_drop_succ, List.eraseIdx_eq_take_drop_succ]
                      exact (rx.take _).append (rx.drop _)
              · cases hf
          · -- reverse
            rcases as with _ | ⟨y, as⟩ <;> simp only [mmF] at hf <;> try (cases hf; done)
            cases hf
            cases ra
            exact ⟨a, xs, rfl, rfl, hx, fin rfl rx.rev .non⟩
          · -- clear
            rcases as with _ | ⟨y, as⟩ <;> simp only [mmF] at hf <;> try (cases hf; done)
            cases hf
            cases ra
            exact ⟨a, xs, rfl, rfl, hx, fin rfl .nil .non⟩
        | dct _ => cases mm <;> simp only [mmF] at hf <;> cases hf
        | obj _ _ => cases mm <;> simp only [mmF] at hf <;> cases hf
theorem tX_mm {mm : Mm} (hm : mmOk mm = true) {m : M PV} {ma : M (List D)} : ∀ σ H Q, tX N W (M.bind m fun x => M.bind (lstM x) fun _ => M.bind ma fun as => M.bind (doMm mm x as) fun y => M.pure (.d y)) σ H Q →
    tBM N.K "list" (mmRule N.K mm) (tX N W m) (tAs N W ma) σ H Q := by
  rintro σ H Q ⟨ad, s, F, R, h⟩
  refine ⟨ad, s, F, R, (Gar.bind h).mono fun pv s1 ad1 H1 R1 P1 h1 v rv => ?_⟩
  obtain ⟨a, xs, rfl, hx, h1⟩ := lstM_inv R1 rv (Gar.bind h1)
  refine ⟨.inl ⟨rfl, xs, SqL.of hx⟩, ad1, s1, F, R1, (Gar.bind h1).mono fun as s2 ad2 H2 R2 P2 h2 vs rvs => ?_⟩
  exact doMm_ok hm R2 (rv.post P2) rvs ((Gar.bind h2).mono fun x s3 ad3 H3 R3 P3 k w rw' => Gar.pure R3 k w rw')
theorem tX_mm0 {mm : Mm} (hm : mmOk mm = true) {m : M PV} : ∀ σ H Q, tX N W (M.bind m fun x => M.bind (lstM x) fun _ => M.bind (M.pure []) fun as => M.bind (doMm mm x as) fun y => M.pure (.d y)) σ H Q →
    tBM0 N.K "list" (mmRule N.K mm) (tX N W m) σ H Q := by
  rintro σ H Q ⟨ad, s, F, R, h⟩
  refine ⟨ad, s, F, R, (Gar.bind h).mono fun pv s1 ad1 H1 R1 P1 h1 v rv => ?_⟩
  obtain ⟨a, xs, rfl, hx, h1⟩ := lstM_inv R1 rv (Gar.bind h1)
  refine ⟨.inl ⟨rfl, xs, SqL.of hx⟩, ?_⟩
  have h2 := Gar.pure R1 (Gar.bind h1)
  exact doMm_ok hm R1 rv .nil ((Gar.bind h2).mono fun x s3 ad3 H3 R3 P3 k w rw' => Gar.pure R3 k w rw')
end Ev

set_option autoImplicit false
set_option linter.all false
set_option maxRecDepth 100000
set_option maxHeartbeats 1000000
/-! Instances: fields, methods, C(..). -/
namespace Ev
open PySem L2 PyProof.Rows
variable {T : Nam} {N : Nms} {G : Tab} {W : WX} {F : FT}
section
variable {X : Cx}
theorem eval_meth {o : Expr} {name : Str} {apos pos : Pos} {args : List Expr} {env : Env} (hb : attributeBase o name env (eval o env) = eval o env)
    (hfew : ((backTo pos (starEach args env)).all (fun x => !x.1) && (backToKw pos (keywordEach [] env)).all (fun x => x.1.isSome) && decide (args.length + ([] : List Keyword).length + (if ([] : List Keyword).isEmpty then 0 else 1) < 30)) = true)
    (hl : (apos.endLine == pos.line) = true) : eval (.Call (.Attribute o name apos) args [] pos) env = (do
      let ov ← eval o env
      standAt apos.atName
      let (f, first) ← holding [ov] (getMethod ov name (do return (← importBound o env).getD true))
      callWith pos f first (backTo pos (starEach args env)) (backToKw pos (keywordEach [] env))) := by
  have h1 : methodCallForm (args.length + ([] : List Keyword).length) (backTo pos (starEach args env)) (backToKw pos (keywordEach [] env)) = true := hfew
  have h2 : methodCallPos true o env apos pos = pure pos := by
    unfold methodCallPos
    rw [hl]; rfl
  rw [arm_eval_Call, hb]
  unfold methodCall
  rw [h1, h2]
  rfl
section
variable {C f : Addr} {fd : FuncData} {ps : List Str} {sp : Sp} {k : Nat} {E : L2.St → XK} {m : Str} {ap cp p : Pos} {o : Expr} {l : List Expr} {ta : TE} {t : TA} {x : Str}
def tMethS (C : Addr) (m : Str) (sp : Sp) (E : L2.St → XK) (ta : TE) (t : TA) : TE := fun σ H Q => ta σ H fun x H1 => ∃ a dx fs, x = .ref a ∧ H1 a = some (.ins C dx fs) ∧ fs.lookup m = none ∧ t σ H1 fun vs H2 => sp (x :: vs) H2 Q (E σ)
theorem pe_methA {pl : Sem Bool} (pe : PE X o ta) (cl : Cls X.K C) (mt : Meth X.K C m f) (Fo : FnOk X.prog X.w X.K X.mg X.base (L2.CX X.prog X.w) k f fd ps sp) (rm : Room k X.A) (bd : Binds X.K fd ps []) (px : ∀ σ, PassesAt (L2.CX X.prog X.w) X σ (E σ)) (pa : PA X l t)
    (st : (l = [] ∧ ∀ σ H Q, t σ H Q → Q [] H) ∨ ∃ y l', l = y :: l' ∧ starEach (y :: l') X.env = (false, eval y X.env) :: starEach l' X.env ∧ (backTo cp (starEach l' X.env)).any (·.1) = false)
    (ev : eval (.Call (.Attribute o m ap) l [] cp) X.env = (do
      let ov ← eval o X.env
      standAt ap.atName
      let (f, first) ← holding [ov] (getMethod ov m pl)
      callWith cp f first (backTo cp (starEach l X.env)) (backToKw cp (keywordEach [] X.env)))) : PE X (.Call (.Attribute o m ap) l [] cp) (tMethS C m sp E ta t) := by
  refine ⟨fun pn st0 σ0 H0 Q0 I0 h0 => ?_⟩
  refine PySem.W.methodCall_KW (pl := pl) (thn (pe.run pn st0 σ0 H0 _ I0 h0) fun u0 st1 ⟨x, H1, J1, rx, a, dx, fs, ex, ea, ln, q⟩ => ?_) ev
  subst ex
  have eu : u0 = Value.ref a := rx
  subst eu
  refine getmeth_ok J1 ea cl mt ln ?_
  rcases st with ⟨rfl, ht⟩ | ⟨y, l', rfl, e1, e2⟩
  · exact PySem.W.callWith_K0 (first := [.ref a]) J1.kIn mt.kp (run_fnS (us := [.ref a]) (vs := [.ref a]) Fo rm bd (px σ0) J1 (.cons rfl .nil) (ht _ _ _ q))
  · refine PySem.W.callWith_K (first := [.ref a]) (h₀ := X.base) J1.ok.mod.kin mt.kp (thn (pa.run cp pn st1 σ0 H1 _ J1 q) fun us st2 ⟨vs, H2, J2, rv, q2⟩ => ⟨J2.kIn, ?_⟩) e1 e2
    exact run_fnS (us := .ref a :: us) (vs := .ref a :: vs) Fo rm bd (px σ0) J2 (.cons rfl rv) q2
/-- C(..) -/
def tMakeS (C : Addr) (sp : Sp) (E : L2.St → XK) (t : TA) : TE := fun σ H Q => t σ H fun vs H1 => ∀ x dx, H1 x = none → H1 dx = none → dx ≠ x → sp (.ref x :: vs) (upd (upd H1 dx (.own x)) x (.ins C dx [])) (fun v H2 => v = .non ∧ Q (.ref x) H2) (E σ)
theorem run_makeS {pn : List (Addr × Obj)} {σ0 : L2.St} {H0 : Hp} {st0 : Shared} {Q0 : VK} {us : List Value} {vs : List V} (mk : L2.Mk X.K C f) (Fo : FnOk X.prog X.w X.K X.mg X.base (L2.CX X.prog X.w) k f fd ps sp) (rm : Room (k + 1) X.A) (bd : Binds X.K fd ps []) (px : PassesAt (L2.CX X.prog X.w) X σ0 (E σ0))
    (I0 : Inv X pn σ0 H0 st0) (rv : Vals vs us) (hq : ∀ x dx, H0 x = none → H0 dx = none → dx ≠ x → sp (.ref x :: vs) (upd (upd H0 dx (.own x)) x (.ins C dx [])) (fun v H2 => v = .non ∧ Q0 (.ref x) H2) (E σ0)) :
    wpAny (model X.prog X.w) X.A (call (.ref C) us) (EP X pn σ0 Q0) X.xe st0 := by
  have q1 := hq (st0.heap.objs.size + 1) st0.heap.objs.size (I0.hok.fresh (Nat.le_succ _)) (I0.hok.fresh (Nat.le_refl _)) (Nat.ne_of_lt (Nat.lt_succ_self _))
  have J := Inv.made (C := C) I0
  have rv2 : Vals (V.ref (st0.heap.objs.size + 1) :: vs) (Value.ref (st0.heap.objs.size + 1) :: us) := .cons rfl rv
  have hl : (Value.ref (st0.heap.objs.size + 1) :: us).length = ps.length := by rw [← rv2.length]; exact Fo.len _ _ _ _ q1
  have bb := bd _ (Value.ref (st0.heap.objs.size + 1) :: us) J.kIn (by rw [List.append_nil]; exact hl)
  rw [List.append_nil] at bb
  refine wpAny_call (make_map (f := f) I0.kIn mk.makes mk.init (beq_iff_eq.mp mk.fn) (codeAny_mono (Fo.run _ X.stack _ _ ⟨Value.ref (st0.heap.objs.size + 1) :: us, []⟩ _ _ _ (E σ0) (rm.make C us []) (J.env0.make C us []) bb rv2 q1) fun res st' hr => ?_))
  cases res with
  | error e => exact px pn _ _ e st' J hr
  | ok fl =>
    cases fl with
    | ret u =>
      obtain ⟨v, H', J3, rv3, ev, q3⟩ := J.after hr
      subst ev
      exact ⟨rv3, ⟨V.ref (st0.heap.objs.size + 1), H', J3, rfl, q3⟩⟩
    | next => exact hr.elim
    | brk => exact hr.elim
    | cont => exact hr.elim
theorem pe_makeS {pos : Pos} (mk : L2.Mk X.K C f) (Fo : FnOk X.prog X.w X.K X.mg X.base (L2.CX X.prog X.w) k f fd ps sp) (rm : Room (k + 1) X.A) (hg : Gl X x) (hm : X.mg x = some (.ref C)) (bd : Binds X.K fd ps []) (px : ∀ σ, PassesAt (L2.CX X.prog X.w) X σ (E σ)) (pa : PA X l t) (hdb : (x == ("__debug__" : Str)) = false)
    (st : (l = [] ∧ ∀ σ H Q, t σ H Q → Q [] H) ∨ ∃ y l', l = y :: l' ∧ starEach (y :: l') X.env = (false, eval y X.env) :: starEach l' X.env ∧ (backTo pos (starEach l' X.env)).any (·.1) = false) : PE X (.Call (.Name x p) l [] pos) (tMakeS C sp E t) := by
  refine ⟨fun pn st0 σ0 H0 Q0 I0 h0 => ?_⟩
  refine wpAny_Call_Name_kw (ld_glob I0 hg hm ?_ hdb)
  rcases st with ⟨rfl, ht⟩ | ⟨y, l', rfl, e1, e2⟩
  · exact PySem.W.callWith_K0 I0.kIn mk.kp (run_makeS (us := []) mk Fo rm bd (px σ0) I0 .nil (ht _ _ _ h0))
  · refine PySem.W.callWith_K (h₀ := X.base) I0.ok.mod.kin mk.kp (thn (pa.run pos pn st0 σ0 H0 _ I0 h0) fun us st1 ⟨vs, H1, J1, rv, q⟩ => ⟨J1.kIn, ?_⟩) e1 e2
    exact run_makeS mk Fo rm bd (px σ0) J1 rv q
end
end
end Ev

set_option autoImplicit false
set_option linter.all false
set_option maxRecDepth 100000
set_option maxHeartbeats 1000000
/-! What the core says of instances. -/
namespace Ev
open PySem L2 PyProof.Rows
variable {T : Nam} {N : Nms} {G : Tab} {W : WX} {F : FT}
theorem RepFs.none (inj : ∀ f g, N.nm f = N.nm g → f = g) {n : Nat} {ad : Nat → Addr} {B : Hp} : ∀ {fv : List (Str × V)} {fs : List (Nat × D)} {f : Nat}, RepFs N n ad B fv fs → fs.lookup f = none → fv.lookup (N.nm f) = none
  | _, _, _, .nil, _ => rfl
  | _, _, f, .cons (f := g) a b, e => by
    rw [List.lookup_cons] at e ⊢
    by_cases h : f = g
    · subst h; simp at e
    · have h1 : (f == g) = false := by simpa using h
      have h2 : (N.nm f == N.nm g) = false := by simpa using fun q => h (inj _ _ q)
      rw [h1] at e
      rw [h2]
      exact RepFs.none inj b e
theorem insM_inv (inj : ∀ f g, N.nm f = N.nm g → f = g) {c m : Nat} {ad : Nat → Addr} {σ : L2.St} {H : Hp} {s : S} {FF : Addr → Prop} {x : D} {v : V} {K : Unit → S → (Nat → Addr) → Hp → Prop} (R : Rel N ad σ H s FF) (r : RepD N s.cel.length ad (msk H (Mk ad σ s FF)) v x) (h : Gar N W ad σ H s FF (insM c m x s) K) :
    ∃ a dx fv, v = .ref a ∧ H a = some (.ins (N.cl c) dx fv) ∧ fv.lookup (N.nm m) = none ∧ K () s ad H := by
  cases x with
  | obj c' fs =>
    replace h : Gar N W ad σ H s FF (if c' = c ∧ fs.lookup m = none then .ok () s else .stk) K := h
    split at h
    · rename_i hc
      obtain ⟨rfl, hm⟩ := hc
      cases r with
      | obj e rf => exact ⟨_, _, _, rfl, (msk_get e).1, rf.none inj hm, Gar.pure R h⟩
    · exact h.elim
  | ref k =>
    replace h : Gar N W ad σ H s FF (match s.cel[k]? with
      | some (.obj c' fs) => if c' = c ∧ fs.lookup m = none then .ok () s else .stk
      | _ => .stk) K := h
    split at h
    · rename_i c' fs hk
      split at h
      · rename_i hc
        obtain ⟨rfl, hm⟩ := hc
        cases r with
        | ref hlt =>
          obtain ⟨a', e, dx, fv, e2, rf⟩ := R.own (.id k) _ hk
          have e : some (ad k) = some a' := e
          cases e
          exact ⟨_, dx, fv, rfl, e2, rf.none inj hm, Gar.pure R h⟩
      · exact h.elim
    · exact h.elim
  | _ => exact h.elim
theorem tX_meth (inj : ∀ f g, N.nm f = N.nm g → f = g) {q : Ck} {c m f np : Nat} (hl : ∀ as c, F f as c ≠ .stk → as.length = np) {mo : M PV} {ma : M (List D)} : ∀ σ H Q, tX N W (M.bind mo fun x => M.bind x.store fun x => M.bind (insM c m x) fun _ => M.bind ma fun as => M.bind (doCall q (F f) (x :: as)) fun x => M.pure (.d x)) σ H Q →
    tMethS (N.cl c) (N.nm m) (spF N np (F f)) (WE W) (tX N W mo) (tAs N W ma) σ H Q := by
  rintro σ H Q ⟨ad, s, FF, R, h⟩
  refine ⟨ad, s, FF, R, (Gar.bind h).mono fun pv s1 ad1 H1 R1 P1 h1 v rv => ?_⟩
  obtain ⟨d, s', R', P', rd, k⟩ := store_ok R1 rv (Gar.bind h1)
  obtain ⟨a, dx, fv, rfl, e1, e2, k⟩ := insM_inv inj R' rd (Gar.bind k)
  refine ⟨a, dx, fv, rfl, e1, e2, ad1, s', FF, R', (Gar.bind k).mono fun as s2 ad2 H2 R2 P2 h2 vs rvs => ?_⟩
  have rv2 : RepDs N s2.cel.length ad2 (msk H2 (Mk ad2 σ s2 FF)) (.ref a :: vs) (d :: as) := .cons (P2.rep rd) rvs
  have h3 := Gar.bind h2
  refine call_sp (q := q) R2 rv2 ?_ (h3.mono fun x s3 ad3 H3 R3 P3 k v rx => Gar.pure R3 k v rx)
  rw [rv2.length]
  exact doCall_len hl h3
theorem new_ne {ad : Nat → Addr} {σ : L2.St} {H : Hp} {s : S} {FF : Addr → Prop} (R : Rel N ad σ H s FF) {x : Addr} (hx : H x = none) : ¬ Mk ad σ s FF x := fun m => by
  obtain ⟨o, ho⟩ := R.masked m
  rw [hx] at ho; cases ho
/-- a new object that never changes again -/
theorem tX_mk {c f np : Nat} (hl : ∀ as c, F f as c ≠ .stk → as.length = np) {ma : M (List D)} : ∀ σ H Q, tX N W (M.bind ma fun as => M.bind (mkObj F c f as) fun x => M.pure (.d x)) σ H Q →
    tMakeS (N.cl c) (spF N np (F f)) (WE W) (tAs N W ma) σ H Q := by
  rintro σ H Q ⟨ad, s0, FF, R0, h⟩
  refine ⟨ad, s0, FF, R0, (Gar.bind h).mono fun as s ad H R P1 h1 vs rv => ?_⟩
  intro x dx hx hdx hne
  have h := Gar.bind h1
  have h : Gar N W ad σ H s FF (if D.blws 0 as then (match F f (.ref 0 :: as) [.obj c []] with
    | .ok .non (.obj c' fs :: _) => if D.blwf 0 fs then Res.ok (D.obj c' fs) s else .stk
    | .exc e _ => if e.blw 0 then .exc e s else .stk
    | _ => .stk) else .stk) _ := h
  split at h
  rotate_left
  · exact h.elim
  rename_i hb
  have n1 : ∀ a o, H a = some o → a ≠ dx := fun a o e z => by rw [z, hdx] at e; cases e
  have n2 : ∀ a o, H a = some o → a ≠ x := fun a o e z => by rw [z, hx] at e; cases e
  have sm0 : Same H (upd (upd H dx (.own x)) x (.ins (N.cl c) dx [])) := fun a o e => by
    rw [upd_ne (n2 a o e), upd_ne (n1 a o e)]; exact e
  have gx : (upd (upd H dx (.own x)) x (.ins (N.cl c) dx [])) x = some (.ins (N.cl c) dx []) := upd_same
  have nx : ¬ Mk ad σ s FF x := new_ne R hx
  -- the private store
  have one : ∀ l cc, (⟨[], [.obj c []]⟩ : S).get l = some cc → l = .id 0 ∧ cc = .obj c [] := fun l cc e => by
    cases l with
    | sl i => exact absurd e noSl
    | id k =>
      replace e : ([Cell.obj c []] : List Cell)[k]? = some cc := e
      cases k with
      | zero => simp at e; exact ⟨rfl, e.symm⟩
      | succ k => simp at e
  have RR : Rel N (fun _ => x) [] (upd (upd H dx (.own x)) x (.ins (N.cl c) dx [])) ⟨[], [.obj c []]⟩ (Mk ad σ s FF) := by
    refine ⟨rfl, fun i y h => by simp at h, fun l cc e => ?_, fun l l' cc cc' a e e' _ _ => ?_, fun a m => ?_⟩
    · obtain ⟨rfl, rfl⟩ := one l cc e
      exact ⟨x, rfl, dx, [], gx, .nil⟩
    · rw [(one l cc e).1, (one l' cc' e').1]
    · obtain ⟨o, ho⟩ := R.masked m
      refine ⟨⟨o, sm0 a o ho⟩, fun l cc e z => ?_⟩
      obtain ⟨rfl, rfl⟩ := one l cc e
      have z : some x = some a := z
      cases z
      exact nx m
  have hcel : Sm (msk H (Mk ad σ s FF)) (msk (upd (upd H dx (.own x)) x (.ins (N.cl c) dx [])) (Mk (fun _ => x) [] ⟨[], [.obj c []]⟩ (Mk ad σ s FF))) := msk_sm fun a o e nm => ⟨⟨o, sm0 a o e, rfl⟩, fun m => by
    rcases m with m | ⟨l, cc, e1, e2⟩
    · exact nm m
    · obtain ⟨rfl, rfl⟩ := one l cc e1
      have e2 : some x = some a := e2
      injection e2 with e2
      exact n2 a o e e2.symm⟩
  have rv0 : RepDs N 1 (fun _ => x) (msk (upd (upd H dx (.own x)) x (.ins (N.cl c) dx [])) (Mk (fun _ => x) [] ⟨[], [.obj c []]⟩ (Mk ad σ s FF))) vs as := by
    have := RepDs.pure (m := 1) (ad2 := fun _ => x) as hb rv
    exact this.mono (Nat.le_refl _) (fun _ _ => rfl) hcel
  refine ⟨?_, fun _ => x, [.obj c []], Mk ad σ s FF, .ref 0 :: as, RR, .cons (.ref (Nat.lt_succ_self 0)) rv0, ?_⟩
  · have e := hl (.ref 0 :: as) [.obj c []]
    have l1 : (V.ref x :: vs).length = (D.ref 0 :: as).length := by simp [rv.length]
    rw [l1]
    refine e fun z => ?_
    rw [z] at h; exact h.elim
  · cases hr : F f (.ref 0 :: as) [.obj c []] with
    | stk => rw [hr] at h; exact h
    | exc e c' =>
      rw [hr] at h
      intro ad' H' cls d R' P' re
      replace h : Gar N W ad σ H s FF (if e.blw 0 then .exc e s else .stk) _ := h
      split at h
      · rename_i hb2
        obtain ⟨R2, P2, sm⟩ := R.backP sm0 P' hcel
        exact h cls d ad H' R2 P2 ((re.mono (Nat.le_refl _) (fun _ _ => rfl) sm).pure hb2)
      · exact h.elim
    | ok r c' =>
      rw [hr] at h
      intro ad' H' v R' P' rr
      cases r with
      | non =>
        cases c' with
        | nil => exact h.elim
        | cons c0 c' =>
          cases c0 with
          | obj c2 fs =>
            replace h : Gar N W ad σ H s FF (if D.blwf 0 fs then .ok (D.obj c2 fs) s else .stk) _ := h
            split at h
            · rename_i hb2
              obtain ⟨R2, P2, sm⟩ := R.backP sm0 P' hcel
              cases rr
              refine ⟨rfl, ?_⟩
              obtain ⟨a', e, dx2, fv, e2, rf⟩ := R'.own (.id 0) (.obj c2 fs) rfl
              have e : some (ad' 0) = some a' := e
              cases e
              have ax : ad' 0 = x := P'.agr 0 (Nat.lt_succ_self 0)
              rw [ax] at e2
              have k := h ad H' R2 P2
              refine Gar.pure R2 k _ ?_
              have nx2 : ¬ Mk ad σ s FF x := nx
              refine RepD.obj (by rw [msk_of nx2]; exact e2) ?_
              exact RepFs.pure fs hb2 (rf.mono (Nat.le_refl _) (fun _ _ => rfl) sm)
            · exact h.elim
          | lst _ => exact h.elim
          | dct _ => exact h.elim
      | _ => exact h.elim
/-! ### fields that change -/
theorem RepFs.put (inj : ∀ f g, N.nm f = N.nm g → f = g) {n : Nat} {ad : Nat → Addr} {B : Hp} {f : Nat} {v : V} {d : D} (r : RepD N n ad B v d) : ∀ {fv : List (Str × V)} {fs : List (Nat × D)}, RepFs N n ad B fv fs → RepFs N n ad B (putF (N.nm f) v fv) (fldPut f d fs)
  | _, _, .nil => .cons r .nil
  | _, _, .cons (f := g) a b => by
    unfold putF fldPut
    by_cases h : g = f
    · subst h
      rw [if_pos rfl, if_pos rfl]
      exact .cons r b
    · rw [if_neg h, if_neg fun q => h (inj _ _ q)]
      exact .cons a (RepFs.put inj r b)
theorem RepFs.length {n : Nat} {ad : Nat → Addr} {B : Hp} : ∀ {fv : List (Str × V)} {fs : List (Nat × D)}, RepFs N n ad B fv fs → fv.length = fs.length
  | _, _, .nil => rfl
  | _, _, .cons _ b => by simp [RepFs.length b]
end Ev

set_option autoImplicit false
set_option linter.all false
set_option maxRecDepth 100000
set_option maxHeartbeats 1000000
/-! Dicts: {}, lookups, stores (not joined to the main theorem yet). -/
namespace Ev
open PySem L2 PyProof.Rows
variable {N : Nms} {W : WX}
theorem eqB_kD (k k' : Key) : eqB (kD k') (kD k) = decide (k' = k) := by
  cases k <;> cases k' <;> simp [kD, eqB]
  · rename_i a b
    by_cases h : b = a <;> simp [h]
  · rename_i a b
    by_cases h : b = a <;> simp [h]
theorem RepKs.get {n : Nat} {ad : Nat → Addr} {B : Hp} {k : Key} : ∀ {kvs : List (Key × V)} {ds : List (D × D)}, RepKs N n ad B kvs ds →
    (keyGet (kD k) ds = none ∧ valV kvs k = none) ∨ ∃ d v, keyGet (kD k) ds = some d ∧ valV kvs k = some v ∧ RepD N n ad B v d
  | _, _, .nil => .inl ⟨rfl, rfl⟩
  | _, _, .cons (k := k0) (v := v) (d := d) a b => by
    unfold keyGet valV
    rw [eqB_kD, List.find?_cons]
    by_cases h : k0 = k
    · subst h
      simp only [decide_true, if_true]
      exact .inr ⟨d, v, rfl, rfl, a⟩
    · simp only [h, decide_false, Bool.false_eq_true, if_false]
      exact RepKs.get b
theorem RepKs.anyKey {n : Nat} {ad : Nat → Addr} {B : Hp} {k : Key} : ∀ {kvs : List (Key × V)} {ds : List (D × D)}, RepKs N n ad B kvs ds → (ds.any fun q => eqB q.1 (kD k)) = kvs.any fun kv => decide (kv.1 = k)
  | _, _, .nil => rfl
  | _, _, .cons (k := k0) a b => by
    rw [List.any_cons, List.any_cons, RepKs.anyKey b]
    simp only [eqB_kD]
theorem RepKs.mapKey {n : Nat} {ad : Nat → Addr} {B : Hp} {k : Key} {v : V} {d : D} (r : RepD N n ad B v d) : ∀ {kvs : List (Key × V)} {ds : List (D × D)}, RepKs N n ad B kvs ds →
    RepKs N n ad B (kvs.map fun kv => if kv.1 = k then (kv.1, v) else kv) (ds.map fun q => if eqB q.1 (kD k) = true then (q.1, d) else q)
  | _, _, .nil => .nil
  | _, _, .cons (k := k0) a b => by
    rw [List.map_cons, List.map_cons]
    simp only [eqB_kD, decide_eq_true_eq]
    by_cases h : k0 = k
    · rw [if_pos h, if_pos h]; exact .cons r (RepKs.mapKey r b)
    · rw [if_neg h, if_neg h]; exact .cons a (RepKs.mapKey r b)
theorem RepKs.snoc {n : Nat} {ad : Nat → Addr} {B : Hp} {k : Key} {v : V} {d : D} (r : RepD N n ad B v d) : ∀ {kvs : List (Key × V)} {ds : List (D × D)}, RepKs N n ad B kvs ds → RepKs N n ad B (kvs ++ [(k, v)]) (ds ++ [(kD k, d)])
  | _, _, .nil => .cons r .nil
  | _, _, .cons a b => .cons a (RepKs.snoc r b)
theorem RepKs.put {n : Nat} {ad : Nat → Addr} {B : Hp} {k : Key} {v : V} {d : D} (r : RepD N n ad B v d) {kvs : List (Key × V)} {ds : List (D × D)} (h : RepKs N n ad B kvs ds) : RepKs N n ad B (putK kvs k v) (keyPut (kD k) d ds) := by
  unfold putK keyPut
  rw [RepKs.anyKey h]
  split
  · exact RepKs.mapKey r h
  · exact RepKs.snoc r h
/-- a new empty dict -/
theorem tN_dct : ∀ σ H Q, tN N W (M.pure (.d (.dct []))) σ H Q → tDNewK σ H Q := by
  rintro σ H Q ⟨ad, s, F, R, h⟩ p hp
  obtain ⟨R2, sm⟩ := R.addF (o := .dK []) hp
  exact h ad _ p R2 (Post.newP .refl R hp) (.dct []) rfl ⟨[], upd_same, .nil⟩
/-- d.get(k, z) -/
theorem tX_dget {mo : M PV} {ma : M (List D)} : ∀ σ H Q, tX N W (M.bind mo fun x => M.bind (bmM .get x) fun _ => M.bind ma fun as => M.bind (dgetM .get x as) fun y => M.pure (.d y)) σ H Q →
    tX N W mo σ H fun x H1 => ∃ a, x = .ref a ∧ IsD H1 a ∧ tAs N W ma σ H1 fun vs H3 => ∃ y z o, vs = [y, z] ∧ DGet H3 a y o ∧ Q (o.getD z) H3 := by
  rintro σ H Q ⟨ad, s, F, R, h⟩
  refine ⟨ad, s, F, R, (Gar.bind h).mono fun pv s1 ad1 H1 R1 P1 h1 v rv => ?_⟩
  replace h1 : Gar N W ad1 σ H1 s1 F (dctM pv s1) _ := Gar.bind h1
  unfold dctM at h1
  split at h1
  rotate_left
  · exact h1.elim
  rename_i ds0 hv0
  obtain ⟨a, kvs0, rfl, sd0, _⟩ := (rv.val R1 hv0).dctI
  refine ⟨a, rfl, .inl ⟨kvs0, sd0⟩, ad1, s1, F, R1, ?_⟩
  refine (Gar.bind (Gar.pure R1 h1)).mono fun as s2 ad2 H2 R2 P2 h2 vs rvs => ?_
  replace h2 : Gar N W ad2 σ H2 s2 F (getM pv as s2) _ := Gar.bind h2
  unfold getM at h2
  split at h2
  rotate_left
  · exact h2.elim
  rename_i kvs k z hv
  split at h2
  rotate_left
  · exact h2.elim
  rename_i hk
  have fin := Gar.pure R2 (Gar.pure R2 h2)
  obtain ⟨a', kv, e, sd, rk⟩ := ((rv.post P2).val R2 hv).dctI
  injection e with e
  subst e
  match vs, rvs with
  | [y, z0], .cons ry (.cons rz .nil) =>
  have main : ∀ key : Key, y = kV key → k = kD key → ∃ y' z' o, [y, z0] = [y', z'] ∧ DGet H2 a y' o ∧ Q (o.getD z') H2 := fun key ey ek => by
    subst ek
    refine ⟨_, _, valV kv key, rfl, .inl ⟨kv, key, sd, ey, rfl⟩, ?_⟩
    rcases rk.get (k := key) with ⟨g1, g2⟩ | ⟨d, w, g1, g2, rw'⟩
    · rw [g2]; rw [g1] at fin; exact fin _ rz
    · rw [g2]; rw [g1] at fin; exact fin _ rw'
  cases k <;> try (exact nomatch (show false = true from hk))
  · exact main (.inl _) (by cases ry; rfl) rfl
  · exact main (.inr _) (by cases ry; rfl) rfl
/-- sorted(x), a new list -/
theorem tN_sorted {m : M (List PV)} : ∀ σ H Q, tN N W (M.bind m fun xs => biM .sorted xs) σ H Q → tCB (rSrtN N) (tPs N W m) σ H Q := by
  rintro σ H Q ⟨ad, s, F, R, h⟩
  refine ⟨ad, s, F, R, (GarN.bind h).mono fun xs s2 ad2 H2 R2 P2 h2 vs rv => ?_⟩
  unfold biM at h2
  cases hx : valsOf s2 xs with
  | none => simp only [hx] at h2; exact h2.elim
  | some ds =>
    simp only [hx] at h2
    have rw' := rv.val R2 hx
    rcases ds with _ | ⟨d, _ | ⟨d2, ds⟩⟩
    · exact h2.elim
    · obtain ⟨x, rfl, w⟩ := rw'.one
      cases d <;> try (exact h2.elim)
      rename_i es
      have e : biF .sorted [.lst es] = if (D.fins dep es && allAlk es && srtOk es && decide (es.length ≤ line)) = true then some (.lst (sortD es)) else none := rfl
      rw [e] at h2
      split at h2
      · rename_i hh
        split at hh
        · rename_i hc
          cases hh
          simp only [Bool.and_eq_true, decide_eq_true_eq] at hc
          refine ⟨x, _, _, _, es, rfl, fun p hp => R2.masked hp, w, hc.1.1.1, hc.1.1.2, hc.1.2, hc.2, fun p ys hp r => ?_⟩
          obtain ⟨R3, sm⟩ := R2.addF (o := .lst ys) hp
          exact h2 ad2 _ p R3 (Post.newP .refl R2 hp) _ rfl ⟨ys, upd_same, r.mono (Nat.le_refl _) (fun _ _ => rfl) sm⟩
        · cases hh
      · exact h2.elim
    · have : biF .sorted (d :: d2 :: ds) = none := by cases d <;> rfl
      rw [this] at h2
      exact h2.elim
/-- list(x), a new list -/
theorem tN_list {m : M (List PV)} : ∀ σ H Q, tN N W (M.bind m fun xs => biM .list xs) σ H Q →
    tCB (fun xs H Q => ∃ p ys, xs = [.ref p] ∧ (SqL N.K H p ys ∨ SqT N.K H p ys) ∧ ∀ l, H l = none → Q (.ref l) (upd H l (.lst ys))) (tPs N W m) σ H Q := by
  rintro σ H Q ⟨ad, s, F, R, h⟩
  refine ⟨ad, s, F, R, (GarN.bind h).mono fun xs s2 ad2 H2 R2 P2 h2 vs rv => ?_⟩
  unfold biM at h2
  cases hx : valsOf s2 xs with
  | none => simp only [hx] at h2; exact h2.elim
  | some ds =>
    simp only [hx] at h2
    have rw' := rv.val R2 hx
    have fin : ∀ {ys : List V} {es : List Ev.D}, biF .list ds = some (.lst es) → RepDs N s2.cel.length ad2 (msk H2 (Mk ad2 σ s2 F)) ys es → ∀ l, H2 l = none → Q (.ref l) (upd H2 l (.lst ys)) := fun {ys es} e r l hl => by
      rw [e] at h2
      obtain ⟨R3, sm⟩ := R2.addF (o := .lst ys) hl
      exact h2 ad2 _ l R3 (Post.newP .refl R2 hl) (.lst es) rfl ⟨ys, upd_same, r.mono (Nat.le_refl _) (fun _ _ => rfl) sm⟩
    rcases ds with _ | ⟨d, _ | ⟨d2, ds⟩⟩
    · exact h2.elim
    · obtain ⟨x, rfl, w⟩ := rw'.one
      cases d with
      | lst es =>
        obtain ⟨a, ys, rfl, sq, r⟩ := w.lstI
        exact ⟨a, ys, rfl, .inl sq, fin rfl r⟩
      | tup es =>
        obtain ⟨a, ys, rfl, _, sq, r⟩ := w.tupI
        exact ⟨a, ys, rfl, .inr sq, fin rfl r⟩
      | _ => exact h2.elim
    · have : biF .list (d :: d2 :: ds) = none := by cases d <;> rfl
      rw [this] at h2
      exact h2.elim
end Ev

set_option autoImplicit false
set_option linter.all false
set_option maxRecDepth 100000
set_option maxHeartbeats 1000000
/-! d.setdefault(k, []), list.index. -/
namespace Ev
open PySem L2 PyProof.Rows
variable {N : Nms} {W : WX}
/-- a new empty list -/
def tNew0 : TE := fun σ H Q => ∀ p, H p = none → Q (.ref p) (upd H p (.lst []))
theorem pe_new0 {X : Cx} {pos : Pos} : PE X (.List [] pos) tNew0 := pe_imp (pe_lst pa_nil) fun σ H Q hq => ⟨by simp, hq⟩
theorem isKey_kD : ∀ {k : D}, isKey k = true → ∃ key, k = kD key
  | .int i, _ => ⟨.inl i, rfl⟩
  | .str i, _ => ⟨.inr i, rfl⟩
theorem repD_key {n : Nat} {ad : Nat → Addr} {B : Hp} {v : V} {key : Key} (r : RepD N n ad B v (kD key)) : v = kV key := by
  cases key <;> (cases r; rfl)
theorem get_alloc {s : S} {l : Lo} {c c' : Cell} (h : s.get l = some c) : ({ s with cel := s.cel ++ [c'] } : S).get l = some c := by
  cases l with
  | sl i => exact h
  | id k =>
    have h : s.cel[k]? = some c := h
    show (s.cel ++ [c'])[k]? = some c
    obtain ⟨hk, _⟩ := List.getElem?_eq_some_iff.mp h
    rw [List.getElem?_append_left hk, h]
/-- d.setdefault(k, []) -/
theorem tX_sdef {mo mk : M PV} : ∀ σ H Q, tX N W (M.bind mo fun x => M.bind (dctM x) fun _ => M.bind mk fun k => sdefM x k) σ H Q → tDSetd (tX N W mo) (tX N W mk) tNew0 σ H Q := by
  rintro σ H Q ⟨ad, s, F, R, h⟩
  refine ⟨ad, s, F, R, (Gar.bind h).mono fun pv s1 ad1 H1 R1 P1 h1 v rv => ?_⟩
  have h1 := Gar.bind h1
  unfold dctM at h1
  split at h1
  rotate_left
  · exact h1.elim
  rename_i ds0 hv0
  obtain ⟨a, kvs0, rfl, sd0, _⟩ := (rv.val R1 hv0).dctI
  refine ⟨a, rfl, .inl ⟨kvs0, sd0⟩, ad1, s1, F, R1, ?_⟩
  refine (Gar.bind (Gar.pure R1 h1)).mono fun kp s2 ad2 H2 R2 P2 h2 y ry p hp => ?_
  unfold sdefM at h2
  split at h2
  rotate_left
  · exact h2.elim
  rename_i l kd hl
  split at h2
  rotate_left
  · exact h2.elim
  rename_i ds hg
  split at h2
  rotate_left
  · exact h2.elim
  rename_i hk
  simp only [Bool.and_eq_true, decide_eq_true_eq] at hk
  obtain ⟨hk1, hk2⟩ := hk
  obtain ⟨key, rfl⟩ := isKey_kD hk1
  obtain rfl := repD_key (show RepD N _ _ _ y (kD key) from ry)
  have rv2 := rv.post P2
  obtain ⟨a', e, ha, kv, hkv, rk⟩ := lst_at R2 rv2 hl hg
  injection e with e
  subst e
  have nap : a ≠ p := fun e => by subst e; rw [hp] at hkv; cases hkv
  have hkv3 : upd H2 p (.lst []) a = some (.dK kv) := by rw [upd_ne nap]; exact hkv
  have hlen : kv.length < sizeLine := by rw [sizeLine_line, rk.length]; exact hk2
  obtain ⟨R3, sm3⟩ := R2.addF (o := .lst []) hp
  refine ⟨kv, key, hkv3, rfl, hlen, fun w hw => ?_, fun hn => ?_⟩
  · -- there already
    rcases rk.get (k := key) with ⟨_, g2⟩ | ⟨d, w', g1, g2, rw'⟩
    · rw [hw] at g2; cases g2
    · rw [hw] at g2; cases g2
      rw [g1] at h2
      obtain ⟨R4, sm4⟩ := R3.dropF (F := F) fun _ h => .inl h
      have P4 : Post ad2 σ H2 s2 ad2 σ (upd H2 p (.lst [])) s2 F := ⟨fun _ _ => rfl, Nat.le_refl _, rfl, sm3.trans sm4, fun b hb => by
        obtain ⟨⟨u, hu⟩, _⟩ := R2.frn b hb
        exact upd_ne fun e => by subst e; rw [hp] at hu; cases hu⟩
      exact h2 ad2 _ R4 P4 w (P4.rep rw')
  · -- a new one
    have g1 : keyGet (kD key) ds = none := by
      rcases rk.get (k := key) with ⟨g1, _⟩ | ⟨d, w', g1, g2, rw'⟩
      · exact g1
      · rw [hn] at g2; cases g2
    rw [g1] at h2
    obtain ⟨ad3, e3, R5, P5, a5, sm5⟩ := Rel.alloc (Post.newP .refl R2 hp) R3 (c := .lst []) ⟨[], upd_same, .nil⟩
    have hg5 : ({ s2 with cel := s2.cel ++ [.lst []] } : S).get l = some (.dct ds) := get_alloc hg
    obtain ⟨a2, e2, ha2, kv2, hkv2, rk2⟩ := lst_at R5 (rv2.post P5) hl hg5
    injection e2 with e2
    subst e2
    rw [hkv3] at hkv2
    injection hkv2 with hkv2
    injection hkv2 with hkv2
    subst hkv2
    have rp : RepD N (s2.cel ++ [Cell.lst []]).length ad3 (msk (upd H2 p (.lst [])) (Mk ad3 σ { s2 with cel := s2.cel ++ [.lst []] } F)) (.ref p) (.ref s2.cel.length) := by
      rw [← e3]
      exact .ref (by simp)
    obtain ⟨R6, P6⟩ := R5.put (c := .dct (ds ++ [(kD key, .ref s2.cel.length)])) (o := .dK (putK kv key (.ref p))) hg5 ha2 ⟨_, upd_same, by
      rw [putK_new _ hn]
      exact rk2.snoc rp⟩
    exact h2 ad3 _ R6 (P5.trans P6) (.ref p) (P6.rep rp)
/-! ### list.index -/
theorem flatD_V {n : Nat} {ad : Nat → Addr} {B : Hp} {v : V} : ∀ {d : D}, flatD d = true → RepD N n ad B v d → flatV v = true
  | .non, _, h => by cases h; rfl
  | .bl _, _, h => by cases h; rfl
  | .int _, _, h => by cases h; rfl
  | .str _, _, h => by cases h; rfl
theorem flatDs_V {n : Nat} {ad : Nat → Addr} {B : Hp} : ∀ {vs : List V} {ds : List D}, ds.all flatD = true → RepDs N n ad B vs ds → vs.all flatV = true
  | _, _, _, .nil => rfl
  | _, _, h, .cons a b => by
    simp only [List.all_cons, Bool.and_eq_true] at h ⊢
    exact ⟨flatD_V h.1 a, flatDs_V h.2 b⟩
theorem eqV_B {n : Nat} {ad : Nat → Addr} {B : Hp} {v w : V} {d e : D} (hd : flatD d = true) (he : flatD e = true) (r : RepD N n ad B v d) (r' : RepD N n ad B w e) : eqV v w = eqB d e := by
  cases d <;> try (exact nomatch (show false = true from hd))
  all_goals (cases e <;> try (exact nomatch (show false = true from he)))
  all_goals (cases r; cases r'; simp [eqV, eqB])
theorem findIdx_inv {α : Type} {f : α → Bool} {xs : List α} {j : Nat} (h : xs.findIdx? f = some j) : ∃ z, xs[j]? = some z ∧ f z = true ∧ ∀ m z', m < j → xs[m]? = some z' → f z' = false := by
  obtain ⟨h1, h2, h3⟩ := List.findIdx?_eq_some_iff_getElem.mp h
  refine ⟨xs[j], List.getElem?_eq_getElem h1, h2, fun m z' hm hz => ?_⟩
  obtain ⟨h4, h5⟩ := List.getElem?_eq_some_iff.mp hz
  have := h3 m hm
  rw [h5] at this
  simpa using this
theorem tX_index {mo : M PV} {ma : M (List D)} : ∀ σ H Q, tX N W (M.bind mo fun x => M.bind (bmM .index x) fun _ => M.bind ma fun as => M.bind (dgetM .index x as) fun y => M.pure (.d y)) σ H Q →
    tBM N.K "list" (rIndex N.K) (tX N W mo) (tAs N W ma) σ H Q := by
  rintro σ H Q ⟨ad, s, F, R, h⟩
  refine ⟨ad, s, F, R, (Gar.bind h).mono fun pv s1 ad1 H1 R1 P1 h1 v rv => ?_⟩
  replace h1 : Gar N W ad1 σ H1 s1 F (lisM pv s1) _ := Gar.bind h1
  unfold lisM at h1
  split at h1
  rotate_left
  · exact h1.elim
  rename_i ds0 hv0
  obtain ⟨a, xs0, rfl, sq0, _⟩ := (rv.val R1 hv0).lstI
  refine ⟨.inl ⟨rfl, xs0, sq0⟩, ad1, s1, F, R1, ?_⟩
  refine (Gar.bind (Gar.pure R1 h1)).mono fun as s2 ad2 H2 R2 P2 h2 vs rvs => ?_
  replace h2 : Gar N W ad2 σ H2 s2 F (indM pv as s2) _ := Gar.bind h2
  unfold indM at h2
  split at h2
  rotate_left
  · exact h2.elim
  rename_i ts x hv
  split at h2
  rotate_left
  · exact h2.elim
  rename_i hf
  simp only [Bool.and_eq_true] at hf
  cases hj : ts.findIdx? (fun y => eqB y x) with
  | none => rw [hj] at h2; exact h2.elim
  | some j =>
    rw [hj] at h2
    have fin := Gar.pure R2 (Gar.pure R2 h2)
    obtain ⟨a', ys, e, sq, rys⟩ := ((rv.post P2).val R2 hv).lstI
    injection e with e
    subst e
    match vs, rvs with
    | [y], .cons ry .nil =>
    obtain ⟨z, hz, hzj, hno⟩ := findIdx_inv hj
    obtain ⟨w, hw, rw'⟩ := rys.get hz
    have fl : ∀ {m : Nat} {d : D}, ts[m]? = some d → flatD d = true := fun h => List.all_eq_true.mp hf.2 _ (List.mem_of_getElem? h)
    refine ⟨a, ys, y, j, w, rfl, rfl, sq, flatD_V hf.1 ry, flatDs_V hf.2 rys, hw, ?_, fun m z' hm hz' => ?_, fin _ (.int _)⟩
    · rw [eqV_B (fl hz) hf.1 rw' ry]; exact hzj
    · obtain ⟨d, hd, rd⟩ := rys.getV hz'
      rw [eqV_B (fl hd) hf.1 rd ry]
      exact hno m d hm hd
end Ev

set_option autoImplicit false
set_option linter.all false
set_option maxRecDepth 100000
set_option maxHeartbeats 2000000
/-! What the core says of an expression is so. -/
namespace Ev
open PySem L2 PyProof.Rows
variable {T : Nam} {N : Nms} {G : Tab} {F : FT}
theorem starAll {env : Env} {T : Nam} {N : Nms} {c : Sx} {pos : Pos} : ∀ (es : Exs) (l : List Expr), okXs T N c es l = true → (backTo pos (starEach l env)).any (·.1) = false
  | .nil, l, h => by
    cases l with
    | nil => rfl
    | cons => exact nomatch (show false = true from h)
  | .cons e es, l, h => by
    cases l with
    | nil => exact nomatch (show false = true from h)
    | cons x l =>
      have h : (okX T N c e x && plainE x && okXs T N c es l) = true := h
      simp only [Bool.and_eq_true] at h
      rw [starE h.1.2]
      show (false || (backTo pos (starEach l env)).any (·.1)) = false
      rw [starAll es l h.2]
      rfl
theorem okTy_pe {c : Sx} {X : Cx} {W : WX} (o : XOk T N G c X W) {t : Ty} {e : Expr} (h : okTy T c t e = true) : PE X e (tC (tyVV N t)) ∧ ∀ k, t = .cls k → k < T.cls.length := by
  cases e <;> try (cases t <;> exact nomatch (show false = true from h))
  rename_i x p
  have blt : ∀ {n : String} {y : Str}, y ∈ bltNames → bootBuiltins y = some (.type n) → y ≠ "__name__" → (y == ("__debug__" : Str)) = false → x = y → glB c.sc x = true → PE X (.Name x p) (tC (.ty n)) := fun {n y} h1 h2 h3 h4 e hg => by
    subst e
    exact pe_bltn (gl_of o.sc hg) (o.blt _ h1) h2 rfl h3 h4
  cases t with
  | cls k =>
    have h : (decide (T.cls[k]? = some x) && glB c.sc x && dbgB x) = true := h
    simp only [Bool.and_eq_true, decide_eq_true_eq] at h
    refine ⟨pe_glob (gl_of o.sc h.1.2) (o.cls k x h.1.1) rfl (dbg_of h.2).1, fun j e => ?_⟩
    cases e
    exact (List.getElem?_eq_some_iff.mp h.1.1).1
  | _ =>
    refine ⟨?_, fun j e => by cases e⟩
    have h := h
    simp only [okTy, tyName, Bool.and_eq_true, decide_eq_true_eq, Option.some.injEq] at h
    exact blt (by decide) (by decide +kernel) (by decide) (by decide) h.1.symm h.2
theorem okTys_pa {c : Sx} {X : Cx} {W : WX} (o : XOk T N G c X W) : ∀ (ts : List Ty) (es : List Expr), okTys T c ts es = true → PA X es (tTys N ts) ∧ (∀ k, Ty.cls k ∈ ts → k < T.cls.length)
  | [], [], _ => ⟨pa_nil, fun k h => by simp at h⟩
  | [], _ :: _, h => nomatch (show false = true from h)
  | _ :: _, [], h => nomatch (show false = true from h)
  | t :: ts, e :: es, h => by
    have h : (okTy T c t e && okTys T c ts es) = true := h
    simp only [Bool.and_eq_true] at h
    obtain ⟨h1, h2⟩ := okTy_pe o h.1
    obtain ⟨h3, h4⟩ := okTys_pa o ts es h.2
    refine ⟨pa_cons h1 h3 (starE ?_), fun k hk => ?_⟩
    · have := h.1
      cases e <;> first | rfl | (cases t <;> exact nomatch (show false = true from this))
    · rcases List.mem_cons.mp hk with e | hk
      · exact h2 k e.symm
      · exact h4 k hk
theorem tX_mono {W : WX} {m : M PV} {σ : L2.St} {H : Hp} {Q Q' : VK} (h : tX N W m σ H Q) (i : ∀ v H, Q v H → Q' v H) : tX N W m σ H Q' := by
  obtain ⟨ad, s, F, R, hg⟩ := h
  exact ⟨ad, s, F, R, hg.mono fun pv s' ad' H' _ _ k v rv => i v H' (k v rv)⟩
theorem part_ok {W : WX} {c : Sx} {X : Cx} (q : Ex) (l : Option Expr) (g : ∀ e, l = some e → okX T N c q e = true → Good N W X e (evX G F q)) (h : okPart (okX T N c q) q.isNon l = true) :
    ∃ tl : TO, PO X l tl ∧ ∀ σ H (R : Option Int → Hp → Prop), (tX N W (evX G F q) σ H fun v H2 => ∃ a, PartV q.isNon v a ∧ R a H2) → tl σ H R := by
  cases l with
  | none =>
    have h : q.isNon = true := h
    refine ⟨tNoPart, po_none, fun σ H R hq => ?_⟩
    cases q <;> simp [Ex.isNon] at h
    obtain ⟨a, ea, r⟩ := tX_pure (fun _ _ _ => .non) σ H _ hq
    have ea : a = none := ea
    subst ea
    exact r
  | some e =>
    have h : (okX T N c q e && !q.isNon) = true := h
    simp only [Bool.and_eq_true, Bool.not_eq_true'] at h
    refine ⟨tPart (tX N W (evX G F q)), po_some (g e rfl h.1).pe, fun σ H R hq => ?_⟩
    refine tX_mono hq fun v H' ⟨a, ea, r⟩ => ?_
    unfold PartV at ea
    rw [h.2] at ea
    simp only [Bool.false_eq_true, if_false] at ea
    obtain ⟨i, rfl, rfl⟩ := ea
    exact ⟨i, rfl, r⟩
theorem starFew {env : Env} {T : Nam} {N : Nms} {c : Sx} {pos : Pos} (es : Exs) (l : List Expr) (h : okXs T N c es l = true) (hl : l.length < 28) :
    ((backTo pos (starEach l env)).all (fun x => !x.1) && (backToKw pos (keywordEach [] env)).all (fun x => x.1.isSome) && decide (l.length + ([] : List Keyword).length + (if ([] : List Keyword).isEmpty then 0 else 1) < 30)) = true := by
  have := starAll (env := env) (pos := pos) es l h
  have h1 : (backTo pos (starEach l env)).all (fun x => !x.1) = true := by
    rw [List.all_eq_true]
    intro x hx
    rw [List.any_eq_false] at this
    simpa using this x hx
  rw [h1]
  show (true && true && decide (l.length + 0 + 0 < 30)) = true
  simp
  omega
theorem pe_mm {X : Cx} {mm : Mm} (hm : mmOk mm = true) {o y : Expr} {l : List Expr} {apos cpos : Pos} {to : TE} {t : TA} (ho : PE X o to) (ha : PA X (y :: l) t) (hb : attributeBase o (mmName mm) X.env (eval o X.env) = eval o X.env) (hl : (apos.endLine == cpos.line) = true)
    (hfew : ((backTo cpos (starEach (y :: l) X.env)).all (fun x => !x.1) && (backToKw cpos (keywordEach [] X.env)).all (fun x => x.1.isSome) && decide ((y :: l).length + ([] : List Keyword).length + (if ([] : List Keyword).isEmpty then 0 else 1) < 30)) = true)
    (hs : starEach (y :: l) X.env = (false, eval y X.env) :: starEach l X.env) (hp : (backTo cpos (starEach l X.env)).any (·.1) = false) : PE X (.Call (.Attribute o (mmName mm) apos) (y :: l) [] cpos) (tBM X.K "list" (mmRule X.K mm) to t) := by
  cases mm <;> first | (exact nomatch (show false = true from hm)) | skip
  · exact pe_bm F.plainAttrs_list F.slot_list_append rfl mt_append ho ha hb hfew hl hs hp
  · exact pe_bm F.plainAttrs_list F.slot_list_extend rfl mt_ext ho ha hb hfew hl hs hp
  · exact pe_bm F.plainAttrs_list F.slot_list_pop rfl mt_pop ho ha hb hfew hl hs hp
  · exact pe_bm F.plainAttrs_list F.slot_list_pop rfl mt_popAt ho ha hb hfew hl hs hp
  · exact pe_bm F.plainAttrs_list F.slot_list_reverse rfl mt_reverse ho ha hb hfew hl hs hp
  · exact pe_bm F.plainAttrs_list F.slot_list_clear rfl mt_clear ho ha hb hfew hl hs hp
theorem pe_mm0 {X : Cx} {W : WX} {mm : Mm} (hK : X.K = N.K) (hm : mmOk mm = true) {o : Expr} {apos cpos : Pos} {m : M PV} (ho : PE X o (tX N W m)) (hb : attributeBase o (mmName mm) X.env (eval o X.env) = eval o X.env) (hl : (apos.endLine == cpos.line) = true) :
    PE X (.Call (.Attribute o (mmName mm) apos) [] [] cpos) (tX N W (M.bind m fun x => M.bind (lstM x) fun _ => M.bind (M.pure []) fun as => M.bind (doMm mm x as) fun y => M.pure (.d y))) := by
  refine pe_imp (t := tBM0 X.K "list" (mmRule X.K mm) (tX N W m)) ?_ (by rw [hK]; exact tX_mm0 hm)
  cases mm <;> first | (exact nomatch (show false = true from hm)) | skip
  · exact pe_bm0 F.plainAttrs_list F.slot_list_append rfl mt_append ho hb hl
  · exact pe_bm0 F.plainAttrs_list F.slot_list_extend rfl mt_ext ho hb hl
  · exact pe_bm0 F.plainAttrs_list F.slot_list_pop rfl mt_pop ho hb hl
  · exact pe_bm0 F.plainAttrs_list F.slot_list_pop rfl mt_popAt ho hb hl
  · exact pe_bm0 F.plainAttrs_list F.slot_list_reverse rfl mt_reverse ho hb hl
  · exact pe_bm0 F.plainAttrs_list F.slot_list_clear rfl mt_clear ho hb hl
theorem good_stk {W : WX} {X : Cx} {e : Expr} : Good N W X e stk :=
  ⟨⟨fun _ _ σ H Q _ h => by obtain ⟨_, _, _, _, z⟩ := h; exact z.elim⟩, ⟨fun _ _ σ H Q _ h => by obtain ⟨_, _, _, _, z⟩ := h; exact z.elim⟩⟩
theorem args_of {T : Nam} {N : Nms} {W : WX} {c : Sx} {X : Cx} {pos : Pos} (es : Exs) (l : List Expr) (h : okXs T N c es l = true) :
    (l = [] ∧ ∀ σ H Q, tAs N W (evDs G F es) σ H Q → Q [] H) ∨ ∃ y l', l = y :: l' ∧ starEach (y :: l') X.env = (false, eval y X.env) :: starEach l' X.env ∧ (backTo pos (starEach l' X.env)).any (·.1) = false := by
  cases l with
  | nil =>
    cases es with
    | cons => exact nomatch (show false = true from h)
    | nil => exact .inl ⟨rfl, fun σ H Q hq => tAs_nil σ H Q hq⟩
  | cons y l =>
    cases es with
    | nil => exact nomatch (show false = true from h)
    | cons e es =>
      have h6 : (okX T N c e y && plainE y && okXs T N c es l) = true := h
      simp only [Bool.and_eq_true] at h6
      exact .inr ⟨y, l, rfl, starE h6.1.2, starAll es l h6.2⟩
theorem pe_bi {X : Cx} {b : Bi} {y : Expr} {l : List Expr} {p pos : Pos} {t : TA} {r : List V → Hp → VK → Prop} (hb : biOk b = true) (hc : CallR X (biV b) r) (hg : Gl X (biName b)) (hm : X.mg (biName b) = none) (ha : PA X (y :: l) t)
    (he : starEach (y :: l) X.env = (false, eval y X.env) :: starEach l X.env) (hpl : (backTo pos (starEach l X.env)).any (·.1) = false) : PE X (.Call (.Name (biName b) p) (y :: l) [] pos) (tCB r t) := by
  cases b <;> first | (simp [biOk] at hb; done) | exact pe_callB hc hg hm (by decide +kernel) ha (by decide) (by decide) he hpl | exact pe_callTy hc hg hm (by decide +kernel) ha (by decide) (by decide) he hpl
theorem rgArgs_inv {c : Sx} {z y : Expr} {l : List Expr} (h : rgArgs c z = y :: l) : ∃ p p3, z = .Call (.Name "range" p) (y :: l) [] p3 ∧ glB c.sc "range" = true := by
  unfold rgArgs at h
  split at h
  · split at h
    · rename_i hc
      simp only [Bool.and_eq_true, decide_eq_true_eq] at hc
      obtain ⟨rfl, h2⟩ := hc
      subst h
      exact ⟨_, _, rfl, h2⟩
    · cases h
  · cases h
mutual
theorem sndX : ∀ (x : Ex) {c : Sx} {X : Cx} {W : WX} (e : Expr), XOk T N G c X W → FnsH T N G c X F → okX T N c x e = true → Good N W X e (evX G F x)
  | .v i, c, X, W, e, o, f, h => by
    cases e <;> try (exact nomatch (show false = true from h))
    rename_i x p
    have h : (decide (c.N[i]? = some x) && visB c.sc x && dbgB x) = true := h
    simp only [Bool.and_eq_true, decide_eq_true_eq] at h
    obtain ⟨d1, d2, _⟩ := dbg_of h.2
    exact .val (pe_imp (pe_var (by rw [o.hN]; exact h.1.1) (vis_of o.sc h.1.2) d1 d2) tX_var) (fun _ => rfl)
  | .con g, c, X, W, e, o, f, h => by
    cases e <;> try (exact nomatch (show false = true from h))
    rename_i x p
    have h : (decide (T.con g = some x) && glB c.sc x && dbgB x) = true := h
    simp only [Bool.and_eq_true, decide_eq_true_eq] at h
    obtain ⟨d, v, u, e1, e2, e3, _, e4⟩ := o.con g x h.1.1
    refine .val (pe_imp (pe_glob (gl_of o.sc h.1.2) e2 e3 (dbg_of h.2).1) (t := tC v) fun σ H Q hq => ?_) (fun _ => rfl)
    have : evX G F (.con g) = M.pure (PV.d d) := by
      show M.of ((G.con[g]?).map PV.d) = _
      rw [e1]; rfl
    rw [this] at hq
    exact tX_pure e4 σ H Q hq
  | .int i, c, X, W, e, o, f, h => by
    cases e <;> try (exact nomatch (show false = true from h))
    rename_i k j p
    cases k <;> try (exact nomatch (show false = true from h))
    rename_i j
    have h : decide (i = j) = true := h
    obtain rfl := of_decide_eq_true h
    exact .val (pe_imp pe_int (tX_pure fun _ _ _ => .int _)) (fun _ => rfl)
  | .str i, c, X, W, e, o, f, h => by
    cases e <;> try (exact nomatch (show false = true from h))
    rename_i k j p
    cases k <;> try (exact nomatch (show false = true from h))
    rename_i j
    have h : decide (i = j) = true := h
    obtain rfl := of_decide_eq_true h
    exact .val (pe_imp pe_str (tX_pure fun _ _ _ => .str _)) (fun _ => rfl)
  | .bl i, c, X, W, e, o, f, h => by
    cases e <;> try (exact nomatch (show false = true from h))
    rename_i k j p
    cases k <;> try (exact nomatch (show false = true from h))
    rename_i j
    have h : (i == j) = true := h
    obtain rfl : i = j := by simpa using h
    exact .val (pe_imp pe_bl (tX_pure fun _ _ _ => .bl _)) (fun _ => rfl)
  | .non, c, X, W, e, o, f, h => by
    cases e <;> try (exact nomatch (show false = true from h))
    rename_i k j p
    cases k <;> try (exact nomatch (show false = true from h))
    exact .val (pe_imp pe_non (tX_pure fun _ _ _ => .non)) (fun _ => rfl)
  | .bin op a b, c, X, W, e, o, f, h => by
    cases e <;> try (exact nomatch (show false = true from h))
    rename_i x op' y p
    have h : (decide (op' = opS op) && okX T N c a x && okX T N c b y) = true := h
    simp only [Bool.and_eq_true, decide_eq_true_eq] at h
    obtain ⟨⟨rfl, h1⟩, h2⟩ := h
    exact .val (pe_imp (pe_op (op_bin o.hK op) (sndX a x o f h1).pe (sndX b y o f h2).pe) (tX_two fun _ _ _ _ r => r)) (fun _ => rfl)
  | .neg a, c, X, W, e, o, f, h => by
    cases e <;> try (exact nomatch (show false = true from h))
    rename_i u x p
    cases u <;> try (exact nomatch (show false = true from h))
    have h : okX T N c a x = true := h
    refine .val (pe_imp (pe_un un_neg (sndX a x o f h).pe) (tX_one fun x H Q ⟨n, ad, M, y, z, hM, ra, hf, q⟩ => ?_)) (fun _ => rfl)
    cases y <;> simp only [negF] at hf <;> cases hf
    obtain rfl := ra.intI
    exact ⟨_, rfl, q _ _ (Same.refl _) (.int _)⟩
  | .not a, c, X, W, e, o, f, h => by
    cases e <;> try (exact nomatch (show false = true from h))
    rename_i u x p
    cases u <;> try (exact nomatch (show false = true from h))
    have h : okX T N c a x = true := h
    have g := sndX a x o f h
    exact ⟨pe_imp (pe_not g.pe) tX_not, pt_imp (pt_not g.pt) tT_not⟩
  | .and es, c, X, W, e, o, f, h => by
    cases e <;> try (exact nomatch (show false = true from h))
    rename_i u l p
    cases u <;> try (exact nomatch (show false = true from h))
    have h : okBs T N c es l = true := h
    obtain ⟨h1, h2⟩ := sndAnd es l p o f h
    exact ⟨h1, h2.pt⟩
  | .or es, c, X, W, e, o, f, h => by
    cases e <;> try (exact nomatch (show false = true from h))
    rename_i u l p
    cases u <;> try (exact nomatch (show false = true from h))
    have h : okBs T N c es l = true := h
    obtain ⟨h1, h2⟩ := sndOr es l p o f h
    exact ⟨h1, h2.pt⟩
  | .ife t a b, c, X, W, e, o, f, h => by
    cases e <;> try (exact nomatch (show false = true from h))
    rename_i z x y p
    have h : (okX T N c t z && okX T N c a x && okX T N c b y) = true := h
    simp only [Bool.and_eq_true] at h
    have g1 := sndX t z o f h.1.1
    have g2 := sndX a x o f h.1.2
    have g3 := sndX b y o f h.2
    exact ⟨pe_imp (pe_ifExp g1.pt g2.pe g3.pe) tX_ife, pt_imp (pt_ifExp g1.pt g2.pt g3.pt) tT_ife⟩
  | .cmp q a b, c, X, W, e, o, f, h => by
    cases e <;> try (exact nomatch (show false = true from h))
    rename_i x ops l p
    rcases ops with _ | ⟨o', _ | ⟨o2, ops⟩⟩ <;> try (exact nomatch (show false = true from h))
    rcases l with _ | ⟨y, _ | ⟨y2, l⟩⟩ <;> try (exact nomatch (show false = true from h))
    have h : (decide (o' = cmS q) && okX T N c a x && okX T N c b y && !behindInMarks o' y) = true := h
    simp only [Bool.and_eq_true, decide_eq_true_eq, Bool.not_eq_true'] at h
    obtain ⟨⟨⟨rfl, h1⟩, h2⟩, h3⟩ := h
    exact ⟨pe_imp (pe_cmpR (op_cmp o.hK o.un q) (sndX a x o f h1).pe (sndX b y o f h2).pe h3) (tX_two fun _ _ _ _ r => r), pt_imp (pt_cmpR (op_cmp o.hK o.un q) (sndX a x o f h1).pe (sndX b y o f h2).pe h3) (tT_two fun _ _ _ _ r => r)⟩
  | .chain q q2 a b d, c, X, W, e, o, f, h => by
    cases e <;> try (exact nomatch (show false = true from h))
    rename_i x ops l p
    rcases ops with _ | ⟨o', _ | ⟨o2, _ | ⟨o3, ops⟩⟩⟩ <;> try (exact nomatch (show false = true from h))
    rcases l with _ | ⟨y, _ | ⟨z, _ | ⟨z2, l⟩⟩⟩ <;> try (exact nomatch (show false = true from h))
    have h : (decide (o' = cmS q) && decide (o2 = cmS q2) && okX T N c a x && okX T N c b y && okX T N c d z && !lastMarks [o', o2] [y, z]) = true := h
    simp only [Bool.and_eq_true, decide_eq_true_eq, Bool.not_eq_true'] at h
    obtain ⟨⟨⟨⟨⟨rfl, rfl⟩, h1⟩, h2⟩, h3⟩, h4⟩ := h
    exact ⟨pe_imp (pe_chain (op_cmp o.hK o.un q) (op_cmp o.hK o.un q2) (sndX a x o f h1).pe (sndX b y o f h2).pe (sndX d z o f h3).pe h4) tX_chain,
      pt_imp (pt_chain (op_cmp o.hK o.un q) (op_cmp o.hK o.un q2) (sndX a x o f h1).pe (sndX b y o f h2).pe (sndX d z o f h3).pe h4) fun σ H Q hq => tX_chain σ H _ (tX_tB σ H Q hq)⟩
  | .tup es, c, X, W, e, o, f, h => by
    cases e <;> try (exact nomatch (show false = true from h))
    rename_i l k p
    have h : okXs T N c es l = true := h
    exact .val (pe_imp (pe_tup (sndXs es l o f h)) tX_tup) (fun _ => rfl)
  | .lst es, c, X, W, e, o, f, h => by
    cases e <;> try (exact nomatch (show false = true from h))
    rename_i l p
    have h : okXs T N c es l = true := h
    exact .val (pe_imp (pe_lst (sndXs es l o f h)) tX_lst) (fun _ => rfl)
  | .idx a i, c, X, W, e, o, f, h => by
    cases e <;> try (exact nomatch (show false = true from h))
    rename_i x y p
    have h : (okX T N c a x && okX T N c i y && noSlice y) = true := h
    simp only [Bool.and_eq_true] at h
    have pl : PlainIx y := fun _ _ => by
      have := h.2
      cases y <;> first | rfl | (exact nomatch (show false = true from this))
    exact .val (pe_imp (pe_ix (ix_all o.hK) (sndX a x o f h.1.1).pe (sndX i y o f h.1.2).pe pl) (tX_two fun _ _ _ _ r => r)) (fun _ => rfl)
  | .sl a lo hi, c, X, W, e, o, f, h => by
    cases e <;> try (exact nomatch (show false = true from h))
    rename_i x y p
    cases y <;> try (exact nomatch (show false = true from h))
    rename_i l u st p2
    cases st <;> try (exact nomatch (show false = true from h))
    have h : (okX T N c a x && okPart (okX T N c lo) lo.isNon l && okPart (okX T N c hi) hi.isNon u) = true := h
    simp only [Bool.and_eq_true] at h
    obtain ⟨⟨h1, h2⟩, h3⟩ := h
    obtain ⟨tl, pl, il⟩ := part_ok lo l (fun e _ he => sndX lo e o f he) h2
    obtain ⟨th, ph, ih⟩ := part_ok hi u (fun e _ he => sndX hi e o f he) h3
    refine .val (pe_imp (pe_slice (sl_all (X := X)) (sndX a x o f h1).pe pl ph) fun σ H Q hq => ?_) (fun _ => rfl)
    exact tX_mono (tX_sl (N := N) (W := W) σ H Q hq) fun v H1 h1 => il σ H1 _ (tX_mono h1 fun l H2 ⟨a, e1, h2⟩ => ⟨a, e1, ih σ H2 _ (tX_mono h2 fun u H3 ⟨b, e2, h3⟩ => ⟨b, e2, rSl_all o.hK h3⟩)⟩)
  | .rev _, c, X, W, e, o, f, h => nomatch (show false = true from h)
  | .attr a g, c, X, W, e, o, f, h => by
    cases e <;> try (exact nomatch (show false = true from h))
    rename_i x y p
    have h : (okX T N c a x && decide (y = N.nm g) && noCall x) = true := h
    simp only [Bool.and_eq_true, decide_eq_true_eq] at h
    obtain ⟨⟨h1, rfl⟩, h2⟩ := h
    exact .val (pe_imp (pe_fld (sndX a x o f h1).pe (noCall_base h2)) fun σ H Q hq => by rw [o.hK]; exact tX_fld o σ H Q hq) (fun _ => rfl)
  | .dct _ _, c, X, W, e, o, f, h => nomatch (show false = true from h)
  | .new x, c, X, W, e, o, f, h => by
    have h : okN T N c x e = true := h
    obtain ⟨g1, g2⟩ := sndN x e o f h
    exact .val (pe_imp g1 tX_new) g2
  | .bad, c, X, W, e, o, f, h => ⟨⟨fun _ _ σ H Q _ h => by obtain ⟨_, _, _, _, z⟩ := h; exact z.elim⟩, ⟨fun _ _ σ H Q _ h => by obtain ⟨_, _, _, _, z⟩ := h; exact z.elim⟩⟩
  | .mk k es, c, X, W, e, o, f, h => by
    cases hg : G.ini k with
    | none =>
      have ev : evX G F (.mk k es) = stk := by
        show M.bind (M.of (G.ini k)) _ = _
        rw [hg]; rfl
      rw [ev]
      exact good_stk
    | some g =>
      have ev : evX G F (.mk k es) = M.bind (evDs G F es) fun as => M.bind (mkObj F k g as) fun x => M.pure (.d x) := by
        show M.bind (M.of (G.ini k)) _ = _
        rw [hg]; rfl
      rw [ev]
      cases e <;> try (exact nomatch (show false = true from h))
      rename_i fn l kw p
      cases fn <;> try (exact nomatch (show false = true from h))
      rename_i x p2
      cases kw with
      | cons => exact nomatch (show false = true from h)
      | nil =>
        have h' : (decide (T.cls[k]? = some x) && glB c.sc x && dbgB x && okXs T N c es l && !c.hot) = true := h
        simp only [Bool.and_eq_true, decide_eq_true_eq, Bool.not_eq_true'] at h'
        obtain ⟨⟨⟨⟨h1, h2⟩, h3⟩, h4⟩, h5⟩ := h'
        obtain ⟨fa, fd, ps, kk, m0, m1, m4, ⟨m2, m3, m5, m6⟩⟩ := (f h5).mak k g hg
        exact .val (pe_imp (pe_makeS m1 m5 m4 (gl_of o.sc h2) (o.cls k x h1) m3 (passAt o.tk) (sndXs es l o f h4) (dbg_of h3).1 (args_of es l h4)) (tX_mk m6)) (fun _ => rfl)
  | .mkN _ _, c, X, W, e, o, f, h => nomatch (show false = true from h)
  | .meth q k a m es, c, X, W, e, o, f, h => by
    cases hg : G.meth k m with
    | none =>
      have ev : evX G F (.meth q k a m es) = stk := by
        show M.bind (M.of (G.meth k m)) _ = _
        rw [hg]; rfl
      rw [ev]
      exact good_stk
    | some g =>
      have ev : evX G F (.meth q k a m es) = M.bind (evX G F a) fun x => M.bind x.store fun x => M.bind (insM k m x) fun _ => M.bind (evDs G F es) fun as => M.bind (doCall q (F g) (x :: as)) fun x => M.pure (.d x) := by
        show M.bind (M.of (G.meth k m)) _ = _
        rw [hg]; rfl
      rw [ev]
      cases e <;> try (exact nomatch (show false = true from h))
      rename_i fn l kw cp
      cases fn <;> try (exact nomatch (show false = true from h))
      rename_i x n ap
      cases kw with
      | cons => exact nomatch (show false = true from h)
      | nil =>
        have h' : (decide (n = N.nm m) && noCall x && (ap.endLine == cp.line) && decide (l.length < 28) && okX T N c a x && okXs T N c es l && !c.hot) = true := h
        simp only [Bool.and_eq_true, decide_eq_true_eq, Bool.not_eq_true'] at h'
        obtain ⟨⟨⟨⟨⟨⟨rfl, h3⟩, h4⟩, h5⟩, h6⟩, h7⟩, h8⟩ := h'
        obtain ⟨fa, fd, ps, kk, m0, m1, m4, ⟨m2, m3, m5, m6⟩⟩ := (f h8).mt k m g hg
        have hb : attributeBase x (N.nm m) X.env (eval x X.env) = eval x X.env := noCall_base h3
        have hcl : Cls X.K (N.cl k) := by rw [o.hK]; exact (o.fld k (by rw [o.ncl]; exact m0)).1
        exact .val (pe_imp (pe_methA (sndX a x o f h6).pe hcl m1 m5 m4 m3 (passAt o.tk) (sndXs es l o f h7) (args_of es l h7) (eval_meth hb (starFew _ _ h7 h5) h4)) (tX_meth o.nm m6)) (fun _ => rfl)
  | .bm m a es, c, X, W, e, o, f, h => by
    cases e <;> try (exact nomatch (show false = true from h))
    rename_i fn l kw cp
    cases fn <;> try (exact nomatch (show false = true from h))
    rename_i x n ap
    rcases l with _ | ⟨y, _ | ⟨z, _ | ⟨z2, l⟩⟩⟩ <;> try (cases kw <;> exact nomatch (show false = true from h))
    · cases kw with
      | cons => exact nomatch (show false = true from h)
      | nil =>
        have h' : (decide (m = .index) && decide (n = "index") && noCall x && (ap.endLine == cp.line) && okX T N c a x && okXs T N c es [y]) = true := h
        simp only [Bool.and_eq_true, decide_eq_true_eq] at h'
        obtain ⟨⟨⟨⟨⟨rfl, rfl⟩, h3⟩, h4⟩, h5⟩, h6⟩ := h'
        cases es with
        | nil => exact nomatch (show false = true from h6)
        | cons e es =>
          have h8 : (okX T N c e y && plainE y && okXs T N c es []) = true := h6
          simp only [Bool.and_eq_true] at h8
          exact .val (pe_imp (pe_bm PySem.F.plainAttrs_list PySem.F.slot_list_index rfl mt_index (sndX a x o f h5).pe (sndXs (.cons e es) [y] o f h6) (noCall_base h3) (starFew _ _ h6 (by show 1 < 28; omega)) h4 (starE h8.1.2) (starAll es [] h8.2)) (by rw [o.hK]; exact tX_index)) (fun _ => rfl)
    cases kw with
    | cons => exact nomatch (show false = true from h)
    | nil =>
      have h' : (decide (m = .get) && decide (n = "get") && noCall x && (ap.endLine == cp.line) && okX T N c a x && okXs T N c es [y, z]) = true := h
      simp only [Bool.and_eq_true, decide_eq_true_eq] at h'
      obtain ⟨⟨⟨⟨⟨rfl, rfl⟩, h3⟩, h4⟩, h5⟩, h6⟩ := h'
      rcases es with _ | ⟨e1, _ | ⟨e2, _ | ⟨e3, es⟩⟩⟩
      · exact nomatch (show false = true from h6)
      · have h7 : (okX T N c e1 y && plainE y && okXs T N c .nil [z]) = true := h6
        simp only [Bool.and_eq_true] at h7
        exact nomatch (show false = true from h7.2)
      · have h7 : (okX T N c e1 y && plainE y && (okX T N c e2 z && plainE z && okXs T N c .nil [])) = true := h6
        simp only [Bool.and_eq_true] at h7
        have hb : attributeBase x "get" X.env (eval x X.env) = eval x X.env := noCall_base h3
        have mm : M2 X x "get" ap y z cp := ⟨hb, starFew (.cons e1 (.cons e2 .nil)) [y, z] h6 (by show 2 < 28; omega), h4, by rw [starE h7.1.2, starE h7.2.1.2]; rfl⟩
        refine .val (pe_imp (pe_dget2 (by have := o.un; omega) (sndX a x o f h5).pe (sndX e1 y o f h7.1.1).pe (sndX e2 z o f h7.2.1.1).pe mm) fun σ H Q hq => ?_) (fun _ => rfl)
        refine tX_mono (tX_dget σ H Q hq) fun v H1 ⟨ad, e, d1, h8⟩ => ⟨ad, e, d1, ?_⟩
        refine tX_mono (tAs_cons σ H1 _ h8) fun v1 H2 h9 => ?_
        refine tX_mono (tAs_cons σ H2 _ h9) fun v2 H3 h10 => ?_
        obtain ⟨yy, zz, oo, e2, d2, q⟩ := tAs_nil σ H3 _ h10
        injection e2 with e2 e3
        injection e3 with e3 e4
        subst e2
        subst e3
        exact ⟨oo, d2, q⟩
      · have h7 : (okX T N c e1 y && plainE y && (okX T N c e2 z && plainE z && okXs T N c (.cons e3 es) [])) = true := h6
        simp only [Bool.and_eq_true] at h7
        exact nomatch (show false = true from h7.2.2)
  | .mm m a es, c, X, W, e, o, f, h => by
    cases e <;> try (exact nomatch (show false = true from h))
    rename_i fn l kw cp
    cases fn <;> try (exact nomatch (show false = true from h))
    rename_i x n ap
    cases kw with
    | cons => exact nomatch (show false = true from h)
    | nil =>
      have h' : (decide (n = mmName m) && mmOk m && noCall x && (ap.endLine == cp.line) && decide (l.length < 28) && okX T N c a x && okXs T N c es l) = true := h
      simp only [Bool.and_eq_true, decide_eq_true_eq] at h'
      obtain ⟨⟨⟨⟨⟨⟨rfl, h2⟩, h3⟩, h4⟩, h5⟩, h6⟩, h7⟩ := h'
      have g := sndX a x o f h6
      have as := sndXs es l o f h7
      have hb : attributeBase x (mmName m) X.env (eval x X.env) = eval x X.env := noCall_base h3
      refine .val ?_ (fun _ => rfl)
      cases l with
      | nil =>
        cases es with
        | cons => exact nomatch (show false = true from h7)
        | nil => exact pe_mm0 o.hK h2 g.pe hb h4
      | cons y l =>
        cases es with
        | nil => exact nomatch (show false = true from h7)
        | cons e es =>
          have h8 : (okX T N c e y && plainE y && okXs T N c es l) = true := h7
          simp only [Bool.and_eq_true] at h8
          exact pe_imp (pe_mm h2 g.pe as hb h4 (starFew _ _ h7 h5) (starE h8.1.2) (starAll es l h8.2)) (by rw [o.hK]; exact tX_mm h2)
  | .ext _ _, c, X, W, e, o, f, h => nomatch (show false = true from h)
  | .sdef a k, c, X, W, e, o, f, h => by
    cases e <;> try (exact nomatch (show false = true from h))
    rename_i fn l kw cp
    cases fn <;> try (exact nomatch (show false = true from h))
    rename_i x n ap
    rcases l with _ | ⟨y, _ | ⟨z, _ | ⟨z2, l⟩⟩⟩ <;> try (cases kw <;> exact nomatch (show false = true from h))
    rotate_left
    · cases z <;> try (cases kw <;> exact nomatch (show false = true from h))
      rename_i zl zp
      cases zl <;> exact nomatch (show false = true from h)
    cases z <;> try (cases kw <;> exact nomatch (show false = true from h))
    rename_i zl zp
    cases zl with
    | cons => cases kw <;> exact nomatch (show false = true from h)
    | nil =>
      cases kw with
      | cons => exact nomatch (show false = true from h)
      | nil =>
        have h' : (decide (n = "setdefault") && noCall x && (ap.endLine == cp.line) && okX T N c a x && okX T N c k y && plainE y) = true := h
        simp only [Bool.and_eq_true, decide_eq_true_eq] at h'
        obtain ⟨⟨⟨⟨⟨rfl, h3⟩, h4⟩, h5⟩, h6⟩, h7⟩ := h'
        have mm : M2 X x "setdefault" ap y (.List [] zp) cp := ⟨noCall_base h3, starFew (T := T) (N := N) (c := c) (.cons k (.cons (.lst .nil) .nil)) [y, .List [] zp] (by
          show (okX T N c k y && plainE y && true) = true
          rw [h6, h7]; rfl) (by show 2 < 28; omega), h4, by rw [starE h7, starE (e := .List [] zp) rfl]; rfl⟩
        exact .val (pe_imp (pe_dsetd (sndX a x o f h5).pe (sndX k y o f h6).pe pe_new0 mm) tX_sdef) (fun _ => rfl)
  | .call q g es, c, X, W, e, o, f, h => by
    cases e <;> try (exact nomatch (show false = true from h))
    rename_i fn l kw p
    cases fn <;> try (exact nomatch (show false = true from h))
    rename_i x p2
    cases kw with
    | cons => cases l <;> exact nomatch (show false = true from h)
    | nil =>
      have h' : (decide (T.fn g = some x) && glB c.sc x && dbgB x && okXs T N c es l && !c.hot) = true := by cases l <;> exact h
      simp only [Bool.and_eq_true, decide_eq_true_eq, Bool.not_eq_true'] at h'
      obtain ⟨⟨⟨⟨h1, h2⟩, h3⟩, h4⟩, h5⟩ := h'
      obtain ⟨fa, fd, ps, k, m1, m4, ⟨m2, m3, m5, m6⟩⟩ := (f h5).fn g x h1
      have a := sndXs es l o f h4
      refine .val (pe_imp (t := tCallS (spF N ps.length (F g)) (WE W) (tAs N W (evDs G F es))) ?_ (tX_call m6)) (fun _ => rfl)
      cases l with
      | nil =>
        cases es with
        | cons => exact nomatch (show false = true from h4)
        | nil =>
          refine pe_imp (pe_callS0 m5 m4 (gl_of o.sc h2) m1 m2 m3 (passAt o.tk) (dbg_of h3).1) fun σ H Q hq => ?_
          exact tAs_nil σ H _ hq
      | cons y l =>
        cases es with
        | nil => exact nomatch (show false = true from h4)
        | cons e es =>
          have h6 : (okX T N c e y && plainE y && okXs T N c es l) = true := h4
          simp only [Bool.and_eq_true] at h6
          exact pe_callS m5 m4 (gl_of o.sc h2) m1 m2 m3 (passAt o.tk) a (dbg_of h3).1 (starE h6.1.2) (starAll es l h6.2)
  | .bi b es, c, X, W, e, o, f, h => by
    cases e <;> try (exact nomatch (show false = true from h))
    rename_i fn l kw p
    cases fn <;> try (exact nomatch (show false = true from h))
    rename_i x p2
    cases kw with
    | cons => cases l <;> exact nomatch (show false = true from h)
    | nil =>
      cases l with
      | nil => exact nomatch (show false = true from h)
      | cons y l =>
        have h' : (decide (x = biName b) && biOk b && glB c.sc x && okXs T N c es (y :: l) && !c.hot) = true := h
        simp only [Bool.and_eq_true, decide_eq_true_eq, Bool.not_eq_true'] at h'
        obtain ⟨⟨⟨⟨rfl, h2⟩, h3⟩, h4⟩, h5⟩ := h'
        have a := sndPs es (y :: l) o f h4
        cases es with
        | nil => exact nomatch (show false = true from h4)
        | cons e es =>
          have h6 : (okX T N c e y && plainE y && okXs T N c es l) = true := h4
          simp only [Bool.and_eq_true] at h6
          exact .val (pe_imp (pe_bi h2 (call_bi o.hK o.un (o.calm h5) b h2) (gl_of o.sc h3) (o.blt _ mem_blt) a (starE h6.1.2) (starAll es l h6.2)) (tX_bi fun _ _ _ r => r)) (fun _ => rfl)
  | .rg t a b, c, X, W, e, o, f, h => by
    cases e <;> try (exact nomatch (show false = true from h))
    rename_i fn l kw p
    cases fn <;> try (exact nomatch (show false = true from h))
    rename_i x p2
    rcases l with _ | ⟨z, _ | ⟨z2, l⟩⟩ <;> try (cases kw <;> exact nomatch (show false = true from h))
    cases kw with
    | cons => exact nomatch (show false = true from h)
    | nil =>
      have h' : (decide (x = if t = true then "tuple" else "list") && glB c.sc x && !c.hot && okRg (okX T N c a) (okX T N c b) (isZero a) (rgArgs c z)) = true := h
      simp only [Bool.and_eq_true, decide_eq_true_eq, Bool.not_eq_true'] at h'
      obtain ⟨⟨⟨rfl, h3⟩, h8⟩, hr⟩ := h'
      rcases hl : rgArgs c z with _ | ⟨y, _ | ⟨y2, _ | ⟨y3, l⟩⟩⟩ <;> rw [hl] at hr <;> try (exact nomatch (show false = true from hr))
      · obtain ⟨p4, p3, rfl, h4⟩ := rgArgs_inv hl
        have hr : (isZero a && okX T N c b y && plainE y) = true := hr
        simp only [Bool.and_eq_true] at hr
        obtain ⟨⟨h5, h6⟩, h7⟩ := hr
        have ea : evX G F a = M.pure (PV.d (.int 0)) := by
          cases a <;> try (exact nomatch (show false = true from h5))
          rename_i i
          have h5 : decide (i = 0) = true := h5
          obtain rfl := of_decide_eq_true h5
          rfl
        have g := prg_1 (p := p4) (pos := p3) (gl_of o.sc h4) (o.blt _ (by decide)) (sndX b y o f h6).pe (starE h7)
        have key : ∀ σ H Q, tX N W (evX G F (.rg t a b)) σ H Q → (if t = true then tTupRg (tRg1 (tX N W (evX G F b))) else tLstRg (tRg1 (tX N W (evX G F b)))) σ H Q := fun σ H Q hq => by
          have hq : tX N W (M.bind (evX G F a) fun x => M.bind (evX G F b) fun y => M.of (((rngF x y).bind (rgF t)).map PV.d)) σ H Q := hq
          rw [ea] at hq
          exact tX_rg0 σ H Q hq
        cases t with
        | true => exact .val (pe_imp (pe_tupRg (o.calm h8) (gl_of o.sc h3) (o.blt _ (by decide)) g) key) (fun _ => rfl)
        | false => exact .val (pe_imp (pe_listRg (o.calm h8) (gl_of o.sc h3) (o.blt _ (by decide)) g) key) (fun _ => rfl)
      · obtain ⟨p4, p3, rfl, h4⟩ := rgArgs_inv hl
        have hr : (okX T N c a y && plainE y && okX T N c b y2 && plainE y2) = true := hr
        simp only [Bool.and_eq_true] at hr
        obtain ⟨⟨⟨h5, h7⟩, h6⟩, h7'⟩ := hr
        have g := prg_2 (p := p4) (pos := p3) (gl_of o.sc h4) (o.blt _ (by decide)) (sndX a y o f h5).pe (sndX b y2 o f h6).pe (starE h7) (starE h7') (by rw [starE h7']; rfl)
        have key := tX_rg (N := N) (W := W) (t := t) (ma := evX G F a) (mb := evX G F b)
        cases t with
        | true => exact .val (pe_imp (pe_tupRg (o.calm h8) (gl_of o.sc h3) (o.blt _ (by decide)) g) key) (fun _ => rfl)
        | false => exact .val (pe_imp (pe_listRg (o.calm h8) (gl_of o.sc h3) (o.blt _ (by decide)) g) key) (fun _ => rfl)
  | .rg3 a b d, c, X, W, e, o, f, h => by
    cases e <;> try (exact nomatch (show false = true from h))
    rename_i fn l kw p
    cases fn <;> try (exact nomatch (show false = true from h))
    rename_i x p2
    rcases l with _ | ⟨z, _ | ⟨z2, l⟩⟩ <;> try (cases kw <;> exact nomatch (show false = true from h))
    cases kw with
    | cons => exact nomatch (show false = true from h)
    | nil =>
      have h' : (decide (x = "tuple") && glB c.sc x && !c.hot && okRg3 (okX T N c a) (okX T N c b) (okX T N c d) (rgArgs c z)) = true := h
      simp only [Bool.and_eq_true, decide_eq_true_eq, Bool.not_eq_true'] at h'
      obtain ⟨⟨⟨rfl, h3⟩, h8⟩, hr⟩ := h'
      rcases hl : rgArgs c z with _ | ⟨y1, _ | ⟨y2, _ | ⟨y3, _ | ⟨y4, l⟩⟩⟩⟩ <;> rw [hl] at hr <;> try (exact nomatch (show false = true from hr))
      obtain ⟨p4, p3, rfl, h4⟩ := rgArgs_inv hl
      have hr : (okX T N c a y1 && plainE y1 && okX T N c b y2 && plainE y2 && okX T N c d y3 && plainE y3) = true := hr
      simp only [Bool.and_eq_true] at hr
      obtain ⟨⟨⟨⟨⟨h5, q1⟩, h6⟩, q2⟩, h7⟩, q3⟩ := hr
      have pa := pa_cons (sndX a y1 o f h5).pe (pa_cons (sndX b y2 o f h6).pe (pa_cons (sndX d y3 o f h7).pe (pa_nil (X := X)) (starE q3)) (starE q2)) (starE q1)
      exact .val (pe_imp (pe_tupRg3 (o.calm h8) (gl_of o.sc h3) (o.blt _ (by decide)) (gl_of o.sc h4) (o.blt _ (by decide)) pa (starE q1) (fun pos => by rw [starE q2, starE q3]; rfl)) tX_rg3) (fun _ => rfl)
  | .isi a ts, c, X, W, e, o, f, h => by
    cases e <;> try (exact nomatch (show false = true from h))
    rename_i fn l kw p
    cases fn <;> try (exact nomatch (show false = true from h))
    rename_i x p2
    rcases l with _ | ⟨y, _ | ⟨z, _ | ⟨z2, l⟩⟩⟩ <;> try (cases kw <;> exact nomatch (show false = true from h))
    cases kw with
    | cons => exact nomatch (show false = true from h)
    | nil =>
      have h' : (decide (x = "isinstance") && glB c.sc x && okX T N c a y && plainE y && okIsi T c ts z) = true := h
      simp only [Bool.and_eq_true, decide_eq_true_eq] at h'
      obtain ⟨⟨⟨⟨rfl, h2⟩, h3⟩, h4⟩, h5⟩ := h'
      have g := sndX a y o f h3
      have two : (∀ t, ts ≠ [t]) → ∃ l k p, z = .Tuple l k p ∧ okTys T c ts l = true ∧ ts.length ≤ 100 := fun hne => by
        have h6 : okTysE T c ts z = true := by
          rcases ts with _ | ⟨t, _ | ⟨t2, ts⟩⟩
          · exact h5
          · exact absurd rfl (hne t)
          · exact h5
        cases z <;> try (exact nomatch (show false = true from h6))
        rename_i l k p
        have h6 : (okTys T c ts l && decide (ts.length ≤ 100)) = true := h6
        simp only [Bool.and_eq_true, decide_eq_true_eq] at h6
        exact ⟨l, k, p, rfl, h6.1, h6.2⟩
      have many : (∀ t, ts ≠ [t]) → Good N W X (.Call (.Name "isinstance" p2) [y, z] [] p) (evX G F (.isi a ts)) := fun hne => by
        obtain ⟨l, k, p, rfl, h6, h7⟩ := two hne
        obtain ⟨q1, q2⟩ := okTys_pa o ts l h6
        have pa := pa_cons g.pe (pa_cons (pe_tup (x1 := k) (pos := p) q1) (pa_nil (X := X)) (starE (e := .Tuple l k p) rfl)) (starE h4)
        exact .val (pe_imp (pe_callB (call_isiT (X := X)) (gl_of o.sc h2) (o.blt _ (by decide)) (by decide +kernel) pa (by decide) (by decide) (starE h4) (by rw [starE (e := .Tuple l k p) rfl]; rfl)) (by rw [o.hK]; exact tX_isiT o q2 h7)) (fun _ => rfl)
      rcases ts with _ | ⟨t, _ | ⟨t2, ts⟩⟩
      · exact many (fun t e => by cases e)
      · have h5 : okTy T c t z = true := h5
        obtain ⟨q1, q2⟩ := okTy_pe o h5
        have pz : plainE z = true := by cases z <;> first | rfl | (cases t <;> exact nomatch (show false = true from h5))
        have pa := pa_cons g.pe (pa_cons q1 (pa_nil (X := X)) (starE pz)) (starE h4)
        exact .val (pe_imp (pe_callB (call_isi (X := X)) (gl_of o.sc h2) (o.blt _ (by decide)) (by decide +kernel) pa (by decide) (by decide) (starE h4) (by rw [starE pz]; rfl)) (by rw [o.hK]; exact tX_isi1 o q2)) (fun _ => rfl)
      · exact many (fun t e => by cases e)
  | .lc elt tg it ifs own, c, X, W, e, o, f, h => by
    cases e <;> try (exact nomatch (show false = true from h))
    rename_i x gs sc p
    rcases gs with _ | ⟨⟨t, i, l, k⟩, _ | ⟨g2, gs⟩⟩ <;> try (exact nomatch (show false = true from h))
    · have h' : (decide (k = 0) && blkC c.N c.sc sc (ownOf c.N own) && decide ((ownOf c.N own).map (·.2) = own) && okIt T N c it t i && okTg (c.blk sc) tg t && (tgSl tg).all (fun i => own.contains i) && okQs T N (c.blk sc) ifs l && okX T N (c.blk sc) elt x && !c.hot && noSet i) = true := h
      simp only [Bool.and_eq_true, decide_eq_true_eq, Bool.not_eq_true'] at h'
      obtain ⟨⟨⟨⟨⟨⟨⟨⟨⟨rfl, h1⟩, h2⟩, h3⟩, h4⟩, h5⟩, h6⟩, h7⟩, h8⟩, h9⟩ := h'
      have pl : PE X (.ListComp x [⟨t, i, l, 0⟩] sc p) (tLc (tI N W (evIt G F it)) (gTg N.K tg) (tT N Wf (evQs G F ifs)) (tX N Wf (evX G F elt)) own) := by
        have := pe_lc (X := X) (own := ownOf c.N own) (pos := p) (o.calm h8) (by rw [o.hN]; exact o.nd) (sndIt it t i o f h3) (blkOk_by (by rw [o.hN, o.sc]; exact h1))
          (fun s H C cl fp => pg_core (o.blk s H C cl fp sc).tok o.hK tg t h4)
          (fun s H C cl fp => sndQs ifs l (o.blk s H C cl fp sc) (f.blk s H sc _ fp) h6)
          (fun s H C cl fp => (sndX elt x (o.blk s H C cl fp sc) (f.blk s H sc _ fp) h7).pe)
          (fun y => by cases i <;> first | rfl | (exact nomatch (show false = true from h9)))
        rw [h2] at this
        exact this
      refine .val (pe_imp pl (tX_lc fun j hj => ?_)) (fun _ => rfl)
      have := List.all_eq_true.mp h5 j hj
      simpa using this
theorem sndN : ∀ (x : Ex) {c : Sx} {X : Cx} {W : WX} (e : Expr), XOk T N G c X W → FnsH T N G c X F → okN T N c x e = true → PE X e (tN N W (evX G F x)) ∧ ∀ whole, isTrue e X.env whole = (do let v ← whole; standAt e.pos; holding [v] (truthy v))
  | .lst es, c, X, W, e, o, f, h => by
    cases e <;> try (exact nomatch (show false = true from h))
    rename_i l p
    have h : okXs T N c es l = true := h
    exact ⟨pe_imp (pe_lst (sndXs es l o f h)) tN_lst, fun _ => rfl⟩
  | .lc elt tg it ifs own, c, X, W, e, o, f, h => by
    cases e <;> try (exact nomatch (show false = true from h))
    rename_i x gs sc p
    rcases gs with _ | ⟨⟨t, i, l, k⟩, _ | ⟨g2, gs⟩⟩ <;> try (exact nomatch (show false = true from h))
    · have h' : (decide (k = 0) && blkC c.N c.sc sc (ownOf c.N own) && decide ((ownOf c.N own).map (·.2) = own) && okIt T N c it t i && okTg (c.blk sc) tg t && (tgSl tg).all (fun i => own.contains i) && okQs T N (c.blk sc) ifs l && okX T N (c.blk sc) elt x && !c.hot && noSet i) = true := h
      simp only [Bool.and_eq_true, decide_eq_true_eq, Bool.not_eq_true'] at h'
      obtain ⟨⟨⟨⟨⟨⟨⟨⟨⟨rfl, h1⟩, h2⟩, h3⟩, h4⟩, h5⟩, h6⟩, h7⟩, h8⟩, h9⟩ := h'
      have pl : PE X (.ListComp x [⟨t, i, l, 0⟩] sc p) (tLc (tI N W (evIt G F it)) (gTg N.K tg) (tT N Wf (evQs G F ifs)) (tX N Wf (evX G F elt)) own) := by
        have := pe_lc (X := X) (own := ownOf c.N own) (pos := p) (o.calm h8) (by rw [o.hN]; exact o.nd) (sndIt it t i o f h3) (blkOk_by (by rw [o.hN, o.sc]; exact h1))
          (fun s H C cl fp => pg_core (o.blk s H C cl fp sc).tok o.hK tg t h4)
          (fun s H C cl fp => sndQs ifs l (o.blk s H C cl fp sc) (f.blk s H sc _ fp) h6)
          (fun s H C cl fp => (sndX elt x (o.blk s H C cl fp sc) (f.blk s H sc _ fp) h7).pe)
          (fun y => by cases i <;> first | rfl | (exact nomatch (show false = true from h9)))
        rw [h2] at this
        exact this
      refine ⟨pe_imp pl (tN_lc fun j hj => ?_), fun _ => rfl⟩
      have := List.all_eq_true.mp h5 j hj
      simpa using this
  | .v _, c, X, W, e, o, f, h => nomatch (show false = true from h)
  | .con _, c, X, W, e, o, f, h => nomatch (show false = true from h)
  | .int _, c, X, W, e, o, f, h => nomatch (show false = true from h)
  | .str _, c, X, W, e, o, f, h => nomatch (show false = true from h)
  | .bl _, c, X, W, e, o, f, h => nomatch (show false = true from h)
  | .non, c, X, W, e, o, f, h => nomatch (show false = true from h)
  | .bin _ _ _, c, X, W, e, o, f, h => nomatch (show false = true from h)
  | .neg _, c, X, W, e, o, f, h => nomatch (show false = true from h)
  | .not _, c, X, W, e, o, f, h => nomatch (show false = true from h)
  | .and _, c, X, W, e, o, f, h => nomatch (show false = true from h)
  | .or _, c, X, W, e, o, f, h => nomatch (show false = true from h)
  | .ife _ _ _, c, X, W, e, o, f, h => nomatch (show false = true from h)
  | .cmp _ _ _, c, X, W, e, o, f, h => nomatch (show false = true from h)
  | .chain _ _ _ _ _, c, X, W, e, o, f, h => nomatch (show false = true from h)
  | .tup _, c, X, W, e, o, f, h => nomatch (show false = true from h)
  | .dct ks vs, c, X, W, e, o, f, h => by
    cases e <;> try (exact nomatch (show false = true from h))
    rename_i kl vl p
    cases kl with
    | cons => exact nomatch (show false = true from h)
    | nil =>
      cases vl with
      | cons => exact nomatch (show false = true from h)
      | nil =>
        have h : ks.isNil = true := h
        have ev : evX G F (.dct ks vs) = M.pure (PV.d (.dct [])) := by
          show (if ks.isNil = true then M.pure (PV.d (.dct [])) else stk) = _
          rw [if_pos h]
        rw [ev]
        exact ⟨pe_imp pe_dnewK tN_dct, fun _ => rfl⟩
  | .new _, c, X, W, e, o, f, h => nomatch (show false = true from h)
  | .idx _ _, c, X, W, e, o, f, h => nomatch (show false = true from h)
  | .sl _ _ _, c, X, W, e, o, f, h => nomatch (show false = true from h)
  | .rev _, c, X, W, e, o, f, h => nomatch (show false = true from h)
  | .attr _ _, c, X, W, e, o, f, h => nomatch (show false = true from h)
  | .call _ _ _, c, X, W, e, o, f, h => nomatch (show false = true from h)
  | .mk _ _, c, X, W, e, o, f, h => nomatch (show false = true from h)
  | .mkN _ _, c, X, W, e, o, f, h => nomatch (show false = true from h)
  | .meth _ _ _ _ _, c, X, W, e, o, f, h => nomatch (show false = true from h)
  | .bi bb es, c, X, W, e, o, f, h => by
    cases e <;> try (exact nomatch (show false = true from h))
    rename_i fn l kw p
    cases fn <;> try (exact nomatch (show false = true from h))
    rename_i x p2
    cases kw with
    | cons => cases l <;> exact nomatch (show false = true from h)
    | nil =>
      cases l with
      | nil => exact nomatch (show false = true from h)
      | cons y l =>
        have h' : ((decide (bb = .list) && decide (x = "list") || decide (bb = .sorted) && decide (x = "sorted")) && glB c.sc x && okXs T N c es (y :: l)) = true := h
        simp only [Bool.and_eq_true, Bool.or_eq_true, decide_eq_true_eq] at h'
        obtain ⟨⟨hb, h3⟩, h4⟩ := h'
        have a := sndPs es (y :: l) o f h4
        cases es with
        | nil => exact nomatch (show false = true from h4)
        | cons e es =>
          have h6 : (okX T N c e y && plainE y && okXs T N c es l) = true := h4
          simp only [Bool.and_eq_true] at h6
          rcases hb with ⟨rfl, rfl⟩ | ⟨rfl, rfl⟩
          · refine ⟨pe_imp (pe_callTy call_list_of (gl_of o.sc h3) (o.blt _ (by decide)) (by decide +kernel) a (by decide) (by decide) (starE h6.1.2) (starAll es l h6.2)) ?_, fun _ => rfl⟩
            rw [o.hK]
            exact tN_list
          · exact ⟨pe_imp (pe_callB (call_srtN o.hK o.un) (gl_of o.sc h3) (o.blt _ (by decide)) (by decide +kernel) a (by decide) (by decide) (starE h6.1.2) (starAll es l h6.2)) tN_sorted, fun _ => rfl⟩
  | .bm _ _ _, c, X, W, e, o, f, h => nomatch (show false = true from h)
  | .mm _ _ _, c, X, W, e, o, f, h => nomatch (show false = true from h)
  | .ext _ _, c, X, W, e, o, f, h => nomatch (show false = true from h)
  | .sdef _ _, c, X, W, e, o, f, h => nomatch (show false = true from h)
  | .rg _ _ _, c, X, W, e, o, f, h => nomatch (show false = true from h)
  | .rg3 _ _ _, c, X, W, e, o, f, h => nomatch (show false = true from h)
  | .isi _ _, c, X, W, e, o, f, h => nomatch (show false = true from h)
  | .bad, c, X, W, e, o, f, h => nomatch (show false = true from h)
theorem sndXs : ∀ (es : Exs) {c : Sx} {X : Cx} {W : WX} (l : List Expr), XOk T N G c X W → FnsH T N G c X F → okXs T N c es l = true → PA X l (tAs N W (evDs G F es))
  | .nil, c, X, W, l, o, f, h => by
    cases l with
    | nil => exact pa_imp pa_nil tAs_nil
    | cons => exact nomatch (show false = true from h)
  | .cons e es, c, X, W, l, o, f, h => by
    cases l with
    | nil => exact nomatch (show false = true from h)
    | cons x l =>
      have h : (okX T N c e x && plainE x && okXs T N c es l) = true := h
      simp only [Bool.and_eq_true] at h
      exact pa_imp (pa_cons (sndX e x o f h.1.1).pe (sndXs es l o f h.2) (starE h.1.2)) tAs_cons
theorem sndPs : ∀ (es : Exs) {c : Sx} {X : Cx} {W : WX} (l : List Expr), XOk T N G c X W → FnsH T N G c X F → okXs T N c es l = true → PA X l (tPs N W (evPs G F es))
  | .nil, c, X, W, l, o, f, h => by
    cases l with
    | nil => exact pa_imp pa_nil tPs_nil
    | cons => exact nomatch (show false = true from h)
  | .cons e es, c, X, W, l, o, f, h => by
    cases l with
    | nil => exact nomatch (show false = true from h)
    | cons x l =>
      have h : (okX T N c e x && plainE x && okXs T N c es l) = true := h
      simp only [Bool.and_eq_true] at h
      exact pa_imp (pa_cons (sndX e x o f h.1.1).pe (sndPs es l o f h.2) (starE h.1.2)) tPs_cons
theorem sndAnd : ∀ (es : Exs) {c : Sx} {X : Cx} {W : WX} (l : List Expr) (p : Pos), XOk T N G c X W → FnsH T N G c X F → okBs T N c es l = true → PE X (.BoolOp .And l p) (tX N W (evAnd G F es)) ∧ PW X (.BoolOp .And l p) (tT N W (M.bind (evAnd G F es) toB))
  | .nil, c, X, W, l, p, o, f, h => by
    refine ⟨⟨fun _ _ σ H Q _ h => ?_⟩, ⟨fun _ _ _ σ H Q _ h => ?_⟩⟩
    · obtain ⟨_, _, _, _, z⟩ := h; exact z.elim
    · obtain ⟨_, _, _, _, z⟩ := h; exact z.elim
  | .cons e es, c, X, W, l, p, o, f, h => by
    cases l with
    | nil => exact nomatch (show false = true from h)
    | cons x l =>
      have h : (okX T N c e x && okBs T N c es l) = true := h
      simp only [Bool.and_eq_true] at h
      have g := sndX e x o f h.1
      cases es with
      | nil =>
        cases l with
        | nil => exact ⟨pe_one g.pe, pw_and1 g.pt⟩
        | cons => exact nomatch (show false = true from h.2)
      | cons e2 es =>
        cases l with
        | nil => exact nomatch (show false = true from h.2)
        | cons y l =>
          obtain ⟨r1, r2⟩ := sndAnd (.cons e2 es) (y :: l) p o f h.2
          refine ⟨pe_imp (pe_and g.pe r1) tX_and, ⟨fun wh pins s σ H Q I hw => ?_⟩⟩
          exact (pw_and g.pt r2).run wh pins s σ H Q I (tT_and σ H Q hw)
theorem sndOr : ∀ (es : Exs) {c : Sx} {X : Cx} {W : WX} (l : List Expr) (p : Pos), XOk T N G c X W → FnsH T N G c X F → okBs T N c es l = true → PE X (.BoolOp .Or l p) (tX N W (evOr G F es)) ∧ PW X (.BoolOp .Or l p) (tT N W (M.bind (evOr G F es) toB))
  | .nil, c, X, W, l, p, o, f, h => by
    refine ⟨⟨fun _ _ σ H Q _ h => ?_⟩, ⟨fun _ _ _ σ H Q _ h => ?_⟩⟩
    · obtain ⟨_, _, _, _, z⟩ := h; exact z.elim
    · obtain ⟨_, _, _, _, z⟩ := h; exact z.elim
  | .cons e es, c, X, W, l, p, o, f, h => by
    cases l with
    | nil => exact nomatch (show false = true from h)
    | cons x l =>
      have h : (okX T N c e x && okBs T N c es l) = true := h
      simp only [Bool.and_eq_true] at h
      have g := sndX e x o f h.1
      cases es with
      | nil =>
        cases l with
        | nil => exact ⟨pe_one g.pe, pw_or1 g.pt⟩
        | cons => exact nomatch (show false = true from h.2)
      | cons e2 es =>
        cases l with
        | nil => exact nomatch (show false = true from h.2)
        | cons y l =>
          obtain ⟨r1, r2⟩ := sndOr (.cons e2 es) (y :: l) p o f h.2
          refine ⟨pe_imp (pe_or g.pe r1) tX_or, ⟨fun wh pins s σ H Q I hw => ?_⟩⟩
          exact (pw_or g.pt r2).run wh pins s σ H Q I (tT_or σ H Q hw)
theorem sndQs : ∀ (es : Exs) {c : Sx} {X : Cx} {W : WX} (l : List Expr), XOk T N G c X W → FnsH T N G c X F → okQs T N c es l = true → PTs X l (tT N W (evQs G F es))
  | .nil, c, X, W, l, o, f, h => by
    cases l with
    | nil => exact ⟨fun pins s σ H Q I hw => pts_nil.run pins s σ H Q I (by obtain ⟨ad, st, FF, R, hg⟩ := hw; exact Gar.pure R hg)⟩
    | cons => exact nomatch (show false = true from h)
  | .cons e es, c, X, W, l, o, f, h => by
    cases es with
    | cons => exact nomatch (show false = true from h)
    | nil =>
      rcases l with _ | ⟨x, _ | ⟨x2, l⟩⟩ <;> try (exact nomatch (show false = true from h))
      have h : okX T N c e x = true := h
      have g := (sndX e x o f h).pt
      have : evQs G F (.cons e .nil) = M.bind (evX G F e) toB := by
        show M.bind (evX G F e) (fun x => M.bind (toB x) fun b => if b then M.pure true else M.pure false) = _
        congr
        funext x
        unfold toB
        split
        · rename_i b; cases b <;> rfl
        · rfl
      rw [this]
      exact pts_one g
theorem sndIt : ∀ (it : Ev.It) {c : Sx} {X : Cx} {W : WX} (t x : Expr), XOk T N G c X W → FnsH T N G c X F → okIt T N c it t x = true → PI X t x (tI N W (evIt G F it))
  | .val e, c, X, W, t, x, o, f, h => by
    have h : (okX T N c e x && noSet x) = true := h
    simp only [Bool.and_eq_true] at h
    exact pi_imp (pi_seq (sndX e x o f h.1).pe) fun σ H R hq => by rw [o.hK]; exact tI_val σ H R hq
  | .rng1 e, c, X, W, t, x, o, f, h => by
    cases x <;> try (exact nomatch (show false = true from h))
    rename_i fn l kw p
    cases fn <;> try (exact nomatch (show false = true from h))
    rename_i r p2
    rcases l with _ | ⟨y, _ | ⟨y2, l⟩⟩ <;> try (cases kw <;> exact nomatch (show false = true from h))
    cases kw with
    | cons => exact nomatch (show false = true from h)
    | nil =>
      have h : (decide (r = "range") && glB c.sc r && okX T N c e y && plainE y) = true := h
      simp only [Bool.and_eq_true, decide_eq_true_eq] at h
      obtain ⟨⟨⟨rfl, h1⟩, h2⟩, h3⟩ := h
      exact pi_imp (pi_range1 (gl_of o.sc h1) (o.blt _ (by decide)) (pa_cons (sndX e y o f h2).pe (pa_nil (X := X)) (starE h3)) (starE h3)) tI_rng1
  | .rng2 a b, c, X, W, t, x, o, f, h => by
    cases x <;> try (exact nomatch (show false = true from h))
    rename_i fn l kw p
    cases fn <;> try (exact nomatch (show false = true from h))
    rename_i r p2
    rcases l with _ | ⟨y, _ | ⟨y2, _ | ⟨y3, l⟩⟩⟩ <;> try (cases kw <;> exact nomatch (show false = true from h))
    cases kw with
    | cons => exact nomatch (show false = true from h)
    | nil =>
      have h : (decide (r = "range") && glB c.sc r && okX T N c a y && plainE y && okX T N c b y2 && plainE y2) = true := h
      simp only [Bool.and_eq_true, decide_eq_true_eq] at h
      obtain ⟨⟨⟨⟨⟨rfl, h1⟩, h2⟩, h3⟩, h4⟩, h5⟩ := h
      exact pi_imp (pi_range2 (gl_of o.sc h1) (o.blt _ (by decide)) (pa_cons (sndX a y o f h2).pe (pa_cons (sndX b y2 o f h4).pe (pa_nil (X := X)) (starE h5)) (starE h3)) (by rw [starE h3, starE h5]; rfl) (starE h5)) tI_rng2
  | .enum e n, c, X, W, t, x, o, f, h => by
    cases t <;> try (exact nomatch (show false = true from h))
    rename_i es kk tp
    cases x <;> try (exact nomatch (show false = true from h))
    rename_i fn l kw p
    cases fn <;> try (exact nomatch (show false = true from h))
    rename_i r p2
    rcases l with _ | ⟨y, _ | ⟨y2, _ | ⟨y3, l⟩⟩⟩ <;> try (cases kw <;> exact nomatch (show false = true from h))
    rotate_right
    · cases y2 <;> try (exact nomatch (show false = true from h))
      rename_i k j cp
      cases k <;> exact nomatch (show false = true from h)
    · cases kw with
      | cons => exact nomatch (show false = true from h)
      | nil =>
        have h : (decide (n = 0) && decide (r = "enumerate") && glB c.sc r && okX T N c e y && plainE y) = true := h
        simp only [Bool.and_eq_true, decide_eq_true_eq] at h
        obtain ⟨⟨⟨⟨rfl, rfl⟩, h1⟩, h2⟩, h3⟩ := h
        exact pi_imp (pi_enum1 (gl_of o.sc h1) (o.blt _ (by decide)) (sndX e y o f h2).pe (starE h3)) fun σ H R hq => by rw [o.hK]; exact tI_enum σ H R hq
    · cases y2 <;> try (cases kw <;> exact nomatch (show false = true from h))
      rename_i k j cp
      cases k <;> try (cases kw <;> exact nomatch (show false = true from h))
      rename_i k
      cases kw with
      | cons => exact nomatch (show false = true from h)
      | nil =>
        have h : (decide (n = k) && decide (0 ≤ n) && decide (n < 1000) && decide (r = "enumerate") && glB c.sc r && okX T N c e y && plainE y) = true := h
        simp only [Bool.and_eq_true, decide_eq_true_eq] at h
        obtain ⟨⟨⟨⟨⟨⟨rfl, q1⟩, q2⟩, rfl⟩, h1⟩, h2⟩, h3⟩ := h
        exact pi_imp (pi_enum2 (gl_of o.sc h1) (o.blt _ (by decide)) (sndX e y o f h2).pe ⟨q1, q2⟩ (starE h3)) fun σ H R hq => by rw [o.hK]; exact tI_enum σ H R hq
  | .zip a b, c, X, W, t, x, o, f, h => by
    cases t <;> try (exact nomatch (show false = true from h))
    rename_i es kk tp
    cases x <;> try (exact nomatch (show false = true from h))
    rename_i fn l kw p
    cases fn <;> try (exact nomatch (show false = true from h))
    rename_i r p2
    rcases l with _ | ⟨y, _ | ⟨y2, _ | ⟨y3, l⟩⟩⟩ <;> try (cases kw <;> exact nomatch (show false = true from h))
    cases kw with
    | cons => exact nomatch (show false = true from h)
    | nil =>
      have h : (decide (r = "zip") && glB c.sc r && okX T N c a y && plainE y && okX T N c b y2 && plainE y2) = true := h
      simp only [Bool.and_eq_true, decide_eq_true_eq] at h
      obtain ⟨⟨⟨⟨⟨rfl, h1⟩, h2⟩, h3⟩, h4⟩, h5⟩ := h
      refine pi_imp (RZ.pi_zipA (gl_of o.sc h1) (o.blt _ (by decide)) (pa_cons (sndX a y o f h2).pe (pa_cons (sndX b y2 o f h4).pe (pa_nil (X := X)) (starE h5)) (starE h3)) (starE h3) ?_) fun σ H R hq => by rw [o.hK]; exact tI_zip σ H R hq
      rw [starE h5]; rfl
  | .rev e, c, X, W, t, x, o, f, h => by
    cases x <;> try (exact nomatch (show false = true from h))
    rename_i fn l kw p
    cases fn <;> try (exact nomatch (show false = true from h))
    rename_i r p2
    rcases l with _ | ⟨y, _ | ⟨y2, l⟩⟩ <;> try (cases kw <;> exact nomatch (show false = true from h))
    cases kw with
    | cons => exact nomatch (show false = true from h)
    | nil =>
      have h : (decide (r = "reversed") && glB c.sc r && okX T N c e y && plainE y) = true := h
      simp only [Bool.and_eq_true, decide_eq_true_eq] at h
      obtain ⟨⟨⟨rfl, h1⟩, h2⟩, h3⟩ := h
      exact pi_imp (RT.pi_revA (gl_of o.sc h1) (o.blt _ (by decide)) (sndX e y o f h2).pe (starE h3)) fun σ H R hq => by rw [o.hK]; exact tI_rev σ H R hq
  | .revr _, c, X, W, t, x, o, f, h => nomatch (show false = true from h)
  | .items _, c, X, W, t, x, o, f, h => nomatch (show false = true from h)
  | .vals _, c, X, W, t, x, o, f, h => nomatch (show false = true from h)
end
end Ev

set_option autoImplicit false
set_option linter.all false
set_option maxRecDepth 100000
set_option maxHeartbeats 1000000
/-! What the core's statements do. -/
namespace Ev
open PySem L2 PyProof.Rows
variable {T : Nam} {N : Nms} {G : Tab} {W : WX} {F : FT}
def GarS (N : Nms) (W : WX) (ad : Nat → Addr) (σ : L2.St) (H : Hp) (s : S) (F : Addr → Prop) (r : Res Ev.Flow) (K : Ev.Flow → S → (Nat → Addr) → L2.St → Hp → Prop) : Prop := match r with
  | .ok a s' => ∀ ad' σ' H', Rel N ad' σ' H' s' F → Post ad σ H s ad' σ' H' s' F → K a s' ad' σ' H'
  | .exc e s' => ∀ cls d ad' σ' H', Rel N ad' σ' H' s' F → Post ad σ H s ad' σ' H' s' F → RepE N s'.cel.length ad' (msk H' (Mk ad' σ' s' F)) H' e cls d → W cls d σ' H'
  | .stk => False
/-- what a flow is to reach -/
def KS (N : Nms) (F : Addr → Prop) (D : Ends) : Ev.Flow → S → (Nat → Addr) → L2.St → Hp → Prop := fun fl s' ad' σ' H' => match fl with
  | .next => D.nx σ' H'
  | .brk => D.bk σ' H'
  | .cont => D.ct σ' H'
  | .ret x => ∀ v, RepD N s'.cel.length ad' (msk H' (Mk ad' σ' s' F)) v x → D.rt v H'
def tS (N : Nms) (W : WX) (m : M Ev.Flow) : TS := fun D σ H => ∃ ad s F, Rel N ad σ H s F ∧ GarS N W ad σ H s F (m s) (KS N F D)
section
variable {ad ad' ad0 : Nat → Addr} {σ σ' σ0 : L2.St} {H H' H0 : Hp} {s s' s0 : S} {F : Addr → Prop} {α β : Type} {K : Ev.Flow → S → (Nat → Addr) → L2.St → Hp → Prop}
theorem GarS.from {r : Res Ev.Flow} (P : Post ad0 σ0 H0 s0 ad σ H s F) (h : GarS N W ad0 σ0 H0 s0 F r K) : GarS N W ad σ H s F r K := by
  cases r with
  | ok a s' => exact fun ad' σ' H' R' P' => h ad' σ' H' R' (P.trans P')
  | exc e s' => exact fun cls d ad' σ' H' R' P' => h cls d ad' σ' H' R' (P.trans P')
  | stk => exact h
theorem GarS.bind {m : M α} {f : α → M Ev.Flow} (h : GarS N W ad σ H s F (M.bind m f s) K) :
    Gar N W ad σ H s F (m s) fun a s' ad' H' => GarS N W ad' σ H' s' F (f a s') K := by
  unfold M.bind at h
  cases hm : m s with
  | ok a s' => rw [hm] at h; exact fun ad' H' R' P' => h.from P'
  | exc e s' => rw [hm] at h; exact fun cls d ad' H' R' P' r => h cls d ad' σ H' R' P' r
  | stk => rw [hm] at h; exact h
theorem GarS.pure {fl : Ev.Flow} (R : Rel N ad σ H s F) (h : GarS N W ad σ H s F (.ok fl s) K) : K fl s ad σ H := h ad σ H R Post.refl
end
/-! ### small statements -/
theorem tS_next {m : M Ev.Flow} (hm : m = M.pure .next) : ∀ D σ H, tS N W m D σ H → tNext D σ H := by
  rintro D σ H ⟨ad, s, F, R, h⟩
  subst hm
  exact GarS.pure R h
theorem tS_brk : ∀ D σ H, tS N W (M.pure .brk) D σ H → tBreak D σ H := by
  rintro D σ H ⟨ad, s, F, R, h⟩
  exact GarS.pure R h
theorem tS_cnt : ∀ D σ H, tS N W (M.pure .cont) D σ H → tCont D σ H := by
  rintro D σ H ⟨ad, s, F, R, h⟩
  exact GarS.pure R h
theorem tS_retN : ∀ D σ H, tS N W (M.pure (.ret .non)) D σ H → tRetN D σ H := by
  rintro D σ H ⟨ad, s, F, R, h⟩
  exact GarS.pure R h _ .non
theorem tS_ret {m : M PV} : ∀ D σ H, tS N W (M.bind m fun x => M.bind x.store fun y => M.pure (.ret y)) D σ H → tRet (tX N W m) D σ H := by
  rintro D σ H ⟨ad, s, F, R, h⟩
  refine ⟨ad, s, F, R, (GarS.bind h).mono fun pv s1 ad1 H1 R1 P1 h1 v rv => ?_⟩
  obtain ⟨d, s', R', P', rd, k⟩ := store_ok R1 rv (GarS.bind h1)
  exact GarS.pure R' k v rd
theorem tS_ex {m : M PV} : ∀ D σ H, tS N W (M.bind m fun _ => M.pure .next) D σ H → tDrop (tX N W m) D σ H := by
  rintro D σ H ⟨ad, s, F, R, h⟩
  exact ⟨ad, s, F, R, (GarS.bind h).mono fun pv s1 ad1 H1 R1 P1 h1 v rv => GarS.pure R1 h1⟩
theorem tS_seq {m1 m2 : M Ev.Flow} : ∀ D σ H, tS N W (fun st => match m1 st with | .ok .next st' => m2 st' | r => r) D σ H → tSeq (tS N W m1) (tS N W m2) D σ H := by
  rintro D σ H ⟨ad, s, F, R, h⟩
  refine ⟨ad, s, F, R, ?_⟩
  have h : GarS N W ad σ H s F (match m1 s with | .ok .next st' => m2 st' | r => r) (KS N F D) := h
  cases hm : m1 s with
  | ok a s' =>
    rw [hm] at h
    cases a with
    | next => exact fun ad' σ' H' R' P' => ⟨ad', s', F, R', h.from P'⟩
    | brk => exact h
    | cont => exact h
    | ret t => exact h
  | exc e s' => rw [hm] at h; exact h
  | stk => rw [hm] at h; exact h
theorem tS_ife {mc : M PV} {ma mb : M Ev.Flow} : ∀ D σ H, tS N W (M.bind mc fun x => M.bind (toB x) fun k => if k then ma else mb) D σ H → tIfS (tT N W (M.bind mc toB)) (tS N W ma) (tS N W mb) D σ H := by
  rintro D σ H ⟨ad, s, F, R, h⟩
  refine ⟨ad, s, F, R, ?_⟩
  have e : (M.bind mc fun x => M.bind (toB x) fun k => if k then ma else mb) = M.bind (M.bind mc toB) fun k => if k then ma else mb := (bind_assoc _ _ _).symm
  rw [e] at h
  refine (GarS.bind h).mono fun b s1 ad1 H1 R1 P1 h1 => ?_
  cases b with
  | true => exact ⟨ad1, s1, F, R1, h1⟩
  | false => exact ⟨ad1, s1, F, R1, h1⟩
theorem tS_asg {m : M PV} {t : Tg} : ∀ D σ H, tS N W (M.bind m fun x => M.bind x.store fun y => bindM t y) D σ H → tAsg (tX N W m) (gTg N.K t) D σ H := by
  rintro D σ H ⟨ad, s, F, R, h⟩
  refine ⟨ad, s, F, R, (GarS.bind h).mono fun pv s1 ad1 H1 R1 P1 h1 v rv => ?_⟩
  obtain ⟨d, s', R', P', rd, k⟩ := store_ok R1 rv (GarS.bind h1)
  have k : GarS N W ad1 σ H1 s' F (bindM t d s') (KS N F D) := k
  unfold bindM at k
  cases hb : bindT t d s' with
  | none => rw [hb] at k; exact k.elim
  | some s2 =>
    rw [hb] at k
    exact bind_ok t d v (vs := tgSl t) (fun _ h => h) hb R' rd fun σ1 R2 P2 _ => k ad1 σ1 H1 R2 P2
theorem tS_asgO {m : M PV} {i : Nat} : ∀ D σ H, tS N W (M.bind m fun x => asgOM i x) D σ H → tAsg (tN N W m) (gName i) D σ H := by
  rintro D σ H ⟨ad, s, F, R, h⟩
  refine ⟨ad, s, F, R, ?_⟩
  have h : GarS N W ad σ H s F (M.bind m (fun x => asgOM i x) s) (KS N F D) := h
  unfold M.bind at h
  cases hm : m s with
  | stk => rw [hm] at h; exact h
  | exc e s' => rw [hm] at h; exact fun cls d ad' H' R' P' r => h cls d ad' σ H' R' P' r
  | ok pv s' =>
    rw [hm] at h
    intro ad' H' p R' P' c hc ok
    have h : GarS N W ad σ H s F (asgOM i pv s') (KS N F D) := h
    unfold asgOM at h
    rw [hc] at h
    simp only at h
    split at h
    · rename_i hi
      obtain ⟨R2, P2⟩ := Rel.setOwn P' R' hi ok
      exact h ad' _ H' R2 P2
    · exact h.elim
theorem tS_asgI {m mo mi : M PV} : ∀ D σ H, tS N W (M.bind m fun t => M.bind t.store fun t => M.bind mo fun x => M.bind mi fun y => asgIM x y t) D σ H → tAsg (tX N W m) (gSub (tX N W mo) (tX N W mi) rSetL) D σ H := by
  rintro D σ H ⟨ad, s, F, R, h⟩
  refine ⟨ad, s, F, R, (GarS.bind h).mono fun pv s1 ad1 H1 R1 P1 h1 v rv => ?_⟩
  obtain ⟨d, s', R', P', rd, k⟩ := store_ok R1 rv (GarS.bind h1)
  refine ⟨ad1, s', F, R', (GarS.bind k).mono fun po s2 ad2 H2 R2 P2 h2 o ro => ?_⟩
  refine ⟨ad2, s2, F, R2, (GarS.bind h2).mono fun pi s3 ad3 H3 R3 P3 h3 i ri => ?_⟩
  have h3 : GarS N W ad3 σ H3 s3 F (asgIM po pi d s3) (KS N F D) := h3
  have ro3 := ro.post P3
  have rd3 := P3.rep (P2.rep rd)
  unfold asgIM at h3
  cases hl : po.lo with
  | none => rw [hl] at h3; exact h3.elim
  | some l =>
    rw [hl] at h3
    cases hv : pi.val s3 with
    | none => rw [hv] at h3; exact h3.elim
    | some y =>
      rw [hv] at h3
      simp only at h3
      split at h3
      · rename_i ts j hg
        have hg : s3.get l = some (.lst ts) := hg
        cases hn : Ev.ixN ts.length j with
        | none => rw [hn] at h3; exact h3.elim
        | some n =>
          rw [hn] at h3
          obtain ⟨a, rfl, e, xs, hx, rx⟩ := lst_at R3 ro3 hl hg
          have rj := (ri.val R3 hv).intI
          subst rj
          obtain ⟨R4, P4⟩ := R3.put (o := .lst (xs.set n v)) (c := .lst (ts.set n d)) hg e ⟨_, upd_same, rx.set rd3 n⟩
          refine ⟨a, xs, j, n, rfl, rfl, hx, ?_, h3 ad3 σ _ R4 P4⟩
          rw [← ixN_L2, rx.length]; exact hn
      · exact h3.elim
theorem tS_asgF {K : PySem.W.Frag} (hK : K = N.K) (inj : ∀ f g, N.nm f = N.nm g → f = g) {f : Nat} (cls : ∀ k, k < G.ncls ∧ G.isf k f = true → Cls N.K (N.cl k) ∧ NoAttr N.K (N.cl k) (N.nm f)) {m mo : M PV} : ∀ D σ H, tS N W (M.bind m fun t => M.bind t.store fun t => M.bind mo fun x => asgFM G x f t) D σ H → sFld K (tX N W mo) (tX N W m) (N.nm f) D σ H := by
  subst hK
  rintro D σ H ⟨ad, s, F, R, h⟩
  refine ⟨ad, s, F, R, (GarS.bind h).mono fun pv s1 ad1 H1 R1 P1 h1 v rv => ?_⟩
  obtain ⟨d, s', R', P', rd, k⟩ := store_ok R1 rv (GarS.bind h1)
  refine ⟨ad1, s', F, R', (GarS.bind k).mono fun po s2 ad2 H2 R2 P2 h2 o ro => ?_⟩
  have h2 : GarS N W ad2 σ H2 s2 F (asgFM G po f d s2) (KS N F D) := h2
  unfold asgFM at h2
  cases hl : po.lo with
  | none => rw [hl] at h2; exact h2.elim
  | some l =>
    rw [hl] at h2
    simp only at h2
    split at h2
    · rename_i c fs hg
      split at h2
      · rename_i hc
        obtain ⟨a, rfl, e, dx, fv, hx, rf⟩ := lst_at R2 ro hl hg
        obtain ⟨R4, P4⟩ := R2.put (o := .ins (N.cl c) dx (putF (N.nm f) v fv)) (c := .obj c (fldPut f d fs)) hg e ⟨dx, _, upd_same, rf.put inj (P2.rep rd)⟩
        exact ⟨a, _, dx, fv, rfl, hx, (cls c hc.1).1, (cls c hc.1).2, by rw [rf.length]; exact hc.2, h2 ad2 σ _ R4 P4⟩
      · exact h2.elim
    · exact h2.elim
theorem tS_aug {m : M PV} {i : Nat} {op : Op} {f : Int → Int → Int} (hf : ∀ x y z, augI op x y = some z → ∃ a b, x = .int a ∧ y = .d (.int b) ∧ z = .int (f a b)) : ∀ D σ H, tS N W (M.bind (augV i) fun x => M.bind m fun y => augB i op x y) D σ H → tAug i (tX N W m) (ipI f) D σ H := by
  rintro D σ H ⟨ad, s, F, R, h⟩
  have h0 := GarS.bind h
  unfold augV at h0
  cases hl : s.loc1 i with
  | none => rw [hl] at h0; exact h0.elim
  | some lv =>
    rw [hl] at h0
    cases lv with
    | own c => exact h0.elim
    | d x =>
      obtain ⟨v, e, r⟩ := R.dat i x (loc1_some.mp hl)
      refine ⟨v, e, ad, s, F, R, ?_⟩
      have h1 : GarS N W ad σ H s F (M.bind m (fun y => augB i op x y) s) (KS N F D) := by
        cases x <;> first | exact h0.elim | exact Gar.pure R h0
      refine (GarS.bind h1).mono fun pv s1 ad1 H1 R1 P1 h1 w rw' => ?_
      have h1 : GarS N W ad1 σ H1 s1 F (augB i op x pv s1) (KS N F D) := h1
      unfold augB at h1
      cases ha : augI op x pv with
      | none => rw [ha] at h1; exact h1.elim
      | some z =>
        rw [ha] at h1
        obtain ⟨a, b, rfl, rfl, rfl⟩ := hf _ _ _ ha
        cases r
        cases rw'
        obtain ⟨R2, P2⟩ := R1.setD i (v := .int (f a b)) (d := .int (f a b)) (.int _)
        exact ⟨a, b, rfl, rfl, h1 ad1 _ H1 R2 P2⟩
theorem aug_add : ∀ x y z, augI .add x y = some z → ∃ a b, x = .int a ∧ y = .d (.int b) ∧ z = .int (a + b) := fun x y z h => by
  unfold augI at h
  split at h <;> cases h
  · exact ⟨_, _, rfl, rfl, rfl⟩
  · rename_i h; cases h
theorem aug_sub : ∀ x y z, augI .sub x y = some z → ∃ a b, x = .int a ∧ y = .d (.int b) ∧ z = .int (a - b) := fun x y z h => by
  unfold augI at h
  split at h <;> cases h
  · rename_i h; cases h
  · exact ⟨_, _, rfl, rfl, rfl⟩
theorem augIV_inv {x n : PV} {s : S} (h : augIV x n s ≠ .stk) : ∃ ts i a, x.val s = some (.lst ts) ∧ n = .d (.int i) ∧ pickI ts i = some (.int a) ∧ augIV x n s = .ok (.int a) s := by
  unfold augIV at h ⊢
  split at h
  · rename_i e1
    split at h
    · rename_i e2
      exact ⟨_, _, _, e1, rfl, e2, by simp only [e1, e2]⟩
    · exact absurd rfl h
  · exact absurd rfl h
theorem tS_augI {K : PySem.W.Frag} (hK : K = N.K) {m mo mi : M PV} {op : Op} {f : Int → Int → Int} (hf : ∀ a y z, binF op (.int a) y = some z → ∃ b, y = .int b ∧ z = .int (f a b)) : ∀ D σ H, tS N W (M.bind mo fun x => M.bind mi fun n => M.bind (augIV x n) fun a => M.bind m fun y => M.bind (augOp op a y) fun z => asgIM x n z) D σ H →
    tAugS (tX N W mo) (tX N W mi) (tX N W m) (rIxL K) (ipI f) rSetL D σ H := by
  subst hK
  rintro D σ H ⟨ad, s, F, R, h⟩
  refine ⟨ad, s, F, R, (GarS.bind h).mono fun po s1 ad1 H1 R1 P1 h1 o ro => ?_⟩
  refine ⟨ad1, s1, F, R1, (GarS.bind h1).mono fun pi s2 ad2 H2 R2 P2 h2 i ri => ?_⟩
  have ro2 := ro.post P2
  have h2 := GarS.bind h2
  by_cases hs : augIV po pi s2 = .stk
  · rw [hs] at h2; exact h2.elim
  obtain ⟨ts, i0, a, e1, rfl, e3, e4⟩ := augIV_inv hs
  rw [e4] at h2
  have h2 := Gar.pure R2 h2
  cases ri
  obtain ⟨p, xs, rfl, sa, da⟩ := (ro2.val R2 e1).lstI
  unfold pickI at e3
  cases hp : Ev.ixN ts.length i0 with
  | none => rw [hp] at e3; cases e3
  | some j =>
    rw [hp] at e3
    obtain ⟨w, ew, rw'⟩ := da.get e3
    cases rw'
    refine ⟨p, xs, i0, .int a, rfl, rfl, sa, ?_, ad2, s2, F, R2, (GarS.bind h2).mono fun py s3 ad3 H3 R3 P3 h3 y ry => ?_⟩
    · unfold atI
      rw [← ixN_L2, da.length, hp]
      exact ew
    have h3 := GarS.bind h3
    cases py with
    | own q => exact h3.elim
    | d yd =>
      obtain ⟨z, hz, h3⟩ := of_inv R3 (show Gar N W ad3 σ H3 s3 F (M.of (binF op (.int a) yd) s3) _ from h3)
      obtain ⟨b, rfl, rfl⟩ := hf _ _ _ hz
      cases ry
      refine ⟨a, b, rfl, rfl, ?_⟩
      have h3 : GarS N W ad3 σ H3 s3 F (asgIM po (.d (.int i0)) (.int (f a b)) s3) (KS N F D) := h3
      have ro3 := ro2.post P3
      unfold asgIM at h3
      cases hl : po.lo with
      | none => rw [hl] at h3; exact h3.elim
      | some l =>
        rw [hl] at h3
        simp only [PV.val] at h3
        split at h3
        · rename_i ts' j' hg hj
          cases hj
          have hg : s3.get l = some (.lst ts') := hg
          cases hn : Ev.ixN ts'.length i0 with
          | none => rw [hn] at h3; exact h3.elim
          | some n =>
            rw [hn] at h3
            obtain ⟨a', e', e, xs', hx, rx⟩ := lst_at R3 ro3 hl hg
            cases e'
            obtain ⟨R4, P4⟩ := R3.put (o := .lst (xs'.set n (.int (f a b)))) (c := .lst (ts'.set n (.int (f a b)))) hg e ⟨_, upd_same, rx.set (.int _) n⟩
            refine ⟨p, xs', i0, n, rfl, rfl, hx, ?_, h3 ad3 σ _ R4 P4⟩
            rw [← ixN_L2, rx.length]; exact hn
        · exact h3.elim
theorem bin_add : ∀ a y z, binF .add (.int a) y = some z → ∃ b, y = .int b ∧ z = .int (a + b) := fun a y z h => by
  cases y <;> simp only [binF] at h <;> cases h
  exact ⟨_, rfl, rfl⟩
theorem bin_sub : ∀ a y z, binF .sub (.int a) y = some z → ∃ b, y = .int b ∧ z = .int (a - b) := fun a y z h => by
  cases y <;> simp only [binF] at h <;> cases h
  exact ⟨_, rfl, rfl⟩
theorem get_list {X : Cx} : PGet X (rIxL X.K) := by
  intro pins s σ H x y v u Q I rx ry h
  obtain ⟨p, xs, i, z, rfl, rfl, hq, he, q⟩ := h
  cases rx
  obtain ⟨t, rfl⟩ := ry
  obtain ⟨its, r, pl, hz⟩ := I.list hq
  obtain ⟨j, h1, h2, h3, h4, h5⟩ := atI_get he
  obtain ⟨w, ew, rw'⟩ := r.get h2
  have hl := r.length
  have hn := line63
  have fin : EP X pins σ Q w s := ⟨z, H, I, rw', q⟩
  by_cases h0 : 0 ≤ i
  · have hj : i.toNat = j := by
      rw [seqIndex_of h0 h5] at h1
      exact Option.some.inj h1
    exact wpAny_getItem_list pl.isList h0 (by omega) (by rw [hj]; simpa using ew) fin
  · have hj : (i + (its.toArray.size : Int)).toNat = j := by
      rw [seqIndex_neg (by omega) h4] at h1
      rw [List.size_toArray, ← hl]
      exact Option.some.inj h1
    exact wpAny_getItem_list_neg pl.isList (by omega) (by rw [List.size_toArray] <;> omega) (by omega) (by rw [hj]; simpa using ew) fin
/-! ### loops -/
section
variable {tg : Tg} {bd : M Ev.Flow} {kl : List Nat} {ad : Nat → Addr} {σ : L2.St} {H : Hp} {s : S} {F : Addr → Prop} {D : Ends}
/-- one turn -/
theorem turn_ok {x : Ev.D} {v : V} {k : S → Res Ev.Flow} {Pv : L2.St → Hp → Prop} (R : Rel N ad σ H s F) (r : RepD N s.cel.length ad (msk H (Mk ad σ s F)) v x)
    (h : GarS N W ad σ H s F (match turnM tg bd x s with
      | .ok .next s' | .ok .cont s' => k (wipe kl s')
      | .ok .brk s' => .ok .next (wipe kl s')
      | .ok (.ret t) s' => .ok (.ret t) s'
      | .exc e s' => .exc e s'
      | .stk => .stk) (KS N F D))
    (hk : ∀ ad' σ' H' s', Rel N ad' σ' H' s' F → Post ad σ H s ad' σ' H' s' F → GarS N W ad' σ' H' s' F (k s') (KS N F D) → Pv σ' H') :
    gTg N.K tg v σ H fun σ2 H2 => tS N W bd { D with nx := Pv, ct := Pv, bk := D.nx } σ2 H2 := by
  unfold turnM at h
  cases hb : bindT tg x s with
  | none => rw [hb] at h; exact h.elim
  | some s1 =>
    rw [hb] at h
    simp only at h
    refine bind_ok tg x v (vs := tgSl tg) (fun _ h => h) hb R r fun σ1 R1 P1 _ => ⟨ad, s1, F, R1, ?_⟩
    cases hm : bd s1 with
    | stk => rw [hm] at h; exact h
    | exc e s2 => rw [hm] at h; exact fun cls d ad' σ' H' R' P' => h cls d ad' σ' H' R' (P1.trans P')
    | ok fl s2 =>
      rw [hm] at h
      intro ad' σ' H' R' P'
      cases fl with
      | next =>
        obtain ⟨R2, P2⟩ := R'.wipe kl
        exact hk ad' σ' H' _ R2 ((P1.trans P').trans P2) (h.from ((P1.trans P').trans P2))
      | cont =>
        obtain ⟨R2, P2⟩ := R'.wipe kl
        exact hk ad' σ' H' _ R2 ((P1.trans P').trans P2) (h.from ((P1.trans P').trans P2))
      | brk =>
        obtain ⟨R2, P2⟩ := R'.wipe kl
        exact h ad' σ' H' R2 ((P1.trans P').trans P2)
      | ret t => exact h ad' σ' H' R' (P1.trans P')
theorem for_core {J : L2.It} {ds : List Ev.D} (R : Rel N ad σ H s F) (wk : Wlk N s.cel.length ad (msk H (Mk ad σ s F)) J ds) (h : GarS N W ad σ H s F (loopF (turnM tg bd) kl ds s) (KS N F D)) :
    ∃ Wm : Nat → Nat → L2.St → Hp → Prop, (∃ m, Wm 0 m σ H) ∧ ∀ i m σ H, Wm i m σ H →
      (J.stop i H ∧ D.nx σ H) ∨ (J.go i H ∧ ∃ Nx : L2.St → Hp → Prop, (∀ σ' H', Nx σ' H' → ∃ m', m' < m ∧ Wm (i + 1) m' σ' H') ∧ ∀ x H', J.yld i H x H' → gTg N.K tg x σ H' fun σ2 H2 => tS N W bd { D with nx := Nx, ct := Nx, bk := D.nx } σ2 H2) := by
  obtain ⟨g, Y, w, hg, hY⟩ := wk
  refine for_it w (fun i σ' H' => ∃ ad' s', Rel N ad' σ' H' s' F ∧ Post ad σ H s ad' σ' H' s' F ∧ GarS N W ad' σ' H' s' F (loopF (turnM tg bd) kl (ds.drop i) s') (KS N F D))
    ⟨ad, s, R, Post.refl, h⟩ (fun i σ' H' _ ⟨ad', s', R', P', _⟩ => hg _ (P'.sm.trans sm_le)) ?_ ?_
  · rintro i x σ1 H1 H2 hi ⟨ad1, s1, R1, P1, h1⟩ y
    obtain ⟨d, hd, sm, rd⟩ := hY i H1 x H2 y _ _ _ P1.len P1.agr P1.sm fun p m => R1.masked m
    have e : ds.drop i = d :: ds.drop (i + 1) := by
      have hlt := (List.getElem?_eq_some_iff.mp hd).1
      rw [List.drop_eq_getElem_cons hlt]
      congr 1
      have := List.getElem?_eq_getElem hlt
      rw [hd] at this; cases this; rfl
    rw [e] at h1
    exact turn_ok (R1.grow sm) rd (h1.from (.grow R1 sm)) fun ad' σ' H' s' R' P' k => ⟨ad', s', R', (P1.trans (.grow R1 sm)).trans P', k⟩
  · rintro σ' H' ⟨ad', s', R', P', h'⟩
    rw [List.drop_length] at h'
    obtain ⟨R2, P2⟩ := R'.wipe kl
    exact h' ad' σ' H' R2 P2
/-- over a list of the store -/
theorem forR_core {k n : Nat} {a : Addr} (R : Rel N ad σ H s F) (hk : k < s.cel.length) (ha : ad k = a) (h : GarS N W ad σ H s F (loopR (turnM tg bd) kl k n 0 n s) (KS N F D)) :
    ∃ Wm : Nat → Nat → L2.St → Hp → Prop, (∃ m, Wm 0 m σ H) ∧ ∀ i m σ H, Wm i m σ H →
      ((Itl N.K a).stop i H ∧ D.nx σ H) ∨ ((Itl N.K a).go i H ∧ ∃ Nx : L2.St → Hp → Prop, (∀ σ' H', Nx σ' H' → ∃ m', m' < m ∧ Wm (i + 1) m' σ' H') ∧ ∀ x H', (Itl N.K a).yld i H x H' → gTg N.K tg x σ H' fun σ2 H2 => tS N W bd { D with nx := Nx, ct := Nx, bk := D.nx } σ2 H2) := by
  refine ⟨fun i m σ' H' => i + m = n ∧ ∃ ad' s', Rel N ad' σ' H' s' F ∧ Post ad σ H s ad' σ' H' s' F ∧ GarS N W ad' σ' H' s' F (loopR (turnM tg bd) kl k n i m s') (KS N F D), ⟨n, by simp, ad, s, R, Post.refl, h⟩, ?_⟩
  rintro i m σ1 H1 ⟨him, ad1, s1, R1, P1, h1⟩
  have at1 : ad1 k = a := (P1.agr k hk).trans ha
  have lst : ∀ xs, s1.cel[k]? = some (.lst xs) → ∃ vs, H1 a = some (.lst vs) ∧ RepDs N s1.cel.length ad1 (msk H1 (Mk ad1 σ1 s1 F)) vs xs := fun xs hc => by
    obtain ⟨a', e, vs, e2, r⟩ := R1.own (.id k) _ hc
    have e : some (ad1 k) = some a' := e
    rw [at1] at e; cases e
    exact ⟨vs, e2, r⟩
  cases m with
  | zero =>
    unfold loopR at h1
    split at h1
    · rename_i xs hc
      split at h1
      · rename_i hn
        obtain ⟨vs, e2, r⟩ := lst xs hc
        obtain ⟨R2, P2⟩ := R1.wipe kl
        exact .inl ⟨⟨vs, SqL.of e2, by rw [r.length, hn.1, hn.2]; exact Nat.le_refl _⟩, h1 ad1 σ1 H1 R2 P2⟩
      · exact h1.elim
    · exact h1.elim
  | succ m =>
    unfold loopR at h1
    split at h1
    · rename_i xs hc
      split at h1
      · rename_i hn
        obtain ⟨vs, e2, r⟩ := lst xs hc
        cases hx : xs[i]? with
        | none => rw [hx] at h1; exact h1.elim
        | some x =>
          rw [hx] at h1
          simp only at h1
          obtain ⟨v, ev, rv⟩ := r.get hx
          refine .inr ⟨⟨vs, v, SqL.of e2, ev⟩, fun σ' H' => i + 1 + m = n ∧ ∃ ad' s', Rel N ad' σ' H' s' F ∧ Post ad σ H s ad' σ' H' s' F ∧ GarS N W ad' σ' H' s' F (loopR (turnM tg bd) kl k n (i + 1) m s') (KS N F D), fun σ' H' q => ⟨m, Nat.lt_succ_self m, q⟩, fun x2 H2 y => ?_⟩
          obtain ⟨rfl, y⟩ := y
          have e3 := y vs (SqL.of e2)
          rw [ev] at e3; cases e3
          exact turn_ok R1 rv h1 fun ad' σ' H' s' R' P' k => ⟨by omega, ad', s', R', P1.trans P', k⟩
      · exact h1.elim
    · exact h1.elim
end
theorem tS_for {mi : M (List Ev.D)} {tg : Tg} {bd : M Ev.Flow} {kl : List Nat} : ∀ D σ H, tS N W (M.bind mi fun l => loopF (turnM tg bd) kl l) D σ H → tFor (tI N W mi) (gTg N.K tg) (tS N W bd) D σ H := by
  rintro D σ H ⟨ad, s, F, R, h⟩
  exact ⟨ad, s, F, R, (GarS.bind h).mono fun ds s1 ad1 H1 R1 P1 h1 J wk => for_core R1 wk h1⟩
theorem tS_forV {m : M PV} {tg : Tg} {bd : M Ev.Flow} {kl : List Nat} : ∀ D σ H, tS N W (M.bind m fun x => M.bind (walk x) fun wk => loopA (turnM tg bd) kl wk) D σ H →
    tFor (fun σ H R => (tX N W m) σ H fun x H1 => ∃ a xs, x = .ref a ∧ ((SqL N.K H1 a xs ∧ R (Itl N.K a) H1) ∨ (SqT N.K H1 a xs ∧ R (Itt N.K a) H1))) (gTg N.K tg) (tS N W bd) D σ H := by
  rintro D σ H ⟨ad, s, F, R, h⟩
  refine ⟨ad, s, F, R, (GarS.bind h).mono fun pv s1 ad1 H1 R1 P1 h1 v rv => ?_⟩
  by_cases hne : ∃ k, pv = .d (.ref k)
  · obtain ⟨k, rfl⟩ := hne
    have hw := GarS.bind h1
    unfold walk at hw
    simp only at hw
    split at hw
    · rename_i xs hc
      have k2 := Gar.pure R1 hw
      have rv : RepD N s1.cel.length ad1 (msk H1 (Mk ad1 σ s1 F)) v (.ref k) := rv
      cases rv with
      | ref hk =>
        obtain ⟨a', e, vs, e2, r⟩ := R1.own (.id k) _ hc
        have e : some (ad1 k) = some a' := e
        cases e
        exact ⟨_, vs, rfl, .inl ⟨SqL.of e2, forR_core R1 hk rfl k2⟩⟩
    · exact hw.elim
  · have e : walk pv = M.bind pv.store fun x => M.of (x.items.map .xs) := by
      unfold walk
      split
      · rename_i k; exact absurd ⟨k, rfl⟩ hne
      · rfl
    rw [e] at h1
    obtain ⟨d, s', R', P', rd, k⟩ := store_ok R1 rv (Gar.bind (GarS.bind h1))
    obtain ⟨wk, ew, k⟩ := of_inv R' k
    cases d with
    | lst ds =>
      cases ew
      cases rd with
      | lst q1 q2 => exact ⟨_, _, rfl, .inl ⟨SqL.sm sm_le q1, for_core R' (wlk_list q1 q2) k⟩⟩
    | tup ds =>
      cases ew
      cases rd with
      | tup q1 q2 => exact ⟨_, _, rfl, .inr ⟨SqT.sm sm_le q1, for_core R' (wlk_tup q1 q2) k⟩⟩
    | _ => cases ew
theorem tS_whl {mc : M Bool} {bd : M Ev.Flow} {kl : List Nat} {n : Nat} : ∀ D σ H, tS N W (loopW mc bd kl n) D σ H → tWhile (tT N W mc) (tS N W bd) D σ H := by
  rintro D σ H ⟨ad, s, F, R, h⟩
  refine ⟨fun m σ' H' => ∃ ad' s', Rel N ad' σ' H' s' F ∧ GarS N W ad' σ' H' s' F (loopW mc bd kl m s') (KS N F D), ⟨n, ad, s, R, h⟩, ?_⟩
  rintro m σ1 H1 ⟨ad1, s1, R1, h1⟩
  refine ⟨ad1, s1, F, R1, ?_⟩
  cases m with
  | zero => exact h1.elim
  | succ m =>
    unfold loopW at h1
    cases hc : mc s1 with
    | stk => rw [hc] at h1; exact h1
    | exc e s2 => rw [hc] at h1; exact fun cls d ad' H' R' P' r => h1 cls d ad' σ1 H' R' P' r
    | ok b s2 =>
      rw [hc] at h1
      intro ad2 H2 R2 P2
      cases b with
      | false => exact h1 ad2 σ1 H2 R2 P2
      | true =>
        rw [if_pos rfl]
        refine ⟨fun σ' H' => ∃ ad' s', Rel N ad' σ' H' s' F ∧ GarS N W ad' σ' H' s' F (loopW mc bd kl m s') (KS N F D), fun σ' H' q => ⟨m, Nat.lt_succ_self m, q⟩, ad2, s2, F, R2, ?_⟩
        simp only at h1
        cases hm : bd s2 with
        | stk => rw [hm] at h1; exact h1
        | exc e s3 => rw [hm] at h1; exact fun cls d ad' σ' H' R' P' => h1 cls d ad' σ' H' R' (P2.trans P')
        | ok fl s3 =>
          rw [hm] at h1
          intro ad' σ' H' R' P'
          cases fl with
          | next =>
            obtain ⟨R3, P3⟩ := R'.wipe kl
            exact ⟨ad', _, R3, h1.from ((P2.trans P').trans P3)⟩
          | cont =>
            obtain ⟨R3, P3⟩ := R'.wipe kl
            exact ⟨ad', _, R3, h1.from ((P2.trans P').trans P3)⟩
          | brk =>
            obtain ⟨R3, P3⟩ := R'.wipe kl
            exact h1 ad' σ' H' R3 ((P2.trans P').trans P3)
          | ret t => exact h1 ad' σ' H' R' (P2.trans P')
end Ev

set_option autoImplicit false
set_option linter.all false
set_option maxRecDepth 100000
set_option maxHeartbeats 1000000
/-! Exceptions: raise X(), try .. except X. -/
namespace Ev
open PySem L2 PyProof.Rows
variable {T : Nam} {N : Nms} {G : Tab} {W : WX} {F : FT}
/-- X(), X an own class of exceptions without an __init__ of its own -/
theorem pmk_own0 {X : Cx} {C : Addr} {x : Str} {p pos : Pos} (q : ExcP X.K C) (gC : X.mg x = some (.ref C)) (hg : Gl X x) (hdb : (x == ("__debug__" : Str)) = false) : PMk X (.Call (.Name x p) [] [] pos) (fun _ H Q => Q (.ref C) none H) := by
  intro pins s σ H Q I h
  refine wpAny_Call_Name_kw (ld_glob I hg gC ?_ hdb)
  refine PySem.W.callWith_K0 I.kIn q.kp ?_
  obtain ⟨bm, N, nm, qn, bs, hdct, sn, sub, ab, col, dd, k0, k1, k2, k3, k5, mN, hC, hN, hni, TT⟩ := exc_obj I.kIn q.ex
  refine wpAny_call_exc_subT F.excBase_ValueError TT hC hN hni (fun h' e hm => ?_) (by show 0 ≤ sizeLine; exact Nat.zero_le _)
  exact mk_of I hm (raises_own q.sb q.ty) h (I.hok.gone hm.new)
theorem tS_rais {c : Nat} {es : Exs} {C : Addr} (hes : es = .nil) (hC : C = N.cl c) : ∀ D σ H, tS N W (M.bind (evDs G F es) (raisM G c)) D σ H → G.exf c = some [] ∧ W (.ref C) none σ H := by
  rintro D σ H ⟨ad, s, FF, R, h⟩
  subst hes hC
  have h : GarS N W ad σ H s FF (raisM G c [] s) (KS N FF D) := h
  unfold raisM at h
  cases he : G.exf c with
  | none => rw [he] at h; exact h.elim
  | some fs =>
    rw [he] at h
    cases fs with
    | nil => exact ⟨rfl, h (.ref (N.cl c)) none ad σ H R Post.refl ⟨rfl, .inl rfl⟩⟩
    | cons => exact h.elim
/-- the clauses, as they are read -/
def hdL (N : Nms) (G : Tab) (F : FT) : Hds → List (Value × (Addr → Value → Option Addr → TS))
  | .nil => []
  | .cons k _ b r => (.ref (N.cl k), fun _ _ _ => tS N Wf (evSs G F b)) :: hdL N G F r
def hdK : Hds → List Nat
  | .nil => []
  | .cons k _ _ r => k :: hdK r
def hdN : Hds → Bool
  | .nil => true
  | .cons _ bd _ r => bd.isNone && hdN r
theorem many_ok {K : PySem.W.Frag} {ad ad' : Nat → Addr} {σ σ' : L2.St} {H H' : Hp} {s s' : S} {FF : Addr → Prop} {D : Ends} {e : Exc} {d : Option Addr} (R' : Rel N ad' σ' H' s' FF) (P' : Post ad σ H s ad' σ' H' s' FF) (re : RepE N s'.cel.length ad' (msk H' (Mk ad' σ' s' FF)) H' e (.ref (N.cl e.c)) d) :
    ∀ (hs : Hds), hdN hs = true → (∀ k ∈ hdK hs, ∀ j, (G.exf j).isSome = true → PySem.W.exmOne K (.ref (N.cl j)) (.ref (N.cl k)) = some (G.sub j k)) → GarS N W ad σ H s FF (evHs G F hs e s') (KS N FF D) → wMany K W D (hdL N G F hs) (.ref (N.cl e.c)) d σ' H'
  | .nil, _, _, h => h _ d ad' σ' H' R' P' re
  | .cons k bd b r, hn, hm, h => by
    cases bd with
    | some => exact nomatch (show false = true from hn)
    | none =>
      have hn : hdN r = true := hn
      have h : GarS N W ad σ H s FF ((if (G.exf e.c).isSome = true then (if G.sub e.c k = true then noX (evSs G F b) else evHs G F r e) else stk : M Ev.Flow) s') (KS N FF D) := h
      by_cases he : (G.exf e.c).isSome = true
      · rw [if_pos he] at h
        refine ⟨_, hm k (List.mem_cons_self ..) e.c he, fun hb x _ => ?_, fun hb => ?_⟩
        · rw [if_pos hb] at h
          refine ⟨ad', s', FF, R', ?_⟩
          unfold noX at h
          cases hq : evSs G F b s' with
          | ok f s2 =>
            rw [hq] at h
            exact fun ad2 σ2 H2 R2 P2 => h ad2 σ2 H2 R2 (P'.trans P2)
          | exc e2 s2 => rw [hq] at h; exact h.elim
          | stk => rw [hq] at h; exact h
        · rw [if_neg (by rw [hb]; simp)] at h
          exact many_ok R' P' re r hn (fun k hk => hm k (List.mem_cons_of_mem _ hk)) h
      · rw [if_neg he] at h
        exact h.elim
theorem tS_tryx {K : PySem.W.Frag} {a : Sts} {hs : Hds} (hn : hdN hs = true) (hm : ∀ k ∈ hdK hs, ∀ j, (G.exf j).isSome = true → PySem.W.exmOne K (.ref (N.cl j)) (.ref (N.cl k)) = some (G.sub j k)) :
    ∀ D σ H, tS N W (evS G F (.tryx a hs)) D σ H → tS N (wMany K W D (hdL N G F hs)) (evSs G F a) D σ H := by
  rintro D σ H ⟨ad, s, FF, R, h⟩
  refine ⟨ad, s, FF, R, ?_⟩
  have h : GarS N W ad σ H s FF (match evSs G F a s with
    | .exc e s' => evHs G F hs e s'
    | r => r) (KS N FF D) := h
  cases hr : evSs G F a s with
  | ok f s' => rw [hr] at h; exact h
  | stk => rw [hr] at h; exact h
  | exc e s' =>
    rw [hr] at h
    intro cls d ad' σ' H' R' P' re
    obtain ⟨rfl, _⟩ := id re
    exact many_ok R' P' re hs hn hm h
/-- the context of a try's body, of an except suite -/
theorem XOk.tr {c : Sx} {X : Cx} (o : XOk T N G c X W) {W' : WX} {pn : List (Addr × Obj)} {xe : Value → Shared → Prop} (tk : Takes (X.tr pn xe) W') : XOk T N G c (X.tr pn xe) W' where
  hK := o.hK
  hN := o.hN
  nd := o.nd
  sc := o.sc
  un := o.un
  calm := o.calm
  fnc := o.fnc
  tk := tk
  blt := o.blt
  con := o.con
  cls := o.cls
  exn := o.exn
  hdn := o.hdn
  exo := o.exo
  exm := o.exm
  ncl := o.ncl
  nm := o.nm
  kit := o.kit
  fld := o.fld
  ist := o.ist
def Sx.ht (c : Sx) : Sx := { c with hot := true }
theorem XOk.suite {c : Sx} {X : Cx} (o : XOk T N G c X W) (a : Addr) (pn : List (Addr × Obj)) : XOk T N G c.ht (X.suite a pn) Wf where
  hK := o.hK
  hN := o.hN
  nd := o.nd
  sc := o.sc
  un := o.un
  calm := fun h => nomatch (show true = false from h)
  fnc := o.fnc
  tk := fun u s' x => by
    obtain ⟨_, _, _, _, _, _, _, _, _, _, _, _, _, _, _, _, z⟩ := x
    exact z.elim
  blt := o.blt
  con := o.con
  cls := o.cls
  exn := o.exn
  hdn := o.hdn
  exo := o.exo
  exm := o.exm
  ncl := o.ncl
  nm := o.nm
  kit := o.kit
  fld := o.fld
  ist := o.ist
theorem FnsH.tr {c : Sx} {X : Cx} (f : FnsH T N G c X F) {pn : List (Addr × Obj)} {xe : Value → Shared → Prop} : FnsH T N G c (X.tr pn xe) F := fun h => by
  have f := f h
  exact ⟨fun g x e => by
    obtain ⟨fa, fd, ps, k, q1, q2, q3⟩ := f.fn g x e
    exact ⟨fa, fd, ps, k, q1, q2, ⟨q3.kp, q3.bd, q3.ok, q3.ln⟩⟩, fun k m g e => by
    obtain ⟨fa, fd, ps, kk, q0, q1, q2, q3⟩ := f.mt k m g e
    exact ⟨fa, fd, ps, kk, q0, q1, q2, ⟨q3.kp, q3.bd, q3.ok, q3.ln⟩⟩, fun k g e => by
    obtain ⟨fa, fd, ps, kk, q0, q1, q2, q3⟩ := f.mak k g e
    exact ⟨fa, fd, ps, kk, q0, q1, q2, ⟨q3.kp, q3.bd, q3.ok, q3.ln⟩⟩⟩
theorem FnsH.hot {c : Sx} {X X' : Cx} : FnsH T N G c.ht X' F := fun h => nomatch (show true = false from h)
/-- where a def's frame stands -/
structure Stk (X : Cx) : Prop where
  st : X.stack = X.env :: X.outer
  fr : X.env.frame = some X.env.locals
end Ev

set_option autoImplicit false
set_option linter.all false
set_option maxRecDepth 100000
set_option maxHeartbeats 2000000
/-! What the core says of a def's body is so. -/
namespace Ev
open PySem L2 PyProof.Rows
def isCp : Expr → Bool
  | .ListComp _ _ _ _ | .SetComp _ _ _ _ | .DictComp _ _ _ _ _ => true
  | _ => false
/-- name = [..] on one line -/
def swapB (sc scope : Scope) (t : Str) (p vp : Pos) : Bool :=
  (if sc.kind.isAnnotationScope then ScopeKind.function else sc.kind) == .function && sc.names.lookup t == some .local && p.line == vp.line && !(scope.names.any fun (n, k) => n == t && (k == .local || k == .cell))
def isLcE : Ex → Bool
  | .lc _ _ _ _ _ => true
  | _ => false
def isNm (c : Sx) : Expr → Bool
  | .Name y _ => locB c.sc y || celB c.sc y && celB c.ow y
  | _ => false
def noTup : Expr → Bool
  | .Tuple _ _ _ | .List _ _ => false
  | _ => true
/-- how the value is stored -/
def okStore (c : Sx) (e : Ex) (tg : Expr) : Expr → Bool
  | .ListComp _ _ _ _ => isNm c tg && isLcE e
  | .SetComp _ _ _ _ | .DictComp _ _ _ _ _ => false
  | .Tuple _ _ _ => noTup tg
  | _ => true
def isBad : Ev.St → Bool
  | .bad => true
  | _ => false
mutual
def okS (T : Nam) (N : Nms) (c : Sx) : Ev.St → Stmt → Bool
  | .asg t e, st => match st with
    | .Assign [tg] v _ => okTg c t tg && okX T N c e v && okStore c e tg v
    | _ => false
  | .asgO i e, st => match st with
    | .Assign [tg] v _ => okTg c (.v i) tg && okN T N c e v && okStore c e tg v
    | _ => false
  | .asgI o i e, st => match st with
    | .Assign [.Subscript a b _] v _ => okX T N c o a && okX T N c i b && noSlice b && okX T N c e v && !isCp v
    | _ => false
  | .asgF o f e, st => match st with
    | .Assign [.Attribute a g _] v _ => decide (g = N.nm f) && okX T N c o a && okX T N c e v && !isCp v
    | _ => false
  | .aug i op e, st => match st with
    | .AugAssign (.Name x _) o v _ => decide (c.N[i]? = some x) && (locB c.sc x || celB c.sc x && celB c.ow x) && decide (o = opS op) && (decide (op = .add) || decide (op = .sub)) && okX T N c e v
    | _ => false
  | .augF _ _ _ _, _ => false
  | .augI o i op e, st => match st with
    | .AugAssign (.Subscript a b _) o2 v _ => okX T N c o a && okX T N c i b && noSlice b && decide (o2 = opS op) && (decide (op = .add) || decide (op = .sub)) && okX T N c e v
    | _ => false
  | .ex e, st => match st with
    | .Expr v _ => okX T N c e v && !isCp v
    | _ => false
  | .ife q a b, st => match st with
    | .If z x y _ => okX T N c q z && okSs T N c a x && okSs T N c b y
    | _ => false
  | .whl _ q a _, st => match st with
    | .While z x [] _ => okX T N c q z && okSs T N c a x
    | _ => false
  | .for tg it a _, st => match st with
    | .For t x b [] _ => okTg c tg t && okIt T N c it t x && okSs T N c a b && !c.hot && noSet x
    | _ => false
  | .ret e, st => match st with
    | .Return (some v) _ => okX T N c e v
    | _ => false
  | .retN, st => match st with
    | .Return none _ => true
    | _ => false
  | .brk, st => match st with
    | .Break _ => true
    | _ => false
  | .cnt, st => match st with
    | .Continue _ => true
    | _ => false
  | .pass, st => match st with
    | .Pass _ => true
    | .Expr (.Constant (.str _) _ _) _ => true
    | _ => false
  | .rais k es, st => match es with
    | .nil => (match st with
      | .Raise (some (.Call (.Name x _) [] [] _)) none _ => decide (T.exc k = some x) && glB c.sc x && dbgB x && !c.hot
      | _ => false)
    | _ => false
  | .tryx a hs, st => match st with
    | .Try body (h0 :: hds) [] [] _ => !c.hot && okSs T N c a body && okHs T N c hs (h0 :: hds)
    | _ => false
  | .bad, _ => true
def okSs (T : Nam) (N : Nms) (c : Sx) : Sts → List Stmt → Bool
  | .nil, l => match l with
    | [] => true
    | _ => false
  | .cons s ss, l => isBad s || match l with
    | x :: l => okS T N c s x && okSs T N c ss l
    | _ => false
def okHs (T : Nam) (N : Nms) (c : Sx) : Hds → List ExceptHandler → Bool
  | .nil, l => match l with
    | [] => true
    | _ => false
  | .cons k bd b r, l => match bd, l with
    | none, .ExceptHandler (some (.Name x _)) none (b0 :: su) _ :: l => decide (T.hnd k = some x) && glB c.sc x && dbgB x && okSs T N c.ht b (b0 :: su) && okHs T N c r l
    | _, _ => false
end
variable {T : Nam} {N : Nms} {G : Tab} {F : FT}
theorem swaps_eq {env : Env} {sc : Scope} (h : env.scope = sc) {x : Expr} {gs : List Comprehension} {s : Scope} {p py : Pos} {y : Str} {line : Nat} : swapsWith (.ListComp x gs s p) (some (.Name y py)) line env = pure (swapB sc s y py p) := by
  subst h; rfl
/-- the parts of a comprehension -/
theorem lc_parts {c : Sx} {X : Cx} {W : WX} {elt : Ex} {tg : Tg} {it : Ev.It} {ifs : Exs} {own : List Nat} {x : Expr} {gs : List Comprehension} {sc : Scope} {p : Pos} (o : XOk T N G c X W) (f : FnsH T N G c X F)
    (h : okN T N c (.lc elt tg it ifs own) (.ListComp x gs sc p) = true) : ∃ t i l, gs = [⟨t, i, l, 0⟩] ∧ (ownOf c.N own).map (·.2) = own ∧ X.calm = true ∧ PI X t i (tI N W (evIt G F it)) ∧ BlkOk X.N X.env.scope sc (ownOf c.N own) ∧ (∀ j ∈ tgSl tg, j ∈ own) ∧
      (∀ (s : Shared) (H : Hp) (C : Addr) (cl : List (Str × Addr)) (fp : List Addr), PG (X.blk s H sc (compEnvC sc cl C X.env) fp) t (gTg N.K tg)) ∧
      (∀ (s : Shared) (H : Hp) (C : Addr) (cl : List (Str × Addr)) (fp : List Addr), PTs (X.blk s H sc (compEnvC sc cl C X.env) fp) l (tT N Wf (evQs G F ifs))) ∧
      (∀ (s : Shared) (H : Hp) (C : Addr) (cl : List (Str × Addr)) (fp : List Addr), PE (X.blk s H sc (compEnvC sc cl C X.env) fp) x (tX N Wf (evX G F elt))) ∧ ∀ y, foldedSetIterable i X.env y = pure y := by
  rcases gs with _ | ⟨⟨t, i, l, k⟩, _ | ⟨g2, gs⟩⟩ <;> try (exact nomatch (show false = true from h))
  have h' : (decide (k = 0) && blkC c.N c.sc sc (ownOf c.N own) && decide ((ownOf c.N own).map (·.2) = own) && okIt T N c it t i && okTg (c.blk sc) tg t && (tgSl tg).all (fun i => own.contains i) && okQs T N (c.blk sc) ifs l && okX T N (c.blk sc) elt x && !c.hot && noSet i) = true := h
  simp only [Bool.and_eq_true, decide_eq_true_eq, Bool.not_eq_true'] at h'
  obtain ⟨⟨⟨⟨⟨⟨⟨⟨⟨rfl, h1⟩, h2⟩, h3⟩, h4⟩, h5⟩, h6⟩, h7⟩, h8⟩, h9⟩ := h'
  refine ⟨t, i, l, rfl, h2, o.calm h8, sndIt it t i o f h3, blkOk_by (by rw [o.hN, o.sc]; exact h1), fun j hj => ?_, fun s H C cl fp => pg_core (o.blk s H C cl fp sc).tok o.hK tg t h4,
    fun s H C cl fp => sndQs ifs l (o.blk s H C cl fp sc) (f.blk s H sc _ fp) h6, fun s H C cl fp => (sndX elt x (o.blk s H C cl fp sc) (f.blk s H sc _ fp) h7).pe, fun y => ?_⟩
  · have := List.all_eq_true.mp h5 j hj
    simpa using this
  · cases i <;> first | rfl | (exact nomatch (show false = true from h9))
/-- name = [..] -/
theorem set_lc {c : Sx} {X : Cx} {W : WX} {elt : Ex} {tg : Tg} {it : Ev.It} {ifs : Exs} {own : List Nat} {x : Expr} {gs : List Comprehension} {sc : Scope} {p py sp : Pos} {y : Str} {i : Nat} (o : XOk T N G c X W) (f : FnsH T N G c X F)
    (h : okN T N c (.lc elt tg it ifs own) (.ListComp x gs sc p) = true) (hi : c.N[i]? = some y) (hl : (locB c.sc y || celB c.sc y && celB c.ow y) = true) :
    PS X (.Assign [.Name y py] (.ListComp x gs sc p) sp) (tAsg (tLc (tI N W (evIt G F it)) (gTg N.K tg) (tT N Wf (evQs G F ifs)) (tX N Wf (evX G F elt)) own) (gName i)) := by
  obtain ⟨t, it', l, rfl, ho, hc, q1, q2, q3, q4, q5, q6, q7⟩ := lc_parts o f h
  have hN : X.N.Nodup := by rw [o.hN]; exact o.nd
  have hi' : X.N[i]? = some y := by rw [o.hN]; exact hi
  by_cases hl1 : locB c.sc y = true
  rotate_left
  · simp only [Bool.or_eq_true, Bool.and_eq_true] at hl
    have hl := hl.resolve_left hl1
    have cl : ∀ {sc : Scope}, celB sc y = true → sc.names.lookup y = some .cell := fun {sc} h => by
      unfold celB at h
      split at h
      · assumption
      · cases h
    have hy : X.env.scope.names.lookup y = some .cell := by rw [o.sc]; exact cl hl.1
    have hs : swapB c.sc sc y py p = false := by
      unfold swapB
      rw [cl hl.1]
      simp
    have pe := pe_lc (pos := p) hc hN q1 q2 q4 q5 q6 q7
    rw [ho] at pe
    exact ps_set hN hi' (.inr hy) pe (by rw [swaps_eq o.sc, hs]) (.inl (o.fnc y (cl hl.2)))
  have hy : X.env.scope.names.lookup y = some .local := by
    rw [o.sc]
    unfold locB at hl1
    split at hl1
    · assumption
    · exact absurd hl1 (by simp)
  by_cases hs : swapB c.sc sc y py p = true
  · have := ps_setLc (py := py) (pos := p) (spos := sp) hc hN hi' hy (by rw [swaps_eq o.sc, hs]) q1 q2 q4 q5 q6 q7
    rw [ho] at this
    exact this
  · have pe := pe_lc (pos := p) hc hN q1 q2 q4 q5 q6 q7
    rw [ho] at pe
    refine ps_set hN hi' (.inl hy) pe (by rw [swaps_eq o.sc]; simp only [Bool.not_eq_true] at hs; rw [hs]) (.inr hy)
theorem okTg_v {c : Sx} {i : Nat} {tg : Expr} (h : okTg c (.v i) tg = true) : ∃ y py, tg = .Name y py ∧ c.N[i]? = some y := by
  cases tg <;> try (exact nomatch (show false = true from h))
  rename_i x p
  have h : (decide (c.N[i]? = some x) && (locB c.sc x || celB c.sc x && celB c.ow x)) = true := h
  simp only [Bool.and_eq_true, decide_eq_true_eq] at h
  exact ⟨x, p, rfl, h.1⟩
/-- stored the plain way -/
theorem asg_plain {c : Sx} {X : Cx} {W : WX} (o : XOk T N G c X W) {t : Tg} {tg v : Expr} {sp : Pos} {te : TE} {e : Ex} (h1 : okTg c t tg = true) (pe : PE X v te) (h3 : okStore c e tg v = true) (hc : isCp v = false) :
    PS X (.Assign [tg] v sp) (tAsg te (gTg N.K t)) := by
  have pg := pg_core o.tok o.hK t tg h1
  refine ps_asg pe pg ?_ ?_ ?_
  · cases v <;> first | rfl | (exact nomatch (show true = false from hc))
  · have : noTup tg = true ∨ ∀ es k p, v ≠ .Tuple es k p := by
      cases v <;> first | exact .inl h3 | exact .inr (fun es k p z => by cases z)
    rcases this with z | z
    · cases tg <;> first | rfl | (exact nomatch (show false = true from z))
    · cases v <;> first | (cases tg <;> rfl) | exact absurd rfl (z _ _ _)
  · cases t with
    | v i => obtain ⟨y, py, rfl, _⟩ := okTg_v h1; rfl
    | tup ts => cases tg <;> first | rfl | (exact nomatch (show false = true from h1))
mutual
theorem sndS : ∀ (x : Ev.St) {c : Sx} {X : Cx} {W : WX} (st : Stmt), XOk T N G c X W → FnsH T N G c X F → Stk X → PassesOwn (model X.prog X.w) X.A X.env X.xe → okS T N c x st = true → PS X st (tS N W (evS G F x))
  | .asg t e, c, X, W, st, o, f, sk, hp, h => by
    cases st <;> try (exact nomatch (show false = true from h))
    rename_i tgs v sp
    rcases tgs with _ | ⟨tg, _ | ⟨tg2, tgs⟩⟩ <;> try (exact nomatch (show false = true from h))
    have h' : (okTg c t tg && okX T N c e v && okStore c e tg v) = true := h
    simp only [Bool.and_eq_true] at h'
    obtain ⟨⟨h1, h2⟩, h3⟩ := h'
    refine ps_imp (t := tAsg (tX N W (evX G F e)) (gTg N.K t)) ?_ tS_asg
    by_cases hc : isCp v = true
    · cases v <;> try (exact nomatch (show false = true from hc))
      · rename_i x gs s p
        have h3 : (isNm c tg && isLcE e) = true := h3
        simp only [Bool.and_eq_true] at h3
        cases e <;> try (exact nomatch (show false = true from h3.2))
        rename_i elt tg' it ifs own _
        cases tg <;> try (exact nomatch (show false = true from h3.1))
        rename_i y py
        cases t with
        | tup ts => exact nomatch (show false = true from h1)
        | v i =>
          obtain ⟨_, _, e1, hi⟩ := okTg_v h1
          cases e1
          have h2 : okN T N c (.lc elt tg' it ifs own) (.ListComp x gs s p) = true := h2
          refine ps_imp (set_lc o f h2 hi h3.1) fun D σ H hq => ?_
          obtain ⟨_, _, _, _, _, _, _, _, q, _⟩ := lc_parts o f h2
          exact tX_lc q σ H _ hq
      · exact nomatch (show false = true from h3)
      · exact nomatch (show false = true from h3)
    · exact asg_plain o h1 (sndX e v o f h2).pe h3 (by simpa using hc)
  | .asgO i e, c, X, W, st, o, f, sk, hp, h => by
    cases st <;> try (exact nomatch (show false = true from h))
    rename_i tgs v sp
    rcases tgs with _ | ⟨tg, _ | ⟨tg2, tgs⟩⟩ <;> try (exact nomatch (show false = true from h))
    have h' : (okTg c (.v i) tg && okN T N c e v && okStore c e tg v) = true := h
    simp only [Bool.and_eq_true] at h'
    obtain ⟨⟨h1, h2⟩, h3⟩ := h'
    refine ps_imp (t := tAsg (tN N W (evX G F e)) (gName i)) ?_ tS_asgO
    by_cases hc : isCp v = true
    · cases v <;> try (exact nomatch (show false = true from hc))
      · rename_i x gs s p
        have h3 : (isNm c tg && isLcE e) = true := h3
        simp only [Bool.and_eq_true] at h3
        cases e <;> try (exact nomatch (show false = true from h3.2))
        rename_i elt tg' it ifs own
        obtain ⟨y, py, rfl, hi⟩ := okTg_v h1
        refine ps_imp (set_lc o f h2 hi h3.1) fun D σ H hq => ?_
        obtain ⟨_, _, _, _, _, _, _, _, q, _⟩ := lc_parts o f h2
        exact tN_lc q σ H _ hq
      · exact nomatch (show false = true from h3)
      · exact nomatch (show false = true from h3)
    · exact asg_plain o h1 (sndN e v o f h2).1 h3 (by simpa using hc)
  | .asgI a i e, c, X, W, st, o, f, sk, hp, h => by
    cases st <;> try (exact nomatch (show false = true from h))
    rename_i tgs v sp
    rcases tgs with _ | ⟨tg, _ | ⟨tg2, tgs⟩⟩ <;> try (exact nomatch (show false = true from h))
    · cases tg <;> try (exact nomatch (show false = true from h))
      rename_i x y p
      have h' : (okX T N c a x && okX T N c i y && noSlice y && okX T N c e v && !isCp v) = true := h
      simp only [Bool.and_eq_true, Bool.not_eq_true'] at h'
      obtain ⟨⟨⟨⟨h1, h2⟩, h3⟩, h4⟩, h5⟩ := h'
      refine ps_imp (ps_asg (sndX e v o f h4).pe (pg_sub (sndX a x o f h1).pe (sndX i y o f h2).pe set_list fun v => ?_) ?_ ?_ rfl) tS_asgI
      · cases y <;> first | rfl | (exact nomatch (show false = true from h3))
      · cases v <;> first | rfl | (exact nomatch (show true = false from h5))
      · cases v <;> rfl
    · cases tg <;> exact nomatch (show false = true from h)
  | .asgF a g e, c, X, W, st, o, f, sk, hp, h => by
    cases st <;> try (exact nomatch (show false = true from h))
    rename_i tgs v sp
    rcases tgs with _ | ⟨tg, _ | ⟨tg2, tgs⟩⟩ <;> try (exact nomatch (show false = true from h))
    · cases tg <;> try (exact nomatch (show false = true from h))
      rename_i x y p
      have h' : (decide (y = N.nm g) && okX T N c a x && okX T N c e v && !isCp v) = true := h
      simp only [Bool.and_eq_true, Bool.not_eq_true', decide_eq_true_eq] at h'
      obtain ⟨⟨⟨rfl, h1⟩, h4⟩, h5⟩ := h'
      refine ps_imp (ps_fld (sndX a x o f h1).pe (sndX e v o f h4).pe ?_) (tS_asgF o.hK o.nm fun k hk => ?_)
      · cases v <;> first | rfl | (exact nomatch (show true = false from h5))
      · obtain ⟨q1, q2⟩ := o.fld k (by rw [o.ncl]; exact hk.1)
        exact ⟨q1, q2 g hk.2⟩
    · cases tg <;> exact nomatch (show false = true from h)
  | .aug i op e, c, X, W, st, o, f, sk, hp, h => by
    cases st <;> try (exact nomatch (show false = true from h))
    rename_i tg op' v sp
    cases tg <;> try (exact nomatch (show false = true from h))
    rename_i x p
    have h' : (decide (c.N[i]? = some x) && (locB c.sc x || celB c.sc x && celB c.ow x) && decide (op' = opS op) && (decide (op = .add) || decide (op = .sub)) && okX T N c e v) = true := h
    simp only [Bool.and_eq_true, Bool.or_eq_true, decide_eq_true_eq] at h'
    obtain ⟨⟨⟨⟨h1, h2⟩, rfl⟩, h4⟩, h5⟩ := h'
    have hN : X.N.Nodup := by rw [o.hN]; exact o.nd
    have hi : X.N[i]? = some x := by rw [o.hN]; exact h1
    have lk : ∀ {b : NameKind}, c.sc.names.lookup x = some b → X.env.scope.names.lookup x = some b := fun e => by rw [o.sc]; exact e
    have hx : Loc X.env.scope x ∧ (X.fn x = true ∨ X.env.scope.names.lookup x = some .local) := by
      rcases h2 with h2 | ⟨h2, h3⟩
      · unfold locB at h2
        split at h2
        · rename_i e; exact ⟨.inl (lk e), .inr (lk e)⟩
        · cases h2
      · unfold celB at h2 h3
        split at h2
        · rename_i e
          split at h3
          · rename_i e2; exact ⟨.inr (lk e), .inl (o.fnc x e2)⟩
          · cases h3
        · cases h2
    have pe := (sndX e v o f h5).pe
    rcases h4 with rfl | rfl
    · exact ps_imp (ps_aug hN hi hx.1 pe ip_add hx.2) (tS_aug aug_add)
    · exact ps_imp (ps_aug hN hi hx.1 pe ip_sub hx.2) (tS_aug aug_sub)
  | .augF _ _ _ _, c, X, W, st, o, f, sk, hp, h => nomatch (show false = true from h)
  | .augI a i op e, c, X, W, st, o, f, sk, hp, h => by
    cases st <;> try (exact nomatch (show false = true from h))
    rename_i tg op' v sp
    cases tg <;> try (exact nomatch (show false = true from h))
    rename_i x y p
    have h' : (okX T N c a x && okX T N c i y && noSlice y && decide (op' = opS op) && (decide (op = .add) || decide (op = .sub)) && okX T N c e v) = true := h
    simp only [Bool.and_eq_true, Bool.or_eq_true, decide_eq_true_eq] at h'
    obtain ⟨⟨⟨⟨⟨h1, h2⟩, h3⟩, rfl⟩, h4⟩, h5⟩ := h'
    have ha : ∀ ov iv new, augStore y ov iv new = (do holding [new, ov, iv] (setItem ov iv new); release [new, ov, iv] []; pure .next) := by
      intros
      cases y <;> first | rfl | (exact nomatch (show false = true from h3))
    have pa := (sndX a x o f h1).pe
    have pi := (sndX i y o f h2).pe
    have pe := (sndX e v o f h5).pe
    rcases h4 with rfl | rfl
    · exact ps_imp (ps_augS pa pi get_list pe ip_add set_list ha) (tS_augI o.hK bin_add)
    · exact ps_imp (ps_augS pa pi get_list pe ip_sub set_list ha) (tS_augI o.hK bin_sub)
  | .ex e, c, X, W, st, o, f, sk, hp, h => by
    cases st <;> try (exact nomatch (show false = true from h))
    rename_i v sp
    have h' : (okX T N c e v && !isCp v) = true := h
    simp only [Bool.and_eq_true, Bool.not_eq_true'] at h'
    refine ps_imp (ps_expr (sndX e v o f h'.1).pe ?_) tS_ex
    have := h'.2
    cases v <;> first | rfl | (exact nomatch (show true = false from this))
  | .ife q a b, c, X, W, st, o, f, sk, hp, h => by
    cases st <;> try (exact nomatch (show false = true from h))
    rename_i z x y sp
    have h' : (okX T N c q z && okSs T N c a x && okSs T N c b y) = true := h
    simp only [Bool.and_eq_true] at h'
    exact ps_imp (ps_if (sndX q z o f h'.1.1).pt (sndSs a x o f sk hp h'.1.2) (sndSs b y o f sk hp h'.2)) tS_ife
  | .whl n q a kl, c, X, W, st, o, f, sk, hp, h => by
    cases st <;> try (exact nomatch (show false = true from h))
    rename_i z x y sp
    cases y with
    | cons => exact nomatch (show false = true from h)
    | nil =>
      have h' : (okX T N c q z && okSs T N c a x) = true := h
      simp only [Bool.and_eq_true] at h'
      exact ps_imp (ps_while hp (sndX q z o f h'.1).pt (sndSs a x o f sk hp h'.2)) tS_whl
  | .for tg it a kl, c, X, W, st, o, f, sk, hp, h => by
    cases st <;> try (exact nomatch (show false = true from h))
    rename_i t x b y sp
    cases y with
    | cons => exact nomatch (show false = true from h)
    | nil =>
      have h' : (okTg c tg t && okIt T N c it t x && okSs T N c a b && !c.hot && noSet x) = true := h
      simp only [Bool.and_eq_true, Bool.not_eq_true'] at h'
      obtain ⟨⟨⟨⟨h1, h2⟩, h3⟩, h4⟩, h5⟩ := h'
      have pg := pg_core o.tok o.hK tg t h1
      have hs : ∀ y, foldedSetIterable x X.env y = pure y := fun y => by cases x <;> first | rfl | (exact nomatch (show false = true from h5))
      have pb := sndSs a b o f sk hp h3
      by_cases hv : ∃ e, it = .val e
      · obtain ⟨e, rfl⟩ := hv
        have h2' : (okX T N c e x && noSet x) = true := h2
        simp only [Bool.and_eq_true] at h2'
        refine ps_imp (ps_for hp (o.calm h4) (pi_seq (sndX e x o f h2'.1).pe) pg pb hs) fun D σ H hq => ?_
        have := tS_forV D σ H hq
        rw [o.hK]; exact this
      · have e : evS G F (.for tg it a kl) = M.bind (evIt G F it) fun l => loopF (turnM tg (evSs G F a)) kl l := by
          cases it <;> first | rfl | exact absurd ⟨_, rfl⟩ hv
        rw [e]
        exact ps_imp (ps_for hp (o.calm h4) (sndIt it t x o f h2) pg pb hs) tS_for
  | .ret e, c, X, W, st, o, f, sk, hp, h => by
    cases st <;> try (exact nomatch (show false = true from h))
    rename_i v sp
    cases v with
    | none => exact nomatch (show false = true from h)
    | some v =>
      have h' : okX T N c e v = true := h
      exact ps_imp (ps_ret (sndX e v o f h').pe) tS_ret
  | .retN, c, X, W, st, o, f, sk, hp, h => by
    cases st <;> try (exact nomatch (show false = true from h))
    rename_i v sp
    cases v with
    | some v => exact nomatch (show false = true from h)
    | none => exact ps_imp ps_retN tS_retN
  | .brk, c, X, W, st, o, f, sk, hp, h => by
    cases st <;> try (exact nomatch (show false = true from h))
    exact ps_imp ps_break tS_brk
  | .cnt, c, X, W, st, o, f, sk, hp, h => by
    cases st <;> try (exact nomatch (show false = true from h))
    exact ps_imp ps_continue tS_cnt
  | .pass, c, X, W, st, o, f, sk, hp, h => by
    cases st <;> try (exact nomatch (show false = true from h))
    · rename_i v sp
      cases v <;> try (exact nomatch (show false = true from h))
      rename_i k j p
      cases k <;> try (exact nomatch (show false = true from h))
      exact ps_imp ps_doc (tS_next rfl)
    · exact ps_imp ps_pass (tS_next rfl)
  | .rais k es, c, X, W, st, o, f, sk, hp, h => by
    cases es with
    | cons => exact nomatch (show false = true from h)
    | nil =>
      cases st <;> try (exact nomatch (show false = true from h))
      rename_i e fr sp
      cases e with
      | none => exact nomatch (show false = true from h)
      | some e =>
        cases e <;> try (exact nomatch (show false = true from h))
        rename_i fn l kw p
        cases fn <;> try (exact nomatch (show false = true from h))
        rename_i x p2
        cases l with
        | cons => exact nomatch (show false = true from h)
        | nil =>
          cases kw with
          | cons => exact nomatch (show false = true from h)
          | nil =>
            cases fr with
            | some => exact nomatch (show false = true from h)
            | none =>
              have h' : (decide (T.exc k = some x) && glB c.sc x && dbgB x && !c.hot) = true := h
              simp only [Bool.and_eq_true, decide_eq_true_eq, Bool.not_eq_true'] at h'
              obtain ⟨⟨⟨h1, h2⟩, h3⟩, h4⟩ := h'
              by_cases hx : G.exf k = some []
              · have q := o.exo k hx
                rw [← o.hK] at q
                refine ps_imp (ps_raise (W := W) (o.calm h4) o.tk (pmk_own0 q (o.exn k x h1) (gl_of o.sc h2) (dbg_of h3).1)) fun D σ H hq => ?_
                exact (tS_rais (F := F) rfl rfl D σ H hq).2
              · exact ⟨fun _ _ σ H D _ hq => absurd (tS_rais (F := F) rfl rfl D σ H hq).1 hx⟩
  | .tryx a hs, c, X, W, st, o, f, sk, hp, h => by
    cases st <;> try (exact nomatch (show false = true from h))
    rename_i body hds orelse fin sp
    rcases hds with _ | ⟨h0, hds⟩
    · exact nomatch (show false = true from h)
    · cases orelse with
      | cons => exact nomatch (show false = true from h)
      | nil =>
        cases fin with
        | cons => exact nomatch (show false = true from h)
        | nil =>
          have h' : (!c.hot && okSs T N c a body && okHs T N c hs (h0 :: hds)) = true := h
          simp only [Bool.and_eq_true, Bool.not_eq_true'] at h'
          obtain ⟨⟨h4, h5⟩, h6⟩ := h'
          obtain ⟨q1, q2, q3⟩ := sndHs hs (h0 :: hds) o sk h6
          refine ps_imp (ps_try_many (tb := fun W' => tS N W' (evSs G F a)) (Wout := W) sk.st sk.fr o.tk (fun W' pn xe tk hpp => sndSs a body (o.tr tk) f.tr ⟨sk.st, sk.fr⟩ hpp h5) q1) ?_
          rw [o.hK]
          exact tS_tryx q2 q3
  | .bad, c, X, W, st, o, f, sk, hp, h => ⟨fun _ _ σ H D _ h => by obtain ⟨_, _, _, _, z⟩ := h; exact z.elim⟩
theorem sndSs : ∀ (x : Sts) {c : Sx} {X : Cx} {W : WX} (l : List Stmt), XOk T N G c X W → FnsH T N G c X F → Stk X → PassesOwn (model X.prog X.w) X.A X.env X.xe → okSs T N c x l = true → PSs X l (tS N W (evSs G F x))
  | .nil, c, X, W, l, o, f, sk, hp, h => by
    cases l with
    | nil => exact pss_imp pss_nil (tS_next rfl)
    | cons => exact nomatch (show false = true from h)
  | .cons s ss, c, X, W, l, o, f, sk, hp, h => by
    by_cases hbad : isBad s = true
    · cases s <;> try (exact nomatch (show false = true from hbad))
      exact ⟨fun _ _ σ H D _ h => by obtain ⟨_, _, _, _, z⟩ := h; exact z.elim⟩
    · cases l with
      | nil =>
        have h' : (isBad s || false) = true := h
        rw [Bool.or_false] at h'
        exact absurd h' hbad
      | cons x l =>
        have h' : (isBad s || (okS T N c s x && okSs T N c ss l)) = true := h
        simp only [Bool.not_eq_true] at hbad
        rw [hbad, Bool.false_or, Bool.and_eq_true] at h'
        exact pss_imp (pss_cons (sndS s x o f sk hp h'.1) (sndSs ss l o f sk hp h'.2)) tS_seq
theorem sndHs : ∀ (x : Hds) {c : Sx} {X : Cx} {W : WX} (l : List ExceptHandler), XOk T N G c X W → Stk X → okHs T N c x l = true →
    HdsOk X l (hdL N G F x) ∧ hdN x = true ∧ ∀ k ∈ hdK x, ∀ j, (G.exf j).isSome = true → PySem.W.exmOne N.K (.ref (N.cl j)) (.ref (N.cl k)) = some (G.sub j k)
  | .nil, c, X, W, l, o, sk, h => by
    cases l with
    | nil => exact ⟨.nil, rfl, fun k hk => by simp [hdK] at hk⟩
    | cons => exact nomatch (show false = true from h)
  | .cons k bd b r, c, X, W, l, o, sk, h => by
    cases bd with
    | some => exact nomatch (show false = true from h)
    | none =>
      rcases l with _ | ⟨hd, l⟩
      · exact nomatch (show false = true from h)
      · obtain ⟨ty, nm, su, hp'⟩ := hd
        cases ty with
        | none => exact nomatch (show false = true from h)
        | some ty =>
          cases ty <;> try (exact nomatch (show false = true from h))
          rename_i x np
          cases nm with
          | some => exact nomatch (show false = true from h)
          | none =>
            cases su with
            | nil => exact nomatch (show false = true from h)
            | cons b0 su =>
              have h' : (decide (T.hnd k = some x) && glB c.sc x && dbgB x && okSs T N c.ht b (b0 :: su) && okHs T N c r l) = true := h
              simp only [Bool.and_eq_true, decide_eq_true_eq] at h'
              obtain ⟨⟨⟨⟨h1, h2⟩, h3⟩, h4⟩, h5⟩ := h'
              obtain ⟨q1, q2, q3⟩ := sndHs r l o sk h5
              refine ⟨.cons (ts := fun _ _ _ => tS N Wf (evSs G F b)) ⟨gl_of o.sc h2, (dbg_of h3).1, .inl (o.hdn k x h1)⟩ (fun ad oe cls d pn _ _ => sndSs b (b0 :: su) (o.suite ad ((ad, oe) :: pn)) (FnsH.hot (X := X)) ⟨sk.st, sk.fr⟩ (fun _ _ z => z.elim) h4) q1, q2, fun k' hk j hj => ?_⟩
              rcases List.mem_cons.mp hk with rfl | hk
              · exact o.exm j _ x hj h1
              · exact q3 k' hk j hj
end
end Ev

set_option autoImplicit false
set_option linter.all false
set_option maxRecDepth 100000
set_option maxHeartbeats 1000000
/-! Each def keeps what the core gives; the law. -/
namespace Ev
open PySem L2 PyProof.Rows
variable {N : Nms}
section
variable {ad ad' : Nat → Addr} {σ : L2.St} {H : Hp} {s : S} {F : Addr → Prop} {cel : List Cell}
def startS (n : Nat) (as : List Ev.D) (cel : List Cell) : S := { loc := as.map (fun x => some (.d x)) ++ List.replicate n none, cel := cel }
theorem startS_get {n : Nat} {as : List Ev.D} {i : Nat} {lv : LV} (h : (startS n as cel).loc[i]? = some (some lv)) : ∃ x, as[i]? = some x ∧ lv = .d x := by
  unfold startS at h
  simp only at h
  by_cases hi : i < as.length
  · rw [List.getElem?_append_left (by simpa using hi), List.getElem?_map] at h
    cases ha : as[i]? with
    | none => rw [ha] at h; cases h
    | some x => rw [ha] at h; cases h; exact ⟨x, rfl, rfl⟩
  · rw [List.getElem?_append_right (by simpa using hi), List.getElem?_replicate] at h
    split at h <;> cases h
theorem startS_sl {n : Nat} {as : List Ev.D} {i : Nat} {c : Cell} : ¬ (startS n as cel).get (.sl i) = some c := fun h => by
  rw [get_sl] at h
  obtain ⟨x, _, e⟩ := startS_get h
  cases e
theorem Mk_start {n : Nat} {as : List Ev.D} (a : Addr) : Mk ad σ (startS n as cel) F a ↔ Mk ad [] ⟨[], cel⟩ F a := by
  constructor
  · rintro (m | ⟨l, c, h1, h2⟩)
    · exact .inl m
    · cases l with
      | sl i => exact absurd h1 startS_sl
      | id k => exact .inr ⟨.id k, c, h1, h2⟩
  · rintro (m | ⟨l, c, h1, h2⟩)
    · exact .inl m
    · cases l with
      | sl i => exact absurd h1 noSl
      | id k => exact .inr ⟨.id k, c, h1, h2⟩
/-- at a def's entry -/
theorem Rel.enter {Nm : List Str} {vs : List V} {as : List Ev.D} {n : Nat} (R : Rel N ad [] H ⟨[], cel⟩ F) (r : RepDs N cel.length ad (msk H (Mk ad [] ⟨[], cel⟩ F)) vs as) (hn : n = Nm.length - vs.length) :
    Rel N ad (L2.start Nm vs) H (startS n as cel) F := by
  have em : msk H (Mk ad (L2.start Nm vs) (startS n as cel) F) = msk H (Mk ad [] ⟨[], cel⟩ F) := msk_congr fun a => Mk_start a
  refine ⟨?_, ?_, ?_, ?_, ?_⟩
  · unfold L2.start startS
    simp [r.length, hn]
  · intro i x h
    obtain ⟨y, e1, e2⟩ := startS_get h
    cases e2
    obtain ⟨v, e3, rv⟩ := r.get e1
    refine ⟨v, ?_, ?_⟩
    · unfold L2.start
      rw [List.getElem?_append_left (by have := (List.getElem?_eq_some_iff.mp e3).1; simpa using this), List.getElem?_map, e3]
      rfl
    · rw [em]; exact rv
  · intro l c h
    cases l with
    | sl i => exact absurd h startS_sl
    | id k =>
      obtain ⟨a, e, ok⟩ := R.own (.id k) c h
      refine ⟨a, e, ?_⟩
      rw [em]; exact ok
  · intro l l' c c' a h h' e e'
    cases l with
    | sl i => exact absurd h startS_sl
    | id k =>
      cases l' with
      | sl i => exact absurd h' startS_sl
      | id k' => exact R.inj (.id k) (.id k') c c' a h h' e e'
  · intro a h
    obtain ⟨q1, q2⟩ := R.frn a h
    refine ⟨q1, fun l c h' => ?_⟩
    cases l with
    | sl i => exact absurd h' startS_sl
    | id k => exact q2 (.id k) c h'
theorem Mk_leave {a : Addr} (m : Mk ad [] ⟨[], s.cel⟩ F a) : Mk ad σ s F a := by
  rcases m with m | ⟨l, c, h1, h2⟩
  · exact .inl m
  · cases l with
    | sl i => exact absurd h1 noSl
    | id k => exact .inr ⟨.id k, c, h1, h2⟩
/-- at its end: the slots are gone -/
theorem Rel.leave (R : Rel N ad σ H s F) : Rel N ad [] H ⟨[], s.cel⟩ F ∧ Sm (msk H (Mk ad σ s F)) (msk H (Mk ad [] ⟨[], s.cel⟩ F)) := by
  have sm : Sm (msk H (Mk ad σ s F)) (msk H (Mk ad [] ⟨[], s.cel⟩ F)) := sm_sub fun a m => Mk_leave m
  refine ⟨⟨rfl, fun i x h => by simp at h, ?_, ?_, ?_⟩, sm⟩
  · intro l c h
    cases l with
    | sl i => exact absurd h noSl
    | id k =>
      obtain ⟨a, e, ok⟩ := R.own (.id k) c h
      exact ⟨a, e, ok.mono (Nat.le_refl _) (fun _ _ => rfl) sm rfl⟩
  · intro l l' c c' a h h' e e'
    cases l with
    | sl i => exact absurd h noSl
    | id k =>
      cases l' with
      | sl i => exact absurd h' noSl
      | id k' => exact R.inj (.id k) (.id k') c c' a h h' e e'
  · intro a h
    obtain ⟨q1, q2⟩ := R.frn a h
    refine ⟨q1, fun l c h' => ?_⟩
    cases l with
    | sl i => exact absurd h' noSl
    | id k => exact q2 (.id k) c h'
theorem Post.leave {n : Nat} {as : List Ev.D} {σ0 : L2.St} {H' : Hp} {s' : S} {σ' : L2.St} (P : Post ad σ0 H (startS n as cel) ad' σ' H' s' F) (R' : Rel N ad' σ' H' s' F) : Post ad [] H ⟨[], cel⟩ ad' [] H' ⟨[], s'.cel⟩ F :=
  ⟨P.agr, P.len, rfl, by
    rw [← msk_congr (Mk_start (ad := ad) (σ := σ0) (F := F) (cel := cel) (n := n) (as := as))]
    exact P.sm.trans R'.leave.2, P.frn⟩
end
/-! ### the program -/
structure PrF (T : Nam) (N : Nms) (G : Tab) (Pc : List Ev.Def) (K : PySem.W.Frag) (mg : Str → Option Value) (A : Nat → Addr) (okf : Nat → Bool) : Prop where
  hK : K = N.K
  defs : ∀ (f : Nat), okf f = true → ∃ (d : Ev.Def) (fd : FuncData) (nm : List Str) (x qual : Str) (args : Arguments) (body : List Stmt) (scope : Scope), Pc[f]? = some d ∧
    FunD K x qual args body scope [] [] (A f) fd ∧ FnScope nm (T.par f) scope ∧ (T.par f).length = d.np ∧ nm.length = d.n ∧ okSs T N ⟨nm, scope, scope, false⟩ d.body body = true ∧ Binds K fd (T.par f) []
  fns : ∀ (f : Nat) (x : Str), T.fn f = some x → okf f = true ∧ mg x = some (.ref (A f))
  mts : ∀ (c m f : Nat), G.meth c m = some f → okf f = true ∧ c < G.ncls ∧ Meth K (N.cl c) (N.nm m) (A f)
  inis : ∀ (c f : Nat), G.ini c = some f → okf f = true ∧ c < G.ncls ∧ L2.Mk K (N.cl c) (A f)
  blt : ∀ x ∈ bltNames, mg x = none
  con : ∀ (g : Nat) (x : Str), T.con g = some x → ∃ d v u, G.con[g]? = some d ∧ mg x = some u ∧ RelV v u ∧ (match d with | .ref _ => False | _ => True) ∧ ∀ n ad B, RepD N n ad B v d
  cls : ∀ (k : Nat) (x : Str), T.cls[k]? = some x → mg x = some (.ref (N.cl k))
  exn : ∀ (k : Nat) (x : Str), T.exc k = some x → mg x = some (.ref (N.cl k))
  hdn : ∀ (k : Nat) (x : Str), T.hnd k = some x → mg x = some (.ref (N.cl k))
  exo : ∀ (k : Nat), G.exf k = some [] → ExcP N.K (N.cl k)
  exm : ∀ (j k : Nat) (x : Str), (G.exf j).isSome = true → T.hnd k = some x → PySem.W.exmOne N.K (.ref (N.cl j)) (.ref (N.cl k)) = some (G.sub j k)
  ncl : T.cls.length = G.ncls
  nm : ∀ f g, N.nm f = N.nm g → f = g
  kit : ∀ tg ty, (match tg with | .obj c => c < T.cls.length ∧ G.isa c = true | _ => True) → (match ty with | .cls c => c < T.cls.length ∧ G.isa c = true | _ => True) → PySem.W.kitOne N.K (tagV N tg) (tyV1 N ty) = some (isTag G.sub tg ty)
  fld : ∀ k < T.cls.length, Cls N.K (N.cl k) ∧ (∀ f, G.isf k f = true → NoAttr N.K (N.cl k) (N.nm f))
  ist : ∀ k < T.cls.length, G.isa k = true → PySem.W.findIn N.K (.ref (N.cl k)) "__class__" = some (some (.builtin "object.__class__")) ∧
    PySem.W.specialIn N.K (.builtin "object.__class__") "__get__" = some (some (.builtin "getset_descriptor.__get__")) ∧ PySem.W.takesIn N.K (.builtin "object.__class__") = some true ∧ PySem.W.mroIn N.K (N.cl k) (.type "object") = some true
theorem run_ok {T : Nam} {G : Tab} {Pc : List Ev.Def} {P : Program} {w : World} {K : PySem.W.Frag} {mg : Str → Option Value} {base : Heap} {A : Nat → Addr} {okf : Nat → Bool} (pf : PrF T N G Pc K mg A okf) : ∀ (n f : Nat), okf f = true →
    ∃ (fd : FuncData), PySem.W.keepIn K (.ref (A f)) = true ∧ Binds K fd (T.par f) [] ∧ FnOk P w K mg base (L2.CX P w) (2 * n) (A f) fd (T.par f) (spF N (T.par f).length (run G Pc n f)) ∧ (∀ as c, run G Pc n f as c ≠ .stk → as.length = (T.par f).length) ∧
      ∃ x qual args body scope, FunD K x qual args body scope [] [] (A f) fd
  | 0, f, hf => by
    obtain ⟨d, fd, nm, x, qual, args, body, scope, h1, h3, h4, h5, h6, h7, h8⟩ := pf.defs f hf
    refine ⟨fd, h3.kp, h8, ⟨fun vs H Q E h => h.1, fun A outer s H a us vs Q E _ _ _ _ h => ?_⟩, fun as c h => absurd rfl h, _, _, _, _, _, h3⟩
    obtain ⟨_, _, _, _, _, _, _, z⟩ := h
    exact z.elim
  | n + 1, f, hf => by
    obtain ⟨d, fd, nm, x, qual, args, body, scope, h1, h3, h4, h5, h6, h7, h8⟩ := pf.defs f hf
    have er : run G Pc (n + 1) f = runDef G (run G Pc n) d := by
      funext as c
      show (match Pc[f]? with | some d => runDef G (run G Pc n) d as c | none => .stk) = _
      rw [h1]
    refine ⟨fd, h3.kp, h8, ?_, fun as c h => ?_, _, _, _, _, _, h3⟩
    · refine h3.ok h4 (fun vs H Q E h => h.1) (fun cdv Ar outer s H vs Q E hr h => ?_)
      obtain ⟨hl, ad, cel, FF, as, R, rv, h⟩ := h
      rw [er] at h
      unfold runDef at h
      have la : as.length = (T.par f).length := by rw [← rv.length]; exact hl
      rw [if_pos (by rw [la, h5])] at h
      let X := cxOf (L2.CX P w) P w K mg base nm qual scope (A f) cdv Ar outer s H E
      let W : WX := fun cls d _ H => E cls d H
      have o : XOk T N G ⟨nm, scope, scope, false⟩ X W := {
        hK := pf.hK
        hN := rfl
        nd := h4.nd
        sc := rfl
        un := by have := hr.un; show (Ar.deeper (envOfC qual scope s.heap.objs.size (A f) cdv)).units + 200 < cLine; omega
        calm := fun _ => rfl
        fnc := fun _ _ => rfl
        tk := takes_of rfl rfl rfl rfl
        blt := pf.blt
        con := pf.con
        cls := pf.cls
        exn := pf.exn
        hdn := pf.hdn
        exo := pf.exo
        exm := pf.exm
        ncl := pf.ncl
        nm := pf.nm
        kit := pf.kit
        fld := pf.fld
        ist := pf.ist }
      have at_ : ∀ g, okf g = true → ∃ fd, FnAt N X (run G Pc n) g (A g) (2 * n) fd (T.par g) := fun g hg => by
        obtain ⟨gd, q2, q3, q4, q5, _⟩ := run_ok (P := P) (w := w) (base := base) pf n g hg
        exact ⟨gd, q2, q3, q4, q5⟩
      have fs : Fns T N G X (run G Pc n) := ⟨fun g y hy => by
        obtain ⟨hg, q1⟩ := pf.fns g y hy
        obtain ⟨gd, q⟩ := at_ g hg
        exact ⟨A g, gd, _, 2 * n, q1, hr.mono (Nat.le_succ _), q⟩, fun c m g hy => by
        obtain ⟨hg, q0, q1⟩ := pf.mts c m g hy
        obtain ⟨gd, q⟩ := at_ g hg
        exact ⟨A g, gd, _, 2 * n, q0, q1, hr.mono (Nat.le_succ _), q⟩, fun c g hy => by
        obtain ⟨hg, q0, q1⟩ := pf.inis c g hy
        obtain ⟨gd, q⟩ := at_ g hg
        exact ⟨A g, gd, _, 2 * n, q0, q1, hr, q⟩⟩
      have hp : PassesOwn (model X.prog X.w) X.A X.env X.xe := passes_of (X := X) (K := fun e s'' => L2.CX P w outer H s E e s'') rfl
      refine ⟨tS N W (evSs G (run G Pc n) d.body), sndSs d.body body o (fun _ => fs) ⟨rfl, rfl⟩ hp h7, ad, startS (d.n - d.np) as cel, FF, R.enter rv (by rw [h6, hl, h5]), ?_⟩
      have h : (match finish (evSs G (run G Pc n) d.body (startS (d.n - d.np) as cel)) with
        | .ok x c' => ∀ ad' H' v, Rel N ad' [] H' ⟨[], c'⟩ FF → Post ad [] H ⟨[], cel⟩ ad' [] H' ⟨[], c'⟩ FF → RepD N c'.length ad' (msk H' (Mk ad' [] ⟨[], c'⟩ FF)) v x → Q v H'
        | .exc e c' => ∀ ad' H' cls d, Rel N ad' [] H' ⟨[], c'⟩ FF → Post ad [] H ⟨[], cel⟩ ad' [] H' ⟨[], c'⟩ FF → RepE N c'.length ad' (msk H' (Mk ad' [] ⟨[], c'⟩ FF)) H' e cls d → E cls d H'
        | .stk => False) := h
      cases hm : evSs G (run G Pc n) d.body (startS (d.n - d.np) as cel) with
      | stk => rw [hm] at h; exact h
      | exc e s' =>
        rw [hm] at h
        exact fun cls dd ad' σ' H' R' P' re => h ad' H' cls dd R'.leave.1 (P'.leave R') (re.mono (Nat.le_refl _) (fun _ _ => rfl) R'.leave.2)
      | ok fl s' =>
        rw [hm] at h
        intro ad' σ' H' R' P'
        cases fl with
        | next => exact h ad' H' .non R'.leave.1 (P'.leave R') .non
        | ret t => exact fun v rt => h ad' H' v R'.leave.1 (P'.leave R') (rt.mono (Nat.le_refl _) (fun _ _ => rfl) R'.leave.2)
        | brk => exact h.elim
        | cont => exact h.elim
    · rw [er] at h
      unfold runDef at h
      by_cases hl : as.length = d.np
      · rw [hl, h5]
      · rw [if_neg hl] at h; exact absurd rfl h
theorem fd_same {K : PySem.W.Frag} {x x' q q' : Str} {a a' : Arguments} {b b' : List Stmt} {sc sc' : Scope} {f : Addr} {fd fd' : FuncData} (F1 : FunD K x q a b sc [] [] f fd) (F2 : FunD K x' q' a' b' sc' [] [] f fd') : fd = fd' := by
  obtain ⟨_, _, _, _, _, _, _, _, _, _, _, l1, _⟩ := F1.ex
  obtain ⟨_, _, _, _, _, _, _, _, _, _, _, l2, _⟩ := F2.ex
  rw [l1] at l2
  injection l2 with l2
  injection l2 with _ _ l2 _
  injection l2
/-- a promise that lets nothing out -/
theorem FnOk.calm {P : Program} {w : World} {K : PySem.W.Frag} {mg : Str → Option Value} {base : Heap} {k : Nat} {f : Addr} {fd : FuncData} {ps : List Str} {sp sp' : Sp} (F : FnOk P w K mg base (L2.CX P w) k f fd ps sp)
    (h : ∀ vs H Q E, sp' vs H Q E → sp vs H Q fun _ _ _ => False) : FnOk P w K mg base L2.CX0 k f fd ps sp' :=
  ⟨fun vs H Q E q => F.len vs H Q _ (h _ _ _ _ q), fun A outer s H args us vs Q E hr he hb hv hs => codeAny_mono (F.run A outer s H args us vs Q _ hr he hb hv (h _ _ _ _ hs)) fun r s' hq => by
    cases r with
    | ok fl => cases fl <;> exact hq
    | error e =>
      obtain ⟨_, _, _, _, _, _, _, _, _, _, _, _, z⟩ := hq
      exact z.elim⟩
/-- names by number -/
def nmOf (l : List Str) (f : Nat) : Str := (l[f]?).getD ⟨Array.replicate (1000 + f) 0⟩
theorem nmOf_inj {l : List Str} (h1 : l.Nodup) (h2 : l.all (fun x => decide (x.cps.size < 1000)) = true) (f g : Nat) (h : nmOf l f = nmOf l g) : f = g := by
  have sz : ∀ {x : Str} {i : Nat}, l[i]? = some x → x.cps.size < 1000 := fun {x i} e => by
    have := List.all_eq_true.mp h2 x (List.mem_of_getElem? e)
    simpa using this
  unfold nmOf at h
  cases hf : l[f]? with
  | some x =>
    cases hg : l[g]? with
    | some y =>
      rw [hf, hg] at h
      have h : x = y := h
      subst h
      obtain ⟨a1, a2⟩ := List.getElem?_eq_some_iff.mp hf
      obtain ⟨b1, b2⟩ := List.getElem?_eq_some_iff.mp hg
      exact (List.getElem_inj h1).mp (a2.trans b2.symm)
    | none =>
      rw [hf, hg] at h
      have h : x = ⟨Array.replicate (1000 + g) 0⟩ := h
      have := sz hf
      rw [h] at this
      simp at this
      omega
  | none =>
    cases hg : l[g]? with
    | some y =>
      rw [hf, hg] at h
      have h : (⟨Array.replicate (1000 + f) 0⟩ : Str) = y := h
      have := sz hg
      rw [← h] at this
      simp at this
      omega
    | none =>
      rw [hf, hg] at h
      have h : (⟨Array.replicate (1000 + f) 0⟩ : Str) = ⟨Array.replicate (1000 + g) 0⟩ := h
      have := congrArg (fun z : Str => z.cps.size) h
      simp at this
      exact this
/-- what a law's def promises -/
def spLaw (K : PySem.W.Frag) (m : Nat) : Sp := fun vs H Q _ => ∃ (a : Addr) (ns : List Int), vs = [.ref a] ∧ ns.length ≤ m ∧ SqL K H a (ns.map V.int) ∧ ∀ H', Q (.bl true) H'
theorem law_ok {m : Nat} {r : List Ev.D → List Cell → FRes} {ps : List Str} (hp : ps.length = 1) (law : ∀ ns : List Int, ns.length ≤ m → ∃ c, r [.lst (ns.map .int)] [] = .ok (.bl true) c) :
    ∀ vs H Q E, spLaw N.K m vs H Q E → spF N ps.length r vs H Q fun _ _ _ => False := by
  rintro vs H Q E ⟨a, ns, rfl, hl, hS, hQ⟩
  obtain ⟨c, e⟩ := law ns hl
  have em : msk H (Mk (fun _ => 0) [] ⟨[], []⟩ fun _ => False) = H := by
    funext a
    exact msk_of fun h => (Mk_fresh a).mp h
  refine ⟨hp.symm, fun _ => 0, [], fun _ => False, [.lst (ns.map .int)], ⟨rfl, fun i x h => by simp at h, fun l c h => ?_, fun l l' c c' a h => ?_, fun a h => h.elim⟩, ?_, ?_⟩
  · cases l with
    | sl i => exact absurd h noSl
    | id k => have h : ([] : List Cell)[k]? = some c := h; simp at h
  · cases l with
    | sl i => exact absurd h noSl
    | id k => have h : ([] : List Cell)[k]? = some c := h; simp at h
  · rw [em]
    exact .cons (.lst hS (RepDs.ints ns)) .nil
  · rw [e]
    intro ad' H' v R' P' rv
    cases rv
    exact hQ H'
end Ev
namespace Ev
theorem lookup_mem {α : Type} {k : Nat} {x : α} : ∀ {l : List (Nat × α)}, l.lookup k = some x → (k, x) ∈ l
  | [], h => by cases h
  | (a, b) :: l, h => by
    rw [List.lookup_cons] at h
    by_cases e : k = a
    · subst e
      simp at h
      subst h
      exact List.mem_cons_self ..
    · have e2 : (k == a) = false := by simpa using e
      rw [e2] at h
      exact List.mem_cons_of_mem _ (lookup_mem h)
theorem find_mem {k m f : Nat} {l : List (Nat × Nat × Nat)} (h : (l.find? fun q => q.1 == k && q.2.1 == m).map (·.2.2) = some f) : (k, m, f) ∈ l := by
  cases hf : l.find? fun q => q.1 == k && q.2.1 == m with
  | none => rw [hf] at h; cases h
  | some q =>
    rw [hf] at h
    have h1 := List.find?_some hf
    have h2 := List.mem_of_find?_eq_some hf
    obtain ⟨a, b, c⟩ := q
    simp only [Bool.and_eq_true, beq_iff_eq] at h1
    obtain ⟨rfl, rfl⟩ := h1
    cases h
    exact h2
end Ev

set_option autoImplicit false
set_option linter.all false
set_option maxRecDepth 100000
/-! More facts of the head: a module's own tuples. -/
namespace Ev
open PySem L2 PyProof.Rows
mutual
/-- the value stands for the data -/
def kcD (K : PySem.W.Frag) : D → Value → Bool
  | .non, v => match v with | .none => true | _ => false
  | .bl b, v => match v with | .bool c => b == c | _ => false
  | .int i, v => match v with | .int j _ => decide (i = j) | _ => false
  | .str x, v => match v with | .str y _ => decide (x = y) | _ => false
  | .tup ds, v => match v with
    | .ref a => (match K.lookup a with
      | some ⟨c, _, .seq its _, _⟩ => decide (c = .type "tuple") && decide (its.size ≤ sizeLine) && kcDs K ds its.toList
      | _ => false)
    | _ => false
  | _, _ => false
def kcDs (K : PySem.W.Frag) : List D → List Value → Bool
  | [], vs => match vs with | [] => true | _ => false
  | d :: ds, vs => match vs with
    | v :: vs => kcD K d v && kcDs K ds vs
    | [] => false
end
mutual
theorem kcD_ok {N : Nms} : ∀ (d : D) (v : Value), kcD N.K d v = true → ∃ x, RelV x v ∧ ∀ n ad B, RepD N n ad B x d
  | .non, v, h => by
    cases v <;> try (exact nomatch (show false = true from h))
    exact ⟨.non, rfl, fun _ _ _ => .non⟩
  | .bl b, v, h => by
    cases v <;> try (exact nomatch (show false = true from h))
    rename_i c
    have h : (b == c) = true := h
    obtain rfl := beq_iff_eq.mp h
    exact ⟨.bl b, rfl, fun _ _ _ => .bl b⟩
  | .int i, v, h => by
    cases v <;> try (exact nomatch (show false = true from h))
    rename_i j t
    obtain rfl := of_decide_eq_true (show decide (i = j) = true from h)
    exact ⟨.int i, ⟨t, rfl⟩, fun _ _ _ => .int i⟩
  | .str i, v, h => by
    cases v <;> try (exact nomatch (show false = true from h))
    rename_i j t
    obtain rfl := of_decide_eq_true (show decide (i = j) = true from h)
    exact ⟨.str i, ⟨t, rfl⟩, fun _ _ _ => .str i⟩
  | .tup ds, v, h => by
    cases v <;> try (exact nomatch (show false = true from h))
    rename_i a
    have h : (match N.K.lookup a with
      | some ⟨c, _, .seq its _, _⟩ => decide (c = .type "tuple") && decide (its.size ≤ sizeLine) && kcDs N.K ds its.toList
      | _ => false) = true := h
    cases e : N.K.lookup a with
    | none => rw [e] at h; cases h
    | some o =>
      obtain ⟨c, dd, dt, sl⟩ := o
      rw [e] at h
      cases dt <;> try (exact nomatch (show false = true from h))
      rename_i its k
      simp only [Bool.and_eq_true, decide_eq_true_eq] at h
      obtain ⟨⟨rfl, h2⟩, h3⟩ := h
      obtain ⟨xs, r, rs⟩ := kcDs_ok ds its.toList h3
      exact ⟨.ref a, rfl, fun n ad B => .tup (.inr ⟨_, its, k, e, rfl, rfl, h2, r⟩) (rs n ad B)⟩
  | .lst _, v, h => nomatch (show false = true from h)
  | .dct _, v, h => nomatch (show false = true from h)
  | .obj _ _, v, h => nomatch (show false = true from h)
  | .ref _, v, h => nomatch (show false = true from h)
theorem kcDs_ok {N : Nms} : ∀ (ds : List D) (vs : List Value), kcDs N.K ds vs = true → ∃ xs, Vals xs vs ∧ ∀ n ad B, RepDs N n ad B xs ds
  | [], vs, h => by
    cases vs with
    | nil => exact ⟨[], .nil, fun _ _ _ => .nil⟩
    | cons => exact nomatch (show false = true from h)
  | d :: ds, vs, h => by
    cases vs with
    | nil => exact nomatch (show false = true from h)
    | cons v vs =>
      have h : (kcD N.K d v && kcDs N.K ds vs) = true := h
      simp only [Bool.and_eq_true] at h
      obtain ⟨x, r, rx⟩ := kcD_ok d v h.1
      obtain ⟨xs, r2, rxs⟩ := kcDs_ok ds vs h.2
      exact ⟨x :: xs, .cons r r2, fun n ad B => .cons (rx n ad B) (rxs n ad B)⟩
end
/-- a module's own data -/
def conB (K : PySem.W.Frag) (x : Str) (d : D) : Bool := match PySem.W.nsIn K mainGlobals x with
  | some (some v) => kcD K d v
  | _ => false
theorem conB_ok {N : Nms} {h : Heap} {mg : Str → Option Value} (X : N.K.In h) (Gm : h.Ns mainGlobals mg) {x : Str} {d : D} (c : conB N.K x d = true) : ∃ v u, mg x = some u ∧ RelV v u ∧ ∀ n ad B, RepD N n ad B v d := by
  unfold conB at c
  split at c
  · rename_i v e
    obtain ⟨y, r, ry⟩ := kcD_ok d v c
    exact ⟨y, v, PySem.W.mg_of X Gm e, r, ry⟩
  · cases c
/-! ### the Hook -/
/-- a further fact -/
inductive Fx where
  | con (x : Str) (d : D)
def Fx.ok (K : PySem.W.Frag) : Fx → Bool
  | .con x d => conB K x d
abbrev AlX : Type := He.AlD × Bool
def obsX (fa : List He.Fa) (fn : List He.DefD) (fx : List Fx) (K : PySem.W.Frag) : AlX := (He.obsD fa fn K, fx.all fun f => f.ok K)
def valX (fn : List He.DefD) : AlX := (He.valD fn, true)
def SaysX (fa : List He.Fa) (fn : List He.DefD) (fx : List Fx) (K : PySem.W.Frag) : Prop := obsX fa fn fx K = valX fn
def obsXG (n : Nat) (fa : List He.Fa) (fn : List He.DefD) (fx : List Fx) (g : Addr → Option Obj) : AlX := obsX fa fn fx (He.frG g (He.asD g n))
def hookX (n : Nat) (fa : List He.Fa) (fn : List He.DefD) (fx : List Fx) : PySem.W.Hook where
  α := AlX
  obs := fun s => obsXG n fa fn fx s.heap.get?
  val := fun _ => valX fn
  says := fun _ h => ∃ K : PySem.W.Frag, K.In h ∧ SaysX fa fn fx K
  of := fun _ _ e => ⟨_, He.frG_in, e⟩
  keeps := fun _ _ _ ⟨K, hK, c⟩ k => ⟨K, PySem.W.Frag.In.keeps hK k, c⟩
theorem obsXG_eq {n : Nat} {fa : List He.Fa} {fn : List He.DefD} {fx : List Fx} {g : Addr → Option Obj} {s : Shared} (h : ∀ a, g a = s.heap.get? a) : obsXG n fa fn fx g = (hookX n fa fn fx).obs s := by
  have e : g = s.heap.get? := funext h
  rw [e] <;> rfl
section
variable {fa : List He.Fa} {fn : List He.DefD} {fx : List Fx} {K : PySem.W.Frag}
theorem SaysX.base (c : SaysX fa fn fx K) : He.SaysD fa fn K := congrArg (fun z : AlX => z.1) c
theorem SaysX.more (c : SaysX fa fn fx K) (i : Nat) {f : Fx} (h : fx[i]? = some f := by rfl) : f.ok K = true :=
  List.all_eq_true.mp (show (fx.all fun f => f.ok K) = true from congrArg (fun z : AlX => z.2) c) f (List.mem_of_getElem? h)
end
end Ev

set_option linter.all false
set_option maxRecDepth 100000
set_option maxHeartbeats 1000000
/-! Plain laws: how runs are read. -/
namespace Ev
open PySem
theorem line_eq : line = 16777216 := rfl
section
variable {G : Tab} {F : FT}
theorem loopC_cons {tg : Tg} {tt : M Bool} {el : M D} {own : List Nat} {acc : List D} {x : D} {xs : List D} {s s1 s2 s3 : S} {t : D} (h1 : bindT tg x (wipe own s) = some s1) (h2 : tt s1 = .ok true s2) (h3 : el s2 = .ok t s3) (h4 : acc.length < line) :
    loopC tg tt el own acc (x :: xs) s = loopC tg tt el own (acc ++ [t]) xs s3 := by
  conv => lhs; unfold loopC
  simp only [h1, h2, h3, if_pos h4]
theorem loopF_next {bd : D → M Ev.Flow} {kl : List Nat} {x : D} {xs : List D} {s s' : S} (h : bd x s = .ok .next s') : loopF bd kl (x :: xs) s = loopF bd kl xs (wipe kl s') := by
  conv => lhs; unfold loopF
  simp only [h]
theorem loopF_ret {bd : D → M Ev.Flow} {kl : List Nat} {x t : D} {xs : List D} {s s' : S} (h : bd x s = .ok (.ret t) s') : loopF bd kl (x :: xs) s = .ok (.ret t) s' := by
  conv => lhs; unfold loopF
  simp only [h]
theorem loopW_next {c : M Bool} {bd : M Ev.Flow} {kl : List Nat} {n : Nat} {s s1 s2 : S} (h1 : c s = .ok true s1) (h2 : bd s1 = .ok .next s2) : loopW c bd kl (n + 1) s = loopW c bd kl n (wipe kl s2) := by
  conv => lhs; unfold loopW
  simp only [h1, h2]
theorem loopW_end {c : M Bool} {bd : M Ev.Flow} {kl : List Nat} {n : Nat} {s s1 : S} (h1 : c s = .ok false s1) : loopW c bd kl (n + 1) s = .ok .next s1 := by
  conv => lhs; unfold loopW
  simp only [h1]
theorem lc_eval {it : It} {tg : Tg} {elt : Ex} {ifs : Exs} {own : List Nat} {s s1 s2 : S} {xs ts : List D} (h1 : evIt G F it s = .ok xs s1) (h2 : loopC tg (evQs G F ifs) (M.bind (evX G F elt) PV.store) own [] xs s1 = .ok ts s2) :
    evX G F (.lc elt tg it ifs own) s = .ok (.d (.lst ts)) (unown own s1.loc s2) := by
  show M.bind (evIt G F it) (fun xs => M.bind (lcM own (loopC tg (evQs G F ifs) (M.bind (evX G F elt) PV.store) own [] xs)) fun ts => M.pure (PV.d (.lst ts))) s = _
  simp only [M.bind, h1, lcM, h2, M.pure]
theorem asg_eval {t : Tg} {e : Ex} {s s1 s2 : S} {x : D} (h1 : evX G F e s = .ok (.d x) s1) (h2 : bindT t x s1 = some s2) : evS G F (.asg t e) s = .ok .next s2 := by
  show M.bind (evX G F e) (fun x => M.bind x.store fun y => bindM t y) s = _
  simp only [M.bind, h1, PV.store, M.pure, bindM, h2]
theorem ret_eval {e : Ex} {s s1 : S} {x : D} (h1 : evX G F e s = .ok (.d x) s1) : evS G F (.ret e) s = .ok (.ret x) s1 := by
  show M.bind (evX G F e) (fun x => M.bind x.store fun y => M.pure (Ev.Flow.ret y)) s = _
  simp only [M.bind, h1, PV.store, M.pure]
theorem ex_eval {e : Ex} {s s1 : S} {x : PV} (h1 : evX G F e s = .ok x s1) : evS G F (.ex e) s = .ok .next s1 := by
  show M.bind (evX G F e) (fun _ => M.pure Ev.Flow.next) s = _
  simp only [M.bind, h1, M.pure]
theorem ife_eval {c : Ex} {a b : Sts} {s s1 : S} {q : Bool} (h : evX G F c s = .ok (.d (.bl q)) s1) : evS G F (.ife c a b) s = if q = true then evSs G F a s1 else evSs G F b s1 := by
  show M.bind (evX G F c) (fun x => M.bind (toB x) fun k => if k then evSs G F a else evSs G F b) s = _
  simp only [M.bind, h, toB, M.pure]
  cases q <;> rfl
theorem sts_nil {s : S} : evSs G F .nil s = .ok .next s := rfl
theorem sts_next {st : St} {ss : Sts} {s s1 : S} (h : evS G F st s = .ok .next s1) : evSs G F (.cons st ss) s = evSs G F ss s1 := by
  show (match evS G F st s with | .ok .next st' => evSs G F ss st' | r => r) = _
  rw [h]
theorem sts_ret {st : St} {ss : Sts} {s s1 : S} {t : D} (h : evS G F st s = .ok (.ret t) s1) : evSs G F (.cons st ss) s = .ok (.ret t) s1 := by
  show (match evS G F st s with | .ok .next st' => evSs G F ss st' | r => r) = _
  rw [h]
theorem for_eval {it : It} {tg : Tg} {a : Sts} {kl : List Nat} {s s1 : S} {xs : List D} (hn : isLoop it = none) (hi : evIt G F it s = .ok xs s1) : evS G F (.for tg it a kl) s = loopF (turnM tg (evSs G F a)) kl xs s1 := by
  have e : evS G F (.for tg it a kl) = M.bind (evIt G F it) fun l => loopF (turnM tg (evSs G F a)) kl l := by
    show (match isLoop it with | some e => _ | none => _) = _
    rw [hn]
  rw [e]
  simp only [M.bind, hi]
theorem turn_v {i : Nat} {bd : M Ev.Flow} {x : D} {s : S} : turnM (.v i) bd x s = bd { s with loc := s.loc.set i (some (.d x)) } := rfl
theorem or1 {e : Ex} : evOr G F (.cons e .nil) = evX G F e := rfl
theorem and1 {e : Ex} : evAnd G F (.cons e .nil) = evX G F e := rfl
theorem or_eq {es : Exs} : evX G F (.or es) = evOr G F es := rfl
theorem and_eq {es : Exs} : evX G F (.and es) = evAnd G F es := rfl
theorem not_eval {e : Ex} {s s' : S} {b : Bool} (h : evX G F e s = .ok (.d (.bl b)) s') : evX G F (.not e) s = .ok (.d (.bl !b)) s' := by
  show M.bind (evX G F e) (fun x => M.bind (toB x) fun b => M.pure (PV.d (.bl !b))) s = _
  simp only [M.bind, h, toB, M.pure]
theorem or2 {e e2 : Ex} {es : Exs} {s s' : S} {b : Bool} (h : evX G F e s = .ok (.d (.bl b)) s') : evOr G F (.cons e (.cons e2 es)) s = (if b then .ok (.d (.bl true)) s' else evOr G F (.cons e2 es) s') := by
  show M.bind (evX G F e) (fun x => M.bind (toB x) fun c => if c then M.pure (PV.d (.bl true)) else evOr G F (.cons e2 es)) s = _
  simp only [M.bind, h]
  cases b <;> rfl
theorem and2 {e e2 : Ex} {es : Exs} {s s' : S} {b : Bool} (h : evX G F e s = .ok (.d (.bl b)) s') : evAnd G F (.cons e (.cons e2 es)) s = (if b then evAnd G F (.cons e2 es) s' else .ok (.d (.bl false)) s') := by
  show M.bind (evX G F e) (fun x => M.bind (toB x) fun c => if c then evAnd G F (.cons e2 es) else M.pure (PV.d (.bl false))) s = _
  simp only [M.bind, h]
  cases b <;> rfl
theorem rg0 (k : Nat) : (rangeL 0 k).map D.int = (List.range' 0 k).map fun (j : Nat) => D.int (j : Int) := by
  simp [rangeL, List.range_eq_range']
theorem it_rng1 {ex : Ex} {s s1 : S} {l : Nat} {v : Int} (h : evX G F ex s = .ok (.d (.int v)) s1) (e : rngF (.d (.int 0)) (.d (.int v)) = some (0, (l : Int))) : evIt G F (.rng1 ex) s = .ok ((List.range' 0 l).map fun (j : Nat) => D.int (j : Int)) s1 := by
  show M.bind (evX G F ex) (fun x => M.of ((rngF (.d (.int 0)) x).map fun q => (rangeL q.1 q.2).map D.int)) s = _
  simp only [M.bind, h, e, Option.map, M.of, M.pure]
  rw [rg0]
/-- a call that keeps the store's form -/
theorem call_plain {f : Nat} {es : Exs} {s s1 : S} {as : List D} {r : D} {c : List Cell} (h1 : evDs G F es s = .ok as s1) (h2 : F f as s1.cel = .ok r c) : evX G F (.call .plain f es) s = .ok (.d r) { s1 with cel := c } := by
  show M.bind (evDs G F es) (fun as => M.bind (doCall .plain (F f) as) fun x => M.pure (PV.d x)) s = _
  simp only [M.bind, h1, doCall, h2, endC, M.pure]
end
end Ev

set_option linter.all false
set_option maxRecDepth 100000
set_option maxHeartbeats 1000000
set_option autoImplicit false
/-! Plain laws: loops by what they keep. -/
namespace Ev
open PySem
inductive F2 {α β : Type} (R : α → β → Prop) : List α → List β → Prop
  | nil : F2 R [] []
  | cons {x : α} {t : β} {xs : List α} {ts : List β} : R x t → F2 R xs ts → F2 R (x :: xs) (t :: ts)
theorem F2.length {α β : Type} {R : α → β → Prop} : ∀ {xs : List α} {ts : List β}, F2 R xs ts → ts.length = xs.length
  | _, _, .nil => rfl
  | _, _, .cons _ h => by simp [F2.length h]
theorem F2.eq_map {α β : Type} {f : α → β} : ∀ {xs : List α} {ts : List β}, F2 (fun x t => t = f x) xs ts → ts = xs.map f
  | _, _, .nil => rfl
  | _, _, .cons h r => by rw [List.map_cons, h, F2.eq_map r]
/-- what each item is, is chosen -/
theorem F2.pick {α β γ : Type} {Q : α → γ → Prop} {g : γ → β} : ∀ {xs : List α} {ts : List β}, F2 (fun x t => ∃ y, Q x y ∧ t = g y) xs ts → ∃ ys : List γ, ts = ys.map g ∧ F2 Q xs ys
  | _, _, .nil => ⟨[], rfl, .nil⟩
  | _, _, .cons ⟨y, h, e⟩ r => by
    obtain ⟨ys, e2, h2⟩ := F2.pick r
    exact ⟨y :: ys, by rw [List.map_cons, e, e2], .cons h h2⟩
theorem F2.all {α β : Type} {R : α → β → Prop} {P : β → Prop} (i : ∀ x t, R x t → P t) : ∀ {xs : List α} {ts : List β}, F2 R xs ts → ∀ t ∈ ts, P t
  | _, _, .nil, t, h => by simp at h
  | _, _, .cons h r, t, ht => by
    rcases List.mem_cons.mp ht with rfl | ht
    · exact i _ _ h
    · exact F2.all i r t ht
theorem sml_nat {n : Nat} (h : n ≤ 1000000) : sml (n : Int) = true := by
  unfold sml big; simp; omega
section
variable {G : Tab} {F : FT}
theorem loopC_rel {α : Type} {g : α → D} {tg : Tg} {tt : M Bool} {el : M D} {own : List Nat} (I : S → Prop) (R : α → D → Prop) (p : α → Bool) : ∀ (xs : List α) (acc : List D) (s : S),
    (∀ x ∈ xs, ∀ s, I s → ∃ s1 s2, bindT tg (g x) (wipe own s) = some s1 ∧ tt s1 = .ok (p x) s2 ∧ (p x = false → I s2) ∧ (p x = true → ∃ t s3, el s2 = .ok t s3 ∧ R x t ∧ I s3)) →
    acc.length + xs.length ≤ line → I s → ∃ ts s', loopC tg tt el own acc (xs.map g) s = .ok (acc ++ ts) s' ∧ F2 R (xs.filter p) ts ∧ I s'
  | [], acc, s, _, _, hs => ⟨[], s, by simp [loopC, M.pure], .nil, hs⟩
  | x :: xs, acc, s, h, hl, hs => by
    obtain ⟨s1, s2, b, t1, n, y⟩ := h x (List.mem_cons_self ..) s hs
    have hr := fun z hz => h z (List.mem_cons_of_mem _ hz)
    have e : loopC tg tt el own acc ((x :: xs).map g) s = match bindT tg (g x) (wipe own s) with
      | none => .stk
      | some s1 => match tt s1 with
        | .ok true s2 => (match el s2 with
          | .ok t s3 => if acc.length < line then loopC tg tt el own (acc ++ [t]) (xs.map g) s3 else .stk
          | _ => .stk)
        | .ok false s2 => loopC tg tt el own acc (xs.map g) s2
        | _ => .stk := by
      rw [List.map_cons]
      conv => lhs; unfold loopC
      all_goals rfl
    rw [e, b]
    simp only [t1]
    cases hp : p x with
    | false =>
      simp only []
      obtain ⟨ts, s', e, f, i⟩ := loopC_rel I R p xs acc s2 hr (by simp at hl; omega) (n hp)
      exact ⟨ts, s', e, by rw [List.filter_cons_of_neg (by simp [hp])]; exact f, i⟩
    | true =>
      obtain ⟨t, s3, e1, r, i⟩ := y hp
      have ha : acc.length < line := by simp at hl; omega
      simp only [e1, if_pos ha]
      obtain ⟨ts, s', e, f, i⟩ := loopC_rel I R p xs (acc ++ [t]) s3 hr (by simp at hl ⊢; omega) i
      refine ⟨t :: ts, s', by rw [e, List.append_assoc]; rfl, by rw [List.filter_cons_of_pos hp]; exact .cons r f, i⟩
/-- a comprehension without a test -/
theorem lc_run {α : Type} {g : α → D} {it : It} {tg : Tg} {elt : Ex} {own : List Nat} {s s1 : S} {xs : List α} (I : S → Prop) (R : α → D → Prop) (h1 : evIt G F it s = .ok (xs.map g) s1) (hl : xs.length ≤ line) (h0 : I s1)
    (h : ∀ x ∈ xs, ∀ s, I s → ∃ s1 t s3, bindT tg (g x) (wipe own s) = some s1 ∧ M.bind (evX G F elt) PV.store s1 = .ok t s3 ∧ R x t ∧ I s3) :
    ∃ ts s2, evX G F (.lc elt tg it .nil own) s = .ok (.d (.lst ts)) (unown own s1.loc s2) ∧ F2 R xs ts ∧ I s2 := by
  obtain ⟨ts, s', e, f, i⟩ := loopC_rel (g := g) (tg := tg) (tt := evQs G F .nil) (el := M.bind (evX G F elt) PV.store) (own := own) I R (fun _ => true) xs [] s1 (fun x hx s hs => by
    obtain ⟨s1, t, s3, a, b, r, i⟩ := h x hx s hs
    exact ⟨s1, s1, a, rfl, fun z => (by cases z), fun _ => ⟨t, s3, b, r, i⟩⟩) (by simpa using hl) h0
  refine ⟨ts, s', lc_eval h1 e, ?_, i⟩
  rw [List.filter_eq_self.mpr (by simp)] at f
  exact f
/-- with one test -/
theorem lcq_run {α : Type} {g : α → D} {it : It} {tg : Tg} {elt q : Ex} {own : List Nat} {s s1 : S} {xs : List α} (I : S → Prop) (R : α → D → Prop) (p : α → Bool) (h1 : evIt G F it s = .ok (xs.map g) s1) (hl : xs.length ≤ line) (h0 : I s1)
    (h : ∀ x ∈ xs, ∀ s, I s → ∃ s1 s2, bindT tg (g x) (wipe own s) = some s1 ∧ evX G F q s1 = .ok (.d (.bl (p x))) s2 ∧ (p x = false → I s2) ∧ (p x = true → ∃ t s3, M.bind (evX G F elt) PV.store s2 = .ok t s3 ∧ R x t ∧ I s3)) :
    ∃ ts s2, evX G F (.lc elt tg it (.cons q .nil) own) s = .ok (.d (.lst ts)) (unown own s1.loc s2) ∧ F2 R (xs.filter p) ts ∧ I s2 := by
  obtain ⟨ts, s', e, f, i⟩ := loopC_rel (g := g) (tg := tg) (tt := evQs G F (.cons q .nil)) (el := M.bind (evX G F elt) PV.store) (own := own) I R p xs [] s1 (fun x hx s hs => by
    obtain ⟨s1, s2, a, b, n, y⟩ := h x hx s hs
    refine ⟨s1, s2, a, ?_, n, y⟩
    show M.bind (evX G F q) (fun x => M.bind (toB x) fun b => if b then evQs G F .nil else M.pure false) s1 = _
    simp only [M.bind, b, toB, M.pure]
    cases p x <;> rfl) (by simpa using hl) h0
  exact ⟨ts, s', lc_eval h1 e, f, i⟩
/-- a loop that goes through -/
theorem loopF_map {α : Type} {g : α → D} {bd : D → M Ev.Flow} {kl : List Nat} (I : List α → S → Prop) : ∀ (xs done : List α) (s : S),
    (∀ done x s, x ∈ xs → I done s → ∃ s', bd (g x) s = .ok .next s' ∧ I (done ++ [x]) (wipe kl s')) → I done s → ∃ s', loopF bd kl (xs.map g) s = .ok .next (wipe kl s') ∧ I (done ++ xs) s'
  | [], done, s, _, hs => ⟨s, rfl, by simpa using hs⟩
  | x :: xs, done, s, h, hs => by
    obtain ⟨s1, e, i⟩ := h done x s (List.mem_cons_self ..) hs
    obtain ⟨s2, e2, i2⟩ := loopF_map I xs (done ++ [x]) _ (fun d x s hx => h d x s (List.mem_cons_of_mem _ hx)) i
    exact ⟨s2, (loopF_next e).trans e2, by simpa using i2⟩
theorem loopF_mapl {α : Type} {g : α → D} {bd : D → M Ev.Flow} {kl : List Nat} (I : List α → S → Prop) (N : Nat) : ∀ (xs done : List α) (s : S), done.length + xs.length = N →
    (∀ done x s, x ∈ xs → done.length < N → I done s → ∃ s', bd (g x) s = .ok .next s' ∧ I (done ++ [x]) (wipe kl s')) → I done s → ∃ s', loopF bd kl (xs.map g) s = .ok .next (wipe kl s') ∧ I (done ++ xs) s'
  | [], done, s, _, _, hs => ⟨s, rfl, by simpa using hs⟩
  | x :: xs, done, s, hN, h, hs => by
    obtain ⟨s1, e, i⟩ := h done x s (List.mem_cons_self ..) (by simp at hN; omega) hs
    obtain ⟨s2, e2, i2⟩ := loopF_mapl I N xs (done ++ [x]) _ (by simp at hN ⊢; omega) (fun d x s hx => h d x s (List.mem_cons_of_mem _ hx)) i
    exact ⟨s2, (loopF_next e).trans e2, by simpa using i2⟩
/-- over a, a + 1, .. -/
theorem loopF_rng {bd : D → M Ev.Flow} {kl : List Nat} (I : Nat → S → Prop) : ∀ (n a : Nat) (s : S),
    (∀ j s, a ≤ j → j < a + n → I j s → ∃ s', bd (.int (j : Int)) s = .ok .next s' ∧ I (j + 1) (wipe kl s')) → I a s → ∃ s', loopF bd kl ((List.range' a n).map fun (j : Nat) => D.int (j : Int)) s = .ok .next (wipe kl s') ∧ I (a + n) s'
  | 0, a, s, _, hs => ⟨s, rfl, hs⟩
  | n + 1, a, s, h, hs => by
    obtain ⟨s1, e, i⟩ := h a s (by omega) (by omega) hs
    obtain ⟨s2, e2, i2⟩ := loopF_rng I n (a + 1) _ (fun j s h1 h2 => h j s (by omega) (by omega)) i
    rw [List.range'_succ, List.map_cons]
    exact ⟨s2, (loopF_next e).trans e2, by rw [show a + (n + 1) = a + 1 + n by omega]; exact i2⟩
/-- over a list, numbered -/
theorem loopF_enum {α : Type} {g : α → D} {bd : D → M Ev.Flow} {kl : List Nat} (I : Nat → S → Prop) : ∀ (xs : List α) (k : Nat) (s : S),
    (∀ j x s, xs[j]? = some x → I (k + j) s → ∃ s', bd (.tup [.int ((k + j : Nat) : Int), g x]) s = .ok .next s' ∧ I (k + j + 1) (wipe kl s')) → I k s → ∃ s', loopF bd kl (enumFrom k (xs.map g)) s = .ok .next (wipe kl s') ∧ I (k + xs.length) s'
  | [], k, s, _, hs => ⟨s, rfl, hs⟩
  | x :: xs, k, s, h, hs => by
    obtain ⟨s1, e, i⟩ := h 0 x s rfl hs
    obtain ⟨s2, e2, i2⟩ := loopF_enum I xs (k + 1) _ (fun j y s h1 h2 => by
      have := h (j + 1) y s (by simpa using h1) (by rw [show k + (j + 1) = k + 1 + j by omega]; exact h2)
      rw [show k + (j + 1) = k + 1 + j by omega] at this
      exact this) i
    refine ⟨s2, ?_, by rw [show k + (x :: xs).length = k + 1 + xs.length by simp; omega]; exact i2⟩
    show loopF bd kl (.tup [.int (k : Int), g x] :: enumFrom ((k : Int) + 1) (xs.map g)) s = _
    have e : bd (.tup [.int (k : Int), g x]) s = .ok .next s1 := e
    rw [loopF_next e]
    have : ((k : Int) + 1) = ((k + 1 : Nat) : Int) := rfl
    rw [this]
    exact e2
theorem for_val {e : Ex} {tg : Tg} {a : Sts} {kl : List Nat} {s s1 s2 : S} {pv : PV} {l : List D} (h1 : evX G F e s = .ok pv s1) (h2 : walk pv s1 = .ok (.xs l) s2) : evS G F (.for tg (.val e) a kl) s = loopF (turnM tg (evSs G F a)) kl l s2 := by
  have e : evS G F (.for tg (.val e) a kl) = M.bind (evX G F e) fun x => M.bind (walk x) fun wk => loopA (turnM tg (evSs G F a)) kl wk := rfl
  rw [e]
  simp only [M.bind, h1, h2, loopA]
theorem asgO_eval {i : Nat} {e : Ex} {s s1 : S} {x : D} {c : Cell} (h1 : evX G F e s = .ok (.d x) s1) (h2 : thaw (.d x) = some c) (h3 : i < s1.loc.length) : evS G F (.asgO i e) s = .ok .next { s1 with loc := s1.loc.set i (some (.own c)) } := by
  show M.bind (evX G F e) (fun x => asgOM i x) s = _
  simp only [M.bind, h1, asgOM, h2, if_pos h3]
theorem tuple_eval {e : Ex} {s s1 : S} {xs : List D} (h : evX G F e s = .ok (.d (.lst xs)) s1) : evX G F (.bi .tuple (.cons e .nil)) s = .ok (.d (.tup xs)) s1 := by
  show M.bind (M.bind (evX G F e) fun x => M.bind (M.pure []) fun r => M.pure (x :: r)) (fun xs => biM .tuple xs) s = _
  simp only [M.bind, h, M.pure, biM, valsOf, PV.val, Option.map, biF]
theorem new_eval {e : Ex} {s s1 : S} {xs : List D} (h : evX G F e s = .ok (.d (.lst xs)) s1) : evX G F (.new e) s = .ok (.d (.ref s1.cel.length)) { s1 with cel := s1.cel ++ [.lst xs] } := by
  show M.bind (evX G F e) newM s = _
  simp only [M.bind, h, newM, thaw]
theorem doMm_eval {m : Mm} {pv : PV} {as : List D} {s : S} {l : Lo} {c c' : Cell} {x : D} (h1 : pv.lo = some l) (h2 : s.get l = some c) (h3 : mmF m c as = some (x, c')) : doMm m pv as s = .ok x (s.put c' l) := by
  unfold doMm
  rw [h1]
  simp only
  rw [h2]
  simp only
  rw [h3]
theorem mm_eval {m : Mm} {o : Ex} {es : Exs} {s s1 s2 : S} {pv : PV} {as : List D} {l : Lo} {c : Cell} {ts : List D} {c' : Cell} {x : D} (h1 : evX G F o s = .ok pv s1) (hl : pv.lo = some l) (hc : s1.get l = some (.lst ts)) (h2 : evDs G F es s1 = .ok as s2) (h3 : s2.get l = some c) (h4 : mmF m c as = some (x, c')) :
    evX G F (.mm m o es) s = .ok (.d x) (s2.put c' l) := by
  show M.bind (evX G F o) (fun x => M.bind (lstM x) fun _ => M.bind (evDs G F es) fun as => M.bind (doMm m x as) fun y => M.pure (PV.d y)) s = _
  have h5 := doMm_eval hl h3 h4
  have h6 : lstM pv s1 = .ok () s1 := by
    unfold lstM
    rw [hl]
    simp only
    rw [hc]
  simp only [M.bind, h1, h6, h2, h5, M.pure]
theorem pop_at {ts : List D} {d : Nat} (h1 : d < ts.length) (h2 : ts.length ≤ 1000000) : mmF .popAt (.lst ts) [.int d] = some (ts[d], .lst (ts.eraseIdx d)) := by
  have g : sml (d : Int) = true := sml_nat (by omega)
  have e : Ev.ixN ts.length (d : Int) = some d := by
    unfold Ev.ixN
    rw [if_pos (Int.natCast_nonneg d), if_pos (by omega)]
    simp
  simp [mmF, g, e, List.getElem?_eq_getElem h1]
theorem rg_eval {t : Bool} {a b : Ex} {s s1 s2 : S} {x y : PV} {q : Int × Int} {z : D} (h1 : evX G F a s = .ok x s1) (h2 : evX G F b s1 = .ok y s2) (h3 : rngF x y = some q) (h4 : rgF t q = some z) : evX G F (.rg t a b) s = .ok (.d z) s2 := by
  show M.bind (evX G F a) (fun x => M.bind (evX G F b) fun y => M.of (((rngF x y).bind (rgF t)).map PV.d)) s = _
  simp only [M.bind, h1, h2, h3, Option.bind, h4, Option.map, M.of, M.pure]
/-- what a statement list does, its parts named -/
def nthS : Sts → Nat → St
  | .cons s _, 0 => s
  | .cons _ ss, n + 1 => nthS ss n
  | .nil, _ => .pass
def dropS : Sts → Nat → Sts
  | ss, 0 => ss
  | .cons _ ss, n + 1 => dropS ss n
  | .nil, _ => .nil
def forB : St → Sts
  | .for _ _ a _ => a
  | .whl _ _ a _ => a
  | _ => .nil
def ifT : St → Sts
  | .ife _ a _ => a
  | _ => .nil
def ifE : St → Sts
  | .ife _ _ b => b
  | _ => .nil
def stE : St → Ex
  | .asg _ e | .asgO _ e | .ret e | .ex e | .asgF _ _ e | .asgI _ _ e => e
  | _ => .non
end
theorem pickI_nat {α : Type} {xs : List α} {n : Nat} : pickI xs (n : Int) = xs[n]? := by
  unfold pickI ixN
  rw [if_pos (Int.natCast_nonneg n)]
  by_cases h : (n : Int) < xs.length
  · rw [if_pos h]; simp
  · rw [if_neg h]
    have : xs.length ≤ n := by omega
    simp [List.getElem?_eq_none this]
theorem rng_nat {n : Nat} (h : n ≤ 1000000) : rngF (.d (.int 0)) (.d (.int n)) = some (0, (n : Int)) := by
  have z : sml 0 = true := by decide
  simp [rngF, sml_nat h, z]
section
variable {G : Tab} {F : FT}
theorem rgF_nat {t : Bool} {n : Nat} (h : n ≤ 1000000) : rgF t ((0 : Int), (n : Int)) = some (if t then .tup ((List.range' 0 n).map fun (j : Nat) => D.int (j : Int)) else .lst ((List.range' 0 n).map fun (j : Nat) => D.int (j : Int))) := by
  have : (n : Int) - 0 ≤ (line : Int) := by rw [line_eq]; omega
  unfold rgF
  rw [if_pos this, rg0]
theorem rng2_nat {n k : Nat} (h3 : k ≤ n) (h4 : n ≤ 1000000) : rngF (.d (.int k)) (.d (.int n)) = some ((k : Int), (n : Int)) := by simp [rngF, sml_nat h4, sml_nat (Nat.le_trans h3 h4)]
theorem rangeL_nat {n k : Nat} : (rangeL (k : Int) (n : Int)).map D.int = (List.range' k (n - k)).map fun (j : Nat) => D.int (j : Int) := by
  have : rangeL (k : Int) (n : Int) = (List.range' k (n - k)).map fun (j : Nat) => (j : Int) := by
    unfold rangeL
    rw [show ((n : Int) - (k : Int)).toNat = n - k by omega]
    apply List.ext_getElem
    · simp
    · intro i h1 h2
      simp
  rw [this, List.map_map]; rfl
theorem it_rng2a {a b : Ex} {s : S} : evIt G F (.rng2 a b) s = M.bind (evX G F a) (fun x => M.bind (evX G F b) fun y => M.of ((rngF x y).map fun q => (rangeL q.1 q.2).map D.int)) s := rfl
theorem it_rng2b {a b : Ex} {s s1 s2 : S} {q : Int × Int} {x y : D} (h1 : evX G F a s = .ok (.d x) s1) (h2 : evX G F b s1 = .ok (.d y) s2) (h : rngF (.d x) (.d y) = some q) : M.bind (evX G F a) (fun x => M.bind (evX G F b) fun y => M.of ((rngF x y).map fun q => (rangeL q.1 q.2).map D.int)) s = .ok ((rangeL q.1 q.2).map D.int) s2 := by
  simp only [M.bind, h1, h2, h, Option.map, M.of, M.pure]
theorem it_rng2 {a b : Ex} {s s1 s2 : S} {n k : Nat} (h1 : evX G F a s = .ok (.d (.int k)) s1) (h2 : evX G F b s1 = .ok (.d (.int n)) s2) (h3 : k ≤ n) (h4 : n ≤ 1000000) : evIt G F (.rng2 a b) s = .ok ((List.range' k (n - k)).map fun (j : Nat) => D.int (j : Int)) s2 :=
  it_rng2a.trans ((it_rng2b h1 h2 (rng2_nat h3 h4)).trans (by rw [rangeL_nat]))
end
end Ev

set_option linter.all false
set_option maxRecDepth 100000
set_option maxHeartbeats 1000000
set_option autoImplicit false
/-! Plain laws: dicts, numbered comprehensions, all and any. -/
namespace Ev
open PySem
section
variable {G : Tab} {F : FT}
theorem keyGet_snoc {α : Type} {k k' : D} {v : α} : ∀ {l : List (D × α)}, keyGet k (l ++ [(k', v)]) = match keyGet k l with
    | some z => some z
    | none => if eqB k' k then some v else none
  | [] => by simp [keyGet]
  | (a, b) :: l => by
    simp only [List.cons_append, keyGet]
    split
    · rfl
    · exact keyGet_snoc
theorem sdef_old {o k : Ex} {s s1 s2 : S} {pv : PV} {kd x : D} {l : Lo} {kvs0 kvs : List (D × D)} (h1 : evX G F o s = .ok pv s1) (h0 : pv.val s1 = some (.dct kvs0)) (h2 : evX G F k s1 = .ok (.d kd) s2) (hl : pv.lo = some l) (hg : s2.get l = some (.dct kvs)) (hk : isKey kd = true) (hn : kvs.length < line) (h : keyGet kd kvs = some x) :
    evX G F (.sdef o k) s = .ok (.d x) s2 := by
  show M.bind (evX G F o) (fun x => M.bind (dctM x) fun _ => M.bind (evX G F k) fun k => sdefM x k) s = _
  have e : dctM pv s1 = .ok () s1 := by unfold dctM; rw [h0]
  simp only [M.bind, h1, e, h2]
  unfold sdefM
  rw [hl]
  simp only
  rw [hg]
  simp only [hk, hn, decide_true, Bool.and_self, if_true, h]
theorem sdef_new {o k : Ex} {s s1 s2 : S} {pv : PV} {kd : D} {l : Lo} {kvs0 kvs : List (D × D)} (h1 : evX G F o s = .ok pv s1) (h0 : pv.val s1 = some (.dct kvs0)) (h2 : evX G F k s1 = .ok (.d kd) s2) (hl : pv.lo = some l) (hg : s2.get l = some (.dct kvs)) (hk : isKey kd = true) (hn : kvs.length < line) (h : keyGet kd kvs = none) :
    evX G F (.sdef o k) s = .ok (.d (.ref s2.cel.length)) (({ s2 with cel := s2.cel ++ [.lst []] } : S).put (.dct (kvs ++ [(kd, .ref s2.cel.length)])) l) := by
  show M.bind (evX G F o) (fun x => M.bind (dctM x) fun _ => M.bind (evX G F k) fun k => sdefM x k) s = _
  have e : dctM pv s1 = .ok () s1 := by unfold dctM; rw [h0]
  simp only [M.bind, h1, e, h2]
  unfold sdefM
  rw [hl]
  simp only
  rw [hg]
  simp only [hk, hn, decide_true, Bool.and_self, if_true, h]
theorem asgF_eval {o e : Ex} {f c : Nat} {t : D} {x : PV} {l : Lo} {fs : List (Nat × D)} {s s1 s2 : S} (h1 : evX G F e s = .ok (.d t) s1) (h2 : evX G F o s1 = .ok x s2) (hl : x.lo = some l) (hg : s2.get l = some (.obj c fs)) (hc : c < G.ncls) (hf : G.isf c f = true) (hn : fs.length < 1000) :
    evS G F (.asgF o f e) s = .ok .next (s2.put (.obj c (fldPut f t fs)) l) := by
  show M.bind (evX G F e) (fun t => M.bind t.store fun t => M.bind (evX G F o) fun x => asgFM G x f t) s = _
  simp only [M.bind, h1, PV.store, M.pure, h2]
  unfold asgFM
  rw [hl]
  simp only
  rw [hg]
  simp only [hc, hf, hn, and_self, if_true]
theorem attr_eval {a : Ex} {f : Nat} {x : PV} {y z : D} {s s1 : S} (h1 : evX G F a s = .ok x s1) (h2 : x.val s1 = some y) (h3 : fldF G f y = some z) : evX G F (.attr a f) s = .ok (.d z) s1 := by
  show one (evX G F a) (fldF G f) s = _
  unfold one
  simp only [M.bind, h1, h2, h3]
theorem it_val {e : Ex} {pv : PV} {xs : List D} {s s1 s2 : S} (h1 : evX G F e s = .ok pv s1) (h2 : walkD pv s1 = .ok xs s2) : evIt G F (.val e) s = .ok xs s2 := by
  show M.bind (evX G F e) walkD s = _
  simp only [M.bind, h1, h2]
theorem it_enum {e : Ex} {n : Int} {pv : PV} {xs : List D} {s s1 s2 : S} (h1 : evX G F e s = .ok pv s1) (h2 : walkD pv s1 = .ok xs s2) : evIt G F (.enum e n) s = .ok (enumFrom n xs) s2 := by
  show M.bind (evX G F e) (fun x => M.bind (walkD x) fun xs => M.pure (enumFrom n xs)) s = _
  simp only [M.bind, h1, h2, M.pure]
theorem mk_eval {c c' f : Nat} {es : Exs} {as : List D} {fs : List (Nat × D)} {r : List Cell} {s s1 : S} (h1 : G.ini c = some f) (h2 : evDs G F es s = .ok as s1) (h3 : D.blws 0 as = true) (h4 : F f (.ref 0 :: as) [.obj c []] = .ok .non (.obj c' fs :: r)) (h5 : D.blwf 0 fs = true) :
    evX G F (.mk c es) s = .ok (.d (.obj c' fs)) s1 := by
  show M.bind (M.of (G.ini c)) (fun f => M.bind (evDs G F es) fun as => M.bind (mkObj F c f as) fun x => M.pure (PV.d x)) s = _
  simp only [M.bind, h1, M.of, M.pure, h2, mkObj, h3, if_true, h4, h5]
theorem meth_eval {c m f : Nat} {o : Ex} {es : Exs} {pv : PV} {x r : D} {as : List D} {c' : List Cell} {s s1 s2 s3 : S} (h1 : G.meth c m = some f) (h2 : evX G F o s = .ok pv s1) (h3 : pv.store s1 = .ok x s2) (h4 : insM c m x s2 = .ok () s2) (h5 : evDs G F es s2 = .ok as s3) (h6 : F f (x :: as) s3.cel = .ok r c') :
    evX G F (.meth .plain c o m es) s = .ok (.d r) { s3 with cel := c' } := by
  show M.bind (M.of (G.meth c m)) (fun f => M.bind (evX G F o) fun x => M.bind x.store fun x => M.bind (insM c m x) fun _ => M.bind (evDs G F es) fun as => M.bind (doCall .plain (F f) (x :: as)) fun x => M.pure (PV.d x)) s = _
  simp only [M.bind, h1, M.of, M.pure, h2, h3, h4, h5, doCall, h6, endC]
theorem ife_t {c : Ex} {a b : Sts} {s s1 : S} (h : evX G F c s = .ok (.d (.bl true)) s1) : evS G F (.ife c a b) s = evSs G F a s1 := by
  rw [ife_eval h, if_pos rfl]
theorem ife_f {c : Ex} {a b : Sts} {s s1 : S} (h : evX G F c s = .ok (.d (.bl false)) s1) : evS G F (.ife c a b) s = evSs G F b s1 := by
  rw [ife_eval h]; rfl
theorem index_eval {o k : Ex} {pv : PV} {ts : List D} {x : D} {n : Nat} {s s1 s2 : S} (h1 : evX G F o s = .ok pv s1) (v1 : pv.val s1 = some (.lst ts)) (h2 : evX G F k s1 = .ok (.d x) s2) (v2 : pv.val s2 = some (.lst ts)) (f1 : flatD x = true) (f2 : ts.all flatD = true) (hi : ts.findIdx? (fun y => eqB y x) = some n) :
    evX G F (.bm .index o (.cons k .nil)) s = .ok (.d (.int n)) s2 := by
  show M.bind (evX G F o) (fun x => M.bind (lisM x) fun _ => M.bind (evDs G F (.cons k .nil)) fun as => M.bind (indM x as) fun y => M.pure (PV.d y)) s = _
  have a1 : lisM pv s1 = .ok () s1 := by unfold lisM; rw [v1]
  have a2 : evDs G F (.cons k .nil) s1 = .ok [x] s2 := by
    show M.bind (evX G F k) (fun x => M.bind x.store fun d => M.bind (M.pure []) fun r => M.pure (d :: r)) s1 = _
    simp only [M.bind, h2, PV.store, M.pure]
  have a3 : indM pv [x] s2 = .ok (.int n) s2 := by
    unfold indM
    rw [v2]
    simp only [f1, f2, Bool.and_self, if_true, hi]
  simp only [M.bind, h1, a1, a2, a3, M.pure]
theorem turn_of {tg : Tg} {bd : M Ev.Flow} {x : D} {s s1 : S} (h : bindT tg x s = some s1) : turnM tg bd x s = bd s1 := by
  unfold turnM
  rw [h]
theorem app_at {ts : List D} {x : D} (h : ts.length < line) : mmF .append (.lst ts) [x] = some (.non, .lst (ts ++ [x])) := by
  simp [mmF, h]
/-- a comprehension over 0, 1, .., its item known -/
theorem loopC_rngi {tg : Tg} {el : M D} {own : List Nat} (I : Nat → S → Prop) (f : Nat → D) : ∀ (n a : Nat) (acc : List D) (s : S),
    (∀ j s, a ≤ j → j < a + n → I j s → ∃ s1 s3, bindT tg (.int (j : Int)) (wipe own s) = some s1 ∧ el s1 = .ok (f j) s3 ∧ I (j + 1) s3) → acc.length + n ≤ line → I a s →
    ∃ s', loopC tg (evQs G F .nil) el own acc ((List.range' a n).map fun (j : Nat) => D.int (j : Int)) s = .ok (acc ++ (List.range' a n).map f) s' ∧ I (a + n) s'
  | 0, a, acc, s, _, _, hs => ⟨s, by simp [loopC, M.pure], hs⟩
  | n + 1, a, acc, s, h, hl, hs => by
    obtain ⟨s1, s3, e1, e2, i⟩ := h a s (by omega) (by omega) hs
    obtain ⟨s', e, i'⟩ := loopC_rngi I f n (a + 1) (acc ++ [f a]) s3 (fun j s h1 h2 => h j s (by omega) (by omega)) (by simp; omega) i
    rw [List.range'_succ, List.map_cons, List.map_cons]
    refine ⟨s', (loopC_cons (tt := evQs G F .nil) (s2 := s1) e1 rfl e2 (by omega)).trans ?_, by rw [show a + (n + 1) = a + 1 + n by omega]; exact i'⟩
    rw [e, List.append_assoc]
    rfl
theorem lc_rngi {it : It} {tg : Tg} {elt : Ex} {own : List Nat} {s s1 : S} {n : Nat} (I : Nat → S → Prop) (f : Nat → D) (h1 : evIt G F it s = .ok ((List.range' 0 n).map fun (j : Nat) => D.int (j : Int)) s1) (hl : n ≤ line) (h0 : I 0 s1)
    (h : ∀ j s, j < n → I j s → ∃ s1 s3, bindT tg (.int (j : Int)) (wipe own s) = some s1 ∧ M.bind (evX G F elt) PV.store s1 = .ok (f j) s3 ∧ I (j + 1) s3) :
    ∃ s2, evX G F (.lc elt tg it .nil own) s = .ok (.d (.lst ((List.range' 0 n).map f))) (unown own s1.loc s2) ∧ I n s2 := by
  obtain ⟨s', e, i⟩ := loopC_rngi (G := G) (F := F) (tg := tg) (el := M.bind (evX G F elt) PV.store) (own := own) I f n 0 [] s1 (fun j s _ hj => h j s (by omega)) (by simpa using hl) h0
  exact ⟨s', lc_eval h1 e, by simpa using i⟩
theorem bls_map {α : Type} {p : α → Bool} : ∀ {xs : List α}, D.bls (xs.map fun x => D.bl (p x)) = some (xs.map p)
  | [] => rfl
  | x :: xs => by rw [List.map_cons]; unfold D.bls; rw [bls_map]; rfl
theorem all_eval {α : Type} {p : α → Bool} {xs : List α} {e : Ex} {s s1 : S} (h : evX G F e s = .ok (.d (.lst (xs.map fun x => .bl (p x)))) s1) : evX G F (.bi .all (.cons e .nil)) s = .ok (.d (.bl (xs.all p))) s1 := by
  show M.bind (M.bind (evX G F e) fun x => M.bind (M.pure []) fun r => M.pure (x :: r)) (fun xs => biM .all xs) s = _
  simp only [M.bind, h, M.pure, biM, valsOf, PV.val, Option.map, biF, bls_map]
  simp
theorem any_eval {α : Type} {p : α → Bool} {xs : List α} {e : Ex} {s s1 : S} (h : evX G F e s = .ok (.d (.lst (xs.map fun x => .bl (p x)))) s1) : evX G F (.bi .any (.cons e .nil)) s = .ok (.d (.bl (xs.any p))) s1 := by
  show M.bind (M.bind (evX G F e) fun x => M.bind (M.pure []) fun r => M.pure (x :: r)) (fun xs => biM .any xs) s = _
  simp only [M.bind, h, M.pure, biM, valsOf, PV.val, Option.map, biF, bls_map]
  simp
theorem blws_map {α : Type} {g : α → D} {n : Nat} : ∀ {xs : List α}, (∀ x ∈ xs, (g x).blw n = true) → D.blws n (xs.map g) = true
  | [], _ => rfl
  | x :: xs, h => by
    rw [List.map_cons]
    unfold D.blws
    rw [h x (List.mem_cons_self ..), blws_map fun y hy => h y (List.mem_cons_of_mem _ hy)]
    rfl
end
end Ev

set_option linter.all false
set_option maxRecDepth 100000
set_option maxHeartbeats 1000000
set_option autoImplicit false
/-! Plain laws: what a run reaches. -/
namespace Ev
open PySem
def Res.bind {α β : Type} (r : Res α) (f : α → S → Res β) : Res β := match r with
  | .ok a s => f a s
  | .exc e s => .exc e s
  | .stk => .stk
def seqR (r : Res Ev.Flow) (k : S → Res Ev.Flow) : Res Ev.Flow := match r with
  | .ok .next s => k s
  | r => r
/-- what is still to come -/
def kComp {α β γ : Type} (f : α → S → Res β) (g : β → S → Res γ) : α → S → Res γ := fun a s => Res.bind (f a s) g
def kSeq {α : Type} (f : α → S → Res Ev.Flow) (k : S → Res Ev.Flow) : α → S → Res Ev.Flow := fun a s => seqR (f a s) k
def kThen (k k' : S → Res Ev.Flow) : S → Res Ev.Flow := fun s => seqR (k s) k'
@[simp] theorem kComp_eq {α β γ : Type} {f : α → S → Res β} {g : β → S → Res γ} {a : α} {s : S} : kComp f g a s = Res.bind (f a s) g := (rfl)
@[simp] theorem kSeq_eq {α : Type} {f : α → S → Res Ev.Flow} {k : S → Res Ev.Flow} {a : α} {s : S} : kSeq f k a s = seqR (f a s) k := (rfl)
@[simp] theorem kThen_eq {k k' : S → Res Ev.Flow} {s : S} : kThen k k' s = seqR (k s) k' := (rfl)
def callR (r : FRes) (s : S) : Res D := match r with
  | .ok x c => .ok x { s with cel := c }
  | .exc e c => .exc e { s with cel := c }
  | .stk => .stk
def optR {α : Type} (o : Option α) (s : S) : Res α := match o with
  | some a => .ok a s
  | none => .stk
def optD (o : Option D) (s : S) : Res PV := match o with
  | some a => .ok (.d a) s
  | none => .stk
def Runs {α : Type} (r : Res α) (Q : α → S → Prop) (E : Exc → S → Prop) : Prop := match r with
  | .ok a s => Q a s
  | .exc e s => E e s
  | .stk => False
def FRuns (r : FRes) (Q : D → List Cell → Prop) (E : Exc → List Cell → Prop) : Prop := match r with
  | .ok a s => Q a s
  | .exc e s => E e s
  | .stk => False
section
variable {α β γ : Type}
@[simp] theorem Res.bind_ok {a : α} {s : S} {f : α → S → Res β} : Res.bind (.ok a s) f = f a s := (rfl)
@[simp] theorem Res.bind_exc {e : Exc} {s : S} {f : α → S → Res β} : Res.bind (.exc e s) f = .exc e s := (rfl)
@[simp] theorem Res.bind_stk {f : α → S → Res β} : Res.bind .stk f = .stk := (rfl)
@[simp] theorem Res.bind_assoc {r : Res α} {f : α → S → Res β} {g : β → S → Res γ} : Res.bind (Res.bind r f) g = Res.bind r (kComp f g) := by cases r <;> rfl
@[simp] theorem seqR_next {s : S} {k : S → Res Ev.Flow} : seqR (.ok .next s) k = k s := (rfl)
@[simp] theorem seqR_ret {t : D} {s : S} {k : S → Res Ev.Flow} : seqR (.ok (.ret t) s) k = .ok (.ret t) s := (rfl)
@[simp] theorem seqR_brk {s : S} {k : S → Res Ev.Flow} : seqR (.ok .brk s) k = .ok .brk s := (rfl)
@[simp] theorem seqR_cont {s : S} {k : S → Res Ev.Flow} : seqR (.ok .cont s) k = .ok .cont s := (rfl)
@[simp] theorem seqR_exc {e : Exc} {s : S} {k : S → Res Ev.Flow} : seqR (.exc e s) k = .exc e s := (rfl)
@[simp] theorem seqR_stk {k : S → Res Ev.Flow} : seqR .stk k = .stk := (rfl)
@[simp] theorem seqR_bind {r : Res α} {f : α → S → Res Ev.Flow} {k : S → Res Ev.Flow} : seqR (Res.bind r f) k = Res.bind r (kSeq f k) := by cases r <;> rfl
@[simp] theorem seqR_seqR {r : Res Ev.Flow} {k k' : S → Res Ev.Flow} : seqR (seqR r k) k' = seqR r (kThen k k') := by
  unfold seqR
  rcases r with ⟨_ | _ | _ | _, _⟩ | _ | _ <;> rfl
@[simp] theorem callR_ok {x : D} {c c0 : List Cell} {l : List (Option LV)} : callR (.ok x c) ⟨l, c0⟩ = .ok x ⟨l, c⟩ := (rfl)
@[simp] theorem callR_exc {e : Exc} {c c0 : List Cell} {l : List (Option LV)} : callR (.exc e c) ⟨l, c0⟩ = .exc e ⟨l, c⟩ := (rfl)
@[simp] theorem callR_stk {s : S} : callR .stk s = .stk := (rfl)
@[simp] theorem optR_some {a : α} {s : S} : optR (some a) s = .ok a s := (rfl)
@[simp] theorem optD_some {a : D} {s : S} : optD (some a) s = .ok (.d a) s := (rfl)
@[simp] theorem Runs_ok {a : α} {s : S} {Q : α → S → Prop} {E : Exc → S → Prop} : Runs (.ok a s) Q E = Q a s := (rfl)
@[simp] theorem Runs_exc {e : Exc} {s : S} {Q : α → S → Prop} {E : Exc → S → Prop} : Runs (.exc e s) Q E = E e s := (rfl)
@[simp] theorem FRuns_ok {a : D} {s : List Cell} {Q : D → List Cell → Prop} {E : Exc → List Cell → Prop} : FRuns (.ok a s) Q E = Q a s := (rfl)
@[simp] theorem FRuns_exc {e : Exc} {s : List Cell} {Q : D → List Cell → Prop} {E : Exc → List Cell → Prop} : FRuns (.exc e s) Q E = E e s := (rfl)
theorem rok {a : α} {s : S} {Q : α → S → Prop} {E : Exc → S → Prop} (h : Q a s) : Runs (.ok a s) Q E := h
theorem rexc {e : Exc} {s : S} {Q : α → S → Prop} {E : Exc → S → Prop} (h : E e s) : Runs (.exc e s) Q E := h
theorem runs_bind {r : Res α} {f : α → S → Res β} {Q1 : α → S → Prop} {Q : β → S → Prop} {E : Exc → S → Prop} (h : Runs r Q1 E) (k : ∀ a s, Q1 a s → Runs (f a s) Q E) : Runs (Res.bind r f) Q E := by
  cases r with
  | ok a s => exact k a s h
  | exc e s => exact h
  | stk => exact h
theorem runs_mono {r : Res α} {Q1 Q : α → S → Prop} {E E1 : Exc → S → Prop} (h : Runs r Q1 E1) (k : ∀ a s, Q1 a s → Q a s) (k2 : ∀ e s, E1 e s → E e s) : Runs r Q E := by
  cases r with
  | ok a s => exact k a s h
  | exc e s => exact k2 e s h
  | stk => exact h
theorem runs_call {r : FRes} {s : S} {f : D → S → Res β} {Q1 : D → List Cell → Prop} {Q : β → S → Prop} {E : Exc → S → Prop} (h : FRuns r Q1 fun e c => E e { s with cel := c }) (k : ∀ x c, Q1 x c → Runs (f x { s with cel := c }) Q E) : Runs (Res.bind (callR r s) f) Q E := by
  cases r with
  | ok a s => exact k a s h
  | exc e s => exact h
  | stk => exact h
/-- what is wanted behind a statement, K: what holds if it goes on -/
structure ThK (P : S → Prop) (Q K : Ev.Flow → S → Prop) : Prop where
  nx : ∀ s, P s → K .next s
  rt : ∀ t s, Q (.ret t) s → K (.ret t) s
  bk : ∀ s, Q .brk s → K .brk s
  ct : ∀ s, Q .cont s → K .cont s
theorem runs_seq {r : Res Ev.Flow} {k : S → Res Ev.Flow} {P : S → Prop} {Q : Ev.Flow → S → Prop} {E : Exc → S → Prop} (h : ∀ K, ThK P Q K → Runs r K E) (hk : ∀ s, P s → Runs (k s) Q E) : Runs (seqR r k) Q E := by
  have h := h (fun fl s => match fl with | .next => P s | fl => Q fl s) ⟨fun _ h => h, fun _ _ h => h, fun _ h => h, fun _ h => h⟩
  rcases r with ⟨_ | _ | _ | _, s⟩ | _ | _ <;> first | exact hk s h | exact h
/-- a def's end -/
def Fin (Q : D → List Cell → Prop) : Ev.Flow → S → Prop := fun fl s => match fl with
  | .next => Q .non s.cel
  | .ret t => Q t s.cel
  | _ => False
@[simp] theorem Fin_next {Q : D → List Cell → Prop} {l : List (Option LV)} {c : List Cell} : Fin Q .next ⟨l, c⟩ = Q .non c := (rfl)
@[simp] theorem Fin_ret {Q : D → List Cell → Prop} {l : List (Option LV)} {c : List Cell} {t : D} : Fin Q (.ret t) ⟨l, c⟩ = Q t c := (rfl)
theorem FRuns_finish {r : Res Ev.Flow} {Q : D → List Cell → Prop} {E : Exc → List Cell → Prop} : FRuns (finish r) Q E ↔ Runs r (Fin Q) fun e s => E e s.cel := by
  rcases r with ⟨_ | _ | _ | _, s⟩ | _ | _ <;> rfl
def noE : Exc → List Cell → Prop := fun _ _ => False
theorem frun_ok {r : FRes} {Q : D → List Cell → Prop} (h : FRuns r Q noE) : ∃ x c, r = .ok x c ∧ Q x c := by
  cases r with
  | ok a s => exact ⟨_, _, rfl, h⟩
  | exc e s => exact h.elim
  | stk => exact h.elim
theorem frun_eq {r : FRes} {x : D} {c : List Cell} (h : FRuns r (fun y d => y = x ∧ d = c) noE) : r = .ok x c := by
  obtain ⟨_, _, e, rfl, rfl⟩ := frun_ok h
  exact e
theorem frun_exc {r : FRes} {x : Exc} {c : List Cell} (h : FRuns r (fun _ _ => False) (fun e d => e = x ∧ d = c)) : r = .exc x c := by
  cases r with
  | ok a s => exact h.elim
  | exc e s => obtain ⟨rfl, rfl⟩ := h; rfl
  | stk => exact h.elim
theorem frun_of {r : FRes} {x : D} {c : List Cell} {Q : D → List Cell → Prop} {E : Exc → List Cell → Prop} (h : r = .ok x c) (q : Q x c) : FRuns r Q E := by subst h; exact q
end
/-! ### one step -/
section
variable {G : Tab} {F : FT}
theorem runDef_eq {d : Def} {ts : List D} {c : List Cell} (h : ts.length = d.np) : runDef G F d ts c = Ev.finish (evSs G F d.body ⟨ts.map (fun x => some (.d x)) ++ List.replicate (d.n - d.np) none, c⟩) := if_pos h
@[simp] theorem M_bind {α β : Type} {m : M α} {f : α → M β} {s : S} : M.bind m f s = Res.bind (m s) f := (rfl)
@[simp] theorem M_pure {α : Type} {a : α} {s : S} : M.pure a s = .ok a s := (rfl)
theorem M_of {α : Type} {o : Option α} {s : S} : M.of o s = optR o s := by cases o <;> rfl
def D.isRef : D → Bool
  | .ref _ => true
  | _ => false
@[simp] theorem val_d {x : D} {s : S} (h : x.isRef = false) : PV.val s (.d x) = some x := by cases x <;> first | rfl | cases h
@[simp] theorem val_ref {k : Nat} {s : S} : PV.val s (.d (.ref k)) = (s.cel[k]?).map Cell.toD := (rfl)
@[simp] theorem store_d {x : D} {s : S} : PV.store (.d x) s = .ok x s := (rfl)
def twoR (x y : Option D) (f : D → D → Option D) (s : S) : Res PV := match x, y with
  | some x, some y => optD (f x y) s
  | _, _ => .stk
def oneR (x : Option D) (f : D → Option D) (s : S) : Res PV := match x with
  | some x => optD (f x) s
  | _ => .stk
@[simp] theorem twoR_some {x y : D} {f : D → D → Option D} {s : S} : twoR (some x) (some y) f s = optD (f x y) s := (rfl)
@[simp] theorem oneR_some {x : D} {f : D → Option D} {s : S} : oneR (some x) f s = optD (f x) s := (rfl)
def kOne (f : D → Option D) : PV → S → Res PV := fun x s => oneR (x.val s) f s
def kTwo2 (f : D → D → Option D) (x : PV) : PV → S → Res PV := fun y s => twoR (x.val s) (y.val s) f s
def kTwo1 (G : Tab) (F : FT) (b : Ex) (f : D → D → Option D) : PV → S → Res PV := fun x s => Res.bind (evX G F b s) (kTwo2 f x)
@[simp] theorem kOne_eq {f : D → Option D} {x : PV} {s : S} : kOne f x s = oneR (x.val s) f s := (rfl)
@[simp] theorem kTwo2_eq {f : D → D → Option D} {x y : PV} {s : S} : kTwo2 f x y s = twoR (x.val s) (y.val s) f s := (rfl)
@[simp] theorem kTwo1_eq {f : D → D → Option D} {b : Ex} {x : PV} {s : S} : kTwo1 G F b f x s = Res.bind (evX G F b s) (kTwo2 f x) := (rfl)
theorem two_eq {ma : M PV} {b : Ex} {f : D → D → Option D} {s : S} : two ma (evX G F b) f s = Res.bind (ma s) (kTwo1 G F b f) := by
  show M.bind ma (fun a => M.bind (evX G F b) fun b => fun s => _) s = _
  rw [M_bind]; congr
theorem one_eq {ma : M PV} {f : D → Option D} {s : S} : one ma f s = Res.bind (ma s) (kOne f) := by
  show M.bind ma (fun a => fun s => _) s = _
  rw [M_bind]; congr; funext a s1
  rw [kOne_eq]; unfold oneR optD
  cases a.val s1 <;> rfl
@[simp] theorem toB_bl {b : Bool} {s : S} : toB (.d (.bl b)) s = .ok b s := (rfl)
def varR (i : Nat) (o : Option LV) (s : S) : Res PV := match o with
  | some (.d x) => .ok (.d x) s
  | some (.own _) => .ok (.own i) s
  | none => .stk
@[simp] theorem varR_d {i : Nat} {x : D} {s : S} : varR i (some (.d x)) s = .ok (.d x) s := (rfl)
@[simp] theorem varR_own {i : Nat} {x : Cell} {s : S} : varR i (some (.own x)) s = .ok (.own i) s := (rfl)
@[simp] theorem loc1_eq {l : List (Option LV)} {c : List Cell} {i : Nat} : S.loc1 ⟨l, c⟩ i = (l[i]?).bind id := (rfl)
@[simp] theorem evX_v {i : Nat} {s : S} : evX G F (.v i) s = varR i (s.loc1 i) s := by
  show varM i s = _
  unfold varM varR
  split <;> simp_all
@[simp] theorem evX_con {g : Nat} {s : S} : evX G F (.con g) s = optD (G.con[g]?) s := by
  show M.of ((G.con[g]?).map PV.d) s = _
  cases G.con[g]? <;> rfl
@[simp] theorem evX_int {i : Int} {s : S} : evX G F (.int i) s = .ok (.d (.int i)) s := (rfl)
@[simp] theorem evX_str {i : Str} {s : S} : evX G F (.str i) s = .ok (.d (.str i)) s := (rfl)
@[simp] theorem evX_bl {i : Bool} {s : S} : evX G F (.bl i) s = .ok (.d (.bl i)) s := (rfl)
@[simp] theorem evX_non {s : S} : evX G F .non s = .ok (.d .non) s := (rfl)
@[simp] theorem evX_bin {op : Op} {a b : Ex} {s : S} : evX G F (.bin op a b) s = Res.bind (evX G F a s) (kTwo1 G F b (binF op)) := two_eq
@[simp] theorem evX_neg {a : Ex} {s : S} : evX G F (.neg a) s = Res.bind (evX G F a s) (kOne negF) := one_eq
def kNotB : Bool → S → Res PV := fun b s => .ok (.d (.bl !b)) s
def kNot : PV → S → Res PV := fun x s => Res.bind (toB x s) kNotB
@[simp] theorem kNotB_eq {b : Bool} {s : S} : kNotB b s = .ok (.d (.bl !b)) s := (rfl)
@[simp] theorem kNot_eq {x : PV} {s : S} : kNot x s = Res.bind (toB x s) kNotB := (rfl)
@[simp] theorem evX_not {a : Ex} {s : S} : evX G F (.not a) s = Res.bind (evX G F a s) kNot := (rfl)
@[simp] theorem evX_and {es : Exs} {s : S} : evX G F (.and es) s = evAnd G F es s := (rfl)
@[simp] theorem evX_or {es : Exs} {s : S} : evX G F (.or es) s = evOr G F es s := (rfl)
@[simp] theorem evAnd_1 {e : Ex} {s : S} : evAnd G F (.cons e .nil) s = evX G F e s := (rfl)
@[simp] theorem evOr_1 {e : Ex} {s : S} : evOr G F (.cons e .nil) s = evX G F e s := (rfl)
def andR (b : Bool) (r : Res PV) (s : S) : Res PV := if b then r else .ok (.d (.bl false)) s
def orR (b : Bool) (r : Res PV) (s : S) : Res PV := if b then .ok (.d (.bl true)) s else r
def ifR {α : Type} (b : Bool) (r r' : Res α) : Res α := if b then r else r'
def kAnd2 (G : Tab) (F : FT) (es : Exs) : Bool → S → Res PV := fun c s => andR c (evAnd G F es s) s
def kAnd (G : Tab) (F : FT) (es : Exs) : PV → S → Res PV := fun x s => Res.bind (toB x s) (kAnd2 G F es)
def kOr2 (G : Tab) (F : FT) (es : Exs) : Bool → S → Res PV := fun c s => orR c (evOr G F es s) s
def kOr (G : Tab) (F : FT) (es : Exs) : PV → S → Res PV := fun x s => Res.bind (toB x s) (kOr2 G F es)
@[simp] theorem kAnd2_t {es : Exs} {s : S} : kAnd2 G F es true s = evAnd G F es s := (rfl)
@[simp] theorem kAnd2_f {es : Exs} {s : S} : kAnd2 G F es false s = .ok (.d (.bl false)) s := (rfl)
@[simp] theorem kOr2_t {es : Exs} {s : S} : kOr2 G F es true s = .ok (.d (.bl true)) s := (rfl)
@[simp] theorem kOr2_f {es : Exs} {s : S} : kOr2 G F es false s = evOr G F es s := (rfl)
@[simp] theorem kAnd2_eq {es : Exs} {c : Bool} {s : S} : kAnd2 G F es c s = andR c (evAnd G F es s) s := (rfl)
@[simp] theorem kAnd_eq {es : Exs} {x : PV} {s : S} : kAnd G F es x s = Res.bind (toB x s) (kAnd2 G F es) := (rfl)
@[simp] theorem kOr2_eq {es : Exs} {c : Bool} {s : S} : kOr2 G F es c s = orR c (evOr G F es s) s := (rfl)
@[simp] theorem kOr_eq {es : Exs} {x : PV} {s : S} : kOr G F es x s = Res.bind (toB x s) (kOr2 G F es) := (rfl)
@[simp] theorem evAnd_2 {e e2 : Ex} {es : Exs} {s : S} : evAnd G F (.cons e (.cons e2 es)) s = Res.bind (evX G F e s) (kAnd G F (.cons e2 es)) := by
  show M.bind (evX G F e) (fun x => M.bind (toB x) fun c => if c then evAnd G F (.cons e2 es) else M.pure (.d (.bl false))) s = _
  rw [M_bind]; congr; funext a s1
  rw [M_bind, kAnd_eq]; congr; funext b s2
  cases b <;> rfl
@[simp] theorem evOr_2 {e e2 : Ex} {es : Exs} {s : S} : evOr G F (.cons e (.cons e2 es)) s = Res.bind (evX G F e s) (kOr G F (.cons e2 es)) := by
  show M.bind (evX G F e) (fun x => M.bind (toB x) fun c => if c then M.pure (.d (.bl true)) else evOr G F (.cons e2 es)) s = _
  rw [M_bind]; congr; funext a s1
  rw [M_bind, kOr_eq]; congr; funext b s2
  cases b <;> rfl
@[simp] theorem andR_t {r : Res PV} {s : S} : andR true r s = r := (rfl)
@[simp] theorem andR_f {r : Res PV} {s : S} : andR false r s = .ok (.d (.bl false)) s := (rfl)
@[simp] theorem orR_t {r : Res PV} {s : S} : orR true r s = .ok (.d (.bl true)) s := (rfl)
@[simp] theorem orR_f {r : Res PV} {s : S} : orR false r s = r := (rfl)
@[simp] theorem ifR_t {α : Type} {r r' : Res α} : ifR true r r' = r := (rfl)
@[simp] theorem ifR_f {α : Type} {r r' : Res α} : ifR false r r' = r' := (rfl)
@[simp] theorem ifR_same {α : Type} {b : Bool} {r : Res α} : ifR b r r = r := by cases b <;> rfl
/-- both ways end in the same state -/
@[simp] theorem andR_ok {b q : Bool} {s : S} : andR b (.ok (.d (.bl q)) s) s = .ok (.d (.bl (b && q))) s := by
  cases b <;> rfl
@[simp] theorem orR_ok {b q : Bool} {s : S} : orR b (.ok (.d (.bl q)) s) s = .ok (.d (.bl (b || q))) s := by
  cases b <;> rfl
@[simp] theorem ifR_bl {b p q : Bool} {s : S} : ifR b (.ok (PV.d (.bl p)) s) (.ok (PV.d (.bl q)) s) = .ok (.d (.bl (bif b then p else q))) s := by
  cases b <;> rfl
theorem ifR_bind {α β : Type} {b : Bool} {r r' : Res α} {f : α → S → Res β} : Res.bind (ifR b r r') f = ifR b (Res.bind r f) (Res.bind r' f) := by cases b <;> rfl
theorem runs_if {α : Type} {b : Bool} {r r' : Res α} {Q : α → S → Prop} {E : Exc → S → Prop} (h1 : b = true → Runs r Q E) (h2 : b = false → Runs r' Q E) : Runs (ifR b r r') Q E := by
  cases b
  · exact h2 rfl
  · exact h1 rfl
theorem seq_if {b : Bool} {r r' : Res Ev.Flow} {k : S → Res Ev.Flow} {Q : Ev.Flow → S → Prop} {E : Exc → S → Prop} (h1 : b = true → Runs (seqR r k) Q E) (h2 : b = false → Runs (seqR r' k) Q E) : Runs (seqR (ifR b r r') k) Q E := by
  cases b
  · exact h2 rfl
  · exact h1 rfl
theorem bind_if {α β : Type} {b : Bool} {r r' : Res α} {f : α → S → Res β} {Q : β → S → Prop} {E : Exc → S → Prop} (h1 : b = true → Runs (Res.bind r f) Q E) (h2 : b = false → Runs (Res.bind r' f) Q E) : Runs (Res.bind (ifR b r r') f) Q E := by
  cases b
  · exact h2 rfl
  · exact h1 rfl
theorem bind_and {β : Type} {b : Bool} {r : Res PV} {s : S} {f : PV → S → Res β} {Q : β → S → Prop} {E : Exc → S → Prop} (h1 : b = true → Runs (Res.bind r f) Q E) (h2 : b = false → Runs (f (.d (.bl false)) s) Q E) : Runs (Res.bind (andR b r s) f) Q E := by
  cases b
  · exact h2 rfl
  · exact h1 rfl
theorem bind_or {β : Type} {b : Bool} {r : Res PV} {s : S} {f : PV → S → Res β} {Q : β → S → Prop} {E : Exc → S → Prop} (h1 : b = true → Runs (f (.d (.bl true)) s) Q E) (h2 : b = false → Runs (Res.bind r f) Q E) : Runs (Res.bind (orR b r s) f) Q E := by
  cases b
  · exact h2 rfl
  · exact h1 rfl
def kIfe2 (G : Tab) (F : FT) (a b : Ex) : Bool → S → Res PV := fun c s => ifR c (evX G F a s) (evX G F b s)
def kIfe (G : Tab) (F : FT) (a b : Ex) : PV → S → Res PV := fun x s => Res.bind (toB x s) (kIfe2 G F a b)
@[simp] theorem kIfe2_t {a b : Ex} {s : S} : kIfe2 G F a b true s = evX G F a s := (rfl)
@[simp] theorem kIfe2_f {a b : Ex} {s : S} : kIfe2 G F a b false s = evX G F b s := (rfl)
@[simp] theorem kIfe2_eq {a b : Ex} {c : Bool} {s : S} : kIfe2 G F a b c s = ifR c (evX G F a s) (evX G F b s) := (rfl)
@[simp] theorem kIfe_eq {a b : Ex} {x : PV} {s : S} : kIfe G F a b x s = Res.bind (toB x s) (kIfe2 G F a b) := (rfl)
@[simp] theorem evX_ife {t a b : Ex} {s : S} : evX G F (.ife t a b) s = Res.bind (evX G F t s) (kIfe G F a b) := by
  show M.bind (evX G F t) (fun x => M.bind (toB x) fun c => if c then evX G F a else evX G F b) s = _
  rw [M_bind]; congr; funext x s1
  rw [M_bind, kIfe_eq]; congr; funext b s2
  cases b <;> rfl
def cmpD (c : Cm) (x y : D) : Option D := (cmpF c x y).map .bl
@[simp] theorem cmpD_eq {c : Cm} {x y : D} : cmpD c x y = (cmpF c x y).map .bl := (rfl)
@[simp] theorem evX_cmp {c : Cm} {a b : Ex} {s : S} : evX G F (.cmp c a b) s = Res.bind (evX G F a s) (kTwo1 G F b (cmpD c)) := two_eq
/-- a chain -/
def chR (o : Option Bool) (c' : Cm) (y : PV) (m : M PV) (s : S) : Res PV := match o with
  | some true => chain2 c' y m s
  | some false => .ok (.d (.bl false)) s
  | none => .stk
def chR1 (x y : Option D) (c c' : Cm) (yv : PV) (m : M PV) (s : S) : Res PV := match x, y with
  | some x, some y => chR (cmpF c x y) c' yv m s
  | _, _ => .stk
@[simp] theorem chR1_some {x y : D} {c c' : Cm} {yv : PV} {m : M PV} {s : S} : chR1 (some x) (some y) c c' yv m s = chR (cmpF c x y) c' yv m s := (rfl)
def kCh3 (c' : Cm) (y : PV) : PV → S → Res PV := fun z s => twoR (y.val s) (z.val s) (cmpD c') s
@[simp] theorem kCh3_eq {c' : Cm} {y z : PV} {s : S} : kCh3 c' y z s = twoR (y.val s) (z.val s) (cmpD c') s := (rfl)
@[simp] theorem chR_some {b : Bool} {c' : Cm} {y : PV} {e : Ex} {s : S} : chR (some b) c' y (evX G F e) s = andR b (Res.bind (evX G F e s) (kCh3 c' y)) s := by
  cases b
  · rfl
  · show chain2 c' y (evX G F e) s = _
    unfold chain2
    rw [M_bind, andR_t]; congr; funext z s1
    rw [kCh3_eq]; unfold twoR optD cmpD
    cases y.val s1 <;> cases z.val s1 <;> try rfl
    simp only
    cases cmpF c' _ _ <;> rfl
def kCh2 (G : Tab) (F : FT) (c c' : Cm) (d : Ex) (x : PV) : PV → S → Res PV := fun y s => chR1 (x.val s) (y.val s) c c' y (evX G F d) s
def kCh1 (G : Tab) (F : FT) (c c' : Cm) (b d : Ex) : PV → S → Res PV := fun x s => Res.bind (evX G F b s) (kCh2 G F c c' d x)
@[simp] theorem kCh2_eq {c c' : Cm} {d : Ex} {x y : PV} {s : S} : kCh2 G F c c' d x y s = chR1 (x.val s) (y.val s) c c' y (evX G F d) s := (rfl)
@[simp] theorem kCh1_eq {c c' : Cm} {b d : Ex} {x : PV} {s : S} : kCh1 G F c c' b d x s = Res.bind (evX G F b s) (kCh2 G F c c' d x) := (rfl)
@[simp] theorem evX_chain {c c' : Cm} {a b d : Ex} {s : S} : evX G F (.chain c c' a b d) s = Res.bind (evX G F a s) (kCh1 G F c c' b d) := by
  show M.bind (evX G F a) (fun x => M.bind (evX G F b) fun y => chainM c c' x y (evX G F d)) s = _
  rw [M_bind]; congr
def tupR (xs : List D) (s : S) : Res PV := if xs.length ≤ line then .ok (.d (.tup xs)) s else .stk
def lstR (xs : List D) (s : S) : Res PV := if xs.length ≤ line then .ok (.d (.lst xs)) s else .stk
@[simp] theorem tupR_ok {xs : List D} {s : S} (h : xs.length ≤ line) : tupR xs s = .ok (.d (.tup xs)) s := if_pos h
@[simp] theorem lstR_ok {xs : List D} {s : S} (h : xs.length ≤ line) : lstR xs s = .ok (.d (.lst xs)) s := if_pos h
@[simp] theorem evX_tup {es : Exs} {s : S} : evX G F (.tup es) s = Res.bind (evDs G F es s) tupR := by
  show M.bind (evDs G F es) (fun xs => if xs.length ≤ line then M.pure (PV.d (.tup xs)) else stk) s = _
  rw [M_bind]; congr; funext a s1
  unfold tupR; split <;> rfl
@[simp] theorem evX_lst {es : Exs} {s : S} : evX G F (.lst es) s = Res.bind (evDs G F es s) lstR := by
  show M.bind (evDs G F es) (fun xs => if xs.length ≤ line then M.pure (PV.d (.lst xs)) else stk) s = _
  rw [M_bind]; congr; funext a s1
  unfold lstR; split <;> rfl
@[simp] theorem evX_dct {vs : Exs} {s : S} : evX G F (.dct .nil vs) s = .ok (.d (.dct [])) s := (rfl)
@[simp] theorem evX_new {e : Ex} {s : S} : evX G F (.new e) s = Res.bind (evX G F e s) newM := (rfl)
@[simp] theorem newM_lst {xs : List D} {l : List (Option LV)} {c : List Cell} : newM (.d (.lst xs)) ⟨l, c⟩ = .ok (.d (.ref c.length)) ⟨l, c ++ [.lst xs]⟩ := (rfl)
@[simp] theorem evX_idx {a i : Ex} {s : S} : evX G F (.idx a i) s = Res.bind (evX G F a s) (kTwo1 G F i idxF) := two_eq
def kSl5 (x : PV) (i : Option Int) : Option Int → S → Res PV := fun j s => oneR (x.val s) (slF i j) s
def kSl4 (hi : Ex) (x : PV) (i : Option Int) : PV → S → Res PV := fun h s => Res.bind (partM hi.isNon h s) (kSl5 x i)
def kSl3 (G : Tab) (F : FT) (hi : Ex) (x : PV) : Option Int → S → Res PV := fun i s => Res.bind (evX G F hi s) (kSl4 hi x i)
def kSl2 (G : Tab) (F : FT) (lo hi : Ex) (x : PV) : PV → S → Res PV := fun l s => Res.bind (partM lo.isNon l s) (kSl3 G F hi x)
def kSl1 (G : Tab) (F : FT) (lo hi : Ex) : PV → S → Res PV := fun x s => Res.bind (evX G F lo s) (kSl2 G F lo hi x)
@[simp] theorem kSl5_eq {x : PV} {i j : Option Int} {s : S} : kSl5 x i j s = oneR (x.val s) (slF i j) s := (rfl)
@[simp] theorem kSl4_eq {hi : Ex} {x h : PV} {i : Option Int} {s : S} : kSl4 hi x i h s = Res.bind (partM hi.isNon h s) (kSl5 x i) := (rfl)
@[simp] theorem kSl3_eq {hi : Ex} {x : PV} {i : Option Int} {s : S} : kSl3 G F hi x i s = Res.bind (evX G F hi s) (kSl4 hi x i) := (rfl)
@[simp] theorem kSl2_eq {lo hi : Ex} {x l : PV} {s : S} : kSl2 G F lo hi x l s = Res.bind (partM lo.isNon l s) (kSl3 G F hi x) := (rfl)
@[simp] theorem kSl1_eq {lo hi : Ex} {x : PV} {s : S} : kSl1 G F lo hi x s = Res.bind (evX G F lo s) (kSl2 G F lo hi x) := (rfl)
@[simp] theorem evX_sl {a lo hi : Ex} {s : S} : evX G F (.sl a lo hi) s = Res.bind (evX G F a s) (kSl1 G F lo hi) := by
  show M.bind (evX G F a) (fun x => M.bind (evX G F lo) fun l => M.bind (partM lo.isNon l) fun i => M.bind (evX G F hi) fun h => M.bind (partM hi.isNon h) fun j => slM x i j) s = _
  rw [M_bind]; congr; funext x s1
  rw [M_bind, kSl1_eq]; congr; funext l s2
  rw [M_bind, kSl2_eq]; congr; funext i s3
  rw [M_bind, kSl3_eq]; congr; funext h s4
  rw [M_bind, kSl4_eq]; congr; funext j s5
  rw [kSl5_eq]; unfold slM oneR optD
  cases x.val s5 <;> rfl
@[simp] theorem part_non {s : S} : partM true (.d .non) s = .ok none s := (rfl)
@[simp] theorem part_int {i : Int} {s : S} : partM false (.d (.int i)) s = .ok (some i) s := (rfl)
@[simp] theorem evX_rev {a : Ex} {s : S} : evX G F (.rev a) s = Res.bind (evX G F a s) (kOne revF) := one_eq
@[simp] theorem evX_attr {a : Ex} {f : Nat} {s : S} : evX G F (.attr a f) s = Res.bind (evX G F a s) (kOne (fldF G f)) := one_eq
def kRd : D → S → Res PV := fun x s => .ok (.d x) s
@[simp] theorem kRd_eq {x : D} {s : S} : kRd x s = .ok (.d x) s := (rfl)
def kCall (F : FT) (f : Nat) : List D → S → Res PV := fun as s => Res.bind (callR (F f as s.cel) s) kRd
@[simp] theorem kCall_eq {f : Nat} {as : List D} {s : S} : kCall F f as s = Res.bind (callR (F f as s.cel) s) kRd := (rfl)
@[simp] theorem evX_call {f : Nat} {es : Exs} {s : S} : evX G F (.call .plain f es) s = Res.bind (evDs G F es s) (kCall F f) := by
  show M.bind (evDs G F es) (fun as => M.bind (doCall .plain (F f) as) fun x => M.pure (PV.d x)) s = _
  rw [M_bind]; congr; funext as s1
  rw [M_bind, kCall_eq]
  have : doCall .plain (F f) as s1 = callR (F f as s1.cel) s1 := by
    unfold doCall callR endC
    simp only
    cases F f as s1.cel <;> rfl
  rw [this]; rfl
@[simp] theorem evX_isi {e : Ex} {ts : List Ty} {s : S} : evX G F (.isi e ts) s = Res.bind (evX G F e s) (kOne (isiF G ts)) := one_eq
def kRg2 (t : Bool) (x : PV) : PV → S → Res PV := fun y s => optD ((rngF x y).bind (rgF t)) s
def kRg1 (G : Tab) (F : FT) (t : Bool) (b : Ex) : PV → S → Res PV := fun x s => Res.bind (evX G F b s) (kRg2 t x)
@[simp] theorem kRg2_eq {t : Bool} {x y : PV} {s : S} : kRg2 t x y s = optD ((rngF x y).bind (rgF t)) s := (rfl)
@[simp] theorem kRg1_eq {t : Bool} {b : Ex} {x : PV} {s : S} : kRg1 G F t b x s = Res.bind (evX G F b s) (kRg2 t x) := (rfl)
@[simp] theorem evX_rg {t : Bool} {a b : Ex} {s : S} : evX G F (.rg t a b) s = Res.bind (evX G F a s) (kRg1 G F t b) := by
  show M.bind (evX G F a) (fun x => M.bind (evX G F b) fun y => M.of (((rngF x y).bind (rgF t)).map PV.d)) s = _
  rw [M_bind]; congr; funext x s1
  rw [M_bind, kRg1_eq]; congr; funext y s2
  rw [M_of, kRg2_eq]
  cases (rngF x y).bind (rgF t) <;> rfl
def biD1 (b : Bi) (x : D) : Option D := biF b [x]
def biD2 (b : Bi) (x y : D) : Option D := biF b [x, y]
@[simp] theorem biD1_eq {b : Bi} {x : D} : biD1 b x = biF b [x] := (rfl)
@[simp] theorem biD2_eq {b : Bi} {x y : D} : biD2 b x y = biF b [x, y] := (rfl)
@[simp] theorem evX_bi1 {b : Bi} {e : Ex} {s : S} : evX G F (.bi b (.cons e .nil)) s = Res.bind (evX G F e s) (kOne (biD1 b)) := by
  show M.bind (M.bind (evX G F e) fun x => M.bind (M.pure []) fun r => M.pure (x :: r)) (fun xs => biM b xs) s = _
  rw [M_bind, M_bind]
  cases evX G F e s with
  | ok x s1 =>
    show biM b [x] s1 = oneR (x.val s1) (biD1 b) s1
    unfold biM valsOf oneR optD
    simp only [valsOf]
    cases x.val s1 <;> rfl
  | exc e s1 => rfl
  | stk => rfl
@[simp] theorem evX_bi2 {b : Bi} {e e2 : Ex} {s : S} : evX G F (.bi b (.cons e (.cons e2 .nil))) s = Res.bind (evX G F e s) (kTwo1 G F e2 (biD2 b)) := by
  show M.bind (M.bind (evX G F e) fun x => M.bind (M.bind (evX G F e2) fun x => M.bind (M.pure []) fun r => M.pure (x :: r)) fun r => M.pure (x :: r)) (fun xs => biM b xs) s = _
  rw [M_bind, M_bind]
  cases evX G F e s with
  | ok x s1 =>
    show Res.bind (Res.bind (Res.bind (evX G F e2 s1) _) _) _ = Res.bind (evX G F e2 s1) _
    cases evX G F e2 s1 with
    | ok y s2 =>
      show biM b [x, y] s2 = twoR (x.val s2) (y.val s2) (biD2 b) s2
      unfold biM twoR optD
      simp only [valsOf]
      cases x.val s2 <;> cases y.val s2 <;> rfl
    | exc e s1 => rfl
    | stk => rfl
  | exc e s1 => rfl
  | stk => rfl
/-- a list that changes -/
def lisR (x : PV) (s : S) : Res Unit := lstM x s
def mmR (m : Mm) (x : PV) (as : List D) (s : S) : Res D := doMm m x as s
def kMm3 (m : Mm) (x : PV) : List D → S → Res PV := fun as s => Res.bind (mmR m x as s) kRd
def kMm2 (G : Tab) (F : FT) (m : Mm) (es : Exs) (x : PV) : Unit → S → Res PV := fun _ s => Res.bind (evDs G F es s) (kMm3 m x)
def kMm1 (G : Tab) (F : FT) (m : Mm) (es : Exs) : PV → S → Res PV := fun x s => Res.bind (lisR x s) (kMm2 G F m es x)
@[simp] theorem kMm3_eq {m : Mm} {x : PV} {as : List D} {s : S} : kMm3 m x as s = Res.bind (mmR m x as s) kRd := (rfl)
@[simp] theorem kMm2_eq {m : Mm} {es : Exs} {x : PV} {u : Unit} {s : S} : kMm2 G F m es x u s = Res.bind (evDs G F es s) (kMm3 m x) := (rfl)
@[simp] theorem kMm1_eq {m : Mm} {es : Exs} {x : PV} {s : S} : kMm1 G F m es x s = Res.bind (lisR x s) (kMm2 G F m es x) := (rfl)
@[simp] theorem evX_mm {m : Mm} {o : Ex} {es : Exs} {s : S} : evX G F (.mm m o es) s = Res.bind (evX G F o s) (kMm1 G F m es) := (rfl)
@[simp] theorem lo_own {i : Nat} : PV.lo (.own i) = some (.sl i) := (rfl)
@[simp] theorem loRef {k : Nat} : PV.lo (.d (.ref k)) = some (.id k) := (rfl)
def getO (l : Option LV) : Option Cell := match l with
  | some (.own c) => some c
  | _ => none
@[simp] theorem get_slE {i : Nat} {l : List (Option LV)} {c : List Cell} : S.get ⟨l, c⟩ (.sl i) = getO ((l[i]?).bind id) := by
  unfold S.get getO; simp only [loc1_eq] <;> rfl
@[simp] theorem getO_own {c : Cell} : getO (some (.own c)) = some c := (rfl)
@[simp] theorem get_idE {k : Nat} {l : List (Option LV)} {c : List Cell} : S.get ⟨l, c⟩ (.id k) = c[k]? := (rfl)
@[simp] theorem put_sl {i : Nat} {x : Cell} {l : List (Option LV)} {c : List Cell} : S.put ⟨l, c⟩ x (.sl i) = ⟨l.set i (some (.own x)), c⟩ := (rfl)
@[simp] theorem put_id {k : Nat} {x : Cell} {l : List (Option LV)} {c : List Cell} : S.put ⟨l, c⟩ x (.id k) = ⟨l, c.set k x⟩ := (rfl)
def lisC (o : Option Cell) (s : S) : Res Unit := match o with
  | some (.lst _) => .ok () s
  | _ => .stk
@[simp] theorem lisC_lst {xs : List D} {s : S} : lisC (some (.lst xs)) s = .ok () s := (rfl)
@[simp] theorem lisR_own {i : Nat} {l : List (Option LV)} {c : List Cell} : lisR (.own i) ⟨l, c⟩ = lisC (getO ((l[i]?).bind id)) ⟨l, c⟩ := by
  show lstM (.own i) _ = _
  unfold lstM lisC
  rw [lo_own]; simp only
  (rw [get_slE]) <;> (rcases getO ((l[i]?).bind id) with _ | _ | _ | _ <;> rfl)
@[simp] theorem lisR_ref {k : Nat} {l : List (Option LV)} {c : List Cell} : lisR (.d (.ref k)) ⟨l, c⟩ = lisC (c[k]?) ⟨l, c⟩ := by
  show lstM (.d (.ref k)) _ = _
  unfold lstM lisC
  rw [loRef]; simp only
  (rw [get_idE]) <;> (rcases c[k]? with _ | _ | _ | _ <;> rfl)
def mmO (r : Option (D × Cell)) (l : Lo) (s : S) : Res D := match r with
  | some (y, c) => .ok y (s.put c l)
  | none => .stk
@[simp] theorem mmO_some {y : D} {c : Cell} {l : Lo} {s : S} : mmO (some (y, c)) l s = .ok y (s.put c l) := (rfl)
def mmC (o : Option Cell) (m : Mm) (as : List D) (l : Lo) (s : S) : Res D := match o with
  | some c => mmO (mmF m c as) l s
  | none => .stk
@[simp] theorem mmC_some {c : Cell} {m : Mm} {as : List D} {l : Lo} {s : S} : mmC (some c) m as l s = mmO (mmF m c as) l s := (rfl)
@[simp] theorem mmR_own {m : Mm} {as : List D} {i : Nat} {l : List (Option LV)} {c : List Cell} : mmR m (.own i) as ⟨l, c⟩ = mmC (getO ((l[i]?).bind id)) m as (.sl i) ⟨l, c⟩ := by
  show doMm m (.own i) as ⟨l, c⟩ = _
  unfold doMm mmC
  rw [lo_own]; simp only
  rw [get_slE]
  cases getO ((l[i]?).bind id) with
  | none => rfl
  | some x => simp only; unfold mmO; cases mmF m x as <;> rfl
@[simp] theorem mmR_ref {m : Mm} {as : List D} {k : Nat} {l : List (Option LV)} {c : List Cell} : mmR m (.d (.ref k)) as ⟨l, c⟩ = mmC (c[k]?) m as (.id k) ⟨l, c⟩ := by
  show doMm m (.d (.ref k)) as ⟨l, c⟩ = _
  unfold doMm mmC
  rw [loRef]; simp only
  rw [get_idE]
  cases c[k]? with
  | none => rfl
  | some x => simp only; unfold mmO; cases mmF m x as <;> rfl
@[simp] theorem mmF_append {ts : List D} {x : D} (h : ts.length < line) : mmF .append (.lst ts) [x] = some (.non, .lst (ts ++ [x])) := app_at h
@[simp] theorem mmF_extend {ts zs : List D} (h : ts.length + zs.length ≤ line) : mmF .extend (.lst ts) [.lst zs] = some (.non, .lst (ts ++ zs)) := by simp [mmF, h]
@[simp] theorem evDs_nil {s : S} : evDs G F .nil s = .ok [] s := (rfl)
def kDs3 (d : D) : List D → S → Res (List D) := fun r s => .ok (d :: r) s
def kDs2 (G : Tab) (F : FT) (es : Exs) : D → S → Res (List D) := fun d s => Res.bind (evDs G F es s) (kDs3 d)
def kDs1 (G : Tab) (F : FT) (es : Exs) : PV → S → Res (List D) := fun x s => Res.bind (x.store s) (kDs2 G F es)
@[simp] theorem kDs3_eq {d : D} {r : List D} {s : S} : kDs3 d r s = .ok (d :: r) s := (rfl)
@[simp] theorem kDs2_eq {d : D} {es : Exs} {s : S} : kDs2 G F es d s = Res.bind (evDs G F es s) (kDs3 d) := (rfl)
@[simp] theorem kDs1_eq {x : PV} {es : Exs} {s : S} : kDs1 G F es x s = Res.bind (x.store s) (kDs2 G F es) := (rfl)
@[simp] theorem evDs_cons {e : Ex} {es : Exs} {s : S} : evDs G F (.cons e es) s = Res.bind (evX G F e s) (kDs1 G F es) := (rfl)
def stoR (o : Option LV) (i : Nat) (s : S) : Res D := match o with
  | some (.own c) => .ok c.toD { s with loc := s.loc.set i (some (.d c.toD)) }
  | some (.d x) => .ok x s
  | none => .stk
@[simp] theorem store_own {i : Nat} {s : S} : PV.store (.own i) s = stoR (s.loc1 i) i s := by
  unfold PV.store stoR
  (simp only) <;> (cases s.loc1 i with
  | none => rfl
  | some v => cases v <;> rfl)
@[simp] theorem stoR_own {c : Cell} {i : Nat} {l : List (Option LV)} {cl : List Cell} : stoR (some (.own c)) i ⟨l, cl⟩ = .ok c.toD ⟨l.set i (some (.d c.toD)), cl⟩ := (rfl)
@[simp] theorem toD_lst {xs : List D} : (Cell.lst xs).toD = .lst xs := (rfl)
@[simp] theorem toD_dct {xs : List (D × D)} : (Cell.dct xs).toD = .dct xs := (rfl)
@[simp] theorem toD_obj {c : Nat} {fs : List (Nat × D)} : (Cell.obj c fs).toD = .obj c fs := (rfl)
def valO (o : Option LV) : Option D := match o with
  | some (.own c) => some c.toD
  | some (.d (.ref _)) => none
  | some (.d x) => some x
  | none => none
@[simp] theorem valO_own {c : Cell} : valO (some (.own c)) = some c.toD := (rfl)
@[simp] theorem valO_d {x : D} (h : x.isRef = false) : valO (some (.d x)) = some x := by cases x <;> first | rfl | cases h
@[simp] theorem val_own {i : Nat} {l : List (Option LV)} {cl : List Cell} : PV.val ⟨l, cl⟩ (.own i) = valO ((l[i]?).bind id) := by
  unfold PV.val valO
  (simp only [loc1_eq]) <;> (rcases (l[i]?).bind id with _ | x | _ <;> try rfl)
/-! statements -/
@[simp] theorem evSs_nil {s : S} : evSs G F .nil s = .ok .next s := (rfl)
@[simp] theorem evSs_cons {st : St} {ss : Sts} {s : S} : evSs G F (.cons st ss) s = seqR (evS G F st s) (evSs G F ss) := by
  show (match evS G F st s with | .ok .next st' => evSs G F ss st' | r => r) = _
  unfold seqR
  rcases evS G F st s with ⟨_ | _ | _ | _, _⟩ | _ | _ <;> rfl
@[simp] theorem seqR_nil {r : Res Ev.Flow} : seqR r (evSs G F .nil) = r := by
  rcases r with ⟨_ | _ | _ | _, _⟩ | _ | _ <;> rfl
def bindR (o : Option S) : Res Ev.Flow := match o with
  | some s => .ok .next s
  | none => .stk
@[simp] theorem bindR_some {s : S} : bindR (some s) = .ok .next s := (rfl)
def kAsg2 (t : Tg) : D → S → Res Ev.Flow := fun y s => bindR (bindT t y s)
def kAsg1 (t : Tg) : PV → S → Res Ev.Flow := fun x s => Res.bind (x.store s) (kAsg2 t)
@[simp] theorem kAsg2_eq {t : Tg} {y : D} {s : S} : kAsg2 t y s = bindR (bindT t y s) := (rfl)
@[simp] theorem kAsg1_eq {t : Tg} {x : PV} {s : S} : kAsg1 t x s = Res.bind (x.store s) (kAsg2 t) := (rfl)
@[simp] theorem evS_asg {t : Tg} {e : Ex} {s : S} : evS G F (.asg t e) s = Res.bind (evX G F e s) (kAsg1 t) := by
  show M.bind (evX G F e) (fun x => M.bind x.store fun y => bindM t y) s = _
  rw [M_bind]; congr
@[simp] theorem bindT_v {i : Nat} {x : D} {l : List (Option LV)} {c : List Cell} : bindT (.v i) x ⟨l, c⟩ = some ⟨l.set i (some (.d x)), c⟩ := (rfl)
@[simp] theorem bindT_tup {ts : Tgs} {xs : List D} {s : S} : bindT (.tup ts) (.tup xs) s = bindTs ts xs s := (rfl)
@[simp] theorem bindT_lst {ts : Tgs} {xs : List D} {s : S} : bindT (.tup ts) (.lst xs) s = bindTs ts xs s := (rfl)
@[simp] theorem bindTs_nil {s : S} : bindTs .nil [] s = some s := (rfl)
@[simp] theorem bindTs_cons {t : Tg} {ts : Tgs} {x : D} {xs : List D} {s : S} : bindTs (.cons t ts) (x :: xs) s = (bindT t x s).bind (bindTs ts xs) := (rfl)
@[simp] theorem evS_asgO {i : Nat} {e : Ex} {s : S} : evS G F (.asgO i e) s = Res.bind (evX G F e s) (asgOM i) := (rfl)
@[simp] theorem asgO_lst {i : Nat} {xs : List D} {l : List (Option LV)} {c : List Cell} (h : i < l.length) : asgOM i (.d (.lst xs)) ⟨l, c⟩ = .ok .next ⟨l.set i (some (.own (.lst xs))), c⟩ := by
  unfold asgOM thaw; simp only; rw [if_pos h]
@[simp] theorem asgO_dct {i : Nat} {xs : List (D × D)} {l : List (Option LV)} {c : List Cell} (h : i < l.length) : asgOM i (.d (.dct xs)) ⟨l, c⟩ = .ok .next ⟨l.set i (some (.own (.dct xs))), c⟩ := by
  unfold asgOM thaw; simp only; rw [if_pos h]
def kEx : PV → S → Res Ev.Flow := fun _ s => .ok .next s
@[simp] theorem kEx_eq {x : PV} {s : S} : kEx x s = .ok .next s := (rfl)
@[simp] theorem evS_ex {e : Ex} {s : S} : evS G F (.ex e) s = Res.bind (evX G F e s) kEx := (rfl)
def kIf2 (G : Tab) (F : FT) (a b : Sts) : Bool → S → Res Ev.Flow := fun k s => ifR k (evSs G F a s) (evSs G F b s)
def kIf1 (G : Tab) (F : FT) (a b : Sts) : PV → S → Res Ev.Flow := fun x s => Res.bind (toB x s) (kIf2 G F a b)
@[simp] theorem kIf2_t {a b : Sts} {s : S} : kIf2 G F a b true s = evSs G F a s := (rfl)
@[simp] theorem kIf2_f {a b : Sts} {s : S} : kIf2 G F a b false s = evSs G F b s := (rfl)
@[simp] theorem kIf2_eq {a b : Sts} {k : Bool} {s : S} : kIf2 G F a b k s = ifR k (evSs G F a s) (evSs G F b s) := (rfl)
@[simp] theorem kIf1_eq {a b : Sts} {x : PV} {s : S} : kIf1 G F a b x s = Res.bind (toB x s) (kIf2 G F a b) := (rfl)
@[simp] theorem evS_ife {c : Ex} {a b : Sts} {s : S} : evS G F (.ife c a b) s = Res.bind (evX G F c s) (kIf1 G F a b) := by
  show M.bind (evX G F c) (fun x => M.bind (toB x) fun k => if k then evSs G F a else evSs G F b) s = _
  rw [M_bind]; congr; funext x s1
  rw [M_bind, kIf1_eq]; congr; funext b s2
  cases b <;> rfl
def kFor2 (G : Tab) (F : FT) (tg : Tg) (a : Sts) (kl : List Nat) : Wk → S → Res Ev.Flow := fun wk s => loopA (turnM tg (evSs G F a)) kl wk s
def kFor1 (G : Tab) (F : FT) (tg : Tg) (a : Sts) (kl : List Nat) : PV → S → Res Ev.Flow := fun x s => Res.bind (walk x s) (kFor2 G F tg a kl)
def kFor3 (G : Tab) (F : FT) (tg : Tg) (a : Sts) (kl : List Nat) : List D → S → Res Ev.Flow := fun l s => loopF (turnM tg (evSs G F a)) kl l s
@[simp] theorem kFor2_eq {tg : Tg} {a : Sts} {kl : List Nat} {wk : Wk} {s : S} : kFor2 G F tg a kl wk s = loopA (turnM tg (evSs G F a)) kl wk s := (rfl)
@[simp] theorem kFor1_eq {tg : Tg} {a : Sts} {kl : List Nat} {x : PV} {s : S} : kFor1 G F tg a kl x s = Res.bind (walk x s) (kFor2 G F tg a kl) := (rfl)
@[simp] theorem kFor3_eq {tg : Tg} {a : Sts} {kl : List Nat} {l : List D} {s : S} : kFor3 G F tg a kl l s = loopF (turnM tg (evSs G F a)) kl l s := (rfl)
@[simp] theorem evS_forV {tg : Tg} {e : Ex} {a : Sts} {kl : List Nat} {s : S} : evS G F (.for tg (.val e) a kl) s = Res.bind (evX G F e s) (kFor1 G F tg a kl) := (rfl)
@[simp] theorem evS_whl {n : Nat} {c : Ex} {a : Sts} {kl : List Nat} {s : S} : evS G F (.whl n c a kl) s = loopW (M.bind (evX G F c) toB) (evSs G F a) kl n s := (rfl)
@[simp] theorem walk_lst {xs : List D} {s : S} : walk (.d (.lst xs)) s = .ok (.xs xs) s := (rfl)
@[simp] theorem walk_tup {xs : List D} {s : S} : walk (.d (.tup xs)) s = .ok (.xs xs) s := (rfl)
def kWk : D → S → Res Wk := fun x s => optR (x.items.map .xs) s
def kWkD : D → S → Res (List D) := fun x s => optR x.items s
def walkR (r : Res D) : Res Wk := Res.bind r kWk
def walkQ (r : Res D) : Res (List D) := Res.bind r kWkD
@[simp] theorem walkR_lst {xs : List D} {s : S} : walkR (.ok (.lst xs) s) = .ok (.xs xs) s := (rfl)
@[simp] theorem walkR_tup {xs : List D} {s : S} : walkR (.ok (.tup xs) s) = .ok (.xs xs) s := (rfl)
@[simp] theorem walkQ_lst {xs : List D} {s : S} : walkQ (.ok (.lst xs) s) = .ok xs s := (rfl)
@[simp] theorem walkQ_tup {xs : List D} {s : S} : walkQ (.ok (.tup xs) s) = .ok xs s := (rfl)
@[simp] theorem walk_own {i : Nat} {s : S} : walk (.own i) s = walkR (stoR (s.loc1 i) i s) := by
  show M.bind (PV.store (.own i)) _ _ = _
  rw [M_bind, store_own]
  unfold walkR
  congr; funext x s1; exact M_of
def wkR (o : Option Cell) (k : Nat) (s : S) : Res Wk := match o with
  | some (.lst xs) => .ok (.rf k xs.length) s
  | _ => .stk
@[simp] theorem wkR_lst {xs : List D} {k : Nat} {s : S} : wkR (some (.lst xs)) k s = .ok (.rf k xs.length) s := (rfl)
@[simp] theorem walk_ref {k : Nat} {s : S} : walk (.d (.ref k)) s = wkR (s.cel[k]?) k s := (rfl)
@[simp] theorem loopA_rf {bd : D → M Ev.Flow} {kl : List Nat} {k n : Nat} {s : S} : loopA bd kl (.rf k n) s = loopR bd kl k n 0 n s := (rfl)
@[simp] theorem walkD_lst {xs : List D} {s : S} : walkD (.d (.lst xs)) s = .ok xs s := (rfl)
@[simp] theorem walkD_tup {xs : List D} {s : S} : walkD (.d (.tup xs)) s = .ok xs s := (rfl)
@[simp] theorem walkD_own {i : Nat} {s : S} : walkD (.own i) s = walkQ (stoR (s.loc1 i) i s) := by
  show M.bind (PV.store (.own i)) _ _ = _
  rw [M_bind, store_own]
  unfold walkQ
  congr; funext x s1; exact M_of
@[simp] theorem loopA_xs {bd : D → M Ev.Flow} {kl : List Nat} {l : List D} {s : S} : loopA bd kl (.xs l) s = loopF bd kl l s := (rfl)
theorem evS_for {tg : Tg} {it : It} {a : Sts} {kl : List Nat} {s : S} (h : isLoop it = none) : evS G F (.for tg it a kl) s = Res.bind (evIt G F it s) (kFor3 G F tg a kl) := by
  have e : evS G F (.for tg it a kl) = M.bind (evIt G F it) fun l => loopF (turnM tg (evSs G F a)) kl l := by
    show (match isLoop it with | some e => _ | none => _) = _
    rw [h]
  rw [e]; rfl
@[simp] theorem evS_for_rng1 {tg : Tg} {e : Ex} {a : Sts} {kl : List Nat} {s : S} : evS G F (.for tg (.rng1 e) a kl) s = Res.bind (evIt G F (.rng1 e) s) (kFor3 G F tg a kl) := evS_for rfl
@[simp] theorem evS_for_rng2 {tg : Tg} {b e : Ex} {a : Sts} {kl : List Nat} {s : S} : evS G F (.for tg (.rng2 b e) a kl) s = Res.bind (evIt G F (.rng2 b e) s) (kFor3 G F tg a kl) := evS_for rfl
@[simp] theorem evS_for_enum {tg : Tg} {e : Ex} {n : Int} {a : Sts} {kl : List Nat} {s : S} : evS G F (.for tg (.enum e n) a kl) s = Res.bind (evIt G F (.enum e n) s) (kFor3 G F tg a kl) := evS_for rfl
@[simp] theorem evS_for_zip {tg : Tg} {b e : Ex} {a : Sts} {kl : List Nat} {s : S} : evS G F (.for tg (.zip b e) a kl) s = Res.bind (evIt G F (.zip b e) s) (kFor3 G F tg a kl) := evS_for rfl
@[simp] theorem evS_for_rev {tg : Tg} {e : Ex} {a : Sts} {kl : List Nat} {s : S} : evS G F (.for tg (.rev e) a kl) s = Res.bind (evIt G F (.rev e) s) (kFor3 G F tg a kl) := evS_for rfl
@[simp] theorem evS_for_revr {tg : Tg} {e : Ex} {a : Sts} {kl : List Nat} {s : S} : evS G F (.for tg (.revr e) a kl) s = Res.bind (evIt G F (.revr e) s) (kFor3 G F tg a kl) := evS_for rfl
def kRet2 : D → S → Res Ev.Flow := fun y s => .ok (.ret y) s
def kRet1 : PV → S → Res Ev.Flow := fun x s => Res.bind (x.store s) kRet2
@[simp] theorem kRet2_eq {y : D} {s : S} : kRet2 y s = .ok (.ret y) s := (rfl)
@[simp] theorem kRet1_eq {x : PV} {s : S} : kRet1 x s = Res.bind (x.store s) kRet2 := (rfl)
@[simp] theorem evS_ret {e : Ex} {s : S} : evS G F (.ret e) s = Res.bind (evX G F e s) kRet1 := (rfl)
@[simp] theorem evS_retN {s : S} : evS G F .retN s = .ok (.ret .non) s := (rfl)
@[simp] theorem evS_brk {s : S} : evS G F .brk s = .ok .brk s := (rfl)
@[simp] theorem evS_cnt {s : S} : evS G F .cnt s = .ok .cont s := (rfl)
@[simp] theorem evS_pass {s : S} : evS G F .pass s = .ok .next s := (rfl)
def kAug1 (G : Tab) (F : FT) (i : Nat) (op : Op) (e : Ex) : D → S → Res Ev.Flow := fun x s => Res.bind (evX G F e s) (augB i op x)
@[simp] theorem kAug1_eq {i : Nat} {op : Op} {e : Ex} {x : D} {s : S} : kAug1 G F i op e x s = Res.bind (evX G F e s) (augB i op x) := (rfl)
@[simp] theorem evS_aug {i : Nat} {op : Op} {e : Ex} {s : S} : evS G F (.aug i op e) s = Res.bind (augV i s) (kAug1 G F i op e) := (rfl)
def auvR (o : Option LV) (s : S) : Res D := match o with
  | some (.d (.ref _)) => .stk
  | some (.d x) => .ok x s
  | _ => .stk
@[simp] theorem augV_eq {i : Nat} {s : S} : augV i s = auvR (s.loc1 i) s := (rfl)
@[simp] theorem auvR_int {i : Int} {s : S} : auvR (some (.d (.int i))) s = .ok (.int i) s := (rfl)
@[simp] theorem augB_add {i : Nat} {a b : Int} {l : List (Option LV)} {c : List Cell} : augB i .add (.int a) (.d (.int b)) ⟨l, c⟩ = .ok .next ⟨l.set i (some (.d (.int (a + b)))), c⟩ := (rfl)
@[simp] theorem augB_sub {i : Nat} {a b : Int} {l : List (Option LV)} {c : List Cell} : augB i .sub (.int a) (.d (.int b)) ⟨l, c⟩ = .ok .next ⟨l.set i (some (.d (.int (a - b)))), c⟩ := (rfl)
/-! x[i] = v, x[i] += v -/
def setR (o : Option Cell) (i : Int) (t : D) (l : Lo) (s : S) : Res Ev.Flow := match o with
  | some (.lst ts) => (match ixN ts.length i with
    | some n => .ok .next (s.put (.lst (ts.set n t)) l)
    | none => .stk)
  | _ => .stk
theorem asgI_eq {x : PV} {i : Int} {t : D} {s : S} {l : Lo} (h : x.lo = some l) : asgIM x (.d (.int i)) t s = setR (s.get l) i t l s := by
  unfold asgIM setR
  rw [h]
  simp only [PV.val]
  rcases s.get l with _ | _ | _ | _ <;> rfl
@[simp] theorem asgI_own {k : Nat} {i : Int} {t : D} {l : List (Option LV)} {c : List Cell} : asgIM (.own k) (.d (.int i)) t ⟨l, c⟩ = setR (getO ((l[k]?).bind id)) i t (.sl k) ⟨l, c⟩ := by
  rw [asgI_eq lo_own, get_slE]
@[simp] theorem asgI_ref {k : Nat} {i : Int} {t : D} {l : List (Option LV)} {c : List Cell} : asgIM (.d (.ref k)) (.d (.int i)) t ⟨l, c⟩ = setR (c[k]?) i t (.id k) ⟨l, c⟩ := by
  rw [asgI_eq loRef, get_idE]
@[simp] theorem setR_nat {ts : List D} {n : Nat} {t : D} {l : Lo} {s : S} (h : n < ts.length) : setR (some (.lst ts)) (n : Int) t l s = .ok .next (s.put (.lst (ts.set n t)) l) := by
  unfold setR ixN
  simp only
  rw [if_pos (Int.natCast_nonneg n), if_pos (by omega)]
  simp
@[simp] theorem setR_0 {t0 t : D} {ts : List D} {l : Lo} {s : S} : setR (some (.lst (t0 :: ts))) 0 t l s = .ok .next (s.put (.lst (t :: ts)) l) := setR_nat (n := 0) (ts := t0 :: ts) (by simp)
@[simp] theorem setR_1 {t0 t1 t : D} {ts : List D} {l : Lo} {s : S} : setR (some (.lst (t0 :: t1 :: ts))) 1 t l s = .ok .next (s.put (.lst (t0 :: t :: ts)) l) := setR_nat (n := 1) (ts := t0 :: t1 :: ts) (by simp)
def kAsgI4 (x : PV) (t : D) : PV → S → Res Ev.Flow := fun y s => asgIM x y t s
def kAsgI3 (G : Tab) (F : FT) (i : Ex) (t : D) : PV → S → Res Ev.Flow := fun x s => Res.bind (evX G F i s) (kAsgI4 x t)
def kAsgI2 (G : Tab) (F : FT) (o i : Ex) : D → S → Res Ev.Flow := fun t s => Res.bind (evX G F o s) (kAsgI3 G F i t)
def kAsgI1 (G : Tab) (F : FT) (o i : Ex) : PV → S → Res Ev.Flow := fun x s => Res.bind (x.store s) (kAsgI2 G F o i)
@[simp] theorem kAsgI4_eq {x y : PV} {t : D} {s : S} : kAsgI4 x t y s = asgIM x y t s := (rfl)
@[simp] theorem kAsgI3_eq {i : Ex} {x : PV} {t : D} {s : S} : kAsgI3 G F i t x s = Res.bind (evX G F i s) (kAsgI4 x t) := (rfl)
@[simp] theorem kAsgI2_eq {o i : Ex} {t : D} {s : S} : kAsgI2 G F o i t s = Res.bind (evX G F o s) (kAsgI3 G F i t) := (rfl)
@[simp] theorem kAsgI1_eq {o i : Ex} {x : PV} {s : S} : kAsgI1 G F o i x s = Res.bind (x.store s) (kAsgI2 G F o i) := (rfl)
@[simp] theorem evS_asgI {o i e : Ex} {s : S} : evS G F (.asgI o i e) s = Res.bind (evX G F e s) (kAsgI1 G F o i) := (rfl)
/-! exceptions -/
def excR (o : Option (List Nat)) (c : Nat) (ds : List D) (s : S) : Res Ev.Flow := match o with
  | some fs => if fs.length = ds.length then .exc ⟨c, fs.zip ds⟩ s else .stk
  | none => .stk
@[simp] theorem excR_some {fs : List Nat} {c : Nat} {ds : List D} {s : S} (h : fs.length = ds.length) : excR (some fs) c ds s = .exc ⟨c, fs.zip ds⟩ s := if_pos h
@[simp] theorem raisM_eq {c : Nat} {ds : List D} {s : S} : raisM G c ds s = excR (G.exf c) c ds s := (rfl)
@[simp] theorem evS_rais {c : Nat} {es : Exs} {s : S} : evS G F (.rais c es) s = Res.bind (evDs G F es s) (raisM G c) := (rfl)
def tryR (r : Res Ev.Flow) (h : Exc → S → Res Ev.Flow) : Res Ev.Flow := match r with
  | .exc e s => h e s
  | r => r
@[simp] theorem tryR_ok {f : Ev.Flow} {s : S} {h : Exc → S → Res Ev.Flow} : tryR (.ok f s) h = .ok f s := (rfl)
@[simp] theorem tryR_exc {e : Exc} {s : S} {h : Exc → S → Res Ev.Flow} : tryR (.exc e s) h = h e s := (rfl)
@[simp] theorem evS_tryx {a : Sts} {hs : Hds} {s : S} : evS G F (.tryx a hs) s = tryR (evSs G F a s) (evHs G F hs) := by
  show (match evSs G F a s with | .exc e s' => evHs G F hs e s' | r => r) = _
  unfold tryR
  rcases evSs G F a s with _ | _ | _ <;> rfl
@[simp] theorem evHs_nil {e : Exc} {s : S} : evHs G F .nil e s = .exc e s := (rfl)
def noxR (r : Res Ev.Flow) : Res Ev.Flow := match r with
  | .exc _ _ => .stk
  | r => r
@[simp] theorem noxR_ok {f : Ev.Flow} {s : S} : noxR (.ok f s) = .ok f s := (rfl)
theorem runs_nox {r : Res Ev.Flow} {Q : Ev.Flow → S → Prop} {E : Exc → S → Prop} (h : Runs r Q fun _ _ => False) : Runs (noxR r) Q E := by
  cases r with
  | ok a s => exact h
  | exc e s => exact h.elim
  | stk => exact h
def hdR (o : Option (List Nat)) (r : Res Ev.Flow) : Res Ev.Flow := match o with
  | some _ => r
  | none => .stk
@[simp] theorem hdR_some {l : List Nat} {r : Res Ev.Flow} : hdR (some l) r = r := (rfl)
@[simp] theorem evHs_0 {c : Nat} {a : Sts} {hs : Hds} {e : Exc} {s : S} : evHs G F (.cons c none a hs) e s = hdR (G.exf e.c) (ifR (G.sub e.c c) (noxR (evSs G F a s)) (evHs G F hs e s)) := by
  show (if (G.exf e.c).isSome then (if G.sub e.c c then noX (evSs G F a) else evHs G F hs e) else stk : M Ev.Flow) s = _
  cases G.exf e.c with
  | none => rfl
  | some l => cases G.sub e.c c <;> rfl
theorem runs_try {r : Res Ev.Flow} {h : Exc → S → Res Ev.Flow} {Q : Ev.Flow → S → Prop} {E E1 : Exc → S → Prop} (h1 : Runs r Q E1) (h2 : ∀ e s, E1 e s → Runs (h e s) Q E) : Runs (tryR r h) Q E := by
  cases r with
  | ok a s => exact h1
  | exc e s => exact h2 e s h1
  | stk => exact h1
/-! what is walked -/
@[simp] theorem evIt_val {e : Ex} {s : S} : evIt G F (.val e) s = Res.bind (evX G F e s) walkD := (rfl)
def rngD (x y : PV) : Option (List D) := (rngF x y).map fun q => (rangeL q.1 q.2).map D.int
def kRng1 : PV → S → Res (List D) := fun x s => optR (rngD (.d (.int 0)) x) s
def kRng2b (x : PV) : PV → S → Res (List D) := fun y s => optR (rngD x y) s
def kRng2a (G : Tab) (F : FT) (b : Ex) : PV → S → Res (List D) := fun x s => Res.bind (evX G F b s) (kRng2b x)
@[simp] theorem kRng1_eq {x : PV} {s : S} : kRng1 x s = optR (rngD (.d (.int 0)) x) s := (rfl)
@[simp] theorem kRng2b_eq {x y : PV} {s : S} : kRng2b x y s = optR (rngD x y) s := (rfl)
@[simp] theorem kRng2a_eq {b : Ex} {x : PV} {s : S} : kRng2a G F b x s = Res.bind (evX G F b s) (kRng2b x) := (rfl)
@[simp] theorem evIt_rng1 {e : Ex} {s : S} : evIt G F (.rng1 e) s = Res.bind (evX G F e s) kRng1 := by
  show M.bind (evX G F e) (fun x => M.of _) s = _
  rw [M_bind]; congr; funext x s1; exact M_of
@[simp] theorem evIt_rng2 {a b : Ex} {s : S} : evIt G F (.rng2 a b) s = Res.bind (evX G F a s) (kRng2a G F b) := by
  show M.bind (evX G F a) (fun x => M.bind (evX G F b) fun y => M.of _) s = _
  rw [M_bind]; congr; funext x s1
  rw [M_bind, kRng2a_eq]; congr; funext y s2; exact M_of
def kEn2 (n : Int) : List D → S → Res (List D) := fun xs s => .ok (enumFrom n xs) s
def kEn1 (n : Int) : PV → S → Res (List D) := fun x s => Res.bind (walkD x s) (kEn2 n)
@[simp] theorem kEn2_eq {n : Int} {xs : List D} {s : S} : kEn2 n xs s = .ok (enumFrom n xs) s := (rfl)
@[simp] theorem kEn1_eq {n : Int} {x : PV} {s : S} : kEn1 n x s = Res.bind (walkD x s) (kEn2 n) := (rfl)
@[simp] theorem evIt_enum {e : Ex} {n : Int} {s : S} : evIt G F (.enum e n) s = Res.bind (evX G F e s) (kEn1 n) := (rfl)
def kZp4 (xs : D) : D → S → Res (List D) := fun ys s => optR (zipF xs ys) s
def kZp3 (y : PV) : D → S → Res (List D) := fun xs s => Res.bind (walkS y s) (kZp4 xs)
def kZp2 (x : PV) : PV → S → Res (List D) := fun y s => Res.bind (walkS x s) (kZp3 y)
def kZp1 (G : Tab) (F : FT) (b : Ex) : PV → S → Res (List D) := fun x s => Res.bind (evX G F b s) (kZp2 x)
@[simp] theorem kZp4_eq {xs ys : D} {s : S} : kZp4 xs ys s = optR (zipF xs ys) s := (rfl)
@[simp] theorem kZp3_eq {xs : D} {y : PV} {s : S} : kZp3 y xs s = Res.bind (walkS y s) (kZp4 xs) := (rfl)
@[simp] theorem kZp2_eq {x y : PV} {s : S} : kZp2 x y s = Res.bind (walkS x s) (kZp3 y) := (rfl)
@[simp] theorem kZp1_eq {b : Ex} {x : PV} {s : S} : kZp1 G F b x s = Res.bind (evX G F b s) (kZp2 x) := (rfl)
@[simp] theorem evIt_zip {a b : Ex} {s : S} : evIt G F (.zip a b) s = Res.bind (evX G F a s) (kZp1 G F b) := by
  show M.bind (evX G F a) (fun x => M.bind (evX G F b) fun y => M.bind (walkS x) fun xs => M.bind (walkS y) fun ys => M.of (zipF xs ys)) s = _
  rw [M_bind]; congr; funext x s1
  rw [M_bind, kZp1_eq]; congr; funext y s2
  rw [M_bind, kZp2_eq]; congr; funext xs s3
  rw [M_bind, kZp3_eq]; congr; funext ys s4; exact M_of
@[simp] theorem walkS_d {x : D} {s : S} (h : x.isRef = false) : walkS (.d x) s = .ok x s := by cases x <;> first | rfl | cases h
@[simp] theorem walkS_own {i : Nat} {s : S} : walkS (.own i) s = stoR (s.loc1 i) i s := store_own
@[simp] theorem zipF_lst {xs ys : List D} : zipF (.lst xs) (.lst ys) = some (zipL xs ys) := (rfl)
@[simp] theorem zipF_tup {xs ys : List D} : zipF (.tup xs) (.tup ys) = some (zipL xs ys) := (rfl)
def kRv2 : List D → S → Res (List D) := fun xs s => .ok xs.reverse s
def kRv1 : PV → S → Res (List D) := fun x s => Res.bind (walkD x s) kRv2
@[simp] theorem kRv2_eq {xs : List D} {s : S} : kRv2 xs s = .ok xs.reverse s := (rfl)
@[simp] theorem kRv1_eq {x : PV} {s : S} : kRv1 x s = Res.bind (walkD x s) kRv2 := (rfl)
@[simp] theorem evIt_rev {e : Ex} {s : S} : evIt G F (.rev e) s = Res.bind (evX G F e s) kRv1 := (rfl)
def kRngr : PV → S → Res (List D) := fun x s => optR ((rngF (.d (.int 0)) x).map fun q => (rangeL q.1 q.2).reverse.map D.int) s
@[simp] theorem kRngr_eq {x : PV} {s : S} : kRngr x s = optR ((rngF (.d (.int 0)) x).map fun q => (rangeL q.1 q.2).reverse.map D.int) s := (rfl)
@[simp] theorem evIt_revr {e : Ex} {s : S} : evIt G F (.revr e) s = Res.bind (evX G F e s) kRngr := by
  show M.bind (evX G F e) (fun x => M.of _) s = _
  rw [M_bind]; congr; funext x s1; exact M_of
@[simp] theorem rng_n {n : Nat} (h : n ≤ 1000000) : rngD (.d (.int 0)) (.d (.int n)) = some ((List.range n).map fun (j : Nat) => D.int j) := by
  unfold rngD
  rw [rng_nat h]
  show some ((rangeL 0 n).map D.int) = _
  rw [rg0, List.range_eq_range']
theorem rng_kn {n k : Nat} (h3 : k ≤ n) (h4 : n ≤ 1000000) : rngD (.d (.int k)) (.d (.int n)) = some ((List.range' k (n - k)).map fun (j : Nat) => D.int j) := by
  unfold rngD
  rw [rng2_nat h3 h4]
  exact congrArg some rangeL_nat
@[simp] theorem enum_map {α : Type} {g : α → D} : ∀ {xs : List α} {n : Nat}, enumFrom n (xs.map g) = (xs.zipIdx n).map fun p => .tup [.int p.2, g p.1]
  | [], n => rfl
  | x :: xs, n => by
    rw [List.map_cons, List.zipIdx_cons, List.map_cons]
    show D.tup [.int n, g x] :: enumFrom ((n : Int) + 1) (xs.map g) = _
    rw [show ((n : Int) + 1) = ((n + 1 : Nat) : Int) from rfl, enum_map]
@[simp] theorem enum_map0 {α : Type} {g : α → D} {xs : List α} : enumFrom 0 (xs.map g) = (xs.zipIdx).map fun p => .tup [.int p.2, g p.1] := enum_map (n := 0)
@[simp] theorem zip_map {α β : Type} {g : α → D} {g' : β → D} : ∀ {xs : List α} {ys : List β}, zipL (xs.map g) (ys.map g') = (xs.zip ys).map fun p => .tup [g p.1, g' p.2]
  | [], _ => by simp [zipL]
  | _ :: _, [] => by simp [zipL]
  | x :: xs, y :: ys => by
    simp only [List.map_cons, zipL, List.zip_cons_cons]
    rw [zip_map]
/-! a comprehension -/
def lcX (tg : Tg) (tt : M Bool) (el : M D) (own : List Nat) (xs : List D) (s : S) : Res (List D) := lcM own (loopC tg tt el own [] xs) s
def kL : List D → S → Res PV := fun ts s => .ok (.d (.lst ts)) s
@[simp] theorem kL_eq {ts : List D} {s : S} : kL ts s = .ok (.d (.lst ts)) s := (rfl)
def kLc (G : Tab) (F : FT) (tg : Tg) (ifs : Exs) (elt : Ex) (own : List Nat) : List D → S → Res PV := fun xs s => Res.bind (lcX tg (evQs G F ifs) (M.bind (evX G F elt) PV.store) own xs s) kL
@[simp] theorem kLc_eq {tg : Tg} {ifs : Exs} {elt : Ex} {own : List Nat} {xs : List D} {s : S} : kLc G F tg ifs elt own xs s = Res.bind (lcX tg (evQs G F ifs) (M.bind (evX G F elt) PV.store) own xs s) kL := (rfl)
@[simp] theorem evX_lc {elt : Ex} {tg : Tg} {it : It} {ifs : Exs} {own : List Nat} {s : S} : evX G F (.lc elt tg it ifs own) s = Res.bind (evIt G F it s) (kLc G F tg ifs elt own) := (rfl)
@[simp] theorem evQs_nil {s : S} : evQs G F .nil s = .ok true s := (rfl)
@[simp] theorem evQs_1 {e : Ex} {s : S} : evQs G F (.cons e .nil) s = Res.bind (evX G F e s) toB := by
  show M.bind (evX G F e) (fun x => M.bind (toB x) fun b => if b then evQs G F .nil else M.pure false) s = _
  rw [M_bind]; congr; funext x s1
  rw [M_bind]
  rcases toB x s1 with ⟨_ | _, _⟩ | _ | _ <;> rfl
@[simp] theorem isNon_int {i : Int} : Ex.isNon (.int i) = false := (rfl)
@[simp] theorem isNon_non : Ex.isNon .non = true := (rfl)
@[simp] theorem isNon_neg {e : Ex} : Ex.isNon (.neg e) = false := (rfl)
@[simp] theorem isNon_v {i : Nat} : Ex.isNon (.v i) = false := (rfl)
@[simp] theorem isNon_bin {op : Op} {a b : Ex} : Ex.isNon (.bin op a b) = false := (rfl)
@[simp] theorem isNon_bi {b : Bi} {es : Exs} : Ex.isNon (.bi b es) = false := (rfl)
@[simp] theorem isNon_call {q : Ck} {f : Nat} {es : Exs} : Ex.isNon (.call q f es) = false := (rfl)
@[simp] theorem isNon_idx {a b : Ex} : Ex.isNon (.idx a b) = false := (rfl)
@[simp] theorem isNon_con {g : Nat} : Ex.isNon (.con g) = false := (rfl)
@[simp] theorem isRef_non : D.isRef .non = false := (rfl)
@[simp] theorem isRef_bl {b : Bool} : D.isRef (.bl b) = false := (rfl)
@[simp] theorem isRef_int {b : Int} : D.isRef (.int b) = false := (rfl)
@[simp] theorem isRef_str {b : Str} : D.isRef (.str b) = false := (rfl)
@[simp] theorem isRef_tup {b : List D} : D.isRef (.tup b) = false := (rfl)
@[simp] theorem isRef_lst {b : List D} : D.isRef (.lst b) = false := (rfl)
@[simp] theorem isRef_dct {b : List (D × D)} : D.isRef (.dct b) = false := (rfl)
@[simp] theorem isRef_obj {c : Nat} {b : List (Nat × D)} : D.isRef (.obj c b) = false := (rfl)
@[simp] theorem wipe_nil {s : S} : wipe [] s = s := (rfl)
@[simp] theorem wipe_cons {i : Nat} {kl : List Nat} {l : List (Option LV)} {c : List Cell} : wipe (i :: kl) ⟨l, c⟩ = wipe kl ⟨l.set i none, c⟩ := (rfl)
@[simp] theorem unown_nil {l0 : List (Option LV)} {s : S} : unown [] l0 s = s := (rfl)
@[simp] theorem unown_cons {i : Nat} {own : List Nat} {l0 l : List (Option LV)} {c : List Cell} : unown (i :: own) l0 ⟨l, c⟩ = unown own l0 ⟨l.set i (LV.dat ((l0[i]?).getD none)), c⟩ := (rfl)
@[simp] theorem dat_none : LV.dat none = none := (rfl)
@[simp] theorem dat_d {x : D} : LV.dat (some (.d x)) = some (.d x) := (rfl)
def turnR (o : Option S) (bd : M Ev.Flow) : Res Ev.Flow := match o with
  | some s => bd s
  | none => .stk
@[simp] theorem turnR_some {s : S} {bd : M Ev.Flow} : turnR (some s) bd = bd s := (rfl)
@[simp] theorem turnM_eq {tg : Tg} {bd : M Ev.Flow} {x : D} {s : S} : turnM tg bd x s = turnR (bindT tg x s) bd := by
  unfold turnM turnR
  cases bindT tg x s <;> rfl
end
end Ev

set_option linter.all false
set_option maxRecDepth 100000
set_option maxHeartbeats 1000000
set_option autoImplicit false
/-! Plain laws: loops and comprehensions, by what they keep. -/
namespace Ev
open PySem
section
variable {α β : Type}
/-- what is wanted behind a turn -/
structure NxK (st : β → S) (P : β → Prop) (kl : List Nat) (Q K : Ev.Flow → S → Prop) : Prop where
  nx : ∀ b s, wipe kl s = st b → P b → K .next s
  ct : ∀ b s, wipe kl s = st b → P b → K .cont s
  bk : ∀ s, Q .next (wipe kl s) → K .brk s
  rt : ∀ t s, Q (.ret t) s → K (.ret t) s
def Nx (st : β → S) (P : β → Prop) (kl : List Nat) (Q : Ev.Flow → S → Prop) : Ev.Flow → S → Prop := fun fl s => match fl with
  | .next | .cont => ∃ b, wipe kl s = st b ∧ P b
  | .brk => Q .next (wipe kl s)
  | .ret t => Q (.ret t) s
theorem Nx.k {st : β → S} {P : β → Prop} {kl : List Nat} {Q : Ev.Flow → S → Prop} : NxK st P kl Q (Nx st P kl Q) := ⟨fun b _ h p => ⟨b, h, p⟩, fun b _ h p => ⟨b, h, p⟩, fun _ h => h, fun _ _ h => h⟩
theorem runs_for0 {g : α → D} {bd : D → M Ev.Flow} {kl : List Nat} {Q : Ev.Flow → S → Prop} {E : Exc → S → Prop} (st : β → S) (I : List α → β → Prop) : ∀ (xs done : List α) (b : β), I done b →
    (∀ dn x rest b, done ++ xs = dn ++ x :: rest → I dn b → ∀ K, NxK st (I (dn ++ [x])) kl Q K → Runs (bd (g x) (st b)) K E) →
    (∀ b, I (done ++ xs) b → Q .next (wipe kl (st b))) → Runs (loopF bd kl (xs.map g) (st b)) Q E
  | [], done, b, h0, _, fin => by
    rw [List.append_nil] at fin
    exact fin b h0
  | x :: xs, done, b, h0, step, fin => by
    have h := step done x xs b rfl h0 _ Nx.k
    have e : done ++ x :: xs = (done ++ [x]) ++ xs := by simp
    rw [e] at step fin
    rw [List.map_cons]
    unfold loopF
    cases hb : bd (g x) (st b) with
    | stk => rw [hb] at h; exact h.elim
    | exc e s => rw [hb] at h; exact h
    | ok fl s =>
      rw [hb] at h
      cases fl with
      | next =>
        obtain ⟨b', e1, h1⟩ := h
        simp only []
        rw [e1]
        exact runs_for0 st I xs (done ++ [x]) b' h1 step fin
      | cont =>
        obtain ⟨b', e1, h1⟩ := h
        simp only []
        rw [e1]
        exact runs_for0 st I xs (done ++ [x]) b' h1 step fin
      | brk => exact h
      | ret t => exact h
theorem runs_for {g : α → D} {bd : D → M Ev.Flow} {kl : List Nat} {Q : Ev.Flow → S → Prop} {E : Exc → S → Prop} (st : β → S) (I : List α → β → Prop) (b : β) {xs : List α} (h0 : I [] b)
    (step : ∀ dn x rest b, xs = dn ++ x :: rest → I dn b → ∀ K, NxK st (I (dn ++ [x])) kl Q K → Runs (bd (g x) (st b)) K E)
    (fin : ∀ b, I xs b → Q .next (wipe kl (st b))) : Runs (loopF bd kl (xs.map g) (st b)) Q E :=
  runs_for0 st I xs [] b h0 step fin
theorem runs_rng {bd : D → M Ev.Flow} {kl : List Nat} {Q : Ev.Flow → S → Prop} {E : Exc → S → Prop} (st : β → S) (I : Nat → β → Prop) (b : β) : ∀ {n a : Nat} (h0 : I a b)
    (step : ∀ j b, a ≤ j → j < a + n → I j b → ∀ K, NxK st (I (j + 1)) kl Q K → Runs (bd (.int (j : Int)) (st b)) K E)
    (fin : ∀ b, I (a + n) b → Q .next (wipe kl (st b))), Runs (loopF bd kl ((List.range' a n).map fun (j : Nat) => D.int j) (st b)) Q E := by
  intro n a h0 step fin
  refine runs_for (g := fun (j : Nat) => D.int j) st (fun dn b => I (a + dn.length) b) b (by simpa using h0) (fun dn x rest b e h K hK => ?_) (fun b h => fin b (by simpa using h))
  have hl : dn.length < (List.range' a n).length := by rw [e]; simp
  have hx : x = a + dn.length := by
    have : (List.range' a n)[dn.length]? = some x := by rw [e]; simp
    rw [List.getElem?_eq_getElem hl, List.getElem_range'] at this
    have := Option.some.inj this
    omega
  rw [List.length_range'] at hl
  subst hx
  refine step (a + dn.length) b (by omega) (by omega) h K ?_
  simpa [Nat.add_assoc] using hK
theorem runs_rng0 {bd : D → M Ev.Flow} {kl : List Nat} {Q : Ev.Flow → S → Prop} {E : Exc → S → Prop} (st : β → S) (I : Nat → β → Prop) (b : β) {n : Nat} (h0 : I 0 b)
    (step : ∀ j b, j < n → I j b → ∀ K, NxK st (I (j + 1)) kl Q K → Runs (bd (.int (j : Int)) (st b)) K E)
    (fin : ∀ b, I n b → Q .next (wipe kl (st b))) : Runs (loopF bd kl ((List.range n).map fun (j : Nat) => D.int j) (st b)) Q E := by
  rw [List.range_eq_range']
  exact runs_rng st I b h0 (fun j b _ hj => step j b (by omega)) (fun b h => fin b (by simpa using h))
/-- over a list of the store that stays -/
theorem runs_ref {bd : D → M Ev.Flow} {kl : List Nat} {Q : Ev.Flow → S → Prop} {E : Exc → S → Prop} (st : β → S) (I : Nat → β → Prop) {k : Nat} {xs : List D} (hc : ∀ i b, I i b → (st b).cel[k]? = some (.lst xs)) : ∀ (m i : Nat) (b : β), i + m = xs.length → I i b →
    (∀ i x b, xs[i]? = some x → I i b → ∀ K, NxK st (I (i + 1)) kl Q K → Runs (bd x (st b)) K E) →
    (∀ b, I xs.length b → Q .next (wipe kl (st b))) → Runs (loopR bd kl k xs.length i m (st b)) Q E
  | 0, i, b, hi, h0, _, fin => by
    have hi : i = xs.length := by omega
    subst hi
    unfold loopR
    rw [hc _ b h0]
    simp only [and_self, if_true]
    exact fin b h0
  | m + 1, i, b, hi, h0, step, fin => by
    have hl : i < xs.length := by omega
    have h := step i xs[i] b (List.getElem?_eq_getElem hl) h0 _ Nx.k
    unfold loopR
    rw [hc _ b h0]
    simp only [if_true, List.getElem?_eq_getElem hl]
    cases hb : bd xs[i] (st b) with
    | stk => rw [hb] at h; exact h.elim
    | exc e s => rw [hb] at h; exact h
    | ok fl s =>
      rw [hb] at h
      cases fl with
      | next =>
        obtain ⟨b', e1, h1⟩ := h
        simp only []
        rw [e1]
        exact runs_ref st I hc m (i + 1) b' (by omega) h1 step fin
      | cont =>
        obtain ⟨b', e1, h1⟩ := h
        simp only []
        rw [e1]
        exact runs_ref st I hc m (i + 1) b' (by omega) h1 step fin
      | brk => exact h
      | ret t => exact h
theorem runs_whl {c : M Bool} {bd : M Ev.Flow} {kl : List Nat} {Q : Ev.Flow → S → Prop} {E : Exc → S → Prop} (st : β → S) (I : β → Prop) (μ : β → Nat) : ∀ (n : Nat) (b : β), I b → μ b < n →
    (∀ b, I b → ∀ K : Bool → S → Prop, (∀ s, Q .next s → K false s) → (∀ s, (∀ K2, NxK st (fun b' => I b' ∧ μ b' < μ b) kl Q K2 → Runs (bd s) K2 E) → K true s) → Runs (c (st b)) K E) → Runs (loopW c bd kl n (st b)) Q E
  | 0, b, _, h, _ => absurd h (Nat.not_lt_zero _)
  | n + 1, b, h0, hm, step => by
    have h := step b h0 (fun k s => if k = true then Runs (bd s) (Nx st (fun b' => I b' ∧ μ b' < μ b) kl Q) E else Q .next s) (fun s h => h) (fun s h => h _ Nx.k)
    unfold loopW
    cases hc : c (st b) with
    | stk => rw [hc] at h; exact h.elim
    | exc e s => rw [hc] at h; exact h
    | ok k s =>
      rw [hc] at h
      have h : (if k = true then Runs (bd s) (Nx st (fun b' => I b' ∧ μ b' < μ b) kl Q) E else Q .next s) := h
      cases k with
      | false => exact h
      | true =>
        rw [if_pos rfl] at h
        simp only []
        cases hb : bd s with
        | stk => rw [hb] at h; exact h.elim
        | exc e s => rw [hb] at h; exact h
        | ok fl s2 =>
          rw [hb] at h
          cases fl with
          | next =>
            obtain ⟨b', e1, h1, h2⟩ := h
            simp only []
            rw [e1]
            exact runs_whl st I μ n b' h1 (by omega) step
          | cont =>
            obtain ⟨b', e1, h1, h2⟩ := h
            simp only []
            rw [e1]
            exact runs_whl st I μ n b' h1 (by omega) step
          | brk => exact h
          | ret t => exact h
/-! comprehensions -/
theorem foldl_set {α : Type} {f : Nat → α} : ∀ {own : List Nat} {l : List α} {j : Nat}, (own.foldl (fun l i => l.set i (f i)) l)[j]? = if j ∈ own ∧ j < l.length then some (f j) else l[j]?
  | [], l, j => by simp
  | i :: own, l, j => by
    rw [List.foldl_cons, foldl_set]
    by_cases hl : j < l.length
    · by_cases hj : j ∈ own
      · simp [hj, hl]
      · by_cases hi : i = j
        · subst hi; simp [hj, hl]
        · simp [hj, hi, Ne.symm hi]
    · rw [if_neg (fun z => hl (by simpa using z.2)), if_neg (fun z => hl z.2), List.getElem?_eq_none (by simp; omega), List.getElem?_eq_none (by omega)]
theorem unown_wipe {own : List Nat} {l0 : List (Option LV)} {s s' : S} (h : wipe own s = wipe own s') : unown own l0 s = unown own l0 s' := by
  obtain ⟨l, c⟩ := s
  obtain ⟨l', c'⟩ := s'
  unfold wipe at h
  injection h with h1 h2
  simp only at h1 h2
  subst h2
  unfold unown
  simp only
  congr 1
  apply List.ext_getElem?
  intro j
  have h1 := congrArg (fun z : List (Option LV) => z[j]?) h1
  have hl : l.length = l'.length := by
    have := congrArg List.length (show own.foldl (fun l i => l.set i none) l = own.foldl (fun l i => l.set i none) l' from by assumption)
    have f : ∀ (own : List Nat) (l : List (Option LV)), (own.foldl (fun l i => l.set i none) l).length = l.length := fun own => by
      induction own with
      | nil => intro l; rfl
      | cons i own ih => intro l; rw [List.foldl_cons, ih, List.length_set]
    rw [f, f] at this; exact this
  rw [foldl_set (f := fun _ => none), foldl_set (f := fun _ => none)] at h1
  rw [foldl_set (f := fun i => LV.dat ((l0[i]?).getD none)), foldl_set (f := fun i => LV.dat ((l0[i]?).getD none))]
  by_cases hj : j ∈ own ∧ j < l.length
  · rw [if_pos hj, if_pos (by rw [← hl]; exact hj)]
  · rw [if_neg hj, if_neg (by rw [← hl]; exact hj)] at h1 ⊢
    exact h1
/-- one item of a comprehension -/
def itC (tg : Tg) (tt : M Bool) (el : M D) (own : List Nat) (x : D) (s : S) : Res (Option D) := match bindT tg x (wipe own s) with
  | none => .stk
  | some s1 => Res.bind (tt s1) fun k s2 => ifR k (Res.bind (el s2) fun t s3 => .ok (some t) s3) (.ok none s2)
def noEs : Exc → S → Prop := fun _ _ => False
theorem loopC_run {g : α → D} {tg : Tg} {tt : M Bool} {el : M D} {own : List Nat} (I : List α → List D → S → Prop) : ∀ (xs done : List α) (ts : List D) (s : S), I done ts s →
    ts.length + xs.length ≤ line → (∀ dn x rest ts s, done ++ xs = dn ++ x :: rest → I dn ts s → Runs (itC tg tt el own (g x) s) (fun o s' => I (dn ++ [x]) (ts ++ o.toList) s') noEs) →
    ∃ us s', loopC tg tt el own ts (xs.map g) s = .ok us s' ∧ I (done ++ xs) us s'
  | [], done, ts, s, h0, _, _ => ⟨ts, s, rfl, by rw [List.append_nil]; exact h0⟩
  | x :: xs, done, ts, s, h0, hl, step => by
    have h := step done x xs ts s rfl h0
    have e : done ++ x :: xs = (done ++ [x]) ++ xs := by simp
    rw [e] at step
    rw [e, List.map_cons]
    unfold loopC
    unfold itC at h
    cases hb : bindT tg (g x) (wipe own s) with
    | none => rw [hb] at h; exact h.elim
    | some s1 =>
      rw [hb] at h
      simp only at h ⊢
      cases ht : tt s1 with
      | stk => rw [ht] at h; exact h.elim
      | exc e s => rw [ht] at h; exact h.elim
      | ok k s2 =>
        rw [ht] at h
        cases k with
        | false => exact loopC_run I xs (done ++ [x]) ts s2 (by simpa using h) (by simp at hl; omega) step
        | true =>
          simp only [Res.bind_ok, ifR_t] at h ⊢
          cases he : el s2 with
          | stk => rw [he] at h; exact h.elim
          | exc e s => rw [he] at h; exact h.elim
          | ok t s3 =>
            rw [he] at h
            simp only
            rw [if_pos (by simp at hl; omega)]
            exact loopC_run I xs (done ++ [x]) (ts ++ [t]) s3 (by simpa using h) (by simp at hl ⊢; omega) step
theorem runs_lc {γ : Type} {g : α → D} {tg : Tg} {tt : M Bool} {el : M D} {own : List Nat} {xs : List α} {s : S} {f : List D → S → Res γ} {Q : γ → S → Prop} {E : Exc → S → Prop} (st : β → S) (I : List α → List D → β → Prop) (b : β) (hs : wipe own s = st b) (h0 : I [] [] b) (hl : xs.length ≤ line)
    (step : ∀ dn x rest ts b, xs = dn ++ x :: rest → I dn ts b → ∀ K : Option D → S → Prop, (∀ o s b', wipe own s = st b' → I (dn ++ [x]) (ts ++ o.toList) b' → K o s) → Runs (itC tg tt el own (g x) (st b)) K noEs)
    (idem : ∀ b, wipe own (st b) = st b) (fin : ∀ ts b, I xs ts b → Runs (f ts (unown own s.loc (st b))) Q E) : Runs (Res.bind (lcX tg tt el own (xs.map g) s) f) Q E := by
  obtain ⟨us, s', e, b', e2, h⟩ := loopC_run (tg := tg) (tt := tt) (el := el) (own := own) (g := g) (fun dn ts s => ∃ b, wipe own s = st b ∧ I dn ts b) xs [] [] s ⟨b, hs, h0⟩ (by simpa using hl) (fun dn x rest ts s e ⟨b, e1, h⟩ => by
    have := step dn x rest ts b e h (fun o s' => ∃ b', wipe own s' = st b' ∧ I (dn ++ [x]) (ts ++ o.toList) b') fun o s b' h1 h2 => ⟨b', h1, h2⟩
    have e3 : itC tg tt el own (g x) s = itC tg tt el own (g x) (st b) := by
      unfold itC
      rw [e1, idem b]
    rw [e3]
    exact this)
  unfold lcX lcM
  rw [e]
  have : unown own s.loc s' = unown own s.loc (st b') := unown_wipe (e2.trans (idem b').symm)
  show Runs (f us (unown own s.loc s')) Q E
  rw [this]
  exact fin us b' (by simpa using h)
@[simp] theorem ifR_opt {α : Type} {b : Bool} {a : α} {s : S} : ifR b (.ok (some a) s) (.ok none s) = .ok (if b = true then some a else none) s := by cases b <;> rfl
def kIt3 : D → S → Res (Option D) := fun t s => .ok (some t) s
def kIt2 (el : M D) : Bool → S → Res (Option D) := fun k s => ifR k (Res.bind (el s) kIt3) (.ok none s)
def kIt1 (tt : M Bool) (el : M D) : S → S → Res (Option D) := fun s1 _ => Res.bind (tt s1) (kIt2 el)
@[simp] theorem kIt3_eq {t : D} {s : S} : kIt3 t s = .ok (some t) s := (rfl)
@[simp] theorem kIt2_eq {el : M D} {k : Bool} {s : S} : kIt2 el k s = ifR k (Res.bind (el s) kIt3) (.ok none s) := (rfl)
@[simp] theorem kIt1_eq {tt : M Bool} {el : M D} {s1 s : S} : kIt1 tt el s1 s = Res.bind (tt s1) (kIt2 el) := (rfl)
@[simp] theorem itC_eq {tg : Tg} {tt : M Bool} {el : M D} {own : List Nat} {x : D} {s : S} : itC tg tt el own x s = Res.bind (optR (bindT tg x (wipe own s)) s) (kIt1 tt el) := by
  unfold itC
  cases bindT tg x (wipe own s) <;> rfl
/-- nothing but its own names changes -/
theorem lc_pure {g : α → D} {tg : Tg} {tt : M Bool} {el : M D} {own : List Nat} {xs : List α} {s : S} (p : α → Bool) (f : α → D) (hl : xs.length ≤ line)
    (step : ∀ x, x ∈ xs → Runs (itC tg tt el own (g x) s) (fun o s' => o = (if p x = true then some (f x) else none) ∧ wipe own s' = wipe own s) noEs) : lcX tg tt el own (xs.map g) s = .ok ((xs.filter p).map f) (unown own s.loc s) := by
  obtain ⟨us, s', e, h1, h2⟩ := loopC_run (tg := tg) (tt := tt) (el := el) (own := own) (g := g) (fun dn ts s' => ts = (dn.filter p).map f ∧ wipe own s' = wipe own s) xs [] [] s ⟨rfl, rfl⟩ (by simpa using hl) (fun dn x rest ts s' e ⟨h1, h2⟩ => by
    have := step x (by simp at e; rw [e]; simp)
    have e3 : itC tg tt el own (g x) s' = itC tg tt el own (g x) s := by
      unfold itC
      rw [h2]
    rw [e3]
    refine runs_mono this (fun o s2 ⟨q1, q2⟩ => ⟨?_, q2⟩) fun _ _ h => h
    cases hp : p x <;> rw [hp] at q1 <;> simp [h1, hp, q1])
  unfold lcX lcM
  rw [e]
  show Res.ok us (unown own s.loc s') = _
  rw [h1, unown_wipe h2]
  simp
/-- all items, one by one -/
theorem lc_map {g : α → D} {tg : Tg} {el : M D} {own : List Nat} {xs : List α} {s : S} {G : Tab} {F : FT} (f : α → D) (hl : xs.length ≤ line)
    (step : ∀ x, x ∈ xs → Runs (itC tg (evQs G F .nil) el own (g x) s) (fun o s' => o = some (f x) ∧ wipe own s' = wipe own s) noEs) : lcX tg (evQs G F .nil) el own (xs.map g) s = .ok (xs.map f) (unown own s.loc s) := by
  have := lc_pure (tg := tg) (g := g) (own := own) (s := s) (tt := evQs G F .nil) (el := el) (fun _ => true) f hl (fun x hx => by simpa only [if_true] using step x hx)
  rw [this, List.filter_eq_self.mpr (by simp)]
end
/-! data -/
@[simp] theorem le_line {n : Nat} (h : n ≤ 1000000) : n ≤ line := by rw [line_eq]; omega
@[simp] theorem lt_line {n : Nat} (h : n ≤ 1000000) : n < line := by rw [line_eq]; omega
@[simp] theorem eqF_int {a b : Int} : eqF (.int a) (.int b) = some (decide (a = b)) := by
  show some (a == b) = _
  congr 1
@[simp] theorem eqF_str {a b : Str} : eqF (.str a) (.str b) = some (decide (a = b)) := by
  show some (a == b) = _
  congr 1
@[simp] theorem eqF_bl {a b : Bool} : eqF (.bl a) (.bl b) = some (decide (a = b)) := by
  show some (a == b) = _
  congr 1
@[simp] theorem ltF_int {a b : Int} : ltF (.int a) (.int b) = some (decide (a < b)) := (rfl)
@[simp] theorem cmp_eq {a b : D} : cmpF .eq a b = eqF a b := (rfl)
@[simp] theorem cmp_ne {a b : D} : cmpF .ne a b = (eqF a b).map (!·) := (rfl)
@[simp] theorem cmp_lt {a b : D} : cmpF .lt a b = ltF a b := (rfl)
@[simp] theorem cmp_gt {a b : D} : cmpF .gt a b = ltF b a := (rfl)
@[simp] theorem cmp_le {a b : D} : cmpF .le a b = (ltF b a).map (!·) := (rfl)
@[simp] theorem cmp_ge {a b : D} : cmpF .ge a b = (ltF a b).map (!·) := (rfl)
@[simp] theorem cmp_in {a b : D} : cmpF .inn a b = inF a b := (rfl)
@[simp] theorem cmp_nin {a b : D} : cmpF .nin a b = (inF a b).map (!·) := (rfl)
@[simp] theorem cmp_isN {a : D} : cmpF .isN a .non = some (nonB a) := (rfl)
@[simp] theorem cmp_notN {a : D} : cmpF .notN a .non = some (!nonB a) := (rfl)
@[simp] theorem cmp_isB {a b : Bool} : cmpF .isN (.bl a) (.bl b) = some (decide (a = b)) := (rfl)
@[simp] theorem nonB_bl {b : Bool} : nonB (.bl b) = false := (rfl)
@[simp] theorem nonB_non : nonB .non = true := (rfl)
@[simp] theorem nonB_int {b : Int} : nonB (.int b) = false := (rfl)
@[simp] theorem nonB_str {b : Str} : nonB (.str b) = false := (rfl)
@[simp] theorem nonB_tup {b : List D} : nonB (.tup b) = false := (rfl)
@[simp] theorem nonB_lst {b : List D} : nonB (.lst b) = false := (rfl)
@[simp] theorem bin_addI {a b : Int} : binF .add (.int a) (.int b) = some (.int (a + b)) := (rfl)
@[simp] theorem bin_subI {a b : Int} : binF .sub (.int a) (.int b) = some (.int (a - b)) := (rfl)
@[simp] theorem bin_addL {a b : List D} (h : a.length + b.length ≤ line) : binF .add (.lst a) (.lst b) = some (.lst (a ++ b)) := if_pos h
@[simp] theorem bin_addT {a b : List D} (h : a.length + b.length ≤ line) : binF .add (.tup a) (.tup b) = some (.tup (a ++ b)) := if_pos h
@[simp] theorem idx_lstI {xs : List D} {i : Int} : idxF (.lst xs) (.int i) = pickI xs i := (rfl)
@[simp] theorem idx_tupI {xs : List D} {i : Int} : idxF (.tup xs) (.int i) = pickI xs i := (rfl)
@[simp] theorem len_lst {xs : List D} : biF .len [.lst xs] = some (.int xs.length) := (rfl)
@[simp] theorem len_tup {xs : List D} : biF .len [.tup xs] = some (.int xs.length) := (rfl)
@[simp] theorem tuple_lst {xs : List D} : biF .tuple [.lst xs] = some (.tup xs) := (rfl)
@[simp] theorem tuple_tup {xs : List D} : biF .tuple [.tup xs] = some (.tup xs) := (rfl)
@[simp] theorem list_lst {xs : List D} : biF .list [.lst xs] = some (.lst xs) := (rfl)
@[simp] theorem list_tup {xs : List D} : biF .list [.tup xs] = some (.lst xs) := (rfl)
@[simp] theorem int_int {i : Int} : biF .int [.int i] = some (.int i) := (rfl)
@[simp] theorem int_bl {b : Bool} : biF .int [.bl b] = some (.int (if b then 1 else 0)) := (rfl)
@[simp] theorem abs_int {i : Int} : biF .abs [.int i] = some (.int (if i < 0 then -i else i)) := (rfl)
@[simp] theorem min2_int {a b : Int} : biF .min2 [.int a, .int b] = some (.int (if b < a then b else a)) := (rfl)
@[simp] theorem max2_int {a b : Int} : biF .max2 [.int a, .int b] = some (.int (if b > a then b else a)) := (rfl)
theorem all_map {α : Type} {p : α → Bool} {xs : List α} : biF .all [.lst (xs.map fun x => .bl (p x))] = some (.bl (xs.all p)) := by
  show (D.bls (xs.map fun x => .bl (p x))).map _ = _
  rw [bls_map]; simp
theorem any_map {α : Type} {p : α → Bool} {xs : List α} : biF .any [.lst (xs.map fun x => .bl (p x))] = some (.bl (xs.any p)) := by
  show (D.bls (xs.map fun x => .bl (p x))).map _ = _
  rw [bls_map]; simp
@[simp] theorem pick_nat {α : Type} {xs : List α} {n : Nat} : pickI xs (n : Int) = xs[n]? := pickI_nat
@[simp] theorem pick_0 {α : Type} {x : α} {xs : List α} : pickI (x :: xs) 0 = some x := pickI_nat (n := 0)
@[simp] theorem pick_1 {α : Type} {x y : α} {xs : List α} : pickI (x :: y :: xs) 1 = some y := pickI_nat (n := 1)
@[simp] theorem pick_2 {α : Type} {x y z : α} {xs : List α} : pickI (x :: y :: z :: xs) 2 = some z := pickI_nat (n := 2)
@[simp] theorem pick_3 {α : Type} {x y z w : α} {xs : List α} : pickI (x :: y :: z :: w :: xs) 3 = some w := pickI_nat (n := 3)
theorem fins_map {α : Type} {g : α → D} {n : Nat} {xs : List α} (h : ∀ x ∈ xs, (g x).fin n = true) : D.fins n (xs.map g) = true := by
  induction xs with
  | nil => cases n <;> rfl
  | cons x xs ih =>
    rw [List.map_cons]
    unfold D.fins
    rw [h x (List.mem_cons_self ..), ih fun y hy => h y (List.mem_cons_of_mem _ hy)]
    rfl
theorem eqBs_map {α : Type} [DecidableEq α] {g : α → D} (h : ∀ x y, eqB (g x) (g y) = decide (x = y)) : ∀ {xs ys : List α}, eqBs (xs.map g) (ys.map g) = decide (xs = ys)
  | [], [] => rfl
  | [], _ :: _ => rfl
  | _ :: _, [] => rfl
  | x :: xs, y :: ys => by
    rw [List.map_cons, List.map_cons]
    unfold eqBs
    rw [h, eqBs_map h]
    by_cases a : x = y <;> by_cases b : xs = ys <;> simp [a, b]
theorem any_eqB {α : Type} [DecidableEq α] {g : α → D} (h : ∀ x y, eqB (g x) (g y) = decide (x = y)) {xs : List α} {x : α} : ((xs.map g).any fun y => eqB y (g x)) = decide (x ∈ xs) := by
  induction xs with
  | nil => rfl
  | cons y ys ih =>
    rw [List.map_cons, List.any_cons, ih, h]
    by_cases a : y = x <;> by_cases b : x ∈ ys <;> simp [a, b, eq_comm]
    intro c; exact a c.symm
section
variable {G : Tab} {F : FT}
/-- what is wanted at a def's end -/
structure FnK (Q : D → List Cell → Prop) (K : Ev.Flow → S → Prop) : Prop where
  nx : ∀ l c, Q .non c → K .next ⟨l, c⟩
  rt : ∀ t l c, Q t c → K (.ret t) ⟨l, c⟩
theorem run_ex {d : Def} {ts : List D} {c : List Cell} {Q : D → List Cell → Prop} (h : ts.length = d.np) (r : ∀ K, FnK Q K → Runs (evSs G F d.body ⟨ts.map (fun x => some (.d x)) ++ List.replicate (d.n - d.np) none, c⟩) K noEs) : ∃ x c', runDef G F d ts c = .ok x c' ∧ Q x c' := by
  refine frun_ok ?_
  rw [runDef_eq h, FRuns_finish]
  exact r _ ⟨fun _ _ h => h, fun _ _ _ h => h⟩
/-- a def that ends in one way -/
theorem run_to {d : Def} {ts : List D} {c c' : List Cell} {x : D} (h : ts.length = d.np) (r : ∀ K, (∀ t l c, t = x → c = c' → K (.ret t) ⟨l, c⟩) → (∀ l c, x = .non → c = c' → K .next ⟨l, c⟩) → Runs (evSs G F d.body ⟨ts.map (fun x => some (.d x)) ++ List.replicate (d.n - d.np) none, c⟩) K noEs) : runDef G F d ts c = .ok x c' := by
  refine frun_eq ?_
  rw [runDef_eq h, FRuns_finish]
  exact r _ (fun t l c h1 h2 => ⟨h1, h2⟩) (fun l c h1 h2 => ⟨h1.symm, h2⟩)
theorem run_exc {d : Def} {ts : List D} {c c' : List Cell} {x : Exc} (h : ts.length = d.np) (r : ∀ E : Exc → S → Prop, (∀ l, E x ⟨l, c'⟩) → Runs (evSs G F d.body ⟨ts.map (fun x => some (.d x)) ++ List.replicate (d.n - d.np) none, c⟩) (fun _ _ => False) E) : runDef G F d ts c = .exc x c' := by
  refine frun_exc ?_
  rw [runDef_eq h, FRuns_finish]
  refine runs_mono (r (fun e s => e = x ∧ s.cel = c') fun _ => ⟨rfl, rfl⟩) (fun a s h => h.elim) fun e s h => h
end
end Ev

namespace Pr
open PySem Ev
instance : Coe String Str := ⟨Str.ofString⟩
-- BadWeb.__init__: not in the core: method of many __init__
def c0 : Sts := .cons .bad .nil
/-- is_integer: 0 thing -/
def c1 : Sts :=
  (.cons (.ret (.and (.cons (.isi (.v 0) [.int]) (.cons (.not (.isi (.v 0) [.bool])) .nil))))
  .nil)
/-- is_within: 0 thing 1 least 2 most -/
def c2 : Sts :=
  (.cons (.ret (.and (.cons (.call .plain 1 (.cons (.v 0) .nil)) (.cons (.chain .le .le (.v 1) (.v 0) (.v 2)) .nil))))
  .nil)
/-- is_pair: 0 thing -/
def c3 : Sts :=
  (.cons (.ret (.and (.cons (.isi (.v 0) [.tuple]) (.cons (.cmp .eq (.bi .len (.cons (.v 0) .nil)) (.int 2)) .nil))))
  .nil)
/-- is_sort: 0 thing -/
def c4 : Sts :=
  (.cons (.ret (.and (.cons (.isi (.v 0) [.str]) (.cons (.cmp .inn (.v 0) (.con 0)) .nil))))
  .nil)
/-- are_ascending: 0 numbers 1 at -/
def c5 : Sts :=
  (.cons (.for (.v 1) (.rng2 (.int 1) (.bi .len (.cons (.v 0) .nil)))
   (.cons (.ife (.cmp .ge (.idx (.v 0) (.bin .sub (.v 1) (.int 1))) (.idx (.v 0) (.v 1)))
    (.cons (.ret (.bl false))
    .nil)
    .nil)
   .nil) [1])
  (.cons (.ret (.bl true))
  .nil))
/-- check_sort: 0 thing -/
def c6 : Sts :=
  (.cons (.ife (.not (.call .plain 4 (.cons (.v 0) .nil)))
   (.cons (.rais 4 .nil)
   .nil)
   .nil)
  .nil)
/-- are_roads: 0 thing 1 houses 2 pair 3 house -/
def c7 : Sts :=
  (.cons (.ife (.or (.cons (.not (.isi (.v 0) [.tuple])) (.cons (.not (.chain .le .le (.int 1) (.bi .len (.cons (.v 0) .nil)) (.con 2))) .nil)))
   (.cons (.ret (.bl false))
   .nil)
   .nil)
  (.cons (.for (.v 2) (.val (.v 0))
   (.cons (.ife (.or (.cons (.not (.call .plain 3 (.cons (.v 2) .nil))) (.cons (.not (.bi .all (.cons (.lc (.call .plain 2 (.cons (.v 3) (.cons (.int 0) (.cons (.bin .sub (.v 1) (.int 1)) .nil)))) (.v 3) (.val (.v 2)) .nil [3]) .nil))) (.cons (.cmp .eq (.idx (.v 2) (.int 0)) (.idx (.v 2) (.int 1))) .nil))))
    (.cons (.ret (.bl false))
    .nil)
    .nil)
   .nil) [2])
  (.cons (.ret (.bl true))
  .nil)))
/-- are_counts: 0 thing 1 many 2 most 3 count -/
def c8 : Sts :=
  (.cons (.ret (.and (.cons (.isi (.v 0) [.tuple]) (.cons (.cmp .eq (.bi .len (.cons (.v 0) .nil)) (.v 1)) (.cons (.bi .all (.cons (.lc (.call .plain 2 (.cons (.v 3) (.cons (.int 1) (.cons (.v 2) .nil)))) (.v 3) (.val (.v 0)) .nil [3]) .nil)) .nil)))))
  .nil)
/-- Web.__init__: 0 self 1 houses 2 roads 3 rooms 4 times -/
def c9 : Sts :=
  (.cons (.ife (.not (.call .plain 2 (.cons (.v 1) (.cons (.int 2) (.cons (.con 1) .nil)))))
   (.cons .bad
   .nil)
   .nil)
  (.cons (.ife (.not (.call .plain 7 (.cons (.v 2) (.cons (.v 1) .nil))))
   (.cons .bad
   .nil)
   .nil)
  (.cons (.ife (.not (.call .plain 8 (.cons (.v 3) (.cons (.bi .len (.cons (.v 2) .nil)) (.cons (.con 3) .nil)))))
   (.cons .bad
   .nil)
   .nil)
  (.cons (.ife (.not (.call .plain 8 (.cons (.v 4) (.cons (.bi .len (.cons (.v 2) .nil)) (.cons (.con 4) .nil)))))
   (.cons .bad
   .nil)
   .nil)
  (.cons (.ex (.meth .plain 0 (.v 0) 8 (.cons (.v 1) (.cons (.v 2) (.cons (.v 3) (.cons (.v 4) .nil))))))
  .nil)))))
/-- Web.keep: 0 self 1 houses 2 roads 3 rooms 4 times 5 begun 6 road 7 pair 8 row -/
def c10 : Sts :=
  (.cons (.asgF (.v 0) 1 (.v 1))
  (.cons (.asgF (.v 0) 2 (.v 2))
  (.cons (.asgF (.v 0) 3 (.v 3))
  (.cons (.asgF (.v 0) 4 (.v 4))
  (.cons (.asgO 5 (.dct .nil .nil))
  (.cons (.for (.tup (.cons (.v 6) (.cons (.v 7) .nil))) (.enum (.v 2) 0)
   (.cons (.ex (.mm .append (.sdef (.v 5) (.idx (.v 7) (.int 0))) (.cons (.v 6) .nil)))
   .nil) [6, 7])
  (.cons (.asgF (.v 0) 5 (.bi .tuple (.cons (.lc (.bi .tuple (.cons (.bm .get (.v 5) (.cons (.idx (.v 7) (.int 1)) (.cons (.lst .nil) .nil))) .nil)) (.v 7) (.val (.v 2)) .nil [7]) .nil)))
  (.cons (.asgF (.v 0) 6 (.bi .tuple (.cons (.lc (.cmp .gt (.bi .len (.cons (.v 8) .nil)) (.int 0)) (.v 8) (.val (.attr (.v 0) 5)) .nil [8]) .nil)))
  .nil))))))))
/-- Web.__eq__: 0 self 1 other -/
def c11 : Sts :=
  (.cons (.ife (.not (.isi (.v 1) [.cls 0]))
   (.cons (.ret (.bl false))
   .nil)
   .nil)
  (.cons (.ife (.or (.cons (.cmp .ne (.attr (.v 0) 1) (.attr (.v 1) 1)) (.cons (.cmp .ne (.attr (.v 0) 2) (.attr (.v 1) 2)) .nil)))
   (.cons (.ret (.bl false))
   .nil)
   .nil)
  (.cons (.ret (.and (.cons (.cmp .eq (.attr (.v 0) 3) (.attr (.v 1) 3)) (.cons (.cmp .eq (.attr (.v 0) 4) (.attr (.v 1) 4)) .nil))))
  .nil)))
/-- is_road: 0 web 1 thing -/
def c12 : Sts :=
  (.cons (.ret (.call .plain 2 (.cons (.v 1) (.cons (.int 0) (.cons (.bin .sub (.bi .len (.cons (.attr (.v 0) 2) .nil)) (.int 1)) .nil)))))
  .nil)
/-- is_lot: 0 web 1 thing 2 road -/
def c13 : Sts :=
  (.cons (.ife (.or (.cons (.not (.isi (.v 1) [.tuple])) (.cons (.not (.bi .all (.cons (.lc (.call .plain 12 (.cons (.v 0) (.cons (.v 2) .nil))) (.v 2) (.val (.v 1)) .nil [2]) .nil))) .nil)))
   (.cons (.ret (.bl false))
   .nil)
   .nil)
  (.cons (.ret (.call .plain 5 (.cons (.v 1) .nil)))
  .nil))
/-- check_lot: 0 web 1 thing -/
def c14 : Sts :=
  (.cons (.ife (.not (.call .plain 13 (.cons (.v 0) (.cons (.v 1) .nil))))
   (.cons (.rais 3 .nil)
   .nil)
   .nil)
  .nil)
/-- check_lot_sort: 0 web 1 lot 2 sort -/
def c15 : Sts :=
  (.cons (.ex (.call .plain 14 (.cons (.v 0) (.cons (.v 1) .nil))))
  (.cons (.ex (.call .plain 6 (.cons (.v 2) .nil)))
  .nil))
/-- may_be_last: 0 web 1 lot 2 sort 3 road -/
def c16 : Sts :=
  (.cons (.ret (.and (.cons (.idx (.attr (.v 0) 6) (.v 3)) (.cons (.or (.cons (.cmp .eq (.v 2) (.str "turns")) (.cons (.cmp .nin (.v 3) (.v 1)) .nil))) .nil))))
  .nil)
/-- forks_at: 0 web 1 lot 2 sort 3 road 4 after 5 later -/
def c17 : Sts :=
  (.cons (.asg (.v 4) (.idx (.attr (.v 0) 5) (.v 3)))
  (.cons (.ife (.cmp .lt (.bi .len (.cons (.v 4) .nil)) (.int 2))
   (.cons (.ret (.lst .nil))
   .nil)
   .nil)
  (.cons (.ret (.lc (.tup (.cons (.con 10) (.cons (.v 3) (.cons (.v 5) .nil)))) (.v 5) (.val (.v 4)) (.cons (.call .plain 16 (.cons (.v 0) (.cons (.v 1) (.cons (.v 2) (.cons (.v 5) .nil))))) .nil) [5]))
  .nil)))
/-- rows_at: 0 web 1 lot 2 sort 3 road 4 found 5 middle 6 later -/
def c18 : Sts :=
  (.cons (.asgO 4 (.lst .nil))
  (.cons (.for (.v 5) (.val (.idx (.attr (.v 0) 5) (.v 3)))
   (.cons (.ife (.cmp .nin (.v 5) (.v 1))
    (.cons (.for (.v 6) (.val (.idx (.attr (.v 0) 5) (.v 5)))
     (.cons (.ife (.call .plain 16 (.cons (.v 0) (.cons (.v 1) (.cons (.v 2) (.cons (.v 6) .nil)))))
      (.cons (.ex (.mm .append (.v 4) (.cons (.tup (.cons (.con 11) (.cons (.v 3) (.cons (.v 5) (.cons (.v 6) .nil))))) .nil)))
      .nil)
      .nil)
     .nil) [6])
    .nil)
    .nil)
   .nil) [5, 6])
  (.cons (.ret (.v 4))
  .nil)))
/-- places_of: 0 web 1 lot 2 sort 3 found 4 road -/
def c19 : Sts :=
  (.cons (.asgO 3 (.lst .nil))
  (.cons (.for (.v 4) (.rng1 (.bi .len (.cons (.attr (.v 0) 2) .nil)))
   (.cons (.ife (.cmp .nin (.v 4) (.v 1))
    (.cons (.ex (.mm .extend (.v 3) (.cons (.call .plain 17 (.cons (.v 0) (.cons (.v 1) (.cons (.v 2) (.cons (.v 4) .nil))))) .nil)))
    (.cons (.ex (.mm .extend (.v 3) (.cons (.call .plain 18 (.cons (.v 0) (.cons (.v 1) (.cons (.v 2) (.cons (.v 4) .nil))))) .nil)))
    .nil))
    .nil)
   .nil) [4])
  (.cons (.ret (.bi .sorted (.cons (.v 3) .nil)))
  .nil)))
/-- bad_places: 0 web 1 lot 2 sort -/
def c20 : Sts :=
  (.cons (.ex (.call .plain 15 (.cons (.v 0) (.cons (.v 1) (.cons (.v 2) .nil)))))
  (.cons (.ret (.call .plain 19 (.cons (.v 0) (.cons (.v 1) (.cons (.v 2) .nil)))))
  .nil))
/-- is_enough: 0 web 1 sort 2 lot -/
def c21 : Sts :=
  (.cons (.ex (.call .plain 6 (.cons (.v 1) .nil)))
  (.cons (.ret (.and (.cons (.call .plain 13 (.cons (.v 0) (.cons (.v 2) .nil))) (.cons (.cmp .eq (.bi .len (.cons (.call .plain 19 (.cons (.v 0) (.cons (.v 2) (.cons (.v 1) .nil)))) .nil)) (.int 0)) .nil))))
  .nil))
/-- leads_to: 0 web 1 lot 2 road 3 told 4 later -/
def c22 : Sts :=
  (.cons (.for (.v 4) (.val (.idx (.attr (.v 0) 5) (.v 2)))
   (.cons (.ife (.and (.cons (.idx (.attr (.v 0) 6) (.v 4)) (.cons (.cmp .eq (.cmp .inn (.v 4) (.v 1)) (.v 3)) .nil)))
    (.cons (.ret (.bl true))
    .nil)
    .nil)
   .nil) [4])
  (.cons (.ret (.bl false))
  .nil))
/-- kind_of: 0 web 1 lot 2 sort 3 road -/
def c23 : Sts :=
  (.cons (.ife (.cmp .inn (.v 3) (.v 1))
   (.cons (.ret (.con 5))
   .nil)
   .nil)
  (.cons (.ife (.not (.idx (.attr (.v 0) 6) (.v 3)))
   (.cons (.ret (.con 6))
   .nil)
   .nil)
  (.cons (.ife (.and (.cons (.cmp .eq (.v 2) (.str "turns")) (.cons (.call .plain 22 (.cons (.v 0) (.cons (.v 1) (.cons (.v 3) (.cons (.bl true) .nil))))) .nil)))
   (.cons (.ret (.con 9))
   .nil)
   .nil)
  (.cons (.ret (.ife (.call .plain 22 (.cons (.v 0) (.cons (.v 1) (.cons (.v 3) (.cons (.bl false) .nil))))) (.con 7) (.con 8)))
  .nil))))
/-- kinds_of: 0 web 1 lot 2 sort 3 found 4 road 5 kind 6 after -/
def c24 : Sts :=
  (.cons (.asg (.v 3) (.bi .tuple (.cons (.lc (.call .plain 23 (.cons (.v 0) (.cons (.v 1) (.cons (.v 2) (.cons (.v 4) .nil))))) (.v 4) (.rng1 (.bi .len (.cons (.attr (.v 0) 2) .nil))) .nil [4]) .nil)))
  (.cons (.for (.tup (.cons (.v 4) (.cons (.v 5) .nil))) (.enum (.v 3) 0)
   (.cons (.ife (.cmp .inn (.v 5) (.tup (.cons (.con 9) (.cons (.con 7) .nil))))
    (.cons (.asg (.v 6) (.idx (.attr (.v 0) 5) (.v 4)))
    (.cons (.ife (.or (.cons (.cmp .gt (.bi .len (.cons (.v 6) .nil)) (.int 1)) (.cons (.and (.cons (.cmp .eq (.v 5) (.con 7)) (.cons (.cmp .ne (.idx (.v 3) (.idx (.v 6) (.int 0))) (.con 8)) .nil))) .nil)))
     (.cons (.ret .non)
     .nil)
     .nil)
    .nil))
    .nil)
   .nil) [4, 5, 6])
  (.cons (.ret (.v 3))
  .nil)))
/-- kinds: 0 web 1 lot 2 sort -/
def c25 : Sts :=
  (.cons (.ex (.call .plain 15 (.cons (.v 0) (.cons (.v 1) (.cons (.v 2) .nil)))))
  (.cons (.ret (.call .plain 24 (.cons (.v 0) (.cons (.v 1) (.cons (.v 2) .nil)))))
  .nil))
/-- is_kinds: 0 web 1 lot 2 sort 3 thing -/
def c26 : Sts :=
  (.cons (.ex (.call .plain 15 (.cons (.v 0) (.cons (.v 1) (.cons (.v 2) .nil)))))
  (.cons (.ret (.and (.cons (.isi (.v 3) [.tuple]) (.cons (.cmp .eq (.v 3) (.call .plain 24 (.cons (.v 0) (.cons (.v 1) (.cons (.v 2) .nil))))) .nil))))
  .nil))
/-- _law_pool: 0 _law_script 1 _law_seed 2 _law_cell -/
def c27 : Sts :=
  (.cons (.asg (.v 1) (.bin .add (.bi .len (.cons (.v 0) .nil)) (.int 1)))
  (.cons (.for (.v 2) (.val (.sl (.v 0) .non (.int 63)))
   (.cons (.asg (.v 1) (.bin .mod (.bi .int (.cons (.bin .add (.bin .add (.bin .mul (.v 1) (.int 48271)) (.bin .mod (.bi .int (.cons (.v 2) .nil)) (.int 2147483629))) (.int 11)) .nil)) (.int 2147483647)))
   .nil) [2])
  (.cons (.ret (.new (.lst (.cons (.v 1) (.cons (.int 0) (.cons (.new (.lc (.bi .abs (.cons (.v 2) .nil)) (.v 2) (.val (.sl (.v 0) .non (.int 63))) (.cons (.cmp .ge (.bi .abs (.cons (.v 2) .nil)) (.bin .pow (.int 10) (.int 18))) .nil) [2])) .nil))))))
  .nil)))
/-- _law_draw: 0 _law_pool_here 1 _law_many 2 _law_cells 3 _law_mixed 4 _law_digit -/
def c28 : Sts :=
  (.cons (.asg (.v 2) (.idx (.v 0) (.int 2)))
  (.cons (.ife (.cmp .gt (.bi .len (.cons (.v 2) .nil)) (.int 0))
   (.cons (.asg (.v 4) (.bin .mod (.bi .int (.cons (.idx (.v 2) (.int 0)) .nil)) (.v 1)))
   (.cons (.asgI (.v 2) (.int 0) (.bin .fdiv (.bi .int (.cons (.idx (.v 2) (.int 0)) .nil)) (.v 1)))
   (.cons (.ife (.cmp .eq (.idx (.v 2) (.int 0)) (.int 0))
    (.cons (.ex (.mm .popAt (.v 2) (.cons (.int 0) .nil)))
    .nil)
    .nil)
   (.cons (.ret (.v 4))
   .nil))))
   .nil)
  (.cons (.asgI (.v 0) (.int 1) (.bin .add (.idx (.v 0) (.int 1)) (.int 1)))
  (.cons (.asg (.v 3) (.bin .mod (.bi .int (.cons (.bin .mul (.bin .add (.idx (.v 0) (.int 0)) (.bin .mul (.int 7919) (.idx (.v 0) (.int 1)))) (.int 48271)) .nil)) (.int 2147483647)))
  (.cons (.asg (.v 3) (.bin .mod (.bi .int (.cons (.bin .mul (.v 3) (.bin .add (.bin .fdiv (.v 3) (.int 1009)) (.int 69621))) .nil)) (.int 2147483647)))
  (.cons (.asg (.v 3) (.bin .mod (.bi .int (.cons (.bin .mul (.v 3) (.bin .add (.bin .fdiv (.v 3) (.int 2003)) (.int 40692))) .nil)) (.int 2147483399)))
  (.cons (.ret (.bin .mod (.bi .int (.cons (.bin .fdiv (.v 3) (.int 16)) .nil)) (.v 1)))
  .nil)))))))
/-- _law_some: 0 _law_pool_here 1 _law_things -/
def c29 : Sts :=
  (.cons (.ret (.idx (.v 1) (.call .plain 28 (.cons (.v 0) (.cons (.bi .len (.cons (.v 1) .nil)) .nil)))))
  .nil)
/-- _law_free_roads: 0 _law_pool_here 1 _law_houses 2 _law_many 3 _law_roads 4 _law_k 5 _law_begin 6 _law_end -/
def c30 : Sts :=
  (.cons (.asgO 3 (.lst .nil))
  (.cons (.for (.v 4) (.rng1 (.v 2))
   (.cons (.asg (.v 5) (.call .plain 28 (.cons (.v 0) (.cons (.v 1) .nil))))
   (.cons (.asg (.v 6) (.call .plain 28 (.cons (.v 0) (.cons (.bin .sub (.v 1) (.int 1)) .nil))))
   (.cons (.ex (.mm .append (.v 3) (.cons (.tup (.cons (.v 5) (.cons (.bin .add (.v 6) (.bi .int (.cons (.cmp .ge (.v 6) (.v 5)) .nil))) .nil))) .nil)))
   .nil))) [4, 5, 6])
  (.cons (.ret (.v 3))
  .nil)))
/-- _law_tree_roads: 0 _law_houses 1 _law_pool_here 2 _law_house -/
def c31 : Sts :=
  (.cons (.ret (.lc (.tup (.cons (.v 2) (.cons (.call .plain 28 (.cons (.v 1) (.cons (.v 2) .nil))) .nil))) (.v 2) (.rng2 (.int 1) (.v 0)) .nil [2]))
  .nil)
/-- _law_ring_roads: 0 _law_houses 1 _law_house -/
def c32 : Sts :=
  (.cons (.ret (.lc (.tup (.cons (.v 1) (.cons (.bin .mod (.bi .int (.cons (.bin .add (.v 1) (.int 1)) .nil)) (.v 0)) .nil))) (.v 1) (.rng1 (.v 0)) .nil [1]))
  .nil)
/-- _law_web: 0 _law_pool_here 1 _law_most 2 _law_kind_here 3 _law_houses 4 _law_roads 5 _law_plain 6 _law_rooms 7 _law_times 8 _law_ties 9 _law_road 10 _law_begin 11 _law_end -/
def c33 : Sts :=
  (.cons (.asg (.v 2) (.call .plain 28 (.cons (.v 0) (.cons (.int 6) .nil))))
  (.cons (.asg (.v 3) (.bin .add (.int 2) (.call .plain 28 (.cons (.v 0) (.cons (.int 5) .nil)))))
  (.cons (.asg (.v 4) (.call .plain 30 (.cons (.v 0) (.cons (.v 3) (.cons (.bin .add (.int 1) (.call .plain 28 (.cons (.v 0) (.cons (.v 1) .nil)))) .nil)))))
  (.cons (.ife (.cmp .eq (.v 2) (.int 2))
   (.cons (.asg (.v 4) (.sl (.call .plain 32 (.cons (.v 3) .nil)) .non (.bin .sub (.v 3) (.call .plain 28 (.cons (.v 0) (.cons (.int 2) .nil))))))
   .nil)
   .nil)
  (.cons (.ife (.cmp .eq (.v 2) (.int 3))
   (.cons (.asg (.v 4) (.call .plain 31 (.cons (.v 3) (.cons (.v 0) .nil))))
   .nil)
   .nil)
  (.cons (.ife (.cmp .eq (.v 2) (.int 4))
   (.cons (.asg (.v 8) (.sl (.call .plain 31 (.cons (.v 3) (.cons (.v 0) .nil))) .non (.bin .add (.bin .fdiv (.v 1) (.int 2)) (.int 1))))
   (.cons (.asg (.v 4) (.bin .add (.v 8) (.lc (.tup (.cons (.v 11) (.cons (.v 10) .nil))) (.tup (.cons (.v 10) (.cons (.v 11) .nil))) (.val (.v 8)) .nil [10, 11])))
   .nil))
   .nil)
  (.cons (.ife (.cmp .eq (.v 2) (.int 5))
   (.cons (.asg (.v 4) (.bin .add (.call .plain 32 (.cons (.v 3) .nil)) (.sl (.v 4) .non (.int 2))))
   .nil)
   .nil)
  (.cons (.asg (.v 5) (.call .plain 28 (.cons (.v 0) (.cons (.int 2) .nil))))
  (.cons (.asg (.v 6) (.bi .tuple (.cons (.lc (.bin .add (.int 1) (.bin .mul (.call .plain 28 (.cons (.v 0) (.cons (.int 3) .nil))) (.v 5))) (.v 9) (.val (.v 4)) .nil [9]) .nil)))
  (.cons (.asg (.v 7) (.bi .tuple (.cons (.lc (.bin .add (.int 1) (.bin .mul (.call .plain 28 (.cons (.v 0) (.cons (.int 3) .nil))) (.v 5))) (.v 9) (.val (.v 4)) .nil [9]) .nil)))
  (.cons (.ret (.tup (.cons (.v 3) (.cons (.bi .tuple (.cons (.v 4) .nil)) (.cons (.v 6) (.cons (.v 7) .nil))))))
  .nil)))))))))))
/-- _law_great_web: 0 _law_pool_here 1 _law_houses 2 _law_roads 3 _law_ones -/
def c34 : Sts :=
  (.cons (.asg (.v 1) (.bin .add (.int 6) (.call .plain 28 (.cons (.v 0) (.cons (.int 7) .nil)))))
  (.cons (.asg (.v 2) (.call .plain 30 (.cons (.v 0) (.cons (.v 1) (.cons (.bin .add (.int 9) (.call .plain 28 (.cons (.v 0) (.cons (.int 16) .nil)))) .nil)))))
  (.cons (.asg (.v 3) (.bin .mul (.tup (.cons (.int 1) .nil)) (.bi .len (.cons (.v 2) .nil))))
  (.cons (.ret (.tup (.cons (.v 1) (.cons (.bi .tuple (.cons (.v 2) .nil)) (.cons (.v 3) (.cons (.v 3) .nil))))))
  .nil))))
/-- _law_nexts: 0 _law_web_here 1 _law_begins 2 _law_found 3 _law_begin 4 _law_end 5 _law_pair 6 _law_k -/
def c35 : Sts :=
  (.cons (.asg (.v 1) (.lc (.idx (.v 5) (.int 0)) (.v 5) (.val (.idx (.v 0) (.int 1))) .nil [5]))
  (.cons (.asgO 2 (.lst .nil))
  (.cons (.for (.tup (.cons (.v 3) (.cons (.v 4) .nil))) (.val (.idx (.v 0) (.int 1)))
   (.cons (.ex (.mm .append (.v 2) (.cons (.lc (.v 6) (.v 6) (.rng1 (.bi .len (.cons (.v 1) .nil))) (.cons (.cmp .eq (.idx (.v 1) (.v 6)) (.v 4)) .nil) [6]) .nil)))
   .nil) [3, 4])
  (.cons (.ret (.v 2))
  .nil))))
/-- _law_may_end: 0 _law_nexts_here 1 _law_lot_here 2 _law_sort 3 _law_road -/
def c36 : Sts :=
  (.cons (.ife (.cmp .eq (.bi .len (.cons (.idx (.v 0) (.v 3)) .nil)) (.int 0))
   (.cons (.ret (.bl false))
   .nil)
   .nil)
  (.cons (.ret (.or (.cons (.cmp .eq (.v 2) (.str "turns")) (.cons (.cmp .nin (.v 3) (.v 1)) .nil))))
  .nil))
/-- _law_bad: 0 _law_nexts_here 1 _law_lot_here 2 _law_sort 3 _law_found 4 _law_silent 5 _law_a 6 _law_b 7 _law_m 8 _law_road -/
def c37 : Sts :=
  (.cons (.asgO 3 (.lst .nil))
  (.cons (.asg (.v 4) (.lc (.v 8) (.v 8) (.rng1 (.bi .len (.cons (.v 0) .nil))) (.cons (.cmp .nin (.v 8) (.v 1)) .nil) [8]))
  (.cons (.for (.v 5) (.val (.v 4))
   (.cons (.for (.v 6) (.val (.idx (.v 0) (.v 5)))
    (.cons (.ife (.and (.cons (.call .plain 36 (.cons (.v 0) (.cons (.v 1) (.cons (.v 2) (.cons (.v 6) .nil))))) (.cons (.cmp .gt (.bi .len (.cons (.idx (.v 0) (.v 5)) .nil)) (.int 1)) .nil)))
     (.cons (.ex (.mm .append (.v 3) (.cons (.tup (.cons (.str "fork") (.cons (.v 5) (.cons (.v 6) .nil)))) .nil)))
     .nil)
     .nil)
    .nil) [6])
   .nil) [5, 6])
  (.cons (.for (.v 5) (.val (.v 4))
   (.cons (.for (.v 7) (.val (.lc (.v 8) (.v 8) (.val (.idx (.v 0) (.v 5))) (.cons (.cmp .inn (.v 8) (.v 4)) .nil) [8]))
    (.cons (.for (.v 6) (.val (.idx (.v 0) (.v 7)))
     (.cons (.ife (.call .plain 36 (.cons (.v 0) (.cons (.v 1) (.cons (.v 2) (.cons (.v 6) .nil)))))
      (.cons (.ex (.mm .append (.v 3) (.cons (.tup (.cons (.str "row") (.cons (.v 5) (.cons (.v 7) (.cons (.v 6) .nil))))) .nil)))
      .nil)
      .nil)
     .nil) [6])
    .nil) [6, 7])
   .nil) [5, 6, 7])
  (.cons (.ret (.bi .sorted (.cons (.v 3) .nil)))
  .nil)))))
/-- _law_lot: 0 _law_pool_here 1 _law_many 2 _law_share 3 _law_road -/
def c38 : Sts :=
  (.cons (.asg (.v 2) (.bin .add (.int 1) (.call .plain 28 (.cons (.v 0) (.cons (.int 4) .nil)))))
  (.cons (.ret (.bi .tuple (.cons (.lc (.v 3) (.v 3) (.rng1 (.v 1)) (.cons (.cmp .lt (.call .plain 28 (.cons (.v 0) (.cons (.int 5) .nil))) (.v 2)) .nil) [3]) .nil)))
  .nil))
/-- _law_enough_lot: 0 _law_pool_here 1 _law_nexts_here 2 _law_sort 3 _law_told 4 _law_turn 5 _law_places 6 _law_place 7 _law_more 8 _law_road -/
def c39 : Sts :=
  (.cons (.asg (.v 3) (.new (.lst .nil)))
  (.cons (.for (.v 4) (.rng1 (.bin .add (.bi .len (.cons (.v 1) .nil)) (.int 1)))
   (.cons (.asg (.v 5) (.call .plain 37 (.cons (.v 1) (.cons (.v 3) (.cons (.v 2) .nil)))))
   (.cons (.ife (.cmp .eq (.v 5) (.lst .nil))
    (.cons .brk
    .nil)
    .nil)
   (.cons (.asg (.v 6) (.sl (.call .plain 29 (.cons (.v 0) (.cons (.v 5) .nil))) (.int 1) .non))
   (.cons (.ife (.cmp .eq (.v 2) (.str "turns"))
    (.cons (.asg (.v 6) (.sl (.v 6) .non (.neg (.int 1))))
    .nil)
    .nil)
   (.cons (.ex (.mm .append (.v 3) (.cons (.call .plain 29 (.cons (.v 0) (.cons (.lc (.v 8) (.v 8) (.val (.v 6)) (.cons (.cmp .nin (.v 8) (.v 3)) .nil) [8]) .nil))) .nil)))
   .nil))))) [4, 5, 6])
  (.cons (.ife (.cmp .eq (.call .plain 28 (.cons (.v 0) (.cons (.int 4) .nil))) (.int 0))
   (.cons (.asg (.v 7) (.lc (.v 8) (.v 8) (.rng1 (.bi .len (.cons (.v 1) .nil))) (.cons (.cmp .eq (.call .plain 28 (.cons (.v 0) (.cons (.int 3) .nil))) (.int 0)) .nil) [8]))
   (.cons (.ife (.cmp .eq (.call .plain 37 (.cons (.v 1) (.cons (.bin .add (.v 3) (.v 7)) (.cons (.v 2) .nil)))) (.lst .nil))
    (.cons (.asg (.v 3) (.bin .add (.v 3) (.v 7)))
    .nil)
    .nil)
   .nil))
   .nil)
  (.cons (.ret (.bi .tuple (.cons (.lc (.v 8) (.v 8) (.rng1 (.bi .len (.cons (.v 1) .nil))) (.cons (.cmp .inn (.v 8) (.v 3)) .nil) [8]) .nil)))
  .nil))))
/-- _law_made: 0 _law_web_here -/
def c40 : Sts :=
  (.cons (.ret (.mk 0 (.cons (.idx (.v 0) (.int 0)) (.cons (.idx (.v 0) (.int 1)) (.cons (.idx (.v 0) (.int 2)) (.cons (.idx (.v 0) (.int 3)) .nil))))))
  .nil)
/-- _law_kind: 0 _law_nexts_here 1 _law_lot_here 2 _law_sort 3 _law_road 4 _law_leading 5 _law_silent 6 _law_later -/
def c41 : Sts :=
  (.cons (.ife (.cmp .inn (.v 3) (.v 1))
   (.cons (.ret (.str "told"))
   .nil)
   .nil)
  (.cons (.ife (.cmp .eq (.bi .len (.cons (.idx (.v 0) (.v 3)) .nil)) (.int 0))
   (.cons (.ret (.str "end"))
   .nil)
   .nil)
  (.cons (.asg (.v 4) (.lc (.v 6) (.v 6) (.val (.idx (.v 0) (.v 3))) (.cons (.cmp .gt (.bi .len (.cons (.idx (.v 0) (.v 6)) .nil)) (.int 0)) .nil) [6]))
  (.cons (.asg (.v 5) (.lc (.v 6) (.v 6) (.val (.v 4)) (.cons (.cmp .nin (.v 6) (.v 1)) .nil) [6]))
  (.cons (.ife (.and (.cons (.cmp .eq (.v 2) (.str "turns")) (.cons (.cmp .lt (.bi .len (.cons (.v 5) .nil)) (.bi .len (.cons (.v 4) .nil))) .nil)))
   (.cons (.ret (.str "queue"))
   .nil)
   .nil)
  (.cons (.ret (.idx (.lst (.cons (.str "second") (.cons (.str "first") .nil))) (.bi .int (.cons (.cmp .gt (.bi .len (.cons (.v 5) .nil)) (.int 0)) .nil))))
  .nil))))))
/-- _law_kinds: 0 _law_nexts_here 1 _law_lot_here 2 _law_sort 3 _law_found 4 _law_road -/
def c42 : Sts :=
  (.cons (.asg (.v 3) (.lc (.call .plain 41 (.cons (.v 0) (.cons (.v 1) (.cons (.v 2) (.cons (.v 4) .nil))))) (.v 4) (.rng1 (.bi .len (.cons (.v 0) .nil))) .nil [4]))
  (.cons (.for (.v 4) (.rng1 (.bi .len (.cons (.v 0) .nil)))
   (.cons (.ife (.and (.cons (.cmp .inn (.idx (.v 3) (.v 4)) (.lst (.cons (.str "queue") (.cons (.str "first") .nil)))) (.cons (.cmp .ne (.bi .len (.cons (.idx (.v 0) (.v 4)) .nil)) (.int 1)) .nil)))
    (.cons (.ret .non)
    .nil)
    .nil)
   (.cons (.ife (.and (.cons (.cmp .eq (.idx (.v 3) (.v 4)) (.str "first")) (.cons (.cmp .ne (.idx (.v 3) (.idx (.idx (.v 0) (.v 4)) (.int 0))) (.str "second")) .nil)))
    (.cons (.ret .non)
    .nil)
    .nil)
   .nil)) [4])
  (.cons (.ret (.bi .tuple (.cons (.v 3) .nil)))
  .nil)))
/-- _law_is_right: 0 _law_web_here 1 _law_nexts_here 2 _law_lot_here 3 _law_sort 4 _law_due 5 _law_told -/
def c43 : Sts :=
  (.cons (.asg (.v 4) (.call .plain 42 (.cons (.v 1) (.cons (.v 2) (.cons (.v 3) .nil)))))
  (.cons (.asg (.v 5) (.call .plain 25 (.cons (.v 0) (.cons (.v 2) (.cons (.v 3) .nil)))))
  (.cons (.ife (.or (.cons (.cmp .ne (.v 5) (.v 4)) (.cons (.cmp .eq (.cmp .isN (.v 4) .non) (.call .plain 21 (.cons (.v 0) (.cons (.v 3) (.cons (.v 2) .nil))))) .nil)))
   (.cons (.ret (.bl false))
   .nil)
   .nil)
  (.cons (.ife (.cmp .isN (.v 4) .non)
   (.cons (.ife (.cmp .eq (.call .plain 20 (.cons (.v 0) (.cons (.v 2) (.cons (.v 3) .nil)))) (.lst .nil))
    (.cons (.ret (.bl false))
    .nil)
    .nil)
   (.cons (.ret (.cmp .isN (.call .plain 26 (.cons (.v 0) (.cons (.v 2) (.cons (.v 3) (.cons .non .nil))))) (.bl false)))
   .nil))
   .nil)
  (.cons (.ife (.or (.cons (.not (.isi (.v 5) [.tuple])) (.cons (.cmp .ne (.call .plain 25 (.cons (.v 0) (.cons (.v 2) (.cons (.v 3) .nil)))) (.v 4)) .nil)))
   (.cons (.ret (.bl false))
   .nil)
   .nil)
  (.cons (.ret (.and (.cons (.cmp .eq (.call .plain 20 (.cons (.v 0) (.cons (.v 2) (.cons (.v 3) .nil)))) (.lst .nil)) (.cons (.cmp .isN (.call .plain 26 (.cons (.v 0) (.cons (.v 2) (.cons (.v 3) (.cons (.v 4) .nil))))) (.bl true)) .nil))))
  .nil))))))
/-- law: 0 _law_script 1 _law_pool_here 2 _law_parts 3 _law_nexts_here 4 _law_web_here 5 _law_sort 6 _law_lots 7 _law_lot_here -/
def c44 : Sts :=
  (.cons (.asg (.v 1) (.call .plain 27 (.cons (.v 0) .nil)))
  (.cons (.asg (.v 2) (.call .plain 33 (.cons (.v 1) (.cons (.int 9) .nil))))
  (.cons (.ife (.cmp .eq (.call .plain 28 (.cons (.v 1) (.cons (.int 4) .nil))) (.int 0))
   (.cons (.asg (.v 2) (.call .plain 34 (.cons (.v 1) .nil)))
   .nil)
   .nil)
  (.cons (.asg (.v 3) (.call .plain 35 (.cons (.v 2) .nil)))
  (.cons (.asg (.v 4) (.call .plain 40 (.cons (.v 2) .nil)))
  (.cons (.for (.v 5) (.val (.lst (.cons (.str "hours") (.cons (.str "turns") .nil))))
   (.cons (.asg (.v 6) (.lst (.cons (.tup .nil) (.cons (.call .plain 38 (.cons (.v 1) (.cons (.bi .len (.cons (.v 3) .nil)) .nil))) (.cons (.call .plain 39 (.cons (.v 1) (.cons (.v 3) (.cons (.v 5) .nil)))) .nil)))))
   (.cons (.ife (.cmp .isN (.call .plain 42 (.cons (.v 3) (.cons (.idx (.v 6) (.int 2)) (.cons (.v 5) .nil)))) .non)
    (.cons (.ret (.bl false))
    .nil)
    .nil)
   (.cons (.for (.v 7) (.val (.v 6))
    (.cons (.ife (.not (.call .plain 43 (.cons (.v 4) (.cons (.v 3) (.cons (.v 7) (.cons (.v 5) .nil))))))
     (.cons (.ret (.bl false))
     .nil)
     .nil)
    .nil) [7])
   .nil))) [5, 6, 7])
  (.cons (.ret (.bl true))
  .nil)))))))
def P : List Def := [⟨2, 2, c0⟩, ⟨1, 1, c1⟩, ⟨3, 3, c2⟩, ⟨1, 1, c3⟩, ⟨1, 1, c4⟩, ⟨1, 2, c5⟩, ⟨1, 1, c6⟩, ⟨2, 4, c7⟩, ⟨3, 4, c8⟩, ⟨5, 5, c9⟩, ⟨5, 9, c10⟩, ⟨2, 2, c11⟩, ⟨2, 2, c12⟩, ⟨2, 3, c13⟩, ⟨2, 2, c14⟩, ⟨3, 3, c15⟩, ⟨4, 4, c16⟩, ⟨4, 6, c17⟩, ⟨4, 7, c18⟩, ⟨3, 5, c19⟩, ⟨3, 3, c20⟩, ⟨3, 3, c21⟩, ⟨4, 5, c22⟩, ⟨4, 4, c23⟩, ⟨3, 7, c24⟩, ⟨3, 3, c25⟩, ⟨4, 4, c26⟩, ⟨1, 3, c27⟩, ⟨2, 5, c28⟩, ⟨2, 2, c29⟩, ⟨3, 7, c30⟩, ⟨2, 3, c31⟩, ⟨1, 2, c32⟩, ⟨2, 12, c33⟩, ⟨1, 4, c34⟩, ⟨1, 7, c35⟩, ⟨4, 4, c36⟩, ⟨3, 9, c37⟩, ⟨2, 4, c38⟩, ⟨3, 9, c39⟩, ⟨1, 1, c40⟩, ⟨4, 7, c41⟩, ⟨3, 5, c42⟩, ⟨4, 6, c43⟩, ⟨1, 8, c44⟩]
def G : Tab where
  con := [(.tup [(.str "hours"), (.str "turns")]), (.int 12), (.int 24), (.int 3), (.int 3), (.str "told"), (.str "end"), (.str "first"), (.str "second"), (.str "queue"), (.str "fork"), (.str "row")]
  ncls := 1
  isf := fun c f => ([(0, 1), (0, 2), (0, 3), (0, 4), (0, 5), (0, 6)] : List (Nat × Nat)).contains (c, f)
  isa := fun _ => false
  meth := fun c m => (([(0, 8, 10)] : List (Nat × Nat × Nat)).find? fun q => q.1 == c && q.2.1 == m).map (·.2.2)
  ini := fun c => ([(0, 9)] : List (Nat × Nat)).lookup c
  sub := fun c d => ([(0, 0), (1, 1), (2, 2), (2, 1), (3, 3), (3, 1), (4, 4), (4, 1)] : List (Nat × Nat)).contains (c, d)
  exf := fun c => if ([3, 4] : List Nat).contains c = true then some [] else none
def T : Nam where
  fn := fun f => (([(1, (.ofString "is_integer")), (2, (.ofString "is_within")), (3, (.ofString "is_pair")), (4, (.ofString "is_sort")), (5, (.ofString "are_ascending")), (6, (.ofString "check_sort")), (7, (.ofString "are_roads")), (8, (.ofString "are_counts")), (12, (.ofString "is_road")), (13, (.ofString "is_lot")), (14, (.ofString "check_lot")), (15, (.ofString "check_lot_sort")), (16, (.ofString "may_be_last")), (17, (.ofString "forks_at")), (18, (.ofString "rows_at")), (19, (.ofString "places_of")), (20, (.ofString "bad_places")), (21, (.ofString "is_enough")), (22, (.ofString "leads_to")), (23, (.ofString "kind_of")), (24, (.ofString "kinds_of")), (25, (.ofString "kinds")), (26, (.ofString "is_kinds")), (27, (.ofString "_law_pool")), (28, (.ofString "_law_draw")), (29, (.ofString "_law_some")), (30, (.ofString "_law_free_roads")), (31, (.ofString "_law_tree_roads")), (32, (.ofString "_law_ring_roads")), (33, (.ofString "_law_web")), (34, (.ofString "_law_great_web")), (35, (.ofString "_law_nexts")), (36, (.ofString "_law_may_end")), (37, (.ofString "_law_bad")), (38, (.ofString "_law_lot")), (39, (.ofString "_law_enough_lot")), (40, (.ofString "_law_made")), (41, (.ofString "_law_kind")), (42, (.ofString "_law_kinds")), (43, (.ofString "_law_is_right")), (44, (.ofString "law"))] : List (Nat × Str)).lookup f)
  cls := ([(.ofString "Web")] : List Str)
  con := fun g => (([(0, (.ofString "SORTS")), (1, (.ofString "MOST_HOUSES")), (2, (.ofString "MOST_ROADS")), (3, (.ofString "MOST_ROOMS")), (4, (.ofString "MOST_TIME")), (5, (.ofString "TOLD")), (6, (.ofString "END")), (7, (.ofString "FIRST")), (8, (.ofString "SECOND")), (9, (.ofString "QUEUE")), (10, (.ofString "FORK")), (11, (.ofString "ROW"))] : List (Nat × Str)).lookup g)
  par := fun f => (([[(.ofString "self"), (.ofString "part")], [(.ofString "thing")], [(.ofString "thing"), (.ofString "least"), (.ofString "most")], [(.ofString "thing")], [(.ofString "thing")], [(.ofString "numbers")], [(.ofString "thing")], [(.ofString "thing"), (.ofString "houses")], [(.ofString "thing"), (.ofString "many"), (.ofString "most")], [(.ofString "self"), (.ofString "houses"), (.ofString "roads"), (.ofString "rooms"), (.ofString "times")], [(.ofString "self"), (.ofString "houses"), (.ofString "roads"), (.ofString "rooms"), (.ofString "times")], [(.ofString "self"), (.ofString "other")], [(.ofString "web"), (.ofString "thing")], [(.ofString "web"), (.ofString "thing")], [(.ofString "web"), (.ofString "thing")], [(.ofString "web"), (.ofString "lot"), (.ofString "sort")], [(.ofString "web"), (.ofString "lot"), (.ofString "sort"), (.ofString "road")], [(.ofString "web"), (.ofString "lot"), (.ofString "sort"), (.ofString "road")], [(.ofString "web"), (.ofString "lot"), (.ofString "sort"), (.ofString "road")], [(.ofString "web"), (.ofString "lot"), (.ofString "sort")], [(.ofString "web"), (.ofString "lot"), (.ofString "sort")], [(.ofString "web"), (.ofString "sort"), (.ofString "lot")], [(.ofString "web"), (.ofString "lot"), (.ofString "road"), (.ofString "told")], [(.ofString "web"), (.ofString "lot"), (.ofString "sort"), (.ofString "road")], [(.ofString "web"), (.ofString "lot"), (.ofString "sort")], [(.ofString "web"), (.ofString "lot"), (.ofString "sort")], [(.ofString "web"), (.ofString "lot"), (.ofString "sort"), (.ofString "thing")], [(.ofString "_law_script")], [(.ofString "_law_pool_here"), (.ofString "_law_many")], [(.ofString "_law_pool_here"), (.ofString "_law_things")], [(.ofString "_law_pool_here"), (.ofString "_law_houses"), (.ofString "_law_many")], [(.ofString "_law_houses"), (.ofString "_law_pool_here")], [(.ofString "_law_houses")], [(.ofString "_law_pool_here"), (.ofString "_law_most")], [(.ofString "_law_pool_here")], [(.ofString "_law_web_here")], [(.ofString "_law_nexts_here"), (.ofString "_law_lot_here"), (.ofString "_law_sort"), (.ofString "_law_road")], [(.ofString "_law_nexts_here"), (.ofString "_law_lot_here"), (.ofString "_law_sort")], [(.ofString "_law_pool_here"), (.ofString "_law_many")], [(.ofString "_law_pool_here"), (.ofString "_law_nexts_here"), (.ofString "_law_sort")], [(.ofString "_law_web_here")], [(.ofString "_law_nexts_here"), (.ofString "_law_lot_here"), (.ofString "_law_sort"), (.ofString "_law_road")], [(.ofString "_law_nexts_here"), (.ofString "_law_lot_here"), (.ofString "_law_sort")], [(.ofString "_law_web_here"), (.ofString "_law_nexts_here"), (.ofString "_law_lot_here"), (.ofString "_law_sort")], [(.ofString "_law_script")]] : List (List Str))[f]?).getD []
  exc := fun k => (([(3, (.ofString "NoLot")), (4, (.ofString "NoSort"))] : List (Nat × Str)).lookup k)
  hnd := fun k => (([] : List (Nat × Str)).lookup k)
def okf (f : Nat) : Bool := ([1, 2, 3, 4, 5, 6, 7, 8, 9, 10, 11, 12, 13, 14, 15, 16, 17, 18, 19, 20, 21, 22, 23, 24, 25, 26, 27, 28, 29, 30, 31, 32, 33, 34, 35, 36, 37, 38, 39, 40, 41, 42, 43, 44] : List Nat).contains f
def names : List Str := [(.ofString "part"), (.ofString "houses"), (.ofString "roads"), (.ofString "rooms"), (.ofString "times"), (.ofString "kept_next"), (.ofString "kept_leads"), (.ofString "__init__"), (.ofString "keep"), (.ofString "append"), (.ofString "extend"), (.ofString "pop"), (.ofString "setdefault"), (.ofString "get")]
end Pr
set_option linter.all false
set_option maxRecDepth 100000
set_option maxHeartbeats 2000000
namespace Pr
open PySem Ev
/-! the pool -/
def PL (c : List Cell) : Prop := ∃ (cs : List Int) (sd k : Int) (r : List Cell), (∀ x ∈ cs, 0 ≤ x) ∧ c = .lst (cs.map .int) :: .lst [.int sd, .int k, .ref 0] :: r
theorem PL.app {c r : List Cell} (h : PL c) : PL (c ++ r) := by
  obtain ⟨cs, sd, k, r0, hcs, rfl⟩ := h
  exact ⟨cs, sd, k, r0 ++ r, hcs, rfl⟩
def DrawF (F : FT) : Prop := ∀ (c : List Cell) (m : Int), 1 ≤ m → m ≤ 100 → PL c → ∃ (d : Nat) (c' : List Cell), F 28 [.ref 1, .int m] c = .ok (.int d) c' ∧ (d : Int) < m ∧ PL c'
theorem nb1 (x : Int) : (x % 2147483647).natAbs < 18446744073709551616 := by omega
theorem lg1 : Nat.log2 1009 < 9000 := by decide +kernel
theorem lg2 : Nat.log2 2003 < 9000 := by decide +kernel
theorem lg3 : Nat.log2 16 < 9000 := by decide +kernel
def num (s n m : Int) : Int := ((s + 7919 * n) * 48271 % 2147483647 * ((s + 7919 * n) * 48271 % 2147483647 / 1009 + 69621) % 2147483647 *
        ((s + 7919 * n) * 48271 % 2147483647 * ((s + 7919 * n) * 48271 % 2147483647 / 1009 + 69621) % 2147483647 / 2003 + 40692) % 2147483399 / 16) % m
theorem draw_run {F : FT} {c : List Cell} {m : Int} (h1 : 1 ≤ m) (h2 : m ≤ 100) (hc : PL c) : ∃ (d : Nat) (c' : List Cell), runDef G F ⟨2, 5, c28⟩ [.ref 1, .int m] c = .ok (.int d) c' ∧ (d : Int) < m ∧ PL c' := by
  obtain ⟨cs, sd, k, r, hcs, rfl⟩ := hc
  have h0 : 0 < m := by omega
  have h3 : m.natAbs.log2 < 9000 := by
    have := Nat.log2_le_self m.natAbs
    omega
  have fin : ∀ y : Int, ∃ d : Nat, y % m = d ∧ (d : Int) < m := fun y => by
    have a := Int.emod_nonneg y (show m ≠ 0 by omega)
    have b := Int.emod_lt_of_pos y h0
    exact ⟨(y % m).toNat, by omega, by omega⟩
  cases cs with
  | nil =>
    obtain ⟨d, e, hd⟩ := fin (num sd (k + 1) m)
    refine ⟨d, .lst [] :: .lst [.int sd, .int (k + 1), .ref 0] :: r, ?_, hd, [], sd, k + 1, r, by simp, rfl⟩
    have e : num sd (k + 1) m = d := by
      rw [← e]; unfold num; rw [Int.emod_emod_of_dvd _ (Int.dvd_refl m)]
    rw [← e]
    simp [runDef, evSs, evS, evX, evAnd, evOr, evDs, evPs, evQs, evIt, M.bind, M.pure, varM, Ev.S.loc1, two, one, PV.val, Cell.toD, idxF, pickI, ixN, cmpF, eqF, ltF, D.fin, dep, eqB, ltB, alk, nonB, toB, biM, valsOf, biF, D.len, Ev.finish, Exs.isNil, asgIM, asgOM, thaw, Ev.S.get, Ev.S.put, PV.lo, PV.store, bindM, bindT, bindTs, M.of, binF, doCall, endC, lstM, doMm, mmF, turnM, isLoop, c28, num, h0, h3, lg1, lg2, lg3, nb1]
  | cons x cs =>
    obtain ⟨d, e, hd⟩ := fin x
    have hx : 0 ≤ x := hcs x (List.mem_cons_self ..)
    have hr := fun z hz => hcs z (List.mem_cons_of_mem _ hz)
    by_cases hz : x / m = 0
    · refine ⟨d, .lst (cs.map .int) :: .lst [.int sd, .int k, .ref 0] :: r, ?_, hd, cs, sd, k, r, hr, rfl⟩
      rw [← e]
      simp [runDef, evSs, evS, evX, evAnd, evOr, evDs, evPs, evQs, evIt, M.bind, M.pure, varM, Ev.S.loc1, two, one, PV.val, Cell.toD, idxF, pickI, ixN, cmpF, eqF, ltF, D.fin, dep, eqB, ltB, alk, nonB, toB, biM, valsOf, biF, D.len, Ev.finish, Exs.isNil, asgIM, asgOM, thaw, Ev.S.get, Ev.S.put, PV.lo, PV.store, bindM, bindT, bindTs, M.of, binF, doCall, endC, lstM, doMm, mmF, turnM, isLoop, c28, h0, h3, hz, sml, big]
    · refine ⟨d, .lst (((x / m) :: cs).map .int) :: .lst [.int sd, .int k, .ref 0] :: r, ?_, hd, (x / m) :: cs, sd, k, r, fun z hz => ?_, rfl⟩
      · rw [← e]
        simp [runDef, evSs, evS, evX, evAnd, evOr, evDs, evPs, evQs, evIt, M.bind, M.pure, varM, Ev.S.loc1, two, one, PV.val, Cell.toD, idxF, pickI, ixN, cmpF, eqF, ltF, D.fin, dep, eqB, ltB, alk, nonB, toB, biM, valsOf, biF, D.len, Ev.finish, Exs.isNil, asgIM, asgOM, thaw, Ev.S.get, Ev.S.put, PV.lo, PV.store, bindM, bindT, bindTs, M.of, binF, doCall, endC, lstM, doMm, mmF, turnM, isLoop, c28, h0, h3, hz]
      · rcases List.mem_cons.mp hz with rfl | hz
        · exact Int.ediv_nonneg hx (by omega)
        · exact hr z hz
/-! how it begins -/
def PoolF (F : FT) : Prop := ∀ ns : List Int, ns.length ≤ 63 → ∃ c, F 27 [.lst (ns.map .int)] [] = .ok (.ref 1) c ∧ PL c
def iabs (x : Int) : Int := if x < 0 then -x else x
theorem pool_run {F : FT} {ns : List Int} (hn : ns.length ≤ 63) : ∃ c, runDef G F ⟨1, 3, c27⟩ [.lst (ns.map .int)] [] = .ok (.ref 1) c ∧ PL c := by
  have hc : (ns.map D.int).take (min 63 ns.length) = ns.map D.int := by rw [List.take_of_length_le]; simp; omega
  have hc2 : ns.take 63 = ns := List.take_of_length_le hn
  have hl : ns.length ≤ line := by rw [line_eq]; omega
  -- the seed
  obtain ⟨s1, e1, sd, v2, rfl⟩ := loopF_map (g := D.int) (bd := turnM (.v 2) (evSs G F (forB (nthS c27 1)))) (kl := [2]) (fun done s => ∃ (sd : Int) (v2 : Option LV), s = ⟨[some (.d (.lst (ns.map .int))), some (.d (.int sd)), v2], []⟩) ns [] ⟨[some (.d (.lst (ns.map .int))), some (.d (.int (ns.length + 1))), none], []⟩
    (fun done x s _ ⟨sd, v2, hs⟩ => by
      subst hs
      refine ⟨⟨[some (.d (.lst (ns.map .int))), some (.d (.int ((sd * 48271 + x % 2147483629 + 11) % 2147483647))), some (.d (.int x))], []⟩, ?_, _, _, rfl⟩
      simp [runDef, evSs, evS, evX, evAnd, evOr, evDs, evPs, evQs, evIt, M.bind, M.pure, varM, Ev.S.loc1, two, one, PV.val, Cell.toD, idxF, pickI, ixN, cmpF, eqF, ltF, D.fin, dep, eqB, ltB, alk, nonB, toB, biM, valsOf, biF, D.len, Ev.finish, Exs.isNil, asgIM, asgOM, thaw, Ev.S.get, Ev.S.put, PV.lo, PV.store, bindM, bindT, bindTs, M.of, binF, doCall, endC, lstM, doMm, mmF, turnM, isLoop, forB, nthS, c27])
    ⟨_, _, rfl⟩
  have hi : ∀ v2, evIt G F (.val (.sl (.v 0) .non (.int 63))) ⟨[some (.d (.lst (ns.map .int))), some (.d (.int sd)), v2], []⟩ = .ok (ns.map .int) ⟨[some (.d (.lst (ns.map .int))), some (.d (.int sd)), v2], []⟩ := fun v2 => by
    simp [runDef, evSs, evS, evX, evAnd, evOr, evDs, evPs, evQs, evIt, M.bind, M.pure, varM, Ev.S.loc1, two, one, PV.val, Cell.toD, idxF, pickI, ixN, cmpF, eqF, ltF, D.fin, dep, eqB, ltB, alk, nonB, toB, biM, valsOf, biF, D.len, Ev.finish, Exs.isNil, asgIM, asgOM, thaw, Ev.S.get, Ev.S.put, PV.lo, PV.store, bindM, bindT, bindTs, M.of, binF, doCall, endC, lstM, doMm, mmF, turnM, isLoop, slM, slF, partM, partF, cutI, clipI, Ex.isNon, walkD, D.items, hc, hc2]
  obtain ⟨ts, s2, e2, f, w2, rfl⟩ := lcq_run (g := D.int) (G := G) (F := F) (tg := .v 2) (own := [2]) (elt := .bi .abs (.cons (.v 2) .nil)) (q := .cmp .ge (.bi .abs (.cons (.v 2) .nil)) (.bin .pow (.int 10) (.int 18)))
    (fun s => ∃ v2, s = ⟨[some (.d (.lst (ns.map .int))), some (.d (.int sd)), v2], []⟩) (fun x t => ∃ y : Int, 0 ≤ y ∧ t = .int y) (fun x => !decide (iabs x < 1000000000000000000)) (hi none) hl ⟨none, rfl⟩
    (fun x _ s ⟨v2, hs⟩ => by
      subst hs
      refine ⟨⟨[some (.d (.lst (ns.map .int))), some (.d (.int sd)), some (.d (.int x))], []⟩, ⟨[some (.d (.lst (ns.map .int))), some (.d (.int sd)), some (.d (.int x))], []⟩, rfl, ?_, fun _ => ⟨_, rfl⟩, fun _ => ⟨.int (iabs x), ⟨[some (.d (.lst (ns.map .int))), some (.d (.int sd)), some (.d (.int x))], []⟩, ?_, ⟨iabs x, by unfold iabs; split <;> omega, rfl⟩, ⟨_, rfl⟩⟩⟩
      · simp [runDef, evSs, evS, evX, evAnd, evOr, evDs, evPs, evQs, evIt, M.bind, M.pure, varM, Ev.S.loc1, two, one, PV.val, Cell.toD, idxF, pickI, ixN, cmpF, eqF, ltF, D.fin, dep, eqB, ltB, alk, nonB, toB, biM, valsOf, biF, D.len, Ev.finish, Exs.isNil, asgIM, asgOM, thaw, Ev.S.get, Ev.S.put, PV.lo, PV.store, bindM, bindT, bindTs, M.of, binF, doCall, endC, lstM, doMm, mmF, turnM, isLoop, iabs]
        exact decide_eq_decide.mpr Iff.rfl
      · simp [runDef, evSs, evS, evX, evAnd, evOr, evDs, evPs, evQs, evIt, M.bind, M.pure, varM, Ev.S.loc1, two, one, PV.val, Cell.toD, idxF, pickI, ixN, cmpF, eqF, ltF, D.fin, dep, eqB, ltB, alk, nonB, toB, biM, valsOf, biF, D.len, Ev.finish, Exs.isNil, asgIM, asgOM, thaw, Ev.S.get, Ev.S.put, PV.lo, PV.store, bindM, bindT, bindTs, M.of, binF, doCall, endC, lstM, doMm, mmF, turnM, isLoop, iabs])
  obtain ⟨cs, rfl, f2⟩ := f.pick
  refine ⟨[.lst (cs.map .int), .lst [.int sd, .int 0, .ref 0]], ?_, cs, sd, 0, [], f2.all (P := fun y => 0 ≤ y) (fun _ _ h => h), rfl⟩
  have er : runDef G F ⟨1, 3, c27⟩ [.lst (ns.map .int)] [] = Ev.finish (evSs G F c27 ⟨[some (.d (.lst (ns.map .int))), none, none], []⟩) := rfl
  have q1 : evS G F (nthS c27 0) ⟨[some (.d (.lst (ns.map .int))), none, none], []⟩ = .ok .next ⟨[some (.d (.lst (ns.map .int))), some (.d (.int (ns.length + 1))), none], []⟩ := by simp [runDef, evSs, evS, evX, evAnd, evOr, evDs, evPs, evQs, evIt, M.bind, M.pure, varM, Ev.S.loc1, two, one, PV.val, Cell.toD, idxF, pickI, ixN, cmpF, eqF, ltF, D.fin, dep, eqB, ltB, alk, nonB, toB, biM, valsOf, biF, D.len, Ev.finish, Exs.isNil, asgIM, asgOM, thaw, Ev.S.get, Ev.S.put, PV.lo, PV.store, bindM, bindT, bindTs, M.of, binF, doCall, endC, lstM, doMm, mmF, turnM, isLoop, nthS, c27]
  have q2 : evS G F (nthS c27 1) ⟨[some (.d (.lst (ns.map .int))), some (.d (.int (ns.length + 1))), none], []⟩ = .ok .next ⟨[some (.d (.lst (ns.map .int))), some (.d (.int sd)), none], []⟩ := by
    refine (for_val (pv := .d (.lst (ns.map .int))) (l := ns.map .int) (s1 := ⟨[some (.d (.lst (ns.map .int))), some (.d (.int (ns.length + 1))), none], []⟩) ?_ rfl).trans e1
    simp [runDef, evSs, evS, evX, evAnd, evOr, evDs, evPs, evQs, evIt, M.bind, M.pure, varM, Ev.S.loc1, two, one, PV.val, Cell.toD, idxF, pickI, ixN, cmpF, eqF, ltF, D.fin, dep, eqB, ltB, alk, nonB, toB, biM, valsOf, biF, D.len, Ev.finish, Exs.isNil, asgIM, asgOM, thaw, Ev.S.get, Ev.S.put, PV.lo, PV.store, bindM, bindT, bindTs, M.of, binF, doCall, endC, lstM, doMm, mmF, turnM, isLoop, slM, slF, partM, partF, cutI, clipI, Ex.isNon, hc, hc2]
  have e : c27 = .cons (nthS c27 0) (.cons (nthS c27 1) (.cons (nthS c27 2) .nil)) := rfl
  rw [er, e, sts_next q1, sts_next q2]
  have e3 := new_eval e2
  have k : ∀ L, evX G F L ⟨[some (.d (.lst (ns.map .int))), some (.d (.int sd)), none], []⟩ = .ok (.d (.ref 0)) ⟨[some (.d (.lst (ns.map .int))), some (.d (.int sd)), none], [.lst (cs.map .int)]⟩ →
      evS G F (.ret (.new (.lst (.cons (.v 1) (.cons (.int 0) (.cons L .nil)))))) ⟨[some (.d (.lst (ns.map .int))), some (.d (.int sd)), none], []⟩ = .ok (.ret (.ref 1)) ⟨[some (.d (.lst (ns.map .int))), some (.d (.int sd)), none], [.lst (cs.map .int), .lst [.int sd, .int 0, .ref 0]]⟩ := fun L h => by
    simp [runDef, evSs, evS, evX, evAnd, evOr, evDs, evPs, evQs, evIt, M.bind, M.pure, varM, Ev.S.loc1, two, one, PV.val, Cell.toD, idxF, pickI, ixN, cmpF, eqF, ltF, D.fin, dep, eqB, ltB, alk, nonB, toB, biM, valsOf, biF, D.len, Ev.finish, Exs.isNil, asgIM, asgOM, thaw, Ev.S.get, Ev.S.put, PV.lo, PV.store, bindM, bindT, bindTs, M.of, binF, doCall, endC, lstM, doMm, mmF, turnM, isLoop, newM, h, line_eq]
  exact congrArg Ev.finish (sts_ret (ss := .nil) (k _ e3))
end Pr

set_option linter.all false
set_option maxRecDepth 100000
set_option maxHeartbeats 2000000
namespace Pr
open PySem Ev
/-! roads -/
def pr (p : Nat × Nat) : D := .tup [.int p.1, .int p.2]
def ni (n : Nat) : D := .int n
def VR (h : Nat) (rs : List (Nat × Nat)) : Prop := ∀ p ∈ rs, p.1 < h ∧ p.2 < h ∧ p.1 ≠ p.2
theorem VR.nil {h : Nat} : VR h [] := fun p hp => by simp at hp
theorem VR.snoc {h : Nat} {rs : List (Nat × Nat)} {p : Nat × Nat} (v : VR h rs) (hp : p.1 < h ∧ p.2 < h ∧ p.1 ≠ p.2) : VR h (rs ++ [p]) := fun q hq => by
  rcases List.mem_append.mp hq with hq | hq
  · exact v q hq
  · rw [List.mem_singleton] at hq; subst hq; exact hp
theorem VR.append {h : Nat} {rs ss : List (Nat × Nat)} (v : VR h rs) (w : VR h ss) : VR h (rs ++ ss) := fun q hq => by
  rcases List.mem_append.mp hq with hq | hq
  · exact v q hq
  · exact w q hq
theorem VR.take {h n : Nat} {rs : List (Nat × Nat)} (v : VR h rs) : VR h (rs.take n) := fun q hq => v q (List.mem_of_mem_take hq)
def FreeF (F : FT) : Prop := ∀ (c : List Cell) (hi mi : Int) (h n : Nat), hi = h → mi = n → 2 ≤ h → h ≤ 12 → n ≤ 24 → PL c → ∃ (rs : List (Nat × Nat)) (c' : List Cell), F 30 [.ref 1, .int hi, .int mi] c = .ok (.lst (rs.map pr)) c' ∧ rs.length = n ∧ VR h rs ∧ PL c'
theorem free_run {F : FT} (hD : DrawF F) {c : List Cell} {h n : Nat} (h1 : 2 ≤ h) (h2 : h ≤ 12) (h3 : n ≤ 24) (hc : PL c) :
    ∃ (rs : List (Nat × Nat)) (c' : List Cell), runDef G F ⟨3, 7, c30⟩ [.ref 1, .int h, .int n] c = .ok (.lst (rs.map pr)) c' ∧ rs.length = n ∧ VR h rs ∧ PL c' := by
  obtain ⟨s1, e1, rs, c1, v4, v5, v6, rfl, q1, q2, q3⟩ := loopF_rng (bd := turnM (.v 4) (evSs G F (forB (nthS c30 1)))) (kl := [4, 5, 6])
    (fun j s => ∃ (rs : List (Nat × Nat)) (c : List Cell) (v4 v5 v6 : Option LV), s = ⟨[some (.d (.ref 1)), some (.d (.int h)), some (.d (.int n)), some (.own (.lst (rs.map pr))), v4, v5, v6], c⟩ ∧ rs.length = j ∧ VR h rs ∧ PL c) n 0
    ⟨[some (.d (.ref 1)), some (.d (.int h)), some (.d (.int n)), some (.own (.lst [])), none, none, none], c⟩
    (fun j s _ hj ⟨rs, c, v4, v5, v6, hs, q1, q2, q3⟩ => by
      subst hs
      obtain ⟨b, c1, e1, hb, p1⟩ := hD c h (by omega) (by omega) q3
      obtain ⟨e, c2, e2, he, p2⟩ := hD c1 (h - 1) (by omega) (by omega) p1
      have hl : rs.length < 16777216 := by omega
      by_cases hbe : b ≤ e
      · refine ⟨⟨[some (.d (.ref 1)), some (.d (.int h)), some (.d (.int n)), some (.own (.lst ((rs ++ [(b, e + 1)]).map pr))), some (.d (.int j)), some (.d (.int b)), some (.d (.int e))], c2⟩, ?_, _, c2, _, _, _, rfl, by simp; omega, q2.snoc ⟨by omega, by show e + 1 < h; omega, by show b ≠ e + 1; omega⟩, p2⟩
        have hbe' : ¬ (e < b) := by omega
        simp [runDef, evSs, evS, evX, evAnd, evOr, evDs, evPs, evQs, evIt, M.bind, M.pure, varM, Ev.S.loc1, two, one, PV.val, Cell.toD, idxF, pickI, ixN, cmpF, eqF, ltF, D.fin, dep, eqB, ltB, alk, nonB, toB, biM, valsOf, biF, D.len, Ev.finish, Exs.isNil, asgIM, asgOM, thaw, Ev.S.get, Ev.S.put, PV.lo, PV.store, bindM, bindT, bindTs, M.of, binF, doCall, endC, lstM, doMm, mmF, turnM, isLoop, forB, nthS, c30, e1, e2, pr, line_eq, hl, hbe, hbe']
      · refine ⟨⟨[some (.d (.ref 1)), some (.d (.int h)), some (.d (.int n)), some (.own (.lst ((rs ++ [(b, e)]).map pr))), some (.d (.int j)), some (.d (.int b)), some (.d (.int e))], c2⟩, ?_, _, c2, _, _, _, rfl, by simp; omega, q2.snoc ⟨by omega, by show e < h; omega, by show b ≠ e; omega⟩, p2⟩
        have hbe' : e < b := by omega
        simp [runDef, evSs, evS, evX, evAnd, evOr, evDs, evPs, evQs, evIt, M.bind, M.pure, varM, Ev.S.loc1, two, one, PV.val, Cell.toD, idxF, pickI, ixN, cmpF, eqF, ltF, D.fin, dep, eqB, ltB, alk, nonB, toB, biM, valsOf, biF, D.len, Ev.finish, Exs.isNil, asgIM, asgOM, thaw, Ev.S.get, Ev.S.put, PV.lo, PV.store, bindM, bindT, bindTs, M.of, binF, doCall, endC, lstM, doMm, mmF, turnM, isLoop, forB, nthS, c30, e1, e2, pr, line_eq, hl, hbe, hbe'])
    ⟨[], c, none, none, none, rfl, rfl, .nil, hc⟩
  refine ⟨rs, c1, ?_, by simpa using q1, q2, q3⟩
  have er : runDef G F ⟨3, 7, c30⟩ [.ref 1, .int h, .int n] c = Ev.finish (evSs G F c30 ⟨[some (.d (.ref 1)), some (.d (.int h)), some (.d (.int n)), none, none, none, none], c⟩) := rfl
  have e : c30 = .cons (nthS c30 0) (.cons (nthS c30 1) (.cons (nthS c30 2) .nil)) := rfl
  have p0 : evS G F (nthS c30 0) ⟨[some (.d (.ref 1)), some (.d (.int h)), some (.d (.int n)), none, none, none, none], c⟩ = .ok .next ⟨[some (.d (.ref 1)), some (.d (.int h)), some (.d (.int n)), some (.own (.lst [])), none, none, none], c⟩ := by kernel_rfl
  have p1 := for_eval (G := G) (F := F) (it := .rng1 (.v 2)) (tg := .v 4) (a := forB (nthS c30 1)) (kl := [4, 5, 6]) (s := ⟨[some (.d (.ref 1)), some (.d (.int h)), some (.d (.int n)), some (.own (.lst [])), none, none, none], c⟩) rfl (it_rng1 (l := n) (v := n) rfl (rng_nat (by omega)))
  rw [e1] at p1
  rw [er, e, sts_next p0]
  exact congrArg Ev.finish (sts_next (ss := dropS c30 2) p1)
/-! a ring -/
def ring (h : Nat) : List (Nat × Nat) := (List.range' 0 h).map fun i => (i, (i + 1) % h)
theorem ring_ok {h : Nat} (h2 : 2 ≤ h) : VR h (ring h) := fun p hp => by
  obtain ⟨i, hi, rfl⟩ := List.mem_map.mp hp
  rw [List.mem_range'_1] at hi
  have hi : i < h := by omega
  refine ⟨hi, Nat.mod_lt _ (by omega), ?_⟩
  show i ≠ (i + 1) % h
  by_cases e : i + 1 = h
  · rw [e, Nat.mod_self]; omega
  · rw [Nat.mod_eq_of_lt (by omega)]; omega
def RingF (F : FT) : Prop := ∀ (c : List Cell) (hi : Int) (h : Nat), hi = h → 2 ≤ h → h ≤ 12 → F 32 [.int hi] c = .ok (.lst ((ring h).map pr)) c
theorem ring_run {F : FT} {c : List Cell} {h : Nat} (h1 : 2 ≤ h) (h2 : h ≤ 12) : runDef G F ⟨1, 2, c32⟩ [.int h] c = .ok (.lst ((ring h).map pr)) c := by
  have hp : (0 : Int) < h := by omega
  obtain ⟨ts, s2, e2, f, v, rfl⟩ := lc_run (G := G) (F := F) (g := fun (j : Nat) => D.int (j : Int)) (it := .rng1 (.v 0)) (tg := .v 1) (own := [1]) (elt := .tup (.cons (.v 1) (.cons (.bin .mod (.bi .int (.cons (.bin .add (.v 1) (.int 1)) .nil)) (.v 0)) .nil))) (s := ⟨[some (.d (.int h)), none], c⟩)
    (fun s => ∃ v, s = ⟨[some (.d (.int h)), v], c⟩) (fun i t => t = pr (i, (i + 1) % h)) (it_rng1 (l := h) (v := h) rfl (rng_nat (by omega))) (by rw [line_eq, List.length_range']; omega) ⟨none, rfl⟩
    (fun i _ s ⟨v, hs⟩ => by
      subst hs
      refine ⟨⟨[some (.d (.int h)), some (.d (.int i))], c⟩, _, ⟨[some (.d (.int h)), some (.d (.int i))], c⟩, rfl, ?_, rfl, _, rfl⟩
      have hp2 : 0 < h := by omega
      simp [runDef, evSs, evS, evX, evAnd, evOr, evDs, evPs, evQs, evIt, M.bind, M.pure, varM, Ev.S.loc1, two, one, PV.val, Cell.toD, idxF, pickI, ixN, cmpF, eqF, ltF, D.fin, dep, eqB, ltB, alk, nonB, toB, biM, valsOf, biF, D.len, Ev.finish, Exs.isNil, asgIM, asgOM, thaw, Ev.S.get, Ev.S.put, PV.lo, PV.store, bindM, bindT, bindTs, M.of, binF, doCall, endC, lstM, doMm, mmF, turnM, isLoop, pr, hp, hp2, line_eq])
  have e := f.eq_map
  have e : ts = (ring h).map pr := by rw [e]; unfold ring; rw [List.map_map]; rfl
  subst e
  have er : runDef G F ⟨1, 2, c32⟩ [.int h] c = Ev.finish (evSs G F c32 ⟨[some (.d (.int h)), none], c⟩) := rfl
  rw [er]
  exact congrArg Ev.finish (sts_ret (ss := .nil) (ret_eval e2))
/-! a tree -/
def TreeF (F : FT) : Prop := ∀ (c : List Cell) (hi : Int) (h : Nat), hi = h → 2 ≤ h → h ≤ 12 → PL c → ∃ (rs : List (Nat × Nat)) (c' : List Cell), F 31 [.int hi, .ref 1] c = .ok (.lst (rs.map pr)) c' ∧ rs.length = h - 1 ∧ VR h rs ∧ PL c'
theorem tree_run {F : FT} (hD : DrawF F) {c : List Cell} {h : Nat} (h1 : 2 ≤ h) (h2 : h ≤ 12) (hc : PL c) : ∃ (rs : List (Nat × Nat)) (c' : List Cell), runDef G F ⟨2, 3, c31⟩ [.int h, .ref 1] c = .ok (.lst (rs.map pr)) c' ∧ rs.length = h - 1 ∧ VR h rs ∧ PL c' := by
  obtain ⟨ts, s2, e2, f, v, c2, rfl, pc⟩ := lc_run (G := G) (F := F) (g := fun (j : Nat) => D.int (j : Int)) (it := .rng2 (.int 1) (.v 0)) (tg := .v 2) (own := [2]) (elt := .tup (.cons (.v 2) (.cons (.call .plain 28 (.cons (.v 1) (.cons (.v 2) .nil))) .nil))) (s := ⟨[some (.d (.int h)), some (.d (.ref 1)), none], c⟩)
    (fun s => ∃ v c, s = ⟨[some (.d (.int h)), some (.d (.ref 1)), v], c⟩ ∧ PL c) (fun i t => ∃ p : Nat × Nat, (p.1 < h ∧ p.2 < h ∧ p.1 ≠ p.2) ∧ t = pr p) (it_rng2 (k := 1) (n := h) rfl rfl (by omega) (by omega)) (by rw [line_eq, List.length_range']; omega) ⟨none, c, rfl, hc⟩
    (fun i hi s ⟨v, c, hs, pc⟩ => by
      subst hs
      rw [List.mem_range'_1] at hi
      obtain ⟨b, c1, e1, hb, p1⟩ := hD c i (by omega) (by omega) pc
      refine ⟨⟨[some (.d (.int h)), some (.d (.ref 1)), some (.d (.int i))], c⟩, pr (i, b), ⟨[some (.d (.int h)), some (.d (.ref 1)), some (.d (.int i))], c1⟩, rfl, ?_, ⟨(i, b), ⟨by show i < h; omega, by show b < h; omega, by show i ≠ b; omega⟩, rfl⟩, _, c1, rfl, p1⟩
      simp [runDef, evSs, evS, evX, evAnd, evOr, evDs, evPs, evQs, evIt, M.bind, M.pure, varM, Ev.S.loc1, two, one, PV.val, Cell.toD, idxF, pickI, ixN, cmpF, eqF, ltF, D.fin, dep, eqB, ltB, alk, nonB, toB, biM, valsOf, biF, D.len, Ev.finish, Exs.isNil, asgIM, asgOM, thaw, Ev.S.get, Ev.S.put, PV.lo, PV.store, bindM, bindT, bindTs, M.of, binF, doCall, endC, lstM, doMm, mmF, turnM, isLoop, pr, e1, line_eq])
  obtain ⟨rs, rfl, f2⟩ := f.pick
  refine ⟨rs, c2, ?_, by rw [f2.length, List.length_range'], F2.all (P := fun (p : Nat × Nat) => p.1 < h ∧ p.2 < h ∧ p.1 ≠ p.2) (fun _ _ h => h) f2, pc⟩
  have er : runDef G F ⟨2, 3, c31⟩ [.int h, .ref 1] c = Ev.finish (evSs G F c31 ⟨[some (.d (.int h)), some (.d (.ref 1)), none], c⟩) := rfl
  rw [er]
  exact congrArg Ev.finish (sts_ret (ss := .nil) (ret_eval e2))
end Pr

set_option linter.all false
set_option maxRecDepth 100000
set_option maxHeartbeats 2000000
namespace Pr
open PySem Ev
/-! webs -/
structure VW (h : Nat) (rs : List (Nat × Nat)) (ro ti : List Nat) : Prop where
  h1 : 2 ≤ h
  h2 : h ≤ 12
  l1 : 1 ≤ rs.length
  l2 : rs.length ≤ 24
  v : VR h rs
  o1 : ro.length = rs.length
  o2 : ti.length = rs.length
  o3 : ∀ x ∈ ro, 1 ≤ x ∧ x ≤ 3
  o4 : ∀ x ∈ ti, 1 ≤ x ∧ x ≤ 3
def wD (h : Nat) (rs : List (Nat × Nat)) (ro ti : List Nat) : D := .tup [.int h, .tup (rs.map pr), .tup (ro.map ni), .tup (ti.map ni)]
def WebF (F : FT) : Prop := ∀ c : List Cell, PL c → ∃ h rs ro ti c', F 33 [.ref 1, .int 9] c = .ok (wD h rs ro ti) c' ∧ VW h rs ro ti ∧ PL c'
section
variable {F : FT}
def s17 (k h : Int) (rs : D) (v5 v6 v7 v8 v9 : Option LV) (c : List Cell) : S := ⟨[some (.d (.ref 1)), some (.d (.int 9)), some (.d (.int k)), some (.d (.int h)), some (.d rs), v5, v6, v7, v8, v9, none, none], c⟩
theorem cnt17 (hD : DrawF F) {k h : Int} {rs : List (Nat × Nat)} {p : Nat} {v6 v7 v8 : Option LV} {c : List Cell} (hl : rs.length ≤ 24) (hp : p < 2) (hc : PL c) :
    ∃ (cs : List Nat) (c' : List Cell), evX G F (.bi .tuple (.cons (.lc (.bin .add (.int 1) (.bin .mul (.call .plain 28 (.cons (.v 0) (.cons (.int 3) .nil))) (.v 5))) (.v 9) (.val (.v 4)) .nil [9]) .nil)) (s17 k h (.lst (rs.map pr)) (some (.d (.int p))) v6 v7 v8 none c)
      = .ok (.d (.tup (cs.map ni))) (s17 k h (.lst (rs.map pr)) (some (.d (.int p))) v6 v7 v8 none c') ∧ cs.length = rs.length ∧ (∀ x ∈ cs, 1 ≤ x ∧ x ≤ 3) ∧ PL c' := by
  obtain ⟨ts, s2, e2, f, v, c2, rfl, pc⟩ := lc_run (G := G) (F := F) (g := pr) (xs := rs) (it := .val (.v 4)) (tg := .v 9) (own := [9]) (elt := .bin .add (.int 1) (.bin .mul (.call .plain 28 (.cons (.v 0) (.cons (.int 3) .nil))) (.v 5))) (s := s17 k h (.lst (rs.map pr)) (some (.d (.int p))) v6 v7 v8 none c)
    (fun s => ∃ v c, s = s17 k h (.lst (rs.map pr)) (some (.d (.int p))) v6 v7 v8 v c ∧ PL c) (fun _ t => ∃ n : Nat, (1 ≤ n ∧ n ≤ 3) ∧ t = ni n) rfl (by rw [line_eq]; omega) ⟨none, c, rfl, hc⟩
    (fun q _ s ⟨v, c, hs, pc⟩ => by
      subst hs
      obtain ⟨d, c1, e1, hd, p1⟩ := hD c 3 (by omega) (by omega) pc
      refine ⟨s17 k h (.lst (rs.map pr)) (some (.d (.int p))) v6 v7 v8 (some (.d (pr q))) c, ni (1 + d * p), s17 k h (.lst (rs.map pr)) (some (.d (.int p))) v6 v7 v8 (some (.d (pr q))) c1, rfl, ?_, ⟨1 + d * p, ?_, rfl⟩, _, c1, rfl, p1⟩
      · have hm : d < 18446744073709551616 := by omega
        simp [runDef, evSs, evS, evX, evAnd, evOr, evDs, evPs, evQs, evIt, M.bind, M.pure, varM, Ev.S.loc1, two, one, PV.val, Cell.toD, idxF, pickI, ixN, cmpF, eqF, ltF, D.fin, dep, eqB, ltB, alk, nonB, toB, biM, valsOf, biF, D.len, Ev.finish, Exs.isNil, asgIM, asgOM, thaw, Ev.S.get, Ev.S.put, PV.lo, PV.store, bindM, bindT, bindTs, M.of, binF, doCall, endC, lstM, doMm, mmF, turnM, isLoop, s17, ni, e1, hm]
      · have : d ≤ 2 := by omega
        have hp2 : p = 0 ∨ p = 1 := by omega
        rcases hp2 with rfl | rfl <;> omega)
  obtain ⟨cs, rfl, f2⟩ := f.pick
  exact ⟨cs, c2, tuple_eval e2, f2.length, F2.all (P := fun (n : Nat) => 1 ≤ n ∧ n ≤ 3) (fun _ _ h => h) f2, pc⟩
theorem skip17 {k h : Int} {rs : D} {v5 v6 v7 v8 v9 : Option LV} {c : List Cell} {q : Int} {a : Sts} (hq : ¬ k = q) : evS G F (.ife (.cmp .eq (.v 2) (.int q)) a .nil) (s17 k h rs v5 v6 v7 v8 v9 c) = .ok .next (s17 k h rs v5 v6 v7 v8 v9 c) := by
  simp [runDef, evSs, evS, evX, evAnd, evOr, evDs, evPs, evQs, evIt, M.bind, M.pure, varM, Ev.S.loc1, two, one, PV.val, Cell.toD, idxF, pickI, ixN, cmpF, eqF, ltF, D.fin, dep, eqB, ltB, alk, nonB, toB, biM, valsOf, biF, D.len, Ev.finish, Exs.isNil, asgIM, asgOM, thaw, Ev.S.get, Ev.S.put, PV.lo, PV.store, bindM, bindT, bindTs, M.of, binF, doCall, endC, lstM, doMm, mmF, turnM, isLoop, s17, hq]
theorem take17 {k h : Int} {rs : D} {v5 v6 v7 v8 v9 : Option LV} {c : List Cell} {q : Int} {a : Sts} (hq : k = q) : evS G F (.ife (.cmp .eq (.v 2) (.int q)) a .nil) (s17 k h rs v5 v6 v7 v8 v9 c) = evSs G F a (s17 k h rs v5 v6 v7 v8 v9 c) := by
  subst hq
  refine (ife_eval (q := true) (s1 := s17 k h rs v5 v6 v7 v8 v9 c) ?_).trans rfl
  simp [runDef, evSs, evS, evX, evAnd, evOr, evDs, evPs, evQs, evIt, M.bind, M.pure, varM, Ev.S.loc1, two, one, PV.val, Cell.toD, idxF, pickI, ixN, cmpF, eqF, ltF, D.fin, dep, eqB, ltB, alk, nonB, toB, biM, valsOf, biF, D.len, Ev.finish, Exs.isNil, asgIM, asgOM, thaw, Ev.S.get, Ev.S.put, PV.lo, PV.store, bindM, bindT, bindTs, M.of, binF, doCall, endC, lstM, doMm, mmF, turnM, isLoop, s17]
theorem d17 : dropS c33 3 = .cons (.ife (.cmp .eq (.v 2) (.int 2)) (ifT (nthS c33 3)) .nil) (.cons (.ife (.cmp .eq (.v 2) (.int 3)) (ifT (nthS c33 4)) .nil) (.cons (.ife (.cmp .eq (.v 2) (.int 4)) (ifT (nthS c33 5)) .nil) (.cons (.ife (.cmp .eq (.v 2) (.int 5)) (ifT (nthS c33 6)) .nil) (dropS c33 7)))) := rfl
theorem ring_len {h : Nat} : (ring h).length = h := by simp [ring]
theorem both17 {k h : Int} {r0 : D} {us : List (Nat × Nat)} {c : List Cell} {L : Ex} (g : us.length + us.length ≤ 16777216)
    (hL : evX G F L (s17 k h r0 none none none (some (.d (.lst (us.map pr)))) none c) = .ok (.d (.lst ((us.map fun p => (p.2, p.1)).map pr))) (s17 k h r0 none none none (some (.d (.lst (us.map pr)))) none c)) :
    evS G F (.asg (.v 4) (.bin .add (.v 8) L)) (s17 k h r0 none none none (some (.d (.lst (us.map pr)))) none c) = .ok .next (s17 k h (.lst ((us ++ us.map fun p => (p.2, p.1)).map pr)) none none none (some (.d (.lst (us.map pr)))) none c) := by
  simp only [s17] at hL
  simp [runDef, evSs, evS, evX, evAnd, evOr, evDs, evPs, evQs, evIt, M.bind, M.pure, varM, Ev.S.loc1, two, one, PV.val, Cell.toD, idxF, pickI, ixN, cmpF, eqF, ltF, D.fin, dep, eqB, ltB, alk, nonB, toB, biM, valsOf, biF, D.len, Ev.finish, Exs.isNil, asgIM, asgOM, thaw, Ev.S.get, Ev.S.put, PV.lo, PV.store, bindM, bindT, bindTs, M.of, binF, doCall, endC, lstM, doMm, mmF, turnM, isLoop, s17, hL, line_eq, g]
theorem ifs17 (hD : DrawF F) (hR : RingF F) (hT : TreeF F) {k h : Nat} {rs : List (Nat × Nat)} {c : List Cell} (hk : k < 6) (h1 : 2 ≤ h) (h2 : h ≤ 12) (l1 : 1 ≤ rs.length) (l2 : rs.length ≤ 9) (hv : VR h rs) (hc : PL c) :
    ∃ rs' v8 c', evSs G F (dropS c33 3) (s17 k h (.lst (rs.map pr)) none none none none none c) = evSs G F (dropS c33 7) (s17 k h (.lst (rs'.map pr)) none none none v8 none c') ∧ 1 ≤ rs'.length ∧ rs'.length ≤ 24 ∧ VR h rs' ∧ PL c' := by
  rw [d17]
  have hr := ring_ok (h := h) h1
  have hlr := ring_len (h := h)
  have h6 : k = 0 ∨ k = 1 ∨ k = 2 ∨ k = 3 ∨ k = 4 ∨ k = 5 := by omega
  rcases h6 with rfl | rfl | rfl | rfl | rfl | rfl
  · exact ⟨rs, none, c, by rw [sts_next (skip17 (by decide)), sts_next (skip17 (by decide)), sts_next (skip17 (by decide)), sts_next (skip17 (by decide))], l1, by omega, hv, hc⟩
  · exact ⟨rs, none, c, by rw [sts_next (skip17 (by decide)), sts_next (skip17 (by decide)), sts_next (skip17 (by decide)), sts_next (skip17 (by decide))], l1, by omega, hv, hc⟩
  · obtain ⟨d, c1, e1, hd, p1⟩ := hD c 2 (by omega) (by omega) hc
    have e2 := hR c h h rfl h1 h2
    have t := (take17 (F := F) (k := (2 : Nat)) (h := h) (rs := .lst (rs.map pr)) (v5 := none) (v6 := none) (v7 := none) (v8 := none) (v9 := none) (c := c) (q := 2) (a := ifT (nthS c33 3)) rfl).trans (show _ = Res.ok Ev.Flow.next (s17 (2 : Nat) h (.lst (((ring h).take (h - d)).map pr)) none none none none none c1) by
      have g0 : d ≤ h := by omega
      have g1 : (0 : Int) ≤ (h : Int) - d := by omega
      have g2 : ((h : Int) - d).toNat = h - d := by omega
      have g3 : min (h - d) h = h - d := by omega
      simp [runDef, evSs, evS, evX, evAnd, evOr, evDs, evPs, evQs, evIt, M.bind, M.pure, varM, Ev.S.loc1, two, one, PV.val, Cell.toD, idxF, pickI, ixN, cmpF, eqF, ltF, D.fin, dep, eqB, ltB, alk, nonB, toB, biM, valsOf, biF, D.len, Ev.finish, Exs.isNil, asgIM, asgOM, thaw, Ev.S.get, Ev.S.put, PV.lo, PV.store, bindM, bindT, bindTs, M.of, binF, doCall, endC, lstM, doMm, mmF, turnM, isLoop, s17, nthS, ifT, c33, e1, e2, slM, slF, partM, partF, cutI, clipI, Ex.isNon, g0, g1, g2, g3, hlr])
    exact ⟨_, none, c1, by rw [sts_next t, sts_next (skip17 (by decide)), sts_next (skip17 (by decide)), sts_next (skip17 (by decide))], by rw [List.length_take, hlr]; omega, by rw [List.length_take, hlr]; omega, hr.take, p1⟩
  · obtain ⟨ts, c1, e1, hl, tv, p1⟩ := hT c h h rfl h1 h2 hc
    have t := (take17 (F := F) (k := (3 : Nat)) (h := h) (rs := .lst (rs.map pr)) (v5 := none) (v6 := none) (v7 := none) (v8 := none) (v9 := none) (c := c) (q := 3) (a := ifT (nthS c33 4)) rfl).trans (show _ = Res.ok Ev.Flow.next (s17 (3 : Nat) h (.lst (ts.map pr)) none none none none none c1) by
      simp [runDef, evSs, evS, evX, evAnd, evOr, evDs, evPs, evQs, evIt, M.bind, M.pure, varM, Ev.S.loc1, two, one, PV.val, Cell.toD, idxF, pickI, ixN, cmpF, eqF, ltF, D.fin, dep, eqB, ltB, alk, nonB, toB, biM, valsOf, biF, D.len, Ev.finish, Exs.isNil, asgIM, asgOM, thaw, Ev.S.get, Ev.S.put, PV.lo, PV.store, bindM, bindT, bindTs, M.of, binF, doCall, endC, lstM, doMm, mmF, turnM, isLoop, s17, nthS, ifT, c33, e1])
    exact ⟨ts, none, c1, by rw [sts_next (skip17 (by decide)), sts_next t, sts_next (skip17 (by decide)), sts_next (skip17 (by decide))], by omega, by omega, tv, p1⟩
  · obtain ⟨ts, c1, e1, hl, tv, p1⟩ := hT c h h rfl h1 h2 hc
    -- both ways
    have e3 : evS G F (nthS (ifT (nthS c33 5)) 0) (s17 (4 : Nat) h (.lst (rs.map pr)) none none none none none c) = .ok .next (s17 (4 : Nat) h (.lst (rs.map pr)) none none none (some (.d (.lst ((ts.take 5).map pr)))) none c1) := by
      have g4 : (ts.map pr).take (min 5 ts.length) = (ts.map pr).take 5 := by
        by_cases g : 5 ≤ ts.length
        · rw [Nat.min_eq_left g]
        · rw [Nat.min_eq_right (by omega), List.take_of_length_le (by simp), List.take_of_length_le (by simp; omega)]
      have g5 : Nat.log2 2 < 9000 := by decide +kernel
      have g6 : clipI ts.length 5 = min 5 ts.length := by simp [clipI]
      simp [runDef, evSs, evS, evX, evAnd, evOr, evDs, evPs, evQs, evIt, M.bind, M.pure, varM, Ev.S.loc1, two, one, PV.val, Cell.toD, idxF, pickI, ixN, cmpF, eqF, ltF, D.fin, dep, eqB, ltB, alk, nonB, toB, biM, valsOf, biF, D.len, Ev.finish, Exs.isNil, asgIM, asgOM, thaw, Ev.S.get, Ev.S.put, PV.lo, PV.store, bindM, bindT, bindTs, M.of, binF, doCall, endC, lstM, doMm, mmF, turnM, isLoop, s17, nthS, ifT, c33, e1, slM, slF, partM, partF, cutI, Ex.isNon, g4, g5, g6, List.map_take]
    obtain ⟨us, s2, e4, f, v10, v11, rfl⟩ := lc_run (G := G) (F := F) (g := pr) (xs := ts.take 5) (it := .val (.v 8)) (tg := .tup (.cons (.v 10) (.cons (.v 11) .nil))) (own := [10, 11]) (elt := .tup (.cons (.v 11) (.cons (.v 10) .nil))) (s := s17 (4 : Nat) h (.lst (rs.map pr)) none none none (some (.d (.lst ((ts.take 5).map pr)))) none c1)
      (fun s => ∃ v10 v11, s = ⟨[some (.d (.ref 1)), some (.d (.int 9)), some (.d (.int (4 : Nat))), some (.d (.int h)), some (.d (.lst (rs.map pr))), none, none, none, some (.d (.lst ((ts.take 5).map pr))), none, v10, v11], c1⟩) (fun p t => t = pr (p.2, p.1)) rfl (by rw [line_eq]; simp; omega) ⟨none, none, rfl⟩
      (fun q _ s ⟨v10, v11, hs⟩ => by
        subst hs
        refine ⟨⟨[some (.d (.ref 1)), some (.d (.int 9)), some (.d (.int (4 : Nat))), some (.d (.int h)), some (.d (.lst (rs.map pr))), none, none, none, some (.d (.lst ((ts.take 5).map pr))), none, some (.d (.int q.1)), some (.d (.int q.2))], c1⟩, _, ⟨[some (.d (.ref 1)), some (.d (.int 9)), some (.d (.int (4 : Nat))), some (.d (.int h)), some (.d (.lst (rs.map pr))), none, none, none, some (.d (.lst ((ts.take 5).map pr))), none, some (.d (.int q.1)), some (.d (.int q.2))], c1⟩, rfl, ?_, rfl, _, _, rfl⟩
        simp [runDef, evSs, evS, evX, evAnd, evOr, evDs, evPs, evQs, evIt, M.bind, M.pure, varM, Ev.S.loc1, two, one, PV.val, Cell.toD, idxF, pickI, ixN, cmpF, eqF, ltF, D.fin, dep, eqB, ltB, alk, nonB, toB, biM, valsOf, biF, D.len, Ev.finish, Exs.isNil, asgIM, asgOM, thaw, Ev.S.get, Ev.S.put, PV.lo, PV.store, bindM, bindT, bindTs, M.of, binF, doCall, endC, lstM, doMm, mmF, turnM, isLoop, pr, line_eq])
    have e5 := f.eq_map
    have e5 : us = ((ts.take 5).map fun p => (p.2, p.1)).map pr := by rw [e5, List.map_map]; rfl
    subst e5
    have lt : (ts.take 5).length ≤ 5 := by simp; omega
    have lt1 : 1 ≤ (ts.take 5).length := by simp; omega
    have e6 := both17 (by omega) e4
    have t := (take17 (F := F) (k := (4 : Nat)) (h := h) (rs := .lst (rs.map pr)) (v5 := none) (v6 := none) (v7 := none) (v8 := none) (v9 := none) (c := c) (q := 4) (a := ifT (nthS c33 5)) rfl).trans ((sts_next (ss := dropS (ifT (nthS c33 5)) 1) e3).trans (sts_next (ss := .nil) e6))
    refine ⟨ts.take 5 ++ (ts.take 5).map fun p => (p.2, p.1), _, c1, by rw [sts_next (skip17 (by decide)), sts_next (skip17 (by decide)), sts_next (t.trans sts_nil), sts_next (skip17 (by decide))], by simp; omega, by simp; omega, tv.take.append fun p hp => ?_, p1⟩
    obtain ⟨q, hq, rfl⟩ := List.mem_map.mp hp
    obtain ⟨a, b, n⟩ := tv.take q hq
    exact ⟨b, a, n.symm⟩
  · have e2 := hR c h h rfl h1 h2
    have t := (take17 (F := F) (k := (5 : Nat)) (h := h) (rs := .lst (rs.map pr)) (v5 := none) (v6 := none) (v7 := none) (v8 := none) (v9 := none) (c := c) (q := 5) (a := ifT (nthS c33 6)) rfl).trans (show _ = Res.ok Ev.Flow.next (s17 (5 : Nat) h (.lst ((ring h ++ rs.take 2).map pr)) none none none none none c) by
      have g4 : (rs.map pr).take (min 2 rs.length) = (rs.map pr).take 2 := by
        by_cases g : 2 ≤ rs.length
        · rw [Nat.min_eq_left g]
        · rw [Nat.min_eq_right (by omega), List.take_of_length_le (by simp), List.take_of_length_le (by simp; omega)]
      have g6 : clipI rs.length 2 = min 2 rs.length := by simp [clipI]
      have g7 : h + min 2 rs.length ≤ 16777216 := by omega
      simp [runDef, evSs, evS, evX, evAnd, evOr, evDs, evPs, evQs, evIt, M.bind, M.pure, varM, Ev.S.loc1, two, one, PV.val, Cell.toD, idxF, pickI, ixN, cmpF, eqF, ltF, D.fin, dep, eqB, ltB, alk, nonB, toB, biM, valsOf, biF, D.len, Ev.finish, Exs.isNil, asgIM, asgOM, thaw, Ev.S.get, Ev.S.put, PV.lo, PV.store, bindM, bindT, bindTs, M.of, binF, doCall, endC, lstM, doMm, mmF, turnM, isLoop, s17, nthS, ifT, c33, e2, slM, slF, partM, partF, cutI, Ex.isNon, g4, g6, g7, line_eq, hlr, List.map_take])
    exact ⟨_, none, c, by rw [sts_next (skip17 (by decide)), sts_next (skip17 (by decide)), sts_next (skip17 (by decide)), sts_next t], by simp [hlr]; omega, by simp [hlr]; omega, hr.append hv.take, hc⟩
theorem web_run (hD : DrawF F) (hE : FreeF F) (hR : RingF F) (hT : TreeF F) {c : List Cell} (hc : PL c) : ∃ h rs ro ti c', runDef G F ⟨2, 12, c33⟩ [.ref 1, .int 9] c = .ok (wD h rs ro ti) c' ∧ VW h rs ro ti ∧ PL c' := by
  obtain ⟨k, c1, e1, hk, p1⟩ := hD c 6 (by omega) (by omega) hc
  obtain ⟨h, c2, e2, hh, p2⟩ := hD c1 5 (by omega) (by omega) p1
  obtain ⟨n, c3, e3, hn, p3⟩ := hD c2 9 (by omega) (by omega) p2
  obtain ⟨rs, c4, e4, hl, hv, p4⟩ := hE c3 (2 + h) (1 + n) (2 + h) (1 + n) (by omega) (by omega) (by omega) (by omega) (by omega) p3
  obtain ⟨rs', v8, c5, e5, l1, l2, hv', p5⟩ := ifs17 hD hR hT (k := k) (h := 2 + h) (by omega) (by omega) (by omega) (by omega) (by omega) hv p4
  obtain ⟨p, c6, e6, hp, p6⟩ := hD c5 2 (by omega) (by omega) p5
  obtain ⟨ro, c7, e7, o1, o3, p7⟩ := cnt17 hD (k := k) (h := ((2 + h : Nat) : Int)) (rs := rs') (p := p) (v6 := none) (v7 := none) (v8 := v8) l2 (by omega) p6
  obtain ⟨ti, c8, e8, o2, o4, p8⟩ := cnt17 hD (k := k) (h := ((2 + h : Nat) : Int)) (rs := rs') (p := p) (v6 := some (.d (.tup (ro.map ni)))) (v7 := none) (v8 := v8) l2 (by omega) p7
  refine ⟨2 + h, rs', ro, ti, c8, ?_, ⟨by omega, by omega, l1, l2, hv', o1, o2, o3, o4⟩, p8⟩
  have er : runDef G F ⟨2, 12, c33⟩ [.ref 1, .int 9] c = Ev.finish (evSs G F c33 ⟨[some (.d (.ref 1)), some (.d (.int 9)), none, none, none, none, none, none, none, none, none, none], c⟩) := rfl
  have e : c33 = .cons (nthS c33 0) (.cons (nthS c33 1) (.cons (nthS c33 2) (dropS c33 3))) := rfl
  have q0 : evS G F (nthS c33 0) ⟨[some (.d (.ref 1)), some (.d (.int 9)), none, none, none, none, none, none, none, none, none, none], c⟩ = .ok .next ⟨[some (.d (.ref 1)), some (.d (.int 9)), some (.d (.int k)), none, none, none, none, none, none, none, none, none], c1⟩ := by
    simp [runDef, evSs, evS, evX, evAnd, evOr, evDs, evPs, evQs, evIt, M.bind, M.pure, varM, Ev.S.loc1, two, one, PV.val, Cell.toD, idxF, pickI, ixN, cmpF, eqF, ltF, D.fin, dep, eqB, ltB, alk, nonB, toB, biM, valsOf, biF, D.len, Ev.finish, Exs.isNil, asgIM, asgOM, thaw, Ev.S.get, Ev.S.put, PV.lo, PV.store, bindM, bindT, bindTs, M.of, binF, doCall, endC, lstM, doMm, mmF, turnM, isLoop, nthS, c33, e1]
  have q1 : evS G F (nthS c33 1) ⟨[some (.d (.ref 1)), some (.d (.int 9)), some (.d (.int k)), none, none, none, none, none, none, none, none, none], c1⟩ = .ok .next ⟨[some (.d (.ref 1)), some (.d (.int 9)), some (.d (.int k)), some (.d (.int (2 + h))), none, none, none, none, none, none, none, none], c2⟩ := by
    simp [runDef, evSs, evS, evX, evAnd, evOr, evDs, evPs, evQs, evIt, M.bind, M.pure, varM, Ev.S.loc1, two, one, PV.val, Cell.toD, idxF, pickI, ixN, cmpF, eqF, ltF, D.fin, dep, eqB, ltB, alk, nonB, toB, biM, valsOf, biF, D.len, Ev.finish, Exs.isNil, asgIM, asgOM, thaw, Ev.S.get, Ev.S.put, PV.lo, PV.store, bindM, bindT, bindTs, M.of, binF, doCall, endC, lstM, doMm, mmF, turnM, isLoop, nthS, c33, e2]
  have q2 : evS G F (nthS c33 2) ⟨[some (.d (.ref 1)), some (.d (.int 9)), some (.d (.int k)), some (.d (.int (2 + h))), none, none, none, none, none, none, none, none], c2⟩ = .ok .next (s17 k ((2 + h : Nat) : Int) (.lst (rs.map pr)) none none none none none c4) := by
    simp [runDef, evSs, evS, evX, evAnd, evOr, evDs, evPs, evQs, evIt, M.bind, M.pure, varM, Ev.S.loc1, two, one, PV.val, Cell.toD, idxF, pickI, ixN, cmpF, eqF, ltF, D.fin, dep, eqB, ltB, alk, nonB, toB, biM, valsOf, biF, D.len, Ev.finish, Exs.isNil, asgIM, asgOM, thaw, Ev.S.get, Ev.S.put, PV.lo, PV.store, bindM, bindT, bindTs, M.of, binF, doCall, endC, lstM, doMm, mmF, turnM, isLoop, nthS, c33, e3, e4, s17]
  have f : dropS c33 7 = .cons (nthS c33 7) (.cons (nthS c33 8) (.cons (nthS c33 9) (.cons (nthS c33 10) .nil))) := rfl
  have q7 : evS G F (nthS c33 7) (s17 k ((2 + h : Nat) : Int) (.lst (rs'.map pr)) none none none v8 none c5) = .ok .next (s17 k ((2 + h : Nat) : Int) (.lst (rs'.map pr)) (some (.d (.int p))) none none v8 none c6) := by
    simp [runDef, evSs, evS, evX, evAnd, evOr, evDs, evPs, evQs, evIt, M.bind, M.pure, varM, Ev.S.loc1, two, one, PV.val, Cell.toD, idxF, pickI, ixN, cmpF, eqF, ltF, D.fin, dep, eqB, ltB, alk, nonB, toB, biM, valsOf, biF, D.len, Ev.finish, Exs.isNil, asgIM, asgOM, thaw, Ev.S.get, Ev.S.put, PV.lo, PV.store, bindM, bindT, bindTs, M.of, binF, doCall, endC, lstM, doMm, mmF, turnM, isLoop, nthS, c33, e6, s17]
  have q8 : evS G F (nthS c33 8) (s17 k ((2 + h : Nat) : Int) (.lst (rs'.map pr)) (some (.d (.int p))) none none v8 none c6) = .ok .next (s17 k ((2 + h : Nat) : Int) (.lst (rs'.map pr)) (some (.d (.int p))) (some (.d (.tup (ro.map ni)))) none v8 none c7) := asg_eval e7 rfl
  have q9 : evS G F (nthS c33 9) (s17 k ((2 + h : Nat) : Int) (.lst (rs'.map pr)) (some (.d (.int p))) (some (.d (.tup (ro.map ni)))) none v8 none c7) = .ok .next (s17 k ((2 + h : Nat) : Int) (.lst (rs'.map pr)) (some (.d (.int p))) (some (.d (.tup (ro.map ni)))) (some (.d (.tup (ti.map ni)))) v8 none c8) := asg_eval e8 rfl
  rw [er, e, sts_next q0, sts_next q1, sts_next q2, e5, f, sts_next q7, sts_next q8, sts_next q9]
  simp [runDef, evSs, evS, evX, evAnd, evOr, evDs, evPs, evQs, evIt, M.bind, M.pure, varM, Ev.S.loc1, two, one, PV.val, Cell.toD, idxF, pickI, ixN, cmpF, eqF, ltF, D.fin, dep, eqB, ltB, alk, nonB, toB, biM, valsOf, biF, D.len, Ev.finish, Exs.isNil, asgIM, asgOM, thaw, Ev.S.get, Ev.S.put, PV.lo, PV.store, bindM, bindT, bindTs, M.of, binF, doCall, endC, lstM, doMm, mmF, turnM, isLoop, nthS, c33, s17, wD, line_eq]
end
end Pr

set_option linter.all false
set_option maxRecDepth 100000
set_option maxHeartbeats 2000000
namespace Pr
open PySem Ev
theorem ones_eq (n : Nat) : (List.replicate n [D.int 1]).flatten = (List.replicate n 1).map ni := by
  rw [List.flatten_replicate_singleton, List.map_replicate]; rfl
theorem ones_ok {n : Nat} : ∀ x ∈ List.replicate n 1, 1 ≤ x ∧ x ≤ 3 := fun x hx => by
  obtain ⟨_, rfl⟩ := List.mem_replicate.mp hx; omega
/-! a great web -/
def GreatF (F : FT) : Prop := ∀ c : List Cell, PL c → ∃ h rs ro ti c', F 34 [.ref 1] c = .ok (wD h rs ro ti) c' ∧ VW h rs ro ti ∧ PL c'
theorem great_run {F : FT} (hD : DrawF F) (hE : FreeF F) {c : List Cell} (hc : PL c) : ∃ h rs ro ti c', runDef G F ⟨1, 4, c34⟩ [.ref 1] c = .ok (wD h rs ro ti) c' ∧ VW h rs ro ti ∧ PL c' := by
  obtain ⟨h, c1, e1, hh, p1⟩ := hD c 7 (by omega) (by omega) hc
  obtain ⟨n, c2, e2, hn, p2⟩ := hD c1 16 (by omega) (by omega) p1
  obtain ⟨rs, c3, e3, hl, hv, p3⟩ := hE c2 (6 + h) (9 + n) (6 + h) (9 + n) (by omega) (by omega) (by omega) (by omega) (by omega) p2
  refine ⟨6 + h, rs, List.replicate rs.length 1, List.replicate rs.length 1, c3, ?_, ⟨by omega, by omega, by omega, by omega, hv, by simp, by simp, ones_ok, ones_ok⟩, p3⟩
  have g1 : 1 ≤ rs.length := by omega
  have g2 : rs.length ≤ 1000 := by omega
  have g3 : (1 : Int) ≤ rs.length := by omega
  have g4 : (rs.length : Int) ≤ 1000 := by omega
  simp [runDef, evSs, evS, evX, evAnd, evOr, evDs, evPs, evQs, evIt, M.bind, M.pure, varM, Ev.S.loc1, two, one, PV.val, Cell.toD, idxF, pickI, ixN, cmpF, eqF, ltF, D.fin, dep, eqB, ltB, alk, nonB, toB, biM, valsOf, biF, D.len, Ev.finish, Exs.isNil, asgIM, asgOM, thaw, Ev.S.get, Ev.S.put, PV.lo, PV.store, bindM, bindT, bindTs, M.of, binF, doCall, endC, lstM, doMm, mmF, turnM, isLoop, c34, e1, e2, e3, wD, line_eq, g1, g2, g3, g4, ni]
end Pr

set_option linter.all false
set_option maxRecDepth 100000
set_option maxHeartbeats 2000000
namespace Pr
open PySem Ev
/-! one of some -/
def SomeF (F : FT) : Prop := ∀ (xs : List D) (c : List Cell), 1 ≤ xs.length → xs.length ≤ 100 → PL c → ∃ x ∈ xs, ∃ c', F 29 [.ref 1, .lst xs] c = .ok x c' ∧ PL c'
theorem some_run {F : FT} (hD : DrawF F) {xs : List D} {c : List Cell} (h1 : 1 ≤ xs.length) (h2 : xs.length ≤ 100) (hc : PL c) : ∃ x ∈ xs, ∃ c', runDef G F ⟨2, 2, c29⟩ [.ref 1, .lst xs] c = .ok x c' ∧ PL c' := by
  obtain ⟨d, c1, e1, hd, p1⟩ := hD c xs.length (by omega) (by omega) hc
  have hd : d < xs.length := by omega
  refine ⟨xs[d], List.getElem_mem hd, c1, ?_, p1⟩
  simp [runDef, evSs, evS, evX, evAnd, evOr, evDs, evPs, evQs, evIt, M.bind, M.pure, varM, Ev.S.loc1, two, one, PV.val, Cell.toD, idxF, pickI, ixN, cmpF, eqF, ltF, D.fin, dep, eqB, ltB, alk, nonB, toB, biM, valsOf, biF, D.len, Ev.finish, Exs.isNil, asgIM, asgOM, thaw, Ev.S.get, Ev.S.put, PV.lo, PV.store, bindM, bindT, bindTs, M.of, binF, doCall, endC, lstM, doMm, mmF, turnM, isLoop, c29, e1, hd]
end Pr

set_option linter.all false
set_option maxRecDepth 100000
set_option maxHeartbeats 2000000
namespace Pr
open PySem Ev
/-! the pool, and what else lies in the store -/
structure Pool where
  cs : List Int
  sd : Int
  k : Int
  ok : ∀ x ∈ cs, 0 ≤ x
def Pool.c (p : Pool) (r : List Cell) : List Cell := .lst (p.cs.map .int) :: .lst [.int p.sd, .int p.k, .ref 0] :: r
@[simp high] theorem Pool.len {p : Pool} {r : List Cell} : (p.c r).length = r.length + 2 := (rfl)
@[simp high] theorem Pool.get {p : Pool} {r : List Cell} {n : Nat} : (p.c r)[n + 2]? = r[n]? := (rfl)
@[simp high] theorem Pool.app {p : Pool} {r r' : List Cell} : p.c r ++ r' = p.c (r ++ r') := (rfl)
@[simp high] theorem Pool.set {p : Pool} {r : List Cell} {n : Nat} {x : Cell} : (p.c r).set (n + 2) x = p.c (r.set n x) := (rfl)
theorem PL.pool {c : List Cell} (h : PL c) : ∃ (p : Pool) (r : List Cell), c = p.c r := by
  obtain ⟨cs, sd, k, r, hcs, rfl⟩ := h
  exact ⟨⟨cs, sd, k, hcs⟩, r, rfl⟩
theorem Pool.pl {p : Pool} {r : List Cell} : PL (p.c r) := ⟨p.cs, p.sd, p.k, r, p.ok, rfl⟩
def DrawP (F : FT) : Prop := ∀ (p : Pool) (r : List Cell) (m : Int), 1 ≤ m → m ≤ 1000000 → ∃ (d : Nat) (p' : Pool), F 28 [.ref 1, .int m] (p.c r) = .ok (.int d) (p'.c r) ∧ (d : Int) < m
theorem drawp_run {F : FT} {p : Pool} {r : List Cell} {m : Int} (h1 : 1 ≤ m) (h2 : m ≤ 1000000) : ∃ (d : Nat) (p' : Pool), runDef G F ⟨2, 5, c28⟩ [.ref 1, .int m] (p.c r) = .ok (.int d) (p'.c r) ∧ (d : Int) < m := by
  obtain ⟨cs, sd, k, hcs⟩ := p
  have h0 : 0 < m := by omega
  have h3 : m.natAbs.log2 < 9000 := by
    have h : m.natAbs < 2 ^ 20 := by omega
    by_cases z : m.natAbs = 0
    · rw [z]; decide
    · have := (Nat.log2_lt z).mpr h
      omega
  have fin : ∀ y : Int, ∃ d : Nat, y % m = d ∧ (d : Int) < m := fun y => by
    have a := Int.emod_nonneg y (show m ≠ 0 by omega)
    have b := Int.emod_lt_of_pos y h0
    exact ⟨(y % m).toNat, by omega, by omega⟩
  unfold Pool.c
  simp only
  cases cs with
  | nil =>
    obtain ⟨d, e, hd⟩ := fin (num sd (k + 1) m)
    refine ⟨d, ⟨[], sd, k + 1, by simp⟩, ?_, hd⟩
    have e : num sd (k + 1) m = d := by
      rw [← e]; unfold num; rw [Int.emod_emod_of_dvd _ (Int.dvd_refl m)]
    rw [← e]
    simp [runDef, evSs, evS, evX, evAnd, evOr, evDs, evPs, evQs, evIt, M.bind, M.pure, varM, Ev.S.loc1, two, one, PV.val, Cell.toD, idxF, pickI, ixN, cmpF, eqF, ltF, D.fin, dep, eqB, ltB, alk, nonB, toB, biM, valsOf, biF, D.len, Ev.finish, Exs.isNil, asgIM, asgOM, thaw, Ev.S.get, Ev.S.put, PV.lo, PV.store, bindM, bindT, bindTs, M.of, binF, doCall, endC, lstM, doMm, mmF, turnM, isLoop, c28, num, h0, h3, lg1, lg2, lg3, nb1]
  | cons x cs =>
    obtain ⟨d, e, hd⟩ := fin x
    have hx : 0 ≤ x := hcs x (List.mem_cons_self ..)
    have hr := fun z hz => hcs z (List.mem_cons_of_mem _ hz)
    by_cases hz : x / m = 0
    · refine ⟨d, ⟨cs, sd, k, hr⟩, ?_, hd⟩
      rw [← e]
      simp [runDef, evSs, evS, evX, evAnd, evOr, evDs, evPs, evQs, evIt, M.bind, M.pure, varM, Ev.S.loc1, two, one, PV.val, Cell.toD, idxF, pickI, ixN, cmpF, eqF, ltF, D.fin, dep, eqB, ltB, alk, nonB, toB, biM, valsOf, biF, D.len, Ev.finish, Exs.isNil, asgIM, asgOM, thaw, Ev.S.get, Ev.S.put, PV.lo, PV.store, bindM, bindT, bindTs, M.of, binF, doCall, endC, lstM, doMm, mmF, turnM, isLoop, c28, h0, h3, hz, sml, big]
    · refine ⟨d, ⟨(x / m) :: cs, sd, k, fun z hz => ?_⟩, ?_, hd⟩
      · rcases List.mem_cons.mp hz with rfl | hz
        · exact Int.ediv_nonneg hx (by omega)
        · exact hr z hz
      · rw [← e]
        simp [runDef, evSs, evS, evX, evAnd, evOr, evDs, evPs, evQs, evIt, M.bind, M.pure, varM, Ev.S.loc1, two, one, PV.val, Cell.toD, idxF, pickI, ixN, cmpF, eqF, ltF, D.fin, dep, eqB, ltB, alk, nonB, toB, biM, valsOf, biF, D.len, Ev.finish, Exs.isNil, asgIM, asgOM, thaw, Ev.S.get, Ev.S.put, PV.lo, PV.store, bindM, bindT, bindTs, M.of, binF, doCall, endC, lstM, doMm, mmF, turnM, isLoop, c28, h0, h3, hz]
theorem DrawP.draw {F : FT} (h : DrawP F) : DrawF F := fun c m h1 h2 hc => by
  obtain ⟨p, r, rfl⟩ := hc.pool
  obtain ⟨d, p', e, hd⟩ := h p r m h1 (by omega)
  exact ⟨d, _, e, hd, p'.pl⟩
def SomeP (F : FT) : Prop := ∀ (xs : List D) (p : Pool) (r : List Cell), 1 ≤ xs.length → xs.length ≤ 1000000 → ∃ x ∈ xs, ∃ p' : Pool, F 29 [.ref 1, .lst xs] (p.c r) = .ok x (p'.c r)
theorem somep_run {F : FT} (hD : DrawP F) {xs : List D} {p : Pool} {r : List Cell} (h1 : 1 ≤ xs.length) (h2 : xs.length ≤ 1000000) : ∃ x ∈ xs, ∃ p' : Pool, runDef G F ⟨2, 2, c29⟩ [.ref 1, .lst xs] (p.c r) = .ok x (p'.c r) := by
  obtain ⟨d, p', e, hd⟩ := hD p r xs.length (by omega) (by omega)
  have hd : d < xs.length := by omega
  refine ⟨xs[d], List.getElem_mem hd, p', ?_⟩
  refine run_to rfl fun K kr kn => ?_
  simp [c29, e, List.getElem?_eq_getElem hd]
  exact kr _ _ _ rfl rfl
end Pr

set_option linter.all false
set_option maxRecDepth 100000
set_option maxHeartbeats 2000000
namespace Pr
open PySem Ev
section
variable {F : FT}
/-! checks -/
def IntF (F : FT) : Prop := ∀ (i : Int) (c : List Cell), F 1 [.int i] c = .ok (.bl true) c
def WiF (F : FT) : Prop := ∀ (i l m : Int) (c : List Cell), l ≤ i → i ≤ m → F 2 [.int i, .int l, .int m] c = .ok (.bl true) c
def PairF (F : FT) : Prop := ∀ (a b : D) (c : List Cell), F 3 [.tup [a, b]] c = .ok (.bl true) c
theorem int_run {i : Int} {c : List Cell} : runDef G F ⟨1, 1, c1⟩ [.int i] c = .ok (.bl true) c := by kernel_rfl
theorem wi_run (h : IntF F) {i l m : Int} {c : List Cell} (h1 : l ≤ i) (h2 : i ≤ m) : runDef G F ⟨3, 3, c2⟩ [.int i, .int l, .int m] c = .ok (.bl true) c := by
  have e := h i c
  have g1 : ¬ (i < l) := by omega
  have g2 : ¬ (m < i) := by omega
  simp [runDef, evSs, evS, evX, evAnd, evOr, evDs, evPs, evQs, evIt, M.bind, M.pure, varM, Ev.S.loc1, two, one, PV.val, Cell.toD, idxF, pickI, ixN, cmpF, eqF, ltF, D.fin, dep, eqB, ltB, alk, nonB, toB, biM, valsOf, biF, D.len, Ev.finish, Exs.isNil, asgIM, asgOM, thaw, Ev.S.get, Ev.S.put, PV.lo, PV.store, bindM, bindT, bindTs, M.of, binF, doCall, endC, lstM, doMm, mmF, turnM, isLoop, c2, e, chainM, chain2, g1, g2]
theorem pair_run {a b : D} {c : List Cell} : runDef G F ⟨1, 1, c3⟩ [.tup [a, b]] c = .ok (.bl true) c := by kernel_rfl
def RoadsF (F : FT) : Prop := ∀ (h : Nat) (rs : List (Nat × Nat)) (c : List Cell), 2 ≤ h → 1 ≤ rs.length → rs.length ≤ 24 → VR h rs → F 7 [.tup (rs.map pr), .int h] c = .ok (.bl true) c
theorem roads_run (hW : WiF F) (hP : PairF F) {h : Nat} {rs : List (Nat × Nat)} {c : List Cell} (h1 : 2 ≤ h) (l1 : 1 ≤ rs.length) (l2 : rs.length ≤ 24) (hv : VR h rs) : runDef G F ⟨2, 4, c7⟩ [.tup (rs.map pr), .int h] c = .ok (.bl true) c := by
  have er : runDef G F ⟨2, 4, c7⟩ [.tup (rs.map pr), .int h] c = Ev.finish (evSs G F c7 ⟨[some (.d (.tup (rs.map pr))), some (.d (.int h)), none, none], c⟩) := rfl
  have e : c7 = .cons (nthS c7 0) (.cons (nthS c7 1) (dropS c7 2)) := rfl
  have q0 : evS G F (nthS c7 0) ⟨[some (.d (.tup (rs.map pr))), some (.d (.int h)), none, none], c⟩ = .ok .next ⟨[some (.d (.tup (rs.map pr))), some (.d (.int h)), none, none], c⟩ := by
    have g1 : (1 : Int) ≤ rs.length := by omega
    have g2 : (rs.length : Int) ≤ 24 := by omega
    have g3 : ¬ ((rs.length : Int) < 1) := by omega
    have g4 : ¬ ((24 : Int) < rs.length) := by omega
    have hc : G.con[2]? = some (.int 24) := rfl
    simp [runDef, evSs, evS, evX, evAnd, evOr, evDs, evPs, evQs, evIt, M.bind, M.pure, varM, Ev.S.loc1, two, one, PV.val, Cell.toD, idxF, pickI, ixN, cmpF, eqF, ltF, D.fin, dep, eqB, ltB, alk, nonB, toB, biM, valsOf, biF, D.len, Ev.finish, Exs.isNil, asgIM, asgOM, thaw, Ev.S.get, Ev.S.put, PV.lo, PV.store, bindM, bindT, bindTs, M.of, binF, doCall, endC, lstM, doMm, mmF, turnM, isLoop, nthS, c7, isiF, isaTs, isTy, chainM, chain2, hc, l1, l2, g1, g2, g3, g4]
  obtain ⟨s1, e1, v2, v3, rfl⟩ := loopF_map (g := pr) (bd := turnM (.v 2) (evSs G F (forB (nthS c7 1)))) (kl := [2])
    (fun done s => ∃ v2 v3, s = ⟨[some (.d (.tup (rs.map pr))), some (.d (.int h)), v2, v3], c⟩) rs [] ⟨[some (.d (.tup (rs.map pr))), some (.d (.int h)), none, none], c⟩
    (fun done p s hp ⟨v2, v3, hs⟩ => by
      subst hs
      obtain ⟨a1, a2, a3⟩ := hv p hp
      have e1 := hW p.1 0 (h - 1) c (by omega) (by omega)
      have e2 := hW p.2 0 (h - 1) c (by omega) (by omega)
      have e3 := hP (.int p.1) (.int p.2) c
      have a3' : ¬ ((p.1 : Int) = (p.2 : Int)) := by omega
      refine ⟨⟨[some (.d (.tup (rs.map pr))), some (.d (.int h)), some (.d (pr p)), LV.dat v3], c⟩, ?_, none, LV.dat v3, rfl⟩
      simp [runDef, evSs, evS, evX, evAnd, evOr, evDs, evPs, evQs, evIt, M.bind, M.pure, varM, Ev.S.loc1, two, one, PV.val, Cell.toD, idxF, pickI, ixN, cmpF, eqF, ltF, D.fin, dep, eqB, ltB, alk, nonB, toB, biM, valsOf, biF, D.len, Ev.finish, Exs.isNil, asgIM, asgOM, thaw, Ev.S.get, Ev.S.put, PV.lo, PV.store, bindM, bindT, bindTs, M.of, binF, doCall, endC, lstM, doMm, mmF, turnM, isLoop, forB, nthS, c7, pr, e1, e2, e3, a3, a3', loopC, lcM, wipe, unown, walkD, D.items, D.bls, line_eq])
    ⟨none, none, rfl⟩
  have q1 : evS G F (nthS c7 1) ⟨[some (.d (.tup (rs.map pr))), some (.d (.int h)), none, none], c⟩ = _ := (for_val (e := .v 0) (pv := .d (.tup (rs.map pr))) (l := rs.map pr) rfl rfl).trans e1
  rw [er, e, sts_next q0, sts_next q1]
  rfl
def CountsF (F : FT) : Prop := ∀ (cs : List Nat) (n : Nat) (ni' mi : Int) (c : List Cell), ni' = n → cs.length = n → n ≤ 1000 → (∀ x ∈ cs, 1 ≤ x ∧ (x : Int) ≤ mi) → F 8 [.tup (cs.map ni), .int ni', .int mi] c = .ok (.bl true) c
theorem counts_run (hW : WiF F) {cs : List Nat} {m : Int} {c : List Cell} (hl : cs.length ≤ 1000) (hv : ∀ x ∈ cs, 1 ≤ x ∧ (x : Int) ≤ m) : runDef G F ⟨3, 4, c8⟩ [.tup (cs.map ni), .int cs.length, .int m] c = .ok (.bl true) c := by
  obtain ⟨ts, s2, e2, f, v, rfl⟩ := lc_run (G := G) (F := F) (g := ni) (xs := cs) (it := .val (.v 0)) (tg := .v 3) (own := [3]) (elt := .call .plain 2 (.cons (.v 3) (.cons (.int 1) (.cons (.v 2) .nil)))) (s := ⟨[some (.d (.tup (cs.map ni))), some (.d (.int cs.length)), some (.d (.int m)), none], c⟩)
    (fun s => ∃ v, s = ⟨[some (.d (.tup (cs.map ni))), some (.d (.int cs.length)), some (.d (.int m)), v], c⟩) (fun x t => t = .bl true) rfl (by rw [line_eq]; omega) ⟨none, rfl⟩
    (fun x hx s ⟨v, hs⟩ => by
      subst hs
      obtain ⟨a1, a2⟩ := hv x hx
      have e1 := hW x 1 m c (by omega) a2
      refine ⟨⟨[some (.d (.tup (cs.map ni))), some (.d (.int cs.length)), some (.d (.int m)), some (.d (ni x))], c⟩, _, ⟨[some (.d (.tup (cs.map ni))), some (.d (.int cs.length)), some (.d (.int m)), some (.d (ni x))], c⟩, rfl, ?_, rfl, _, rfl⟩
      simp [runDef, evSs, evS, evX, evAnd, evOr, evDs, evPs, evQs, evIt, M.bind, M.pure, varM, Ev.S.loc1, two, one, PV.val, Cell.toD, idxF, pickI, ixN, cmpF, eqF, ltF, D.fin, dep, eqB, ltB, alk, nonB, toB, biM, valsOf, biF, D.len, Ev.finish, Exs.isNil, asgIM, asgOM, thaw, Ev.S.get, Ev.S.put, PV.lo, PV.store, bindM, bindT, bindTs, M.of, binF, doCall, endC, lstM, doMm, mmF, turnM, isLoop, ni, e1])
  have e3 := f.eq_map
  subst e3
  have e4 := all_eval (p := fun _ : Nat => true) (xs := cs) e2
  have er : runDef G F ⟨3, 4, c8⟩ [.tup (cs.map ni), .int cs.length, .int m] c = Ev.finish (evSs G F c8 ⟨[some (.d (.tup (cs.map ni))), some (.d (.int cs.length)), some (.d (.int m)), none], c⟩) := rfl
  have k : ∀ L, evX G F L ⟨[some (.d (.tup (cs.map ni))), some (.d (.int cs.length)), some (.d (.int m)), none], c⟩ = .ok (.d (.bl true)) ⟨[some (.d (.tup (cs.map ni))), some (.d (.int cs.length)), some (.d (.int m)), none], c⟩ →
      evSs G F (.cons (.ret (.and (.cons (.isi (.v 0) [.tuple]) (.cons (.cmp .eq (.bi .len (.cons (.v 0) .nil)) (.v 1)) (.cons L .nil))))) .nil) ⟨[some (.d (.tup (cs.map ni))), some (.d (.int cs.length)), some (.d (.int m)), none], c⟩ = .ok (.ret (.bl true)) ⟨[some (.d (.tup (cs.map ni))), some (.d (.int cs.length)), some (.d (.int m)), none], c⟩ := fun L hL => by
    simp [runDef, evSs, evS, evX, evAnd, evOr, evDs, evPs, evQs, evIt, M.bind, M.pure, varM, Ev.S.loc1, two, one, PV.val, Cell.toD, idxF, pickI, ixN, cmpF, eqF, ltF, D.fin, dep, eqB, ltB, alk, nonB, toB, biM, valsOf, biF, D.len, Ev.finish, Exs.isNil, asgIM, asgOM, thaw, Ev.S.get, Ev.S.put, PV.lo, PV.store, bindM, bindT, bindTs, M.of, binF, doCall, endC, lstM, doMm, mmF, turnM, isLoop, isiF, isaTs, isTy, hL]
  rw [er]
  refine congrArg Ev.finish (k _ (e4.trans ?_))
  rw [List.all_eq_true.mpr (fun _ _ => rfl)]
  rfl
end
end Pr

set_option linter.all false
set_option maxRecDepth 100000
set_option maxHeartbeats 2000000
namespace Pr
open PySem Ev
/-! the roads that begin at x -/
def begsTo (rs : List (Nat × Nat)) (j x : Nat) : List Nat := (List.range' 0 j).filter fun i => decide ((rs.getD i (0, 0)).1 = x)
def begs (rs : List (Nat × Nat)) (x : Nat) : List Nat := begsTo rs rs.length x
theorem begs_succ {rs : List (Nat × Nat)} {j x : Nat} {p : Nat × Nat} (h : rs[j]? = some p) : begsTo rs (j + 1) x = begsTo rs j x ++ if p.1 = x then [j] else [] := by
  unfold begsTo
  rw [List.range'_1_concat, List.filter_append]
  congr 1
  have e : rs.getD (0 + j) (0, 0) = p := by rw [Nat.zero_add, List.getD_eq_getElem?_getD, h]; rfl
  by_cases hx : p.1 = x
  · rw [List.filter_cons_of_pos (by rw [e]; simpa using hx), if_pos hx]; simp
  · rw [List.filter_cons_of_neg (by rw [e]; simpa using hx), if_neg hx]; rfl
theorem begs_len {rs : List (Nat × Nat)} {j x : Nat} : (begsTo rs j x).length ≤ j := by
  have := List.length_filter_le (fun i => decide ((rs.getD i (0, 0)).1 = x)) (List.range' 0 j)
  rw [List.length_range'] at this
  exact this
/-! a web as a thing -/
def nextD (rs : List (Nat × Nat)) : D := .tup (rs.map fun p => .tup ((begs rs p.2).map ni))
def leadD (rs : List (Nat × Nat)) : D := .tup (rs.map fun p => .bl (decide (0 < (begs rs p.2).length)))
def fs4 (h ro ti : D) (rs : List (Nat × Nat)) : List (Nat × D) := [(1, h), (2, .tup (rs.map pr)), (3, ro), (4, ti)]
def fs6 (h ro ti : D) (rs : List (Nat × Nat)) : List (Nat × D) := [(1, h), (2, .tup (rs.map pr)), (3, ro), (4, ti), (5, nextD rs), (6, leadD rs)]
section
variable {F : FT}
def s7 (h ro ti : D) (rs : List (Nat × Nat)) (v5 v6 v7 v8 : Option LV) (c : List Cell) : S := ⟨[some (.d (.ref 0)), some (.d h), some (.d (.tup (rs.map pr))), some (.d ro), some (.d ti), v5, v6, v7, v8], c⟩
def KI (rs : List (Nat × Nat)) (j : Nat) (kvs : List (D × D)) (r : List Cell) : Prop :=
  kvs.length ≤ j ∧ (∀ x : Nat, (keyGet (.int x) kvs = none ∧ begsTo rs j x = []) ∨ ∃ k, keyGet (.int x) kvs = some (.ref (k + 1)) ∧ r[k]? = some (.lst ((begsTo rs j x).map ni))) ∧
    ∀ (x y : Nat) k, keyGet (.int x) kvs = some (.ref k) → keyGet (.int y) kvs = some (.ref k) → x = y
theorem st7 : forB (nthS c10 5) = .cons (.ex (.mm .append (.sdef (.v 5) (.idx (.v 7) (.int 0))) (.cons (.v 6) .nil))) .nil := rfl
theorem eqI (x y : Nat) : eqB (.int x) (.int y) = decide (x = y) := by
  by_cases h : x = y
  · simp [eqB, h]
  · have : ¬ ((x : Int) = (y : Int)) := by omega
    simp [eqB, h, this]
theorem keep_step {h ro ti : D} {rs : List (Nat × Nat)} {j : Nat} {kvs : List (D × D)} {o : Cell} {r : List Cell} {p : Nat × Nat} (hj : rs[j]? = some p) (hl : rs.length ≤ 24) (K : KI rs j kvs r) :
    ∃ kvs' r', evSs G F (forB (nthS c10 5)) (s7 h ro ti rs (some (.own (.dct kvs))) (some (.d (.int j))) (some (.d (pr p))) none (o :: r)) = .ok .next (s7 h ro ti rs (some (.own (.dct kvs'))) (some (.d (.int j))) (some (.d (pr p))) none (o :: r')) ∧ KI rs (j + 1) kvs' r' := by
  obtain ⟨k1, k2, k3⟩ := K
  have jl : j < rs.length := (List.getElem?_eq_some_iff.mp hj).1
  have hn : kvs.length < line := by rw [line_eq]; omega
  have kx : evX G F (.idx (.v 7) (.int 0)) (s7 h ro ti rs (some (.own (.dct kvs))) (some (.d (.int j))) (some (.d (pr p))) none (o :: r)) = .ok (.d (.int p.1)) (s7 h ro ti rs (some (.own (.dct kvs))) (some (.d (.int j))) (some (.d (pr p))) none (o :: r)) := by
    simp [runDef, evSs, evS, evX, evAnd, evOr, evDs, evPs, evQs, evIt, M.bind, M.pure, varM, Ev.S.loc1, two, one, PV.val, Cell.toD, idxF, pickI, ixN, cmpF, eqF, ltF, D.fin, dep, eqB, ltB, alk, nonB, toB, biM, valsOf, biF, D.len, Ev.finish, Exs.isNil, asgIM, asgOM, thaw, Ev.S.get, Ev.S.put, PV.lo, PV.store, bindM, bindT, bindTs, M.of, binF, doCall, endC, lstM, doMm, mmF, turnM, isLoop, s7, pr]
  rw [st7]
  rcases k2 p.1 with ⟨a1, a2⟩ | ⟨k, a1, a2⟩
  · have e1 := sdef_new (G := G) (F := F) (o := .v 5) (pv := .own 5) (s := s7 h ro ti rs (some (.own (.dct kvs))) (some (.d (.int j))) (some (.d (pr p))) none (o :: r)) rfl rfl kx rfl rfl rfl hn a1
    have e2 := mm_eval (m := .append) (es := .cons (.v 6) .nil) (l := .id (r.length + 1)) (ts := []) (c := .lst []) (as := [.int j]) e1 rfl (by
      show ((o :: r) ++ [Cell.lst []])[r.length + 1]? = _
      simp) rfl (by
      show ((o :: r) ++ [Cell.lst []])[r.length + 1]? = _
      simp) (app_at (by rw [line_eq]; simp))
    refine ⟨kvs ++ [(.int p.1, .ref (r.length + 1))], r ++ [.lst [.int j]], (sts_next (ex_eval e2)).trans ?_, by simp; omega, fun x => ?_, fun x y k h1 h2 => ?_⟩
    · have : ((o :: r) ++ [Cell.lst []]).set (r.length + 1) (Cell.lst ([] ++ [D.int j])) = o :: (r ++ [.lst [.int j]]) := by simp
      rw [← this]
      rfl
    · rw [keyGet_snoc, begs_succ hj, eqI]
      by_cases hx : p.1 = x
      · subst hx
        rw [a1, a2]
        refine .inr ⟨r.length, by simp, ?_⟩
        simp [ni]
      · rw [if_neg hx, List.append_nil]
        rcases k2 x with ⟨b1, b2⟩ | ⟨k, b1, b2⟩
        · exact .inl ⟨by rw [b1]; simp [hx], b2⟩
        · refine .inr ⟨k, by rw [b1], ?_⟩
          obtain ⟨q, _⟩ := List.getElem?_eq_some_iff.mp b2
          rw [List.getElem?_append_left q, b2]
    · rw [keyGet_snoc, eqI] at h1 h2
      have lt : ∀ (x k : Nat), keyGet (.int x) kvs = some (.ref k) → k ≤ r.length := fun x k h => by
        rcases k2 x with ⟨b1, _⟩ | ⟨k', b1, b2⟩
        · rw [h] at b1; cases b1
        · rw [h] at b1
          cases b1
          obtain ⟨q, _⟩ := List.getElem?_eq_some_iff.mp b2
          omega
      cases g1 : keyGet (.int x) kvs with
      | some z =>
        rw [g1] at h1
        have h1 : z = .ref k := by simpa using h1
        subst h1
        cases g2 : keyGet (.int y) kvs with
        | some z =>
          rw [g2] at h2
          have h2 : z = .ref k := by simpa using h2
          subst h2
          exact k3 x y k g1 g2
        | none =>
          rw [g2] at h2
          have := lt x k g1
          by_cases hy : p.1 = y
          · simp [hy] at h2; omega
          · simp [hy] at h2
      | none =>
        rw [g1] at h1
        by_cases hx : p.1 = x
        · simp [hx] at h1
          cases g2 : keyGet (.int y) kvs with
          | some z =>
            rw [g2] at h2
            have h2 : z = .ref k := by simpa using h2
            subst h2
            have := lt y k g2
            omega
          | none =>
            rw [g2] at h2
            by_cases hy : p.1 = y
            · omega
            · simp [hy] at h2
        · simp [hx] at h1
  · have e1 := sdef_old (G := G) (F := F) (o := .v 5) (pv := .own 5) (s := s7 h ro ti rs (some (.own (.dct kvs))) (some (.d (.int j))) (some (.d (pr p))) none (o :: r)) rfl rfl kx rfl rfl rfl hn a1
    have bl := begs_len (rs := rs) (j := j) (x := p.1)
    have e2 := mm_eval (m := .append) (es := .cons (.v 6) .nil) (l := .id (k + 1)) (c := .lst ((begsTo rs j p.1).map ni)) (ts := (begsTo rs j p.1).map ni) (as := [.int j]) e1 rfl a2 rfl a2 (app_at (by rw [line_eq]; simp; omega))
    refine ⟨kvs, r.set k (.lst ((begsTo rs j p.1).map ni ++ [.int j])), (sts_next (ex_eval e2)).trans rfl, by omega, fun x => ?_, k3⟩
    rw [begs_succ hj]
    obtain ⟨q, _⟩ := List.getElem?_eq_some_iff.mp a2
    by_cases hx : p.1 = x
    · subst hx
      refine .inr ⟨k, a1, ?_⟩
      rw [List.getElem?_set_self q, if_pos rfl, List.map_append]
      rfl
    · rw [if_neg hx, List.append_nil]
      rcases k2 x with ⟨b1, b2⟩ | ⟨k', b1, b2⟩
      · exact .inl ⟨b1, b2⟩
      · refine .inr ⟨k', b1, ?_⟩
        rw [List.getElem?_set_ne (fun e => ?_), b2]
        subst e
        exact hx (k3 p.1 x _ a1 b1)
end
end Pr

set_option linter.all false
set_option maxRecDepth 100000
set_option maxHeartbeats 2000000
namespace Pr
open PySem Ev
section
variable {F : FT}
theorem gN : 0 < G.ncls := by decide
theorem gf1 : G.isf 0 1 = true := by decide
theorem gf2 : G.isf 0 2 = true := by decide
theorem gf3 : G.isf 0 3 = true := by decide
theorem gf4 : G.isf 0 4 = true := by decide
theorem gf5 : G.isf 0 5 = true := by decide
theorem gf6 : G.isf 0 6 = true := by decide
theorem keep_next {h ro ti : D} {rs : List (Nat × Nat)} {kvs : List (D × D)} {o : Cell} {r : List Cell} (hl : rs.length ≤ 24) (K : KI rs rs.length kvs r) :
    evX G F (stE (nthS c10 6)) (s7 h ro ti rs (some (.own (.dct kvs))) none none none (o :: r)) = .ok (.d (nextD rs)) (s7 h ro ti rs (some (.own (.dct kvs))) none none none (o :: r)) := by
  obtain ⟨k1, k2, k3⟩ := K
  obtain ⟨ts, s2, e2, f, v, rfl⟩ := lc_run (G := G) (F := F) (g := pr) (xs := rs) (it := .val (.v 2)) (tg := .v 7) (own := [7]) (elt := .bi .tuple (.cons (.bm .get (.v 5) (.cons (.idx (.v 7) (.int 1)) (.cons (.lst .nil) .nil))) .nil)) (s := s7 h ro ti rs (some (.own (.dct kvs))) none none none (o :: r))
    (fun s => ∃ v, s = s7 h ro ti rs (some (.own (.dct kvs))) none v none (o :: r)) (fun p t => t = .tup ((begs rs p.2).map ni)) rfl (by rw [line_eq]; omega) ⟨none, rfl⟩
    (fun p hp s ⟨v, hs⟩ => by
      subst hs
      refine ⟨s7 h ro ti rs (some (.own (.dct kvs))) none (some (.d (pr p))) none (o :: r), _, s7 h ro ti rs (some (.own (.dct kvs))) none (some (.d (pr p))) none (o :: r), rfl, ?_, rfl, _, rfl⟩
      rcases k2 p.2 with ⟨a1, a2⟩ | ⟨k, a1, a2⟩
      · have a2 : begs rs p.2 = [] := a2
        rw [a2]
        simp [runDef, evSs, evS, evX, evAnd, evOr, evDs, evPs, evQs, evIt, M.bind, M.pure, varM, Ev.S.loc1, two, one, PV.val, Cell.toD, idxF, pickI, ixN, cmpF, eqF, ltF, D.fin, dep, eqB, ltB, alk, nonB, toB, biM, valsOf, biF, D.len, Ev.finish, Exs.isNil, asgIM, asgOM, thaw, Ev.S.get, Ev.S.put, PV.lo, PV.store, bindM, bindT, bindTs, M.of, binF, doCall, endC, lstM, doMm, mmF, turnM, isLoop, s7, pr, bmM, dctM, dgetM, getM, isKey, a1, line_eq]
      · have a2 : r[k]? = some (.lst ((begs rs p.2).map ni)) := a2
        generalize begs rs p.2 = bs at *
        simp [runDef, evSs, evS, evX, evAnd, evOr, evDs, evPs, evQs, evIt, M.bind, M.pure, varM, Ev.S.loc1, two, one, PV.val, Cell.toD, idxF, pickI, ixN, cmpF, eqF, ltF, D.fin, dep, eqB, ltB, alk, nonB, toB, biM, valsOf, biF, D.len, Ev.finish, Exs.isNil, asgIM, asgOM, thaw, Ev.S.get, Ev.S.put, PV.lo, PV.store, bindM, bindT, bindTs, M.of, binF, doCall, endC, lstM, doMm, mmF, turnM, isLoop, s7, pr, bmM, dctM, dgetM, getM, isKey, a1, a2, line_eq])
  have e3 := f.eq_map
  subst e3
  exact tuple_eval e2
theorem keep_leads {h ro ti : D} {rs : List (Nat × Nat)} {v5 : Option LV} {r : List Cell} (hl : rs.length ≤ 24) :
    evX G F (stE (nthS c10 7)) (s7 h ro ti rs v5 none none none (.obj 0 (fs4 h ro ti rs ++ [(5, nextD rs)]) :: r)) = .ok (.d (leadD rs)) (s7 h ro ti rs v5 none none none (.obj 0 (fs4 h ro ti rs ++ [(5, nextD rs)]) :: r)) := by
  have ea : ∀ v, evX G F (.attr (.v 0) 5) (s7 h ro ti rs v5 none none v (.obj 0 (fs4 h ro ti rs ++ [(5, nextD rs)]) :: r)) = .ok (.d (nextD rs)) (s7 h ro ti rs v5 none none v (.obj 0 (fs4 h ro ti rs ++ [(5, nextD rs)]) :: r)) := fun v => attr_eval (x := .d (.ref 0)) (y := .obj 0 (fs4 h ro ti rs ++ [(5, nextD rs)])) rfl rfl rfl
  have ei : evIt G F (.val (.attr (.v 0) 5)) (s7 h ro ti rs v5 none none none (.obj 0 (fs4 h ro ti rs ++ [(5, nextD rs)]) :: r)) = .ok (rs.map fun p => .tup ((begs rs p.2).map ni)) (s7 h ro ti rs v5 none none none (.obj 0 (fs4 h ro ti rs ++ [(5, nextD rs)]) :: r)) := by
    exact it_val (ea none) rfl
  obtain ⟨ts, s2, e2, f, v, rfl⟩ := lc_run (G := G) (F := F) (g := fun p : Nat × Nat => D.tup ((begs rs p.2).map ni)) (xs := rs) (tg := .v 8) (own := [8]) (elt := .cmp .gt (.bi .len (.cons (.v 8) .nil)) (.int 0))
    (fun s => ∃ v, s = s7 h ro ti rs v5 none none v (.obj 0 (fs4 h ro ti rs ++ [(5, nextD rs)]) :: r)) (fun p t => t = .bl (decide (0 < (begs rs p.2).length))) ei (by rw [line_eq]; omega) ⟨none, rfl⟩
    (fun p hp s ⟨v, hs⟩ => by
      subst hs
      generalize (Cell.obj 0 (fs4 h ro ti rs ++ [(5, nextD rs)])) = o
      generalize begs rs p.2 = bs
      refine ⟨s7 h ro ti rs v5 none none (some (.d (.tup (bs.map ni)))) (o :: r), _, s7 h ro ti rs v5 none none (some (.d (.tup (bs.map ni)))) (o :: r), rfl, ?_, rfl, _, rfl⟩
      simp [runDef, evSs, evS, evX, evAnd, evOr, evDs, evPs, evQs, evIt, M.bind, M.pure, varM, Ev.S.loc1, two, one, PV.val, Cell.toD, idxF, pickI, ixN, cmpF, eqF, ltF, D.fin, dep, eqB, ltB, alk, nonB, toB, biM, valsOf, biF, D.len, Ev.finish, Exs.isNil, asgIM, asgOM, thaw, Ev.S.get, Ev.S.put, PV.lo, PV.store, bindM, bindT, bindTs, M.of, binF, doCall, endC, lstM, doMm, mmF, turnM, isLoop, s7])
  have e3 := f.eq_map
  subst e3
  exact tuple_eval e2
def KeepF (F : FT) : Prop := ∀ (h ro ti : D) (rs : List (Nat × Nat)), rs.length ≤ 24 → ∃ r, F 10 [.ref 0, h, .tup (rs.map pr), ro, ti] [.obj 0 []] = .ok .non (.obj 0 (fs6 h ro ti rs) :: r)
theorem keep_run {h ro ti : D} {rs : List (Nat × Nat)} (hl : rs.length ≤ 24) : ∃ r, runDef G F ⟨5, 9, c10⟩ [.ref 0, h, .tup (rs.map pr), ro, ti] [.obj 0 []] = .ok .non (.obj 0 (fs6 h ro ti rs) :: r) := by
  obtain ⟨s1, e1, kvs, r, v6, v7, rfl, K⟩ := loopF_enum (g := pr) (bd := turnM (.tup (.cons (.v 6) (.cons (.v 7) .nil))) (evSs G F (forB (nthS c10 5)))) (kl := [6, 7])
    (fun j s => ∃ kvs r v6 v7, s = s7 h ro ti rs (some (.own (.dct kvs))) v6 v7 none (.obj 0 (fs4 h ro ti rs) :: r) ∧ KI rs j kvs r) rs 0 (s7 h ro ti rs (some (.own (.dct []))) none none none [.obj 0 (fs4 h ro ti rs)])
    (fun j p s hp ⟨kvs, r, v6, v7, hs, K⟩ => by
      subst hs
      rw [Nat.zero_add] at K ⊢
      obtain ⟨kvs', r', e, K'⟩ := keep_step (F := F) (h := h) (ro := ro) (ti := ti) (o := .obj 0 (fs4 h ro ti rs)) hp hl K
      exact ⟨_, e, kvs', r', none, none, rfl, K'⟩)
    ⟨[], [], none, none, rfl, by simp, fun x => .inl ⟨rfl, rfl⟩, fun x y k h => by simp [keyGet] at h⟩
  rw [Nat.zero_add] at K
  refine ⟨r, ?_⟩
  have er : runDef G F ⟨5, 9, c10⟩ [.ref 0, h, .tup (rs.map pr), ro, ti] [.obj 0 []] = Ev.finish (evSs G F c10 (s7 h ro ti rs none none none none [.obj 0 []])) := rfl
  have e : c10 = .cons (.asgF (.v 0) 1 (.v 1)) (.cons (.asgF (.v 0) 2 (.v 2)) (.cons (.asgF (.v 0) 3 (.v 3)) (.cons (.asgF (.v 0) 4 (.v 4)) (.cons (nthS c10 4) (.cons (nthS c10 5) (.cons (.asgF (.v 0) 5 (stE (nthS c10 6))) (.cons (.asgF (.v 0) 6 (stE (nthS c10 7))) .nil))))))) := rfl
  have q0 := asgF_eval (G := G) (F := F) (o := .v 0) (e := .v 1) (f := 1) (s := s7 h ro ti rs none none none none [.obj 0 []]) rfl rfl rfl rfl gN gf1 (by decide)
  have q1 := asgF_eval (G := G) (F := F) (o := .v 0) (e := .v 2) (f := 2) (s := s7 h ro ti rs none none none none [.obj 0 [(1, h)]]) rfl rfl rfl rfl gN gf2 (by simp)
  have q2 := asgF_eval (G := G) (F := F) (o := .v 0) (e := .v 3) (f := 3) (s := s7 h ro ti rs none none none none [.obj 0 [(1, h), (2, .tup (rs.map pr))]]) rfl rfl rfl rfl gN gf3 (by simp)
  have q3 := asgF_eval (G := G) (F := F) (o := .v 0) (e := .v 4) (f := 4) (s := s7 h ro ti rs none none none none [.obj 0 [(1, h), (2, .tup (rs.map pr)), (3, ro)]]) rfl rfl rfl rfl gN gf4 (by simp)
  have q4 : evS G F (nthS c10 4) (s7 h ro ti rs none none none none [.obj 0 (fs4 h ro ti rs)]) = .ok .next (s7 h ro ti rs (some (.own (.dct []))) none none none [.obj 0 (fs4 h ro ti rs)]) := rfl
  have q5 := for_eval (G := G) (F := F) (it := .enum (.v 2) 0) (tg := .tup (.cons (.v 6) (.cons (.v 7) .nil))) (a := forB (nthS c10 5)) (kl := [6, 7]) (s := s7 h ro ti rs (some (.own (.dct []))) none none none [.obj 0 (fs4 h ro ti rs)]) (s1 := s7 h ro ti rs (some (.own (.dct []))) none none none [.obj 0 (fs4 h ro ti rs)]) (xs := enumFrom 0 (rs.map pr)) rfl rfl
  have e1' : loopF (turnM (.tup (.cons (.v 6) (.cons (.v 7) .nil))) (evSs G F (forB (nthS c10 5)))) [6, 7] (enumFrom 0 (rs.map pr)) (s7 h ro ti rs (some (.own (.dct []))) none none none [.obj 0 (fs4 h ro ti rs)]) = .ok .next (s7 h ro ti rs (some (.own (.dct kvs))) none none none (.obj 0 (fs4 h ro ti rs) :: r)) := e1
  rw [e1'] at q5
  have q6 := asgF_eval (G := G) (F := F) (o := .v 0) (f := 5) (x := .d (.ref 0)) (l := .id 0) (c := 0) (fs := fs4 h ro ti rs) (keep_next (F := F) (h := h) (ro := ro) (ti := ti) (o := .obj 0 (fs4 h ro ti rs)) hl K) rfl rfl rfl gN gf5 (by simp [fs4])
  have q7 := asgF_eval (G := G) (F := F) (o := .v 0) (f := 6) (x := .d (.ref 0)) (l := .id 0) (c := 0) (fs := fs4 h ro ti rs ++ [(5, nextD rs)]) (keep_leads (F := F) (h := h) (ro := ro) (ti := ti) (rs := rs) (v5 := some (.own (.dct kvs))) (r := r) hl) rfl rfl rfl gN gf6 (by simp [fs4])
  rw [er, e, sts_next q0]
  refine (congrArg Ev.finish ((sts_next (ss := dropS c10 2) q1).trans ((sts_next (ss := dropS c10 3) q2).trans ((sts_next (ss := dropS c10 4) q3).trans ((sts_next (ss := dropS c10 5) q4).trans ((sts_next (ss := dropS c10 6) q5).trans ((sts_next (ss := dropS c10 7) q6).trans (sts_next (ss := .nil) q7)))))))).trans rfl
end
end Pr

set_option linter.all false
set_option maxRecDepth 100000
set_option maxHeartbeats 2000000
namespace Pr
open PySem Ev
section
variable {F : FT}
def wfs (h : Nat) (rs : List (Nat × Nat)) (ro ti : List Nat) : List (Nat × D) := fs6 (.int h) (.tup (ro.map ni)) (.tup (ti.map ni)) rs
def webO (h : Nat) (rs : List (Nat × Nat)) (ro ti : List Nat) : D := .obj 0 (wfs h rs ro ti)
def InitF (F : FT) : Prop := ∀ (h : Nat) (rs : List (Nat × Nat)) (ro ti : List Nat), VW h rs ro ti → ∃ r, F 9 [.ref 0, .int h, .tup (rs.map pr), .tup (ro.map ni), .tup (ti.map ni)] [.obj 0 []] = .ok .non (.obj 0 (wfs h rs ro ti) :: r)
theorem init_run (hW : WiF F) (hR : RoadsF F) (hC : CountsF F) (hK : KeepF F) {h : Nat} {rs : List (Nat × Nat)} {ro ti : List Nat} (V : VW h rs ro ti) :
    ∃ r, runDef G F ⟨5, 5, c9⟩ [.ref 0, .int h, .tup (rs.map pr), .tup (ro.map ni), .tup (ti.map ni)] [.obj 0 []] = .ok .non (.obj 0 (wfs h rs ro ti) :: r) := by
  have l2 := V.l2
  obtain ⟨r, e5⟩ := hK (.int h) (.tup (ro.map ni)) (.tup (ti.map ni)) rs l2
  refine ⟨r, ?_⟩
  have e1 := hW h 2 12 [.obj 0 []] (by have := V.h1; omega) (by have := V.h2; omega)
  have e2 := hR h rs [.obj 0 []] V.h1 V.l1 V.l2 V.v
  have e3 := hC ro rs.length rs.length 3 [.obj 0 []] rfl V.o1 (by omega) (fun x hx => by have := V.o3 x hx; omega)
  have e4 := hC ti rs.length rs.length 3 [.obj 0 []] rfl V.o2 (by omega) (fun x hx => by have := V.o4 x hx; omega)
  have g0 : G.con[1]? = some (.int 12) := rfl
  have g2 : G.con[3]? = some (.int 3) := rfl
  have g3 : G.con[4]? = some (.int 3) := rfl
  have gm : G.meth 0 8 = some 10 := rfl
  have e : c9 = .cons (nthS c9 0) (.cons (nthS c9 1) (.cons (nthS c9 2) (.cons (nthS c9 3) (.cons (.ex (stE (nthS c9 4))) .nil)))) := rfl
  generalize hs : (⟨[some (.d (.ref 0)), some (.d (.int h)), some (.d (.tup (rs.map pr))), some (.d (.tup (ro.map ni))), some (.d (.tup (ti.map ni)))], [.obj 0 []]⟩ : S) = s
  have er : runDef G F ⟨5, 5, c9⟩ [.ref 0, .int h, .tup (rs.map pr), .tup (ro.map ni), .tup (ti.map ni)] [.obj 0 []] = Ev.finish (evSs G F c9 s) := by rw [← hs]; rfl
  have q0 : evS G F (nthS c9 0) s = .ok .next s := by subst hs; simp [runDef, evSs, evS, evX, evAnd, evOr, evDs, evPs, evQs, evIt, M.bind, M.pure, varM, Ev.S.loc1, two, one, PV.val, Cell.toD, idxF, pickI, ixN, cmpF, eqF, ltF, D.fin, dep, eqB, ltB, alk, nonB, toB, biM, valsOf, biF, D.len, Ev.finish, Exs.isNil, asgIM, asgOM, thaw, Ev.S.get, Ev.S.put, PV.lo, PV.store, bindM, bindT, bindTs, M.of, binF, doCall, endC, lstM, doMm, mmF, turnM, isLoop, nthS, c9, e1, g0]
  have q1 : evS G F (nthS c9 1) s = .ok .next s := by subst hs; simp [runDef, evSs, evS, evX, evAnd, evOr, evDs, evPs, evQs, evIt, M.bind, M.pure, varM, Ev.S.loc1, two, one, PV.val, Cell.toD, idxF, pickI, ixN, cmpF, eqF, ltF, D.fin, dep, eqB, ltB, alk, nonB, toB, biM, valsOf, biF, D.len, Ev.finish, Exs.isNil, asgIM, asgOM, thaw, Ev.S.get, Ev.S.put, PV.lo, PV.store, bindM, bindT, bindTs, M.of, binF, doCall, endC, lstM, doMm, mmF, turnM, isLoop, nthS, c9, e2]
  have q2 : evS G F (nthS c9 2) s = .ok .next s := by subst hs; simp [runDef, evSs, evS, evX, evAnd, evOr, evDs, evPs, evQs, evIt, M.bind, M.pure, varM, Ev.S.loc1, two, one, PV.val, Cell.toD, idxF, pickI, ixN, cmpF, eqF, ltF, D.fin, dep, eqB, ltB, alk, nonB, toB, biM, valsOf, biF, D.len, Ev.finish, Exs.isNil, asgIM, asgOM, thaw, Ev.S.get, Ev.S.put, PV.lo, PV.store, bindM, bindT, bindTs, M.of, binF, doCall, endC, lstM, doMm, mmF, turnM, isLoop, nthS, c9, e3, g2]
  have q3 : evS G F (nthS c9 3) s = .ok .next s := by subst hs; simp [runDef, evSs, evS, evX, evAnd, evOr, evDs, evPs, evQs, evIt, M.bind, M.pure, varM, Ev.S.loc1, two, one, PV.val, Cell.toD, idxF, pickI, ixN, cmpF, eqF, ltF, D.fin, dep, eqB, ltB, alk, nonB, toB, biM, valsOf, biF, D.len, Ev.finish, Exs.isNil, asgIM, asgOM, thaw, Ev.S.get, Ev.S.put, PV.lo, PV.store, bindM, bindT, bindTs, M.of, binF, doCall, endC, lstM, doMm, mmF, turnM, isLoop, nthS, c9, e4, g3]
  subst hs
  have q4 := meth_eval (G := G) (F := F) (o := .v 0) (es := .cons (.v 1) (.cons (.v 2) (.cons (.v 3) (.cons (.v 4) .nil)))) (s := ⟨[some (.d (.ref 0)), some (.d (.int h)), some (.d (.tup (rs.map pr))), some (.d (.tup (ro.map ni))), some (.d (.tup (ti.map ni)))], [.obj 0 []]⟩) gm rfl rfl rfl rfl e5
  rw [er, e, sts_next q0, sts_next q1, sts_next q2, sts_next q3]
  exact congrArg Ev.finish (sts_next (ss := .nil) (ex_eval q4))
def MadeF (F : FT) : Prop := ∀ (h : Nat) (rs : List (Nat × Nat)) (ro ti : List Nat) (c : List Cell), VW h rs ro ti → F 40 [wD h rs ro ti] c = .ok (webO h rs ro ti) c
theorem blw_pr {rs : List (Nat × Nat)} {n : Nat} : D.blws n (rs.map pr) = true := blws_map fun p _ => by simp [pr, D.blw, D.blws]
theorem blw_ni {rs : List Nat} {n : Nat} : D.blws n (rs.map ni) = true := blws_map fun p _ => by simp [ni, D.blw]
theorem made_run (hI : InitF F) {h : Nat} {rs : List (Nat × Nat)} {ro ti : List Nat} {c : List Cell} (V : VW h rs ro ti) : runDef G F ⟨1, 1, c40⟩ [wD h rs ro ti] c = .ok (webO h rs ro ti) c := by
  obtain ⟨r, e⟩ := hI h rs ro ti V
  have gi : G.ini 0 = some 9 := rfl
  have b1 : D.blws 0 [.int h, .tup (rs.map pr), .tup (ro.map ni), .tup (ti.map ni)] = true := by
    simp [D.blws, D.blw, blw_pr, blw_ni]
  have n1 : D.blws 0 (rs.map fun p => D.tup ((begs rs p.2).map ni)) = true := blws_map fun p _ => by simp [D.blw, blw_ni]
  have n2 : D.blws 0 (rs.map fun p => D.bl (decide (0 < (begs rs p.2).length))) = true := blws_map fun p _ => by simp [D.blw]
  have b2 : D.blwf 0 (wfs h rs ro ti) = true := by
    unfold wfs fs6 nextD leadD
    simp [D.blwf, D.blw, blw_pr, blw_ni, n1]
    exact n2
  have q := mk_eval (G := G) (F := F) (c := 0) (es := .cons (.idx (.v 0) (.int 0)) (.cons (.idx (.v 0) (.int 1)) (.cons (.idx (.v 0) (.int 2)) (.cons (.idx (.v 0) (.int 3)) .nil)))) (s := ⟨[some (.d (wD h rs ro ti))], c⟩) gi rfl b1 e b2
  exact congrArg Ev.finish (sts_ret (ss := .nil) (ret_eval q))
end
end Pr

set_option linter.all false
set_option maxRecDepth 100000
set_option maxHeartbeats 2000000
namespace Pr
open PySem Ev
section
variable {F : FT}
/-! lots and sorts -/
def so (t : Bool) : D := .str (if t then "turns" else "hours")
def lotD (lot : List Nat) : D := .tup (lot.map ni)
structure LotOk (n : Nat) (lot : List Nat) : Prop where
  up : lot.Pairwise (· < ·)
  lt : ∀ x ∈ lot, x < n
theorem LotOk.len {n : Nat} {lot : List Nat} (h : LotOk n lot) : lot.length ≤ n := by
  have hn : lot.Nodup := h.up.imp fun h => by omega
  have := hn.length_le_of_subset (l₂ := List.range' 0 n) fun x hx => by
    rw [List.mem_range'_1]
    have := h.lt x hx
    omega
  simpa using this
def SortF (F : FT) : Prop := ∀ (t : Bool) (c : List Cell), F 4 [so t] c = .ok (.bl true) c
def CSortF (F : FT) : Prop := ∀ (t : Bool) (c : List Cell), F 6 [so t] c = .ok .non c
theorem sort_run {t : Bool} {c : List Cell} : runDef G F ⟨1, 1, c4⟩ [so t] c = .ok (.bl true) c := by
  cases t <;> kernel_rfl
theorem csort_run (h : SortF F) {t : Bool} {c : List Cell} : runDef G F ⟨1, 1, c6⟩ [so t] c = .ok .non c := by
  have e := h t c
  generalize so t = s at *
  simp [runDef, evSs, evS, evX, evAnd, evOr, evDs, evPs, evQs, evIt, M.bind, M.pure, varM, Ev.S.loc1, two, one, PV.val, Cell.toD, idxF, pickI, ixN, cmpF, eqF, ltF, D.fin, dep, eqB, ltB, alk, nonB, toB, biM, valsOf, biF, D.len, Ev.finish, Exs.isNil, asgIM, asgOM, thaw, Ev.S.get, Ev.S.put, PV.lo, PV.store, bindM, bindT, bindTs, M.of, binF, doCall, endC, lstM, doMm, mmF, turnM, isLoop, c6, e]
def AscF (F : FT) : Prop := ∀ (n : Nat) (lot : List Nat) (c : List Cell), n ≤ 24 → LotOk n lot → F 5 [lotD lot] c = .ok (.bl true) c
theorem asc_run {n : Nat} {lot : List Nat} {c : List Cell} (hn : n ≤ 24) (L : LotOk n lot) : runDef G F ⟨1, 2, c5⟩ [lotD lot] c = .ok (.bl true) c := by
  have len := L.len
  by_cases h0 : lot.length = 0
  · rw [List.length_eq_zero_iff.mp h0]
    kernel_rfl
  have up := List.pairwise_iff_getElem.mp L.up
  obtain ⟨s1, e1, v1, rfl⟩ := loopF_rng (bd := turnM (.v 1) (evSs G F (forB (nthS c5 0)))) (kl := [1])
    (fun j s => ∃ v1, s = ⟨[some (.d (lotD lot)), v1], c⟩) (lot.length - 1) 1 ⟨[some (.d (lotD lot)), none], c⟩
    (fun j s h1 h2 ⟨v1, hs⟩ => by
      subst hs
      refine ⟨⟨[some (.d (lotD lot)), some (.d (.int j))], c⟩, ?_, none, rfl⟩
      have a := up (j - 1) j (by omega) (by omega) (by omega)
      have g1 : (0 : Int) ≤ (j : Int) - 1 := by omega
      have g2 : ((j : Int) - 1).toNat = j - 1 := by omega
      have g3 : (j : Int) - 1 < lot.length := by omega
      have g4 : j < lot.length := by omega
      have g5 : j - 1 < lot.length := by omega
      have g6 : 1 ≤ j := by omega
      have g9 : (1 : Int) ≤ j := by omega
      have g7 : (lot[j - 1] : Int) < lot[j] := by omega
      have g8 : ¬ ((lot[j] : Int) ≤ lot[j - 1]) := by omega
      simp [runDef, evSs, evS, evX, evAnd, evOr, evDs, evPs, evQs, evIt, M.bind, M.pure, varM, Ev.S.loc1, two, one, PV.val, Cell.toD, idxF, pickI, ixN, cmpF, eqF, ltF, D.fin, dep, eqB, ltB, alk, nonB, toB, biM, valsOf, biF, D.len, Ev.finish, Exs.isNil, asgIM, asgOM, thaw, Ev.S.get, Ev.S.put, PV.lo, PV.store, bindM, bindT, bindTs, M.of, binF, doCall, endC, lstM, doMm, mmF, turnM, isLoop, forB, nthS, c5, lotD, ni, g1, g2, g3, g4, g5, g6, g7, g8, g9, a])
    ⟨none, rfl⟩
  have er : runDef G F ⟨1, 2, c5⟩ [lotD lot] c = Ev.finish (evSs G F c5 ⟨[some (.d (lotD lot)), none], c⟩) := rfl
  have hl : evX G F (.bi .len (.cons (.v 0) .nil)) ⟨[some (.d (lotD lot)), none], c⟩ = .ok (.d (.int lot.length)) ⟨[some (.d (lotD lot)), none], c⟩ := by simp [runDef, evSs, evS, evX, evAnd, evOr, evDs, evPs, evQs, evIt, M.bind, M.pure, varM, Ev.S.loc1, two, one, PV.val, Cell.toD, idxF, pickI, ixN, cmpF, eqF, ltF, D.fin, dep, eqB, ltB, alk, nonB, toB, biM, valsOf, biF, D.len, Ev.finish, Exs.isNil, asgIM, asgOM, thaw, Ev.S.get, Ev.S.put, PV.lo, PV.store, bindM, bindT, bindTs, M.of, binF, doCall, endC, lstM, doMm, mmF, turnM, isLoop, lotD]
  have q0 := for_eval (G := G) (F := F) (tg := .v 1) (a := forB (nthS c5 0)) (kl := [1]) rfl (it_rng2 (a := .int 1) (k := 1) (n := lot.length) rfl hl (by omega) (by omega))
  rw [e1] at q0
  rw [er]
  exact congrArg Ev.finish ((sts_next (ss := dropS c5 1) q0).trans (sts_ret (ss := .nil) (ret_eval (e := .bl true) rfl)))
theorem webO_roads {h : Nat} {rs : List (Nat × Nat)} {ro ti : List Nat} {a : Ex} {s s1 : S} (e : evX G F a s = .ok (.d (webO h rs ro ti)) s1) : evX G F (.attr a 2) s = .ok (.d (.tup (rs.map pr))) s1 := attr_eval (y := webO h rs ro ti) e rfl rfl
theorem webO_next {h : Nat} {rs : List (Nat × Nat)} {ro ti : List Nat} {a : Ex} {s s1 : S} (e : evX G F a s = .ok (.d (webO h rs ro ti)) s1) : evX G F (.attr a 5) s = .ok (.d (nextD rs)) s1 := attr_eval (y := webO h rs ro ti) e rfl rfl
theorem webO_leads {h : Nat} {rs : List (Nat × Nat)} {ro ti : List Nat} {a : Ex} {s s1 : S} (e : evX G F a s = .ok (.d (webO h rs ro ti)) s1) : evX G F (.attr a 6) s = .ok (.d (leadD rs)) s1 := attr_eval (y := webO h rs ro ti) e rfl rfl
def RoadF (F : FT) : Prop := ∀ (h : Nat) (rs : List (Nat × Nat)) (ro ti : List Nat) (i : Nat) (c : List Cell), i < rs.length → F 12 [webO h rs ro ti, .int i] c = .ok (.bl true) c
theorem road_run (hW : WiF F) {h : Nat} {rs : List (Nat × Nat)} {ro ti : List Nat} {i : Nat} {c : List Cell} (hi : i < rs.length) : runDef G F ⟨2, 2, c12⟩ [webO h rs ro ti, .int i] c = .ok (.bl true) c := by
  have e := hW i 0 (rs.length - 1) c (by omega) (by omega)
  have a := webO_roads (F := F) (h := h) (rs := rs) (ro := ro) (ti := ti) (a := .v 0) (s := ⟨[some (.d (webO h rs ro ti)), some (.d (.int i))], c⟩) rfl
  have k : ∀ L s, evX G F L s = .ok (.d (.tup (rs.map pr))) s → s.loc1 1 = some (.d (.int i)) → s.cel = c → evX G F (.call .plain 2 (.cons (.v 1) (.cons (.int 0) (.cons (.bin .sub (.bi .len (.cons L .nil)) (.int 1)) .nil)))) s = .ok (.d (.bl true)) s := fun L s hL h1 hc => by
    subst hc
    simp [evX, evDs, evPs, M.bind, M.pure, varM, h1, hL, PV.store, two, biM, valsOf, PV.val, biF, D.len, binF, doCall, endC, e]
  exact congrArg Ev.finish (sts_ret (ss := .nil) (ret_eval (k _ _ a rfl rfl)))
def LotF (F : FT) : Prop := ∀ (h : Nat) (rs : List (Nat × Nat)) (ro ti : List Nat) (lot : List Nat) (c : List Cell), rs.length ≤ 24 → LotOk rs.length lot → F 13 [webO h rs ro ti, lotD lot] c = .ok (.bl true) c
theorem lot_run (hA : AscF F) (hR : RoadF F) {h : Nat} {rs : List (Nat × Nat)} {ro ti : List Nat} {lot : List Nat} {c : List Cell} (l2 : rs.length ≤ 24) (L : LotOk rs.length lot) : runDef G F ⟨2, 3, c13⟩ [webO h rs ro ti, lotD lot] c = .ok (.bl true) c := by
  have e0 := hA rs.length lot c l2 L
  have hr := fun i hi => hR h rs ro ti i c hi
  generalize webO h rs ro ti = w at *
  have len := L.len
  obtain ⟨ts, s2, e2, f, v, rfl⟩ := lc_run (G := G) (F := F) (g := ni) (xs := lot) (it := .val (.v 1)) (tg := .v 2) (own := [2]) (elt := .call .plain 12 (.cons (.v 0) (.cons (.v 2) .nil))) (s := ⟨[some (.d w), some (.d (lotD lot)), none], c⟩)
    (fun s => ∃ v, s = ⟨[some (.d w), some (.d (lotD lot)), v], c⟩) (fun x t => t = .bl true) rfl (by rw [line_eq]; omega) ⟨none, rfl⟩
    (fun x hx s ⟨v, hs⟩ => by
      subst hs
      have e1 := hr x (L.lt x hx)
      refine ⟨⟨[some (.d w), some (.d (lotD lot)), some (.d (ni x))], c⟩, _, ⟨[some (.d w), some (.d (lotD lot)), some (.d (ni x))], c⟩, rfl, ?_, rfl, _, rfl⟩
      simp [runDef, evSs, evS, evX, evAnd, evOr, evDs, evPs, evQs, evIt, M.bind, M.pure, varM, Ev.S.loc1, two, one, PV.val, Cell.toD, idxF, pickI, ixN, cmpF, eqF, ltF, D.fin, dep, eqB, ltB, alk, nonB, toB, biM, valsOf, biF, D.len, Ev.finish, Exs.isNil, asgIM, asgOM, thaw, Ev.S.get, Ev.S.put, PV.lo, PV.store, bindM, bindT, bindTs, M.of, binF, doCall, endC, lstM, doMm, mmF, turnM, isLoop, ni, e1])
  have e3 := f.eq_map
  subst e3
  have e4 := all_eval (p := fun _ : Nat => true) (xs := lot) e2
  rw [List.all_eq_true.mpr (fun _ _ => rfl)] at e4
  have k : ∀ L, evX G F L ⟨[some (.d w), some (.d (lotD lot)), none], c⟩ = .ok (.d (.bl true)) ⟨[some (.d w), some (.d (lotD lot)), none], c⟩ →
      evS G F (.ife (.or (.cons (.not (.isi (.v 1) [.tuple])) (.cons (.not L) .nil))) (.cons (.ret (.bl false)) .nil) .nil) ⟨[some (.d w), some (.d (lotD lot)), none], c⟩ = .ok .next ⟨[some (.d w), some (.d (lotD lot)), none], c⟩ := fun L hL => by
    unfold lotD at *
    simp [runDef, evSs, evS, evX, evAnd, evOr, evDs, evPs, evQs, evIt, M.bind, M.pure, varM, Ev.S.loc1, two, one, PV.val, Cell.toD, idxF, pickI, ixN, cmpF, eqF, ltF, D.fin, dep, eqB, ltB, alk, nonB, toB, biM, valsOf, biF, D.len, Ev.finish, Exs.isNil, asgIM, asgOM, thaw, Ev.S.get, Ev.S.put, PV.lo, PV.store, bindM, bindT, bindTs, M.of, binF, doCall, endC, lstM, doMm, mmF, turnM, isLoop, isiF, isaTs, isTy, hL]
  have q0 := k _ e4
  have q1 := ret_eval (call_plain (G := G) (F := F) (f := 5) (es := .cons (.v 1) .nil) (s := ⟨[some (.d w), some (.d (lotD lot)), none], c⟩) rfl e0)
  exact congrArg Ev.finish ((sts_next (ss := dropS c13 1) q0).trans (sts_ret (ss := .nil) q1))
def CLotF (F : FT) : Prop := ∀ (h : Nat) (rs : List (Nat × Nat)) (ro ti : List Nat) (lot : List Nat) (t : Bool) (c : List Cell), rs.length ≤ 24 → LotOk rs.length lot → F 15 [webO h rs ro ti, lotD lot, so t] c = .ok .non c
def CLF (F : FT) : Prop := ∀ (h : Nat) (rs : List (Nat × Nat)) (ro ti : List Nat) (lot : List Nat) (c : List Cell), rs.length ≤ 24 → LotOk rs.length lot → F 14 [webO h rs ro ti, lotD lot] c = .ok .non c
theorem cl_run (hL : LotF F) {h : Nat} {rs : List (Nat × Nat)} {ro ti : List Nat} {lot : List Nat} {c : List Cell} (l2 : rs.length ≤ 24) (L : LotOk rs.length lot) : runDef G F ⟨2, 2, c14⟩ [webO h rs ro ti, lotD lot] c = .ok .non c := by
  have e := hL h rs ro ti lot c l2 L
  generalize webO h rs ro ti = w at *
  generalize lotD lot = l at *
  simp [runDef, evSs, evS, evX, evAnd, evOr, evDs, evPs, evQs, evIt, M.bind, M.pure, varM, Ev.S.loc1, two, one, PV.val, Cell.toD, idxF, pickI, ixN, cmpF, eqF, ltF, D.fin, dep, eqB, ltB, alk, nonB, toB, biM, valsOf, biF, D.len, Ev.finish, Exs.isNil, asgIM, asgOM, thaw, Ev.S.get, Ev.S.put, PV.lo, PV.store, bindM, bindT, bindTs, M.of, binF, doCall, endC, lstM, doMm, mmF, turnM, isLoop, c14, e]
theorem cls_run (hL : CLF F) (hS : CSortF F) {h : Nat} {rs : List (Nat × Nat)} {ro ti : List Nat} {lot : List Nat} {t : Bool} {c : List Cell} (l2 : rs.length ≤ 24) (L : LotOk rs.length lot) : runDef G F ⟨3, 3, c15⟩ [webO h rs ro ti, lotD lot, so t] c = .ok .non c := by
  have e := hL h rs ro ti lot c l2 L
  have e2 := hS t c
  generalize webO h rs ro ti = w at *
  generalize lotD lot = l at *
  generalize so t = s at *
  simp [runDef, evSs, evS, evX, evAnd, evOr, evDs, evPs, evQs, evIt, M.bind, M.pure, varM, Ev.S.loc1, two, one, PV.val, Cell.toD, idxF, pickI, ixN, cmpF, eqF, ltF, D.fin, dep, eqB, ltB, alk, nonB, toB, biM, valsOf, biF, D.len, Ev.finish, Exs.isNil, asgIM, asgOM, thaw, Ev.S.get, Ev.S.put, PV.lo, PV.store, bindM, bindT, bindTs, M.of, binF, doCall, endC, lstM, doMm, mmF, turnM, isLoop, c15, e, e2]
end
end Pr

set_option linter.all false
set_option maxRecDepth 100000
set_option maxHeartbeats 2000000
namespace Pr
open PySem Ev
/-! places -/
def nx (rs : List (Nat × Nat)) (r : Nat) : List Nat := begs rs (rs.getD r (0, 0)).2
def lastP (rs : List (Nat × Nat)) (lot : List Nat) (t : Bool) (r : Nat) : Bool := decide (0 < (nx rs r).length) && (t || !lot.contains r)
inductive Pl where
  | fork (a b : Nat) | row (a m b : Nat)
def pD : Pl → D
  | .fork a b => .tup [.str "fork", .int a, .int b]
  | .row a m b => .tup [.str "row", .int a, .int m, .int b]
def forksP (rs : List (Nat × Nat)) (lot : List Nat) (t : Bool) (r : Nat) : List Pl := if (nx rs r).length < 2 then [] else ((nx rs r).filter (lastP rs lot t)).map (Pl.fork r)
def rowsP (rs : List (Nat × Nat)) (lot : List Nat) (t : Bool) (r : Nat) : List Pl := ((nx rs r).filter fun m => !lot.contains m).flatMap fun m => ((nx rs m).filter (lastP rs lot t)).map (Pl.row r m)
theorem nx_lt {rs : List (Nat × Nat)} {r x : Nat} (h : x ∈ nx rs r) : x < rs.length := by
  have := (List.mem_filter.mp h).1
  rw [List.mem_range'_1] at this
  omega
theorem nx_len {rs : List (Nat × Nat)} {r : Nat} : (nx rs r).length ≤ rs.length := begs_len
theorem next_at {rs : List (Nat × Nat)} {r : Nat} (h : r < rs.length) : (rs.map fun p => D.tup ((begs rs p.2).map ni))[r]? = some (.tup ((nx rs r).map ni)) := by
  rw [List.getElem?_map, List.getElem?_eq_getElem h]
  unfold nx
  rw [List.getD_eq_getElem?_getD, List.getElem?_eq_getElem h]
  rfl
theorem lead_at {rs : List (Nat × Nat)} {r : Nat} (h : r < rs.length) : (rs.map fun p => D.bl (decide (0 < (begs rs p.2).length)))[r]? = some (.bl (decide (0 < (nx rs r).length))) := by
  rw [List.getElem?_map, List.getElem?_eq_getElem h]
  unfold nx
  rw [List.getD_eq_getElem?_getD, List.getElem?_eq_getElem h]
  rfl
theorem ni_fins {l : List Nat} {n : Nat} : D.fins n (l.map ni) = true := by
  induction l with
  | nil => cases n <;> rfl
  | cons p rs ih => rw [List.map_cons]; unfold D.fins; rw [ih]; cases n <;> rfl
theorem ni_any {l : List Nat} {x : Nat} : ((l.map ni).any fun y => eqB y (.int x)) = l.contains x := by
  rw [List.any_map, List.contains_eq_any_beq]
  congr 1
  funext p
  show eqB (.int p) (.int x) = (x == p)
  rw [eqI]
  by_cases h : p = x
  · simp [h]
  · have : ¬ x = p := fun e => h e.symm
    simp [h, this]
section
variable {F : FT}
/-- x in a tuple of numbers -/
theorem in_lot {a b : Ex} {s s1 s2 : S} {x : Nat} {l : List Nat} (h1 : evX G F a s = .ok (.d (.int x)) s1) (h2 : evX G F b s1 = .ok (.d (lotD l)) s2) : evX G F (.cmp .nin a b) s = .ok (.d (.bl (!l.contains x))) s2 ∧ evX G F (.cmp .inn a b) s = .ok (.d (.bl (l.contains x))) s2 := by
  have g1 := ni_fins (l := l) (n := 60)
  have g2 := ni_any (l := l) (x := x)
  unfold lotD at h2
  constructor
  · show two (evX G F a) (evX G F b) (fun x y => (cmpF .nin x y).map D.bl) s = _
    simp only [two, M.bind, h1, h2, PV.val, cmpF, inF, dep, D.fin, g1, g2, Bool.and_self, if_true, Option.map]
  · show two (evX G F a) (evX G F b) (fun x y => (cmpF .inn x y).map D.bl) s = _
    simp only [two, M.bind, h1, h2, PV.val, cmpF, inF, dep, D.fin, g1, g2, Bool.and_self, if_true, Option.map]
theorem cmp_eval {o : Cm} {a b : Ex} {s s1 s2 : S} {x y : PV} {dx dy : D} {q : Bool} (h1 : evX G F a s = .ok x s1) (h2 : evX G F b s1 = .ok y s2) (v1 : x.val s2 = some dx) (v2 : y.val s2 = some dy) (h3 : cmpF o dx dy = some q) : evX G F (.cmp o a b) s = .ok (.d (.bl q)) s2 := by
  show two (evX G F a) (evX G F b) (fun x y => (cmpF o x y).map D.bl) s = _
  simp only [two, M.bind, h1, h2, v1, v2, h3, Option.map]
theorem idx_tup {a b : Ex} {s s1 s2 : S} {xs : List D} {x : D} {n : Nat} (h1 : evX G F a s = .ok (.d (.tup xs)) s1) (h2 : evX G F b s1 = .ok (.d (.int n)) s2) (h3 : xs[n]? = some x) : evX G F (.idx a b) s = .ok (.d x) s2 := by
  show two (evX G F a) (evX G F b) idxF s = _
  simp only [two, M.bind, h1, h2, PV.val, idxF, pickI_nat, h3]
theorem idx_lst {a b : Ex} {s s1 s2 : S} {xs : List D} {x : D} {n : Nat} (h1 : evX G F a s = .ok (.d (.lst xs)) s1) (h2 : evX G F b s1 = .ok (.d (.int n)) s2) (h3 : xs[n]? = some x) : evX G F (.idx a b) s = .ok (.d x) s2 := by
  show two (evX G F a) (evX G F b) idxF s = _
  simp only [two, M.bind, h1, h2, PV.val, idxF, pickI_nat, h3]
def LastF (F : FT) : Prop := ∀ (h : Nat) (rs : List (Nat × Nat)) (ro ti : List Nat) (lot : List Nat) (t : Bool) (r : Nat) (c : List Cell), r < rs.length → F 16 [webO h rs ro ti, lotD lot, so t, .int r] c = .ok (.bl (lastP rs lot t r)) c
theorem turns_eq {t : Bool} : eqF (so t) (.str "turns") = some t := by cases t <;> decide +kernel
theorem last_run {h : Nat} {rs : List (Nat × Nat)} {ro ti : List Nat} {lot : List Nat} {t : Bool} {r : Nat} {c : List Cell} (hr : r < rs.length) : runDef G F ⟨4, 4, c16⟩ [webO h rs ro ti, lotD lot, so t, .int r] c = .ok (.bl (lastP rs lot t r)) c := by
  have a1 : evX G F (.idx (.attr (.v 0) 6) (.v 3)) ⟨[some (.d (webO h rs ro ti)), some (.d (lotD lot)), some (.d (so t)), some (.d (.int r))], c⟩ = .ok (.d (.bl (decide (0 < (nx rs r).length)))) ⟨[some (.d (webO h rs ro ti)), some (.d (lotD lot)), some (.d (so t)), some (.d (.int r))], c⟩ := idx_tup (webO_leads rfl) rfl (lead_at hr)
  have a2 : evX G F (.cmp .eq (.v 2) (.str "turns")) ⟨[some (.d (webO h rs ro ti)), some (.d (lotD lot)), some (.d (so t)), some (.d (.int r))], c⟩ = .ok (.d (.bl t)) ⟨[some (.d (webO h rs ro ti)), some (.d (lotD lot)), some (.d (so t)), some (.d (.int r))], c⟩ := by
    exact cmp_eval (dx := so t) rfl rfl rfl rfl turns_eq
  have a3 := (in_lot (F := F) (a := .v 3) (b := .v 1) (s := ⟨[some (.d (webO h rs ro ti)), some (.d (lotD lot)), some (.d (so t)), some (.d (.int r))], c⟩) rfl rfl).1
  generalize hs : (⟨[some (.d (webO h rs ro ti)), some (.d (lotD lot)), some (.d (so t)), some (.d (.int r))], c⟩ : S) = s at *
  have a4 : evX G F (.and (.cons (.idx (.attr (.v 0) 6) (.v 3)) (.cons (.or (.cons (.cmp .eq (.v 2) (.str "turns")) (.cons (.cmp .nin (.v 3) (.v 1)) .nil))) .nil))) s = .ok (.d (.bl (lastP rs lot t r))) s := by
    rw [and_eq, and2 a1, and1, or_eq, or2 a2, or1, a3]
    unfold lastP
    cases decide (0 < (nx rs r).length) <;> cases t <;> rfl
  have er : runDef G F ⟨4, 4, c16⟩ [webO h rs ro ti, lotD lot, so t, .int r] c = Ev.finish (evSs G F c16 s) := by rw [← hs]; rfl
  rw [er]
  refine (congrArg Ev.finish (sts_ret (ss := .nil) (ret_eval a4))).trans ?_
  rw [← hs]
  rfl
/-! forks -/
def ForksF (F : FT) : Prop := ∀ (h : Nat) (rs : List (Nat × Nat)) (ro ti : List Nat) (lot : List Nat) (t : Bool) (r : Nat) (c : List Cell), rs.length ≤ 24 → r < rs.length → F 17 [webO h rs ro ti, lotD lot, so t, .int r] c = .ok (.lst ((forksP rs lot t r).map pD)) c
def s17b (w l s : D) (r : Nat) (v4 v5 : Option LV) (c : List Cell) : S := ⟨[some (.d w), some (.d l), some (.d s), some (.d (.int r)), v4, v5], c⟩
theorem forks_run (hL : LastF F) {h : Nat} {rs : List (Nat × Nat)} {ro ti : List Nat} {lot : List Nat} {t : Bool} {r : Nat} {c : List Cell} (l2 : rs.length ≤ 24) (hr : r < rs.length) : runDef G F ⟨4, 6, c17⟩ [webO h rs ro ti, lotD lot, so t, .int r] c = .ok (.lst ((forksP rs lot t r).map pD)) c := by
  have a1 : evX G F (.idx (.attr (.v 0) 5) (.v 3)) (s17b (webO h rs ro ti) (lotD lot) (so t) r none none c) = .ok (.d (.tup ((nx rs r).map ni))) (s17b (webO h rs ro ti) (lotD lot) (so t) r none none c) := idx_tup (webO_next rfl) rfl (next_at hr)
  have hl := fun x hx => hL h rs ro ti lot t x c hx
  have er : runDef G F ⟨4, 6, c17⟩ [webO h rs ro ti, lotD lot, so t, .int r] c = Ev.finish (evSs G F c17 (s17b (webO h rs ro ti) (lotD lot) (so t) r none none c)) := rfl
  generalize webO h rs ro ti = w at *
  generalize lotD lot = l at *
  generalize so t = sd at *
  have nl := nx_len (rs := rs) (r := r)
  have q0 : evS G F (nthS c17 0) (s17b w l sd r none none c) = .ok .next (s17b w l sd r (some (.d (.tup ((nx rs r).map ni)))) none c) := asg_eval (t := .v 4) a1 rfl
  have q1 : evX G F (.cmp .lt (.bi .len (.cons (.v 4) .nil)) (.int 2)) (s17b w l sd r (some (.d (.tup ((nx rs r).map ni)))) none c) = .ok (.d (.bl (decide ((nx rs r).length < 2)))) (s17b w l sd r (some (.d (.tup ((nx rs r).map ni)))) none c) := by
    generalize nx rs r = ns
    simp [runDef, evSs, evS, evX, evAnd, evOr, evDs, evPs, evQs, evIt, M.bind, M.pure, varM, Ev.S.loc1, two, one, PV.val, Cell.toD, idxF, pickI, ixN, cmpF, eqF, ltF, D.fin, dep, eqB, ltB, alk, nonB, toB, biM, valsOf, biF, D.len, Ev.finish, Exs.isNil, asgIM, asgOM, thaw, Ev.S.get, Ev.S.put, PV.lo, PV.store, bindM, bindT, bindTs, M.of, binF, doCall, endC, lstM, doMm, mmF, turnM, isLoop, s17b]
    by_cases g : ns.length < 2
    · have : (ns.length : Int) < 2 := by omega
      simp [g, this]
    · have : ¬ ((ns.length : Int) < 2) := by omega
      simp [g]; omega
  have ec : c17 = .cons (nthS c17 0) (.cons (.ife (.cmp .lt (.bi .len (.cons (.v 4) .nil)) (.int 2)) (.cons (.ret (.lst .nil)) .nil) .nil) (dropS c17 2)) := rfl
  rw [er, ec, sts_next q0]
  unfold forksP
  by_cases g : (nx rs r).length < 2
  · rw [if_pos g]
    rw [decide_eq_true g] at q1
    exact congrArg Ev.finish (sts_ret (ss := dropS c17 2) ((ife_t (a := .cons (.ret (.lst .nil)) .nil) (b := .nil) q1).trans (sts_ret (ss := .nil) (ret_eval (e := .lst .nil) (x := .lst []) (by rfl)))))
  · rw [if_neg g]
    rw [decide_eq_false g] at q1
    have hfork : G.con[10]? = some (.str "fork") := rfl
    obtain ⟨ts, s2, e2, f, v, rfl⟩ := lcq_run (G := G) (F := F) (g := ni) (xs := nx rs r) (it := .val (.v 4)) (tg := .v 5) (own := [5]) (elt := .tup (.cons (.con 10) (.cons (.v 3) (.cons (.v 5) .nil)))) (q := .call .plain 16 (.cons (.v 0) (.cons (.v 1) (.cons (.v 2) (.cons (.v 5) .nil))))) (s := s17b w l sd r (some (.d (.tup ((nx rs r).map ni)))) none c)
      (fun s => ∃ v, s = s17b w l sd r (some (.d (.tup ((nx rs r).map ni)))) v c) (fun x t => t = pD (.fork r x)) (lastP rs lot t) rfl (by rw [line_eq]; omega) ⟨none, rfl⟩
      (fun x hx s ⟨v, hs⟩ => by
        subst hs
        have e := hl x (nx_lt hx)
        generalize nx rs r = ns at *
        refine ⟨s17b w l sd r (some (.d (.tup (ns.map ni)))) (some (.d (ni x))) c, s17b w l sd r (some (.d (.tup (ns.map ni)))) (some (.d (ni x))) c, rfl, ?_, fun _ => ⟨_, rfl⟩, fun _ => ⟨_, s17b w l sd r (some (.d (.tup (ns.map ni)))) (some (.d (ni x))) c, ?_, rfl, _, rfl⟩⟩
        · simp [runDef, evSs, evS, evX, evAnd, evOr, evDs, evPs, evQs, evIt, M.bind, M.pure, varM, Ev.S.loc1, two, one, PV.val, Cell.toD, idxF, pickI, ixN, cmpF, eqF, ltF, D.fin, dep, eqB, ltB, alk, nonB, toB, biM, valsOf, biF, D.len, Ev.finish, Exs.isNil, asgIM, asgOM, thaw, Ev.S.get, Ev.S.put, PV.lo, PV.store, bindM, bindT, bindTs, M.of, binF, doCall, endC, lstM, doMm, mmF, turnM, isLoop, s17b, ni, e]
        · simp [runDef, evSs, evS, evX, evAnd, evOr, evDs, evPs, evQs, evIt, M.bind, M.pure, varM, Ev.S.loc1, two, one, PV.val, Cell.toD, idxF, pickI, ixN, cmpF, eqF, ltF, D.fin, dep, eqB, ltB, alk, nonB, toB, biM, valsOf, biF, D.len, Ev.finish, Exs.isNil, asgIM, asgOM, thaw, Ev.S.get, Ev.S.put, PV.lo, PV.store, bindM, bindT, bindTs, M.of, binF, doCall, endC, lstM, doMm, mmF, turnM, isLoop, s17b, ni, hfork, pD, line_eq])
    have e3 := f.eq_map
    have e4 : ts = (((nx rs r).filter (lastP rs lot t)).map (Pl.fork r)).map pD := by rw [e3, List.map_map]; rfl
    subst e4
    have q2 := sts_next (ss := dropS c17 2) ((ife_f (a := .cons (.ret (.lst .nil)) .nil) (b := .nil) q1).trans sts_nil)
    rw [q2]
    exact congrArg Ev.finish (sts_ret (ss := .nil) (ret_eval e2))
end
end Pr

set_option linter.all false
set_option maxRecDepth 100000
set_option maxHeartbeats 2000000
namespace Pr
open PySem Ev
theorem fl_len {α β : Type} {f : α → List β} {K : Nat} : ∀ {xs : List α}, (∀ x ∈ xs, (f x).length ≤ K) → (xs.flatMap f).length ≤ xs.length * K
  | [], _ => by simp
  | x :: xs, h => by
    rw [List.flatMap_cons, List.length_append, List.length_cons, Nat.succ_mul]
    have := fl_len (xs := xs) fun y hy => h y (List.mem_cons_of_mem _ hy)
    have := h x (List.mem_cons_self ..)
    omega
def rowsOf (rs : List (Nat × Nat)) (lot : List Nat) (t : Bool) (r : Nat) (ms : List Nat) : List Pl := (ms.filter fun m => !lot.contains m).flatMap fun m => ((nx rs m).filter (lastP rs lot t)).map (Pl.row r m)
theorem rowsOf_snoc {rs : List (Nat × Nat)} {lot : List Nat} {t : Bool} {r m : Nat} {ms : List Nat} : rowsOf rs lot t r (ms ++ [m]) = rowsOf rs lot t r ms ++ if lot.contains m then [] else ((nx rs m).filter (lastP rs lot t)).map (Pl.row r m) := by
  unfold rowsOf
  rw [List.filter_append, List.flatMap_append]
  congr 1
  by_cases h : lot.contains m = true
  · rw [if_pos h, List.filter_cons_of_neg (by simpa using h)]; rfl
  · rw [if_neg h, List.filter_cons_of_pos (by simpa using h)]; simp
theorem rowsOf_len {rs : List (Nat × Nat)} {lot : List Nat} {t : Bool} {r : Nat} {ms : List Nat} (l2 : rs.length ≤ 24) : (rowsOf rs lot t r ms).length ≤ ms.length * 24 := by
  unfold rowsOf
  refine Nat.le_trans (fl_len (K := 24) fun m _ => ?_) (Nat.mul_le_mul_right 24 (List.length_filter_le ..))
  rw [List.length_map]
  exact Nat.le_trans (List.length_filter_le ..) (Nat.le_trans nx_len l2)
section
variable {F : FT}
def RowsF (F : FT) : Prop := ∀ (h : Nat) (rs : List (Nat × Nat)) (ro ti : List Nat) (lot : List Nat) (t : Bool) (r : Nat) (c : List Cell), rs.length ≤ 24 → r < rs.length → F 18 [webO h rs ro ti, lotD lot, so t, .int r] c = .ok (.lst ((rowsP rs lot t r).map pD)) c
def s18 (w l s : D) (r : Nat) (fd : List Pl) (v5 v6 : Option LV) (c : List Cell) : S := ⟨[some (.d w), some (.d l), some (.d s), some (.d (.int r)), some (.own (.lst (fd.map pD))), v5, v6], c⟩
theorem in18 (hL : LastF F) {h : Nat} {rs : List (Nat × Nat)} {ro ti : List Nat} {lot : List Nat} {t : Bool} {r m : Nat} {fd : List Pl} {v6 : Option LV} {c : List Cell} (l2 : rs.length ≤ 24) (hm : m < rs.length) (hf : fd.length ≤ 1000) :
    ∃ s1, evS G F (nthS (ifT (nthS (forB (nthS c18 1)) 0)) 0) (s18 (webO h rs ro ti) (lotD lot) (so t) r fd (some (.d (.int m))) v6 c) = .ok .next (wipe [6] s1) ∧ ∃ v6, s1 = s18 (webO h rs ro ti) (lotD lot) (so t) r (fd ++ ((nx rs m).filter (lastP rs lot t)).map (Pl.row r m)) (some (.d (.int m))) v6 c := by
  have a1 : evX G F (.idx (.attr (.v 0) 5) (.v 5)) (s18 (webO h rs ro ti) (lotD lot) (so t) r fd (some (.d (.int m))) v6 c) = .ok (.d (.tup ((nx rs m).map ni))) (s18 (webO h rs ro ti) (lotD lot) (so t) r fd (some (.d (.int m))) v6 c) := idx_tup (webO_next rfl) rfl (next_at hm)
  have hl := fun x hx => hL h rs ro ti lot t x c hx
  generalize webO h rs ro ti = w at *
  generalize lotD lot = l at *
  generalize so t = sd at *
  have nl := nx_len (rs := rs) (r := m)
  have hrow : G.con[11]? = some (.str "row") := rfl
  obtain ⟨s1, e1, v6', rfl⟩ := loopF_mapl (g := ni) (bd := turnM (.v 6) (evSs G F (forB (nthS (ifT (nthS (forB (nthS c18 1)) 0)) 0)))) (kl := [6])
    (fun done s => ∃ v6, s = s18 w l sd r (fd ++ (done.filter (lastP rs lot t)).map (Pl.row r m)) (some (.d (.int m))) v6 c) (nx rs m).length (nx rs m) [] (s18 w l sd r fd (some (.d (.int m))) v6 c) (by simp)
    (fun done x s hx hd ⟨v6, hs⟩ => by
      subst hs
      have e := hl x (nx_lt hx)
      have b := List.length_filter_le (lastP rs lot t) done
      rw [List.filter_append, List.map_append, ← List.append_assoc]
      generalize hfd : fd ++ (done.filter (lastP rs lot t)).map (Pl.row r m) = fd'
      have hfl : fd'.length < 16777216 := by rw [← hfd]; simp; omega
      by_cases hp : lastP rs lot t x = true
      · refine ⟨s18 w l sd r (fd' ++ [.row r m x]) (some (.d (.int m))) (some (.d (.int x))) c, ?_, none, ?_⟩
        · rw [hp] at e
          simp [runDef, evSs, evS, evX, evAnd, evOr, evDs, evPs, evQs, evIt, M.bind, M.pure, varM, Ev.S.loc1, two, one, PV.val, Cell.toD, idxF, pickI, ixN, cmpF, eqF, ltF, D.fin, dep, eqB, ltB, alk, nonB, toB, biM, valsOf, biF, D.len, Ev.finish, Exs.isNil, asgIM, asgOM, thaw, Ev.S.get, Ev.S.put, PV.lo, PV.store, bindM, bindT, bindTs, M.of, binF, doCall, endC, lstM, doMm, mmF, turnM, isLoop, forB, ifT, nthS, c18, s18, ni, e, hrow, pD, line_eq, hfl]
        · rw [List.filter_cons_of_pos hp]; rfl
      · refine ⟨s18 w l sd r fd' (some (.d (.int m))) (some (.d (.int x))) c, ?_, none, ?_⟩
        · rw [Bool.not_eq_true] at hp
          rw [hp] at e
          simp [runDef, evSs, evS, evX, evAnd, evOr, evDs, evPs, evQs, evIt, M.bind, M.pure, varM, Ev.S.loc1, two, one, PV.val, Cell.toD, idxF, pickI, ixN, cmpF, eqF, ltF, D.fin, dep, eqB, ltB, alk, nonB, toB, biM, valsOf, biF, D.len, Ev.finish, Exs.isNil, asgIM, asgOM, thaw, Ev.S.get, Ev.S.put, PV.lo, PV.store, bindM, bindT, bindTs, M.of, binF, doCall, endC, lstM, doMm, mmF, turnM, isLoop, forB, ifT, nthS, c18, s18, ni, e]
        · rw [List.filter_cons_of_neg hp, List.filter_nil, List.map_nil, List.append_nil]; rfl)
    ⟨v6, by simp⟩
  exact ⟨_, (for_val (e := .idx (.attr (.v 0) 5) (.v 5)) a1 rfl).trans e1, v6', by rw [List.nil_append]⟩
theorem rows_run (hL : LastF F) {h : Nat} {rs : List (Nat × Nat)} {ro ti : List Nat} {lot : List Nat} {t : Bool} {r : Nat} {c : List Cell} (l2 : rs.length ≤ 24) (hr : r < rs.length) : runDef G F ⟨4, 7, c18⟩ [webO h rs ro ti, lotD lot, so t, .int r] c = .ok (.lst ((rowsP rs lot t r).map pD)) c := by
  have a1 : evX G F (.idx (.attr (.v 0) 5) (.v 3)) (s18 (webO h rs ro ti) (lotD lot) (so t) r [] none none c) = .ok (.d (.tup ((nx rs r).map ni))) (s18 (webO h rs ro ti) (lotD lot) (so t) r [] none none c) := idx_tup (webO_next rfl) rfl (next_at hr)
  have nl := nx_len (rs := rs) (r := r)
  obtain ⟨s1, e1, v5, v6, rfl⟩ := loopF_mapl (g := ni) (bd := turnM (.v 5) (evSs G F (forB (nthS c18 1)))) (kl := [5, 6])
    (fun done s => ∃ v5 v6, s = s18 (webO h rs ro ti) (lotD lot) (so t) r (rowsOf rs lot t r done) v5 v6 c) (nx rs r).length (nx rs r) [] (s18 (webO h rs ro ti) (lotD lot) (so t) r [] none none c) (by simp)
    (fun done m s hm hd ⟨v5, v6, hs⟩ => by
      subst hs
      have b := rowsOf_len (rs := rs) (lot := lot) (t := t) (r := r) (ms := done) l2
      have q := (in_lot (F := F) (a := .v 5) (b := .v 1) (x := m) (l := lot) (s := s18 (webO h rs ro ti) (lotD lot) (so t) r (rowsOf rs lot t r done) (some (.d (.int m))) v6 c) rfl rfl).1
      have tt : forB (nthS c18 1) = .cons (.ife (.cmp .nin (.v 5) (.v 1)) (.cons (nthS (ifT (nthS (forB (nthS c18 1)) 0)) 0) .nil) .nil) .nil := rfl
      rw [rowsOf_snoc, tt]
      by_cases hc : lot.contains m = true
      · rw [hc] at q
        rw [if_pos hc, List.append_nil]
        refine ⟨s18 (webO h rs ro ti) (lotD lot) (so t) r (rowsOf rs lot t r done) (some (.d (.int m))) v6 c, ?_, none, none, rfl⟩
        exact sts_next (ss := .nil) ((ife_f (b := .nil) q).trans sts_nil)
      · rw [Bool.not_eq_true] at hc
        rw [hc] at q
        rw [hc]
        obtain ⟨s2, e2, v6', rfl⟩ := in18 hL (ro := ro) (ti := ti) (h := h) (lot := lot) (t := t) (r := r) (fd := rowsOf rs lot t r done) (v6 := v6) (c := c) l2 (nx_lt hm) (by omega)
        refine ⟨_, sts_next (ss := .nil) ((ife_t (b := .nil) q).trans ((sts_next (ss := .nil) e2).trans sts_nil)), none, none, rfl⟩)
    ⟨none, none, rfl⟩
  have er : runDef G F ⟨4, 7, c18⟩ [webO h rs ro ti, lotD lot, so t, .int r] c = Ev.finish (evSs G F c18 ⟨[some (.d (webO h rs ro ti)), some (.d (lotD lot)), some (.d (so t)), some (.d (.int r)), none, none, none], c⟩) := rfl
  have q0 : evS G F (nthS c18 0) ⟨[some (.d (webO h rs ro ti)), some (.d (lotD lot)), some (.d (so t)), some (.d (.int r)), none, none, none], c⟩ = .ok .next (s18 (webO h rs ro ti) (lotD lot) (so t) r [] none none c) := rfl
  have q1 := (for_val (tg := .v 5) (a := forB (nthS c18 1)) (kl := [5, 6]) a1 rfl).trans e1
  have ec : c18 = .cons (nthS c18 0) (.cons (nthS c18 1) (.cons (.ret (.v 4)) .nil)) := rfl
  rw [er, ec, sts_next q0]
  exact congrArg Ev.finish ((sts_next (ss := .cons (.ret (.v 4)) .nil) q1).trans rfl)
/-! all places -/
def foundTo (rs : List (Nat × Nat)) (lot : List Nat) (t : Bool) (j : Nat) : List Pl := ((List.range' 0 j).filter fun a => !lot.contains a).flatMap fun a => forksP rs lot t a ++ rowsP rs lot t a
theorem found_snoc {rs : List (Nat × Nat)} {lot : List Nat} {t : Bool} {j : Nat} : foundTo rs lot t (j + 1) = foundTo rs lot t j ++ if lot.contains j then [] else forksP rs lot t j ++ rowsP rs lot t j := by
  unfold foundTo
  rw [List.range'_1_concat, List.filter_append, List.flatMap_append, Nat.zero_add]
  congr 1
  by_cases h : lot.contains j = true
  · rw [if_pos h, List.filter_cons_of_neg (by simpa using h)]; rfl
  · rw [if_neg h, List.filter_cons_of_pos (by simpa using h)]; simp
theorem forks_len {rs : List (Nat × Nat)} {lot : List Nat} {t : Bool} {r : Nat} (l2 : rs.length ≤ 24) : (forksP rs lot t r).length ≤ 24 := by
  unfold forksP
  split
  · simp
  · rw [List.length_map]
    exact Nat.le_trans (List.length_filter_le ..) (Nat.le_trans nx_len l2)
theorem rows_len' {rs : List (Nat × Nat)} {lot : List Nat} {t : Bool} {r : Nat} (l2 : rs.length ≤ 24) : (rowsP rs lot t r).length ≤ 576 := by
  have := rowsOf_len (rs := rs) (lot := lot) (t := t) (r := r) (ms := nx rs r) l2
  have := nx_len (rs := rs) (r := r)
  show (rowsOf rs lot t r (nx rs r)).length ≤ 576
  omega
theorem found_len {rs : List (Nat × Nat)} {lot : List Nat} {t : Bool} {j : Nat} (l2 : rs.length ≤ 24) : (foundTo rs lot t j).length ≤ j * 600 := by
  unfold foundTo
  refine Nat.le_trans (fl_len (K := 600) fun m _ => ?_) (Nat.mul_le_mul_right 600 (Nat.le_trans (List.length_filter_le ..) (by simp)))
  have := forks_len (rs := rs) (lot := lot) (t := t) (r := m) l2
  have := rows_len' (rs := rs) (lot := lot) (t := t) (r := m) l2
  rw [List.length_append]
  omega
theorem pl_alk (p q : Pl) : alk (pD p) (pD q) = true := by cases p <;> cases q <;> rfl
theorem pl_fins : ∀ {ps : List Pl}, D.fins dep (ps.map pD) = true
  | [] => rfl
  | p :: ps => by
    rw [List.map_cons]
    unfold D.fins
    rw [pl_fins]
    cases p <;> rfl
theorem pl_all {ps : List Pl} : allAlk (ps.map pD) = true := by
  unfold allAlk
  rw [List.all_eq_true]
  intro d hd
  obtain ⟨p, _, rfl⟩ := List.mem_map.mp hd
  rw [Bool.and_eq_true, List.all_eq_true]
  refine ⟨by cases p <;> rfl, fun e he => ?_⟩
  obtain ⟨q, _, rfl⟩ := List.mem_map.mp he
  exact pl_alk p q
theorem pl_srt {ps : List Pl} : srtOk (ps.map pD) = true := by
  unfold srtOk
  rw [Bool.or_eq_true]
  left
  rw [List.all_eq_true]
  intro d hd
  obtain ⟨p, _, rfl⟩ := List.mem_map.mp hd
  cases p <;> rfl
theorem sorted_eval {e : Ex} {pv : PV} {ps : List Pl} {s s1 : S} (h1 : evX G F e s = .ok pv s1) (v1 : pv.val s1 = some (.lst (ps.map pD))) (hl : ps.length ≤ line) : evX G F (.bi .sorted (.cons e .nil)) s = .ok (.d (.lst (sortD (ps.map pD)))) s1 := by
  show M.bind (M.bind (evX G F e) fun x => M.bind (M.pure []) fun r => M.pure (x :: r)) (fun xs => biM .sorted xs) s = _
  have : biF .sorted [.lst (ps.map pD)] = some (.lst (sortD (ps.map pD))) := by
    show (if (D.fins dep (ps.map pD) && allAlk (ps.map pD) && srtOk (ps.map pD) && decide ((ps.map pD).length ≤ line)) = true then _ else _) = _
    rw [pl_fins, pl_all, pl_srt, List.length_map, decide_eq_true hl]
    rfl
  simp only [M.bind, h1, M.pure, biM, valsOf, v1, Option.map, this]
theorem ext_at {ts zs : List D} (h : ts.length + zs.length ≤ line) : mmF .extend (.lst ts) [.lst zs] = some (.non, .lst (ts ++ zs)) := by
  simp [mmF, h]
def sorted (rs : List (Nat × Nat)) (lot : List Nat) (t : Bool) : List D := sortD ((foundTo rs lot t rs.length).map pD)
end
end Pr

set_option linter.all false
set_option maxRecDepth 100000
set_option maxHeartbeats 2000000
namespace Pr
open PySem Ev
@[simp] theorem ref_web {h : Nat} {rs : List (Nat × Nat)} {ro ti : List Nat} : D.isRef (webO h rs ro ti) = false := (rfl)
@[simp] theorem ref_lot {l : List Nat} : D.isRef (lotD l) = false := (rfl)
@[simp] theorem ref_so {t : Bool} : D.isRef (so t) = false := (rfl)
@[simp] theorem ref_ni {n : Nat} : D.isRef (ni n) = false := (rfl)
@[simp] theorem fld_roads {h : Nat} {rs : List (Nat × Nat)} {ro ti : List Nat} : fldF G 2 (webO h rs ro ti) = some (.tup (rs.map pr)) := (rfl)
@[simp] theorem fld_next {h : Nat} {rs : List (Nat × Nat)} {ro ti : List Nat} : fldF G 5 (webO h rs ro ti) = some (nextD rs) := (rfl)
@[simp] theorem fld_leads {h : Nat} {rs : List (Nat × Nat)} {ro ti : List Nat} : fldF G 6 (webO h rs ro ti) = some (leadD rs) := (rfl)
@[simp] theorem ref_nextD {rs : List (Nat × Nat)} : D.isRef (nextD rs) = false := (rfl)
@[simp] theorem ref_leadD {rs : List (Nat × Nat)} : D.isRef (leadD rs) = false := (rfl)
@[simp] theorem idx_next {rs : List (Nat × Nat)} {r : Nat} (h : r < rs.length) : idxF (nextD rs) (.int r) = some (.tup ((nx rs r).map ni)) := by
  show pickI _ (r : Int) = _
  rw [pickI_nat]
  exact next_at h
@[simp] theorem idx_lead {rs : List (Nat × Nat)} {r : Nat} (h : r < rs.length) : idxF (leadD rs) (.int r) = some (.bl (decide (0 < (nx rs r).length))) := by
  show pickI _ (r : Int) = _
  rw [pickI_nat]
  exact lead_at h
@[simp] theorem inF_lot {x : Nat} {l : List Nat} : inF (.int x) (lotD l) = some (l.contains x) := by
  show (if _ then some ((l.map ni).any fun y => eqB y (.int x)) else none) = _
  rw [ni_fins, ni_any]; rfl
@[simp] theorem inF_lst {x : Nat} {l : List Nat} : inF (.int x) (.lst (l.map ni)) = some (l.contains x) := by
  show (if _ then some ((l.map ni).any fun y => eqB y (.int x)) else none) = _
  rw [ni_fins, ni_any]; rfl
@[simp] theorem inF_tup {x : Nat} {l : List Nat} : inF (.int x) (.tup (l.map ni)) = some (l.contains x) := inF_lot
@[simp] theorem eq_turns {t : Bool} : eqF (so t) (.str "turns") = some t := turns_eq
theorem ni_def {n : Nat} : ni n = .int n := rfl
@[simp] theorem sorted_pls {ps : List Pl} (h : ps.length ≤ line) : biF .sorted [.lst (ps.map pD)] = some (.lst (sortD (ps.map pD))) := by
  show (if (D.fins dep (ps.map pD) && allAlk (ps.map pD) && srtOk (ps.map pD) && decide ((ps.map pD).length ≤ line)) = true then _ else _) = _
  rw [pl_fins, pl_all, pl_srt, List.length_map, decide_eq_true h]
  rfl
section
variable {F : FT}
def PlacesD (F : FT) : Prop := ∀ (h : Nat) (rs : List (Nat × Nat)) (ro ti : List Nat) (lot : List Nat) (t : Bool) (c : List Cell), rs.length ≤ 24 → F 19 [webO h rs ro ti, lotD lot, so t] c = .ok (.lst (sorted rs lot t)) c
theorem placesd_run (hF : ForksF F) (hR : RowsF F) {h : Nat} {rs : List (Nat × Nat)} {ro ti : List Nat} {lot : List Nat} {t : Bool} {c : List Cell} (l2 : rs.length ≤ 24) : runDef G F ⟨3, 5, c19⟩ [webO h rs ro ti, lotD lot, so t] c = .ok (.lst (sorted rs lot t)) c := by
  refine run_to rfl fun K kr kn => ?_
  have ll : rs.length ≤ 1000000 := by omega
  simp [c19, rng_n ll]
  refine runs_seq (P := fun s => s = ⟨[some (.d (webO h rs ro ti)), some (.d (lotD lot)), some (.d (so t)), some (.own (.lst ((foundTo rs lot t rs.length).map pD))), none], c⟩) ?_ ?_
  · intro K1 k1
    refine runs_rng0 (fun (j : Nat) => ⟨[some (.d (webO h rs ro ti)), some (.d (lotD lot)), some (.d (so t)), some (.own (.lst ((foundTo rs lot t j).map pD))), none], c⟩) (fun j b => j = b) 0 rfl ?_ ?_
    · rintro j _ hj rfl K2 k2
      have b1 := found_len (rs := rs) (lot := lot) (t := t) (j := j) l2
      have b2 := forks_len (rs := rs) (lot := lot) (t := t) (r := j) l2
      have b3 := rows_len' (rs := rs) (lot := lot) (t := t) (r := j) l2
      have b4 : j * 600 ≤ 24 * 600 := Nat.mul_le_mul_right 600 (by omega)
      have e1 := hF h rs ro ti lot t j c l2 hj
      have e2 := hR h rs ro ti lot t j c l2 hj
      have n1 : (foundTo rs lot t j).length + (forksP rs lot t j).length ≤ line := by rw [line_eq]; omega
      have n2 : (foundTo rs lot t j).length + (forksP rs lot t j).length + (rowsP rs lot t j).length ≤ line := by rw [line_eq]; omega
      simp [e1, e2, n1, n2]
      refine runs_if (fun hc => k2.nx (j + 1) _ ?_ rfl) fun hc => k2.nx (j + 1) _ ?_ rfl
      · simp at hc
        simp [found_snoc, hc]
      · simp at hc
        simp [found_snoc, hc]
    · rintro b rfl
      exact k1.nx _ rfl
  · rintro s rfl
    have b1 := found_len (rs := rs) (lot := lot) (t := t) (j := rs.length) l2
    have b4 : rs.length * 600 ≤ 24 * 600 := Nat.mul_le_mul_right 600 (by omega)
    have n1 : (foundTo rs lot t rs.length).length ≤ line := by rw [line_eq]; omega
    simp [n1]
    exact kr _ _ _ rfl rfl
end
end Pr

set_option linter.all false
set_option maxRecDepth 100000
set_option maxHeartbeats 2000000
namespace Pr
open PySem Ev
inductive Kd where | told | ends | first | second | queue
  deriving DecidableEq
def kdD : Kd → D
  | .told => .str "told" | .ends => .str "end" | .first => .str "first" | .second => .str "second" | .queue => .str "queue"
@[simp] theorem ref_kd {k : Kd} : D.isRef (kdD k) = false := by cases k <;> rfl
@[simp] theorem con_told : G.con[5]? = some (kdD .told) := (rfl)
@[simp] theorem con_end : G.con[6]? = some (kdD .ends) := (rfl)
@[simp] theorem con_first : G.con[7]? = some (kdD .first) := (rfl)
@[simp] theorem con_second : G.con[8]? = some (kdD .second) := (rfl)
@[simp] theorem con_queue : G.con[9]? = some (kdD .queue) := (rfl)
theorem kd_fin {k : Kd} {n : Nat} : D.fin n (kdD k) = true := by cases k <;> cases n <;> rfl
theorem kd_eqB {a b : Kd} : eqB (kdD a) (kdD b) = decide (a = b) := by cases a <;> cases b <;> decide +kernel
@[simp] theorem eq_kd {a b : Kd} : eqF (kdD a) (kdD b) = some (decide (a = b)) := by
  unfold eqF
  rw [kd_fin, kd_fin, kd_eqB]; rfl
@[simp] theorem in_kdT {a b c : Kd} : inF (kdD a) (.tup [kdD b, kdD c]) = some (decide (a = b) || decide (a = c)) := by
  show (if (D.fin dep (kdD a) && D.fins dep ([b, c].map kdD)) = true then some (([b, c].map kdD).any fun y => eqB y (kdD a)) else none) = _
  rw [kd_fin, fins_map fun _ _ => kd_fin, any_eqB fun _ _ => kd_eqB]
  by_cases h : a = b <;> by_cases h2 : a = c <;> simp [h, h2]
def leadsTo (rs : List (Nat × Nat)) (lot : List Nat) (r : Nat) (told : Bool) : Bool := (nx rs r).any fun x => decide (0 < (nx rs x).length) && decide (lot.contains x = told)
def kindOf (rs : List (Nat × Nat)) (lot : List Nat) (t : Bool) (r : Nat) : Kd := if lot.contains r then .told else if (nx rs r).length = 0 then .ends else if t && leadsTo rs lot r true then .queue else if leadsTo rs lot r false then .first else .second
/-- a road whose kind may not be -/
def badK (rs : List (Nat × Nat)) (lot : List Nat) (t : Bool) (r : Nat) : Bool := (decide (kindOf rs lot t r = .queue) || decide (kindOf rs lot t r = .first)) && (decide (1 < (nx rs r).length) || decide (kindOf rs lot t r = .first) && decide (kindOf rs lot t ((nx rs r).getD 0 0) ≠ .second))
def kindsL (rs : List (Nat × Nat)) (lot : List Nat) (t : Bool) : List Kd := (List.range rs.length).map (kindOf rs lot t)
def kindsD (rs : List (Nat × Nat)) (lot : List Nat) (t : Bool) : D := if (List.range rs.length).any (badK rs lot t) then .non else .tup ((kindsL rs lot t).map kdD)
theorem kindsL_at {rs : List (Nat × Nat)} {lot : List Nat} {t : Bool} {r : Nat} (h : r < rs.length) : (kindsL rs lot t)[r]? = some (kindOf rs lot t r) := by
  unfold kindsL
  rw [List.getElem?_map, List.getElem?_range h]; rfl
theorem lead_nx {rs : List (Nat × Nat)} {lot : List Nat} {r : Nat} {told : Bool} (h : leadsTo rs lot r told = true) : 0 < (nx rs r).length := by
  unfold leadsTo at h
  cases e : nx rs r with
  | nil => rw [e] at h; cases h
  | cons a b => simp
theorem kind_nx {rs : List (Nat × Nat)} {lot : List Nat} {t : Bool} {r : Nat} (h : kindOf rs lot t r = .queue ∨ kindOf rs lot t r = .first) : 0 < (nx rs r).length := by
  unfold kindOf at h
  by_cases z : (nx rs r).length = 0
  · simp only [z, if_true] at h
    split at h <;> simp at h
  · omega
theorem getD_mem {l : List Nat} (h : 0 < l.length) : l.getD 0 0 ∈ l := by
  cases l with
  | nil => cases h
  | cons a b => simp
section
variable {F : FT}
def LeadsF (F : FT) : Prop := ∀ (h : Nat) (rs : List (Nat × Nat)) (ro ti : List Nat) (lot : List Nat) (r : Nat) (told : Bool) (c : List Cell), r < rs.length → F 22 [webO h rs ro ti, lotD lot, .int r, .bl told] c = .ok (.bl (leadsTo rs lot r told)) c
theorem leads_run {h : Nat} {rs : List (Nat × Nat)} {ro ti : List Nat} {lot : List Nat} {r : Nat} {told : Bool} {c : List Cell} (hr : r < rs.length) : runDef G F ⟨4, 5, c22⟩ [webO h rs ro ti, lotD lot, .int r, .bl told] c = .ok (.bl (leadsTo rs lot r told)) c := by
  refine run_to rfl fun K kr kn => ?_
  simp [c22, hr]
  refine runs_seq (P := fun s => s = ⟨[some (.d (webO h rs ro ti)), some (.d (lotD lot)), some (.d (.int r)), some (.d (.bl told)), none], c⟩ ∧ leadsTo rs lot r told = false) ?_ ?_
  · intro K1 k1
    refine runs_for (fun _ => ⟨[some (.d (webO h rs ro ti)), some (.d (lotD lot)), some (.d (.int r)), some (.d (.bl told)), none], c⟩) (fun dn (_ : Unit) => ∀ x ∈ dn, (decide (0 < (nx rs x).length) && decide (lot.contains x = told)) = false) () (by simp) ?_ ?_
    · intro dn x rest _ e hI K2 k2
      have hx : x ∈ nx rs r := by rw [e]; simp
      have lx := nx_lt hx
      simp [ni, lx]
      refine runs_if (fun hc => ?_) fun hc => ?_
      · refine k2.rt _ _ (k1.rt _ _ (kr _ _ _ ?_ rfl))
        simp [leadsTo]
        exact ⟨x, hx, by simpa using hc⟩
      · refine k2.nx () _ rfl fun y hy => ?_
        simp at hy
        rcases hy with hy | rfl
        · simpa using hI y hy
        · simpa using hc
    · intro _ hI
      refine k1.nx _ ⟨rfl, ?_⟩
      simp [leadsTo]
      simpa using hI
  · rintro s ⟨rfl, h0⟩
    simp [h0, kr]
def KindF (F : FT) : Prop := ∀ (h : Nat) (rs : List (Nat × Nat)) (ro ti : List Nat) (lot : List Nat) (t : Bool) (r : Nat) (c : List Cell), r < rs.length → F 23 [webO h rs ro ti, lotD lot, so t, .int r] c = .ok (kdD (kindOf rs lot t r)) c
theorem kind_run (hL : LeadsF F) {h : Nat} {rs : List (Nat × Nat)} {ro ti : List Nat} {lot : List Nat} {t : Bool} {r : Nat} {c : List Cell} (hr : r < rs.length) : runDef G F ⟨4, 4, c23⟩ [webO h rs ro ti, lotD lot, so t, .int r] c = .ok (kdD (kindOf rs lot t r)) c := by
  refine run_to rfl fun K kr kn => ?_
  have e1 := hL h rs ro ti lot r true c hr
  have e2 := hL h rs ro ti lot r false c hr
  simp [c23, hr, e1, e2]
  refine seq_if (fun hc => ?_) fun hc => ?_
  · simp at hc; simp [hc, kindOf, kr]
  simp at hc; simp [hr]
  refine seq_if (fun h1 => ?_) fun h1 => ?_
  · simp at h1; simp [hc, h1, kindOf, kr]
  simp at h1; simp [e1, e2]
  have hne : nx rs r ≠ [] := fun z => by rw [z] at h1; cases h1
  refine seq_if (fun h2 => ?_) fun h2 => ?_
  · simp at h2; simp [hc, h2, hne, kindOf, kr]
  simp [e2]
  have h2' : (t = true → leadsTo rs lot r true = false) := by simpa using h2
  cases h3 : leadsTo rs lot r false <;> simp <;> refine kr _ _ _ ?_ rfl <;> simp [kindOf, hc, hne, h3] <;> rw [if_neg (by simpa using h2')]
def KindsF (F : FT) : Prop := ∀ (h : Nat) (rs : List (Nat × Nat)) (ro ti : List Nat) (lot : List Nat) (t : Bool) (c : List Cell), rs.length ≤ 24 → F 24 [webO h rs ro ti, lotD lot, so t] c = .ok (kindsD rs lot t) c
theorem kinds_run (hK : KindF F) {h : Nat} {rs : List (Nat × Nat)} {ro ti : List Nat} {lot : List Nat} {t : Bool} {c : List Cell} (l2 : rs.length ≤ 24) : runDef G F ⟨3, 7, c24⟩ [webO h rs ro ti, lotD lot, so t] c = .ok (kindsD rs lot t) c := by
  refine run_to rfl fun K kr kn => ?_
  have ll : rs.length ≤ 1000000 := by omega
  simp [c24, rng_n ll]
  rw [lc_map (fun (j : Nat) => kdD (kindOf rs lot t j)) (by simp; exact le_line ll) (fun x hx => by simp [hK h rs ro ti lot t x c (by simpa using hx)])]
  have em : (List.range rs.length).map (fun (j : Nat) => kdD (kindOf rs lot t j)) = (kindsL rs lot t).map kdD := by unfold kindsL; rw [List.map_map]; rfl
  rw [em]
  simp
  refine runs_seq (P := fun s => s = ⟨[some (.d (webO h rs ro ti)), some (.d (lotD lot)), some (.d (so t)), some (.d (.tup ((kindsL rs lot t).map kdD))), none, none, none], c⟩ ∧ (List.range rs.length).any (badK rs lot t) = false) ?_ ?_
  · have ez : (kindsL rs lot t).zipIdx = (List.range rs.length).map fun j => (kindOf rs lot t j, j) := by
      unfold kindsL
      rw [List.zipIdx_map]
      apply List.ext_getElem
      · simp
      · intro i h1 h2
        simp
    rw [ez, List.map_map]
    intro K1 k1
    refine runs_for (α := Nat) (fun _ => ⟨[some (.d (webO h rs ro ti)), some (.d (lotD lot)), some (.d (so t)), some (.d (.tup ((kindsL rs lot t).map kdD))), none, none, none], c⟩) (fun dn (_ : Unit) => ∀ x ∈ dn, badK rs lot t x = false) () (by simp) ?_ ?_
    · intro dn x rest _ e hI K2 k2
      have hx : x ∈ List.range rs.length := by rw [e]; simp
      have lx : x < rs.length := by simpa using hx
      have q0 := @kind_nx rs lot t x
      have q1 : 0 < (nx rs x).length → (nx rs x)[0]? = some ((nx rs x).getD 0 0) := fun h => by
        rw [List.getD_eq_getElem?_getD, List.getElem?_eq_getElem h]; rfl
      have q2 : 0 < (nx rs x).length → (kindsL rs lot t)[(nx rs x).getD 0 0]? = some (kindOf rs lot t ((nx rs x).getD 0 0)) := fun h => kindsL_at (nx_lt (getD_mem h))
      have fin : ∀ b : Bool, b = badK rs lot t x → (b = true → kindsD rs lot t = .non) ∧ (b = false → ∀ y ∈ dn ++ [x], badK rs lot t y = false) := fun b hb => by
        refine ⟨fun h => ?_, fun h y hy => ?_⟩
        · unfold kindsD
          rw [if_pos (List.any_eq_true.mpr ⟨x, hx, by rw [← hb]; exact h⟩)]
        · rcases List.mem_append.mp hy with hy | hy
          · exact hI y hy
          · rw [List.mem_singleton] at hy; subst hy; rw [← hb]; exact h
      simp [lx]
      refine runs_if (fun hc => ?_) fun hc => ?_
      · have hc' : kindOf rs lot t x = .queue ∨ kindOf rs lot t x = .first := by simpa using hc
        have hn := q0 hc'
        have q1 := q1 hn
        have q2 := q2 hn
        generalize hk : (nx rs x).getD 0 0 = k at *
        generalize hs : nx rs x = ns at *
        cases ns with
        | nil => cases hn
        | cons n0 ns =>
          simp at q1
          subst q1
          simp [ni, q2]
          have hb : badK rs lot t x = (decide (1 < ns.length + 1) || decide (kindOf rs lot t x = .first) && decide (kindOf rs lot t n0 ≠ .second)) := by
            unfold badK
            rw [hs, hk]
            have : (decide (kindOf rs lot t x = .queue) || decide (kindOf rs lot t x = .first)) = true := by simpa using hc'
            rw [this]; simp
          have ee : decide (1 < (ns.length : Int) + 1) = decide (1 < ns.length + 1) := decide_eq_decide.mpr (by omega)
          refine runs_if (fun h2 => ?_) fun h2 => ?_
          · refine k2.rt _ _ (k1.rt _ _ (kr _ _ _ ((fin true ?_).1 rfl).symm rfl))
            rw [hb, ← h2, ee]
            simp
          · refine k2.nx () _ rfl ((fin false ?_).2 rfl)
            rw [hb, ← h2, ee]
            simp
      · refine k2.nx () _ rfl ((fin false ?_).2 rfl)
        unfold badK
        rw [hc]; rfl
    · intro _ hI
      refine k1.nx _ ⟨rfl, ?_⟩
      simpa using hI
  · rintro s ⟨rfl, h0⟩
    simp [kindsD, h0, kr]
end
end Pr

set_option linter.all false
set_option maxRecDepth 100000
set_option maxHeartbeats 2000000
namespace Pr
open PySem Ev
/-! the law's own roads and places -/
def nextL (rs : List (Nat × Nat)) : D := .lst (rs.map fun p => .lst ((begs rs p.2).map ni))
def bg (rs : List (Nat × Nat)) : List D := rs.map fun p => ni p.1
theorem bg_at {rs : List (Nat × Nat)} {i : Nat} (h : i < rs.length) : (bg rs)[i]? = some (.int (rs.getD i (0, 0)).1) := by
  unfold bg
  rw [List.getElem?_map, List.getElem?_eq_getElem h, List.getD_eq_getElem?_getD, List.getElem?_eq_getElem h]
  rfl
theorem nextL_at {rs : List (Nat × Nat)} {r : Nat} (h : r < rs.length) : (rs.map fun p => D.lst ((begs rs p.2).map ni))[r]? = some (.lst ((nx rs r).map ni)) := by
  rw [List.getElem?_map, List.getElem?_eq_getElem h]
  unfold nx
  rw [List.getD_eq_getElem?_getD, List.getElem?_eq_getElem h]
  rfl
section
variable {F : FT}
/-- a lot, told as a tuple, a list or a list of the store -/
def LotV (c : List Cell) (l : D) (lot : List Nat) : Prop := l = .tup (lot.map ni) ∨ l = .lst (lot.map ni) ∨ ∃ k, l = .ref k ∧ c[k]? = some (.lst (lot.map ni))
theorem LotV.tup {c : List Cell} {lot : List Nat} : LotV c (lotD lot) lot := .inl rfl
theorem in_lotV {a b : Ex} {s s1 s2 : S} {x : Nat} {l : D} {lot : List Nat} (h1 : evX G F a s = .ok (.d (.int x)) s1) (h2 : evX G F b s1 = .ok (.d l) s2) (hv : LotV s2.cel l lot) : evX G F (.cmp .nin a b) s = .ok (.d (.bl (!lot.contains x))) s2 ∧ evX G F (.cmp .inn a b) s = .ok (.d (.bl (lot.contains x))) s2 := by
  have g1 := ni_fins (l := lot) (n := 60)
  have g2 := ni_any (l := lot) (x := x)
  rcases hv with rfl | rfl | ⟨k, rfl, hk⟩
  · exact in_lot h1 h2
  · constructor
    · refine cmp_eval (dx := .int x) (dy := .lst (lot.map ni)) h1 h2 rfl rfl ?_
      simp only [cmpF, inF, dep, D.fin, g1, g2, Bool.and_self, if_true, Option.map]
    · refine cmp_eval (dx := .int x) (dy := .lst (lot.map ni)) h1 h2 rfl rfl ?_
      simp only [cmpF, inF, dep, D.fin, g1, g2, Bool.and_self, if_true]
  · have v : PV.val s2 (.d (.ref k)) = some (.lst (lot.map ni)) := by
      show (s2.cel[k]?).map Cell.toD = _
      rw [hk]; rfl
    constructor
    · refine cmp_eval (dx := .int x) (dy := .lst (lot.map ni)) h1 h2 rfl v ?_
      simp only [cmpF, inF, dep, D.fin, g1, g2, Bool.and_self, if_true, Option.map]
    · refine cmp_eval (dx := .int x) (dy := .lst (lot.map ni)) h1 h2 rfl v ?_
      simp only [cmpF, inF, dep, D.fin, g1, g2, Bool.and_self, if_true]
def NextsF (F : FT) : Prop := ∀ (h : Nat) (rs : List (Nat × Nat)) (ro ti : List Nat) (c : List Cell), rs.length ≤ 24 → F 35 [wD h rs ro ti] c = .ok (nextL rs) c
def s29 (w : D) (b : D) (fd : List D) (v3 v4 v5 v6 : Option LV) (c : List Cell) : S := ⟨[some (.d w), some (.d b), some (.own (.lst fd)), v3, v4, v5, v6], c⟩
theorem app29 {w b : D} {fd : List D} {v3 v4 v5 v6 : Option LV} {c : List Cell} {L : Ex} {x : D} (hL : evX G F L (s29 w b fd v3 v4 v5 v6 c) = .ok (.d x) (s29 w b fd v3 v4 v5 v6 c)) (hl : fd.length < line) :
    evS G F (.ex (.mm .append (.v 2) (.cons L .nil))) (s29 w b fd v3 v4 v5 v6 c) = .ok .next (s29 w b (fd ++ [x]) v3 v4 v5 v6 c) := by
  have a2 : evDs G F (.cons L .nil) (s29 w b fd v3 v4 v5 v6 c) = .ok [x] (s29 w b fd v3 v4 v5 v6 c) := by
    show M.bind (evX G F L) (fun x => M.bind x.store fun d => M.bind (M.pure []) fun r => M.pure (d :: r)) (s29 w b fd v3 v4 v5 v6 c) = _
    simp only [M.bind, hL, PV.store, M.pure]
  exact ex_eval (mm_eval (m := .append) (o := .v 2) (s := s29 w b fd v3 v4 v5 v6 c) (pv := .own 2) (l := .sl 2) rfl rfl rfl a2 rfl (app_at hl))
theorem row29 {w : D} {rs : List (Nat × Nat)} {e : Nat} {fd : List D} {v3 v5 : Option LV} {c : List Cell} (l2 : rs.length ≤ 24) :
    evX G F (.lc (.v 6) (.v 6) (.rng1 (.bi .len (.cons (.v 1) .nil))) (.cons (.cmp .eq (.idx (.v 1) (.v 6)) (.v 4)) .nil) [6]) (s29 w (.lst (bg rs)) fd v3 (some (.d (.int e))) v5 none c) = .ok (.d (.lst ((begs rs e).map ni))) (s29 w (.lst (bg rs)) fd v3 (some (.d (.int e))) v5 none c) := by
  have bl : (bg rs).length = rs.length := by simp [bg]
  have hl : evX G F (.bi .len (.cons (.v 1) .nil)) (s29 w (.lst (bg rs)) fd v3 (some (.d (.int e))) v5 none c) = .ok (.d (.int rs.length)) (s29 w (.lst (bg rs)) fd v3 (some (.d (.int e))) v5 none c) := by
    rw [← bl]
    generalize bg rs = bs
    simp [runDef, evSs, evS, evX, evAnd, evOr, evDs, evPs, evQs, evIt, M.bind, M.pure, varM, Ev.S.loc1, two, one, PV.val, Cell.toD, idxF, pickI, ixN, cmpF, eqF, ltF, D.fin, dep, eqB, ltB, alk, nonB, toB, biM, valsOf, biF, D.len, Ev.finish, Exs.isNil, asgIM, asgOM, thaw, Ev.S.get, Ev.S.put, PV.lo, PV.store, bindM, bindT, bindTs, M.of, binF, doCall, endC, lstM, doMm, mmF, turnM, isLoop, s29]
  obtain ⟨ts, s2, e2, f, v, rfl⟩ := lcq_run (G := G) (F := F) (g := fun (j : Nat) => D.int (j : Int)) (tg := .v 6) (own := [6]) (elt := .v 6) (q := .cmp .eq (.idx (.v 1) (.v 6)) (.v 4))
    (fun s => ∃ v, s = s29 w (.lst (bg rs)) fd v3 (some (.d (.int e))) v5 v c) (fun x t => t = ni x) (fun i => decide ((rs.getD i (0, 0)).1 = e)) (it_rng1 hl (rng_nat (by omega))) (by rw [line_eq, List.length_range']; omega) ⟨none, rfl⟩
    (fun x hx s ⟨v, hs⟩ => by
      subst hs
      rw [List.mem_range'_1] at hx
      refine ⟨s29 w (.lst (bg rs)) fd v3 (some (.d (.int e))) v5 (some (.d (.int x))) c, s29 w (.lst (bg rs)) fd v3 (some (.d (.int e))) v5 (some (.d (.int x))) c, rfl, ?_, fun _ => ⟨_, rfl⟩, fun _ => ⟨_, _, rfl, rfl, _, rfl⟩⟩
      have i1 := idx_lst (F := F) (a := .v 1) (b := .v 6) (n := x) (s := s29 w (.lst (bg rs)) fd v3 (some (.d (.int e))) v5 (some (.d (.int x))) c) rfl rfl (bg_at (show x < rs.length by omega))
      refine cmp_eval i1 rfl rfl rfl ?_
      simp only [cmpF, eqF, D.fin, Bool.and_self, if_true, eqI])
  have e3 := f.eq_map
  have e3 : ts = (begs rs e).map ni := e3
  subst e3
  exact e2
theorem nexts_run {h : Nat} {rs : List (Nat × Nat)} {ro ti : List Nat} {c : List Cell} (l2 : rs.length ≤ 24) : runDef G F ⟨1, 7, c35⟩ [wD h rs ro ti] c = .ok (nextL rs) c := by
  have er : runDef G F ⟨1, 7, c35⟩ [wD h rs ro ti] c = Ev.finish (evSs G F c35 ⟨[some (.d (wD h rs ro ti)), none, none, none, none, none, none], c⟩) := rfl
  have a1 : ∀ s : S, s.loc1 0 = some (.d (wD h rs ro ti)) → evX G F (.idx (.v 0) (.int 1)) s = .ok (.d (.tup (rs.map pr))) s := fun s hs => by
    have v : evX G F (.v 0) s = .ok (.d (wD h rs ro ti)) s := by
      show varM 0 s = _
      unfold varM; rw [hs]
    exact idx_tup (n := 1) v rfl rfl
  generalize wD h rs ro ti = w at *
  obtain ⟨ts, s2, e2, f, v, rfl⟩ := lc_run (G := G) (F := F) (g := pr) (xs := rs) (it := .val (.idx (.v 0) (.int 1))) (tg := .v 5) (own := [5]) (elt := .idx (.v 5) (.int 0)) (s := ⟨[some (.d w), none, none, none, none, none, none], c⟩)
    (fun s => ∃ v, s = ⟨[some (.d w), none, none, none, none, v, none], c⟩) (fun p t => t = ni p.1) (it_val (a1 _ rfl) rfl) (by rw [line_eq]; omega) ⟨none, rfl⟩
    (fun p hp s ⟨v, hs⟩ => by
      subst hs
      refine ⟨⟨[some (.d w), none, none, none, none, some (.d (pr p)), none], c⟩, _, ⟨[some (.d w), none, none, none, none, some (.d (pr p)), none], c⟩, rfl, ?_, rfl, _, rfl⟩
      simp [runDef, evSs, evS, evX, evAnd, evOr, evDs, evPs, evQs, evIt, M.bind, M.pure, varM, Ev.S.loc1, two, one, PV.val, Cell.toD, idxF, pickI, ixN, cmpF, eqF, ltF, D.fin, dep, eqB, ltB, alk, nonB, toB, biM, valsOf, biF, D.len, Ev.finish, Exs.isNil, asgIM, asgOM, thaw, Ev.S.get, Ev.S.put, PV.lo, PV.store, bindM, bindT, bindTs, M.of, binF, doCall, endC, lstM, doMm, mmF, turnM, isLoop, pr, ni])
  have e3 := f.eq_map
  have e3 : ts = bg rs := e3
  subst e3
  have q0 : evS G F (nthS c35 0) ⟨[some (.d w), none, none, none, none, none, none], c⟩ = .ok .next ⟨[some (.d w), some (.d (.lst (bg rs))), none, none, none, none, none], c⟩ := asg_eval (t := .v 1) e2 rfl
  have q1 : evS G F (nthS c35 1) ⟨[some (.d w), some (.d (.lst (bg rs))), none, none, none, none, none], c⟩ = .ok .next (s29 w (.lst (bg rs)) [] none none none none c) := rfl
  obtain ⟨s1, e1, v3, v4, rfl⟩ := loopF_mapl (g := pr) (bd := turnM (.tup (.cons (.v 3) (.cons (.v 4) .nil))) (evSs G F (forB (nthS c35 2)))) (kl := [3, 4])
    (fun done s => ∃ v3 v4, s = s29 w (.lst (bg rs)) (done.map fun p => .lst ((begs rs p.2).map ni)) v3 v4 none none c) rs.length rs [] (s29 w (.lst (bg rs)) [] none none none none c) (by simp)
    (fun done p s hp hd ⟨v3, v4, hs⟩ => by
      subst hs
      have q := app29 (row29 (F := F) (w := w) (rs := rs) (e := p.2) (fd := done.map fun p => .lst ((begs rs p.2).map ni)) (v3 := some (.d (.int p.1))) (v5 := none) (c := c) l2) (by rw [line_eq, List.length_map]; omega)
      rw [List.map_append]
      have tt : forB (nthS c35 2) = .cons (.ex (.mm .append (.v 2) (.cons (.lc (.v 6) (.v 6) (.rng1 (.bi .len (.cons (.v 1) .nil))) (.cons (.cmp .eq (.idx (.v 1) (.v 6)) (.v 4)) .nil) [6]) .nil))) .nil := rfl
      rw [tt]
      generalize hL : Ex.lc (.v 6) (.v 6) (.rng1 (.bi .len (.cons (.v 1) .nil))) (.cons (.cmp .eq (.idx (.v 1) (.v 6)) (.v 4)) .nil) [6] = L at *
      generalize hfd : (done.map fun p => D.lst ((begs rs p.2).map ni)) = fd at *
      have e2 := (sts_next (ss := .nil) q).trans sts_nil
      have e3 := (turn_of (tg := .tup (.cons (.v 3) (.cons (.v 4) .nil))) (bd := evSs G F (.cons (.ex (.mm .append (.v 2) (.cons L .nil))) .nil)) (x := pr p) (s := s29 w (.lst (bg rs)) fd v3 v4 none none c) (s1 := s29 w (.lst (bg rs)) fd (some (.d (.int p.1))) (some (.d (.int p.2))) none none c) rfl).trans e2
      exact ⟨_, e3, none, none, rfl⟩)
    ⟨none, none, rfl⟩
  have q2 := (for_val (e := .idx (.v 0) (.int 1)) (tg := .tup (.cons (.v 3) (.cons (.v 4) .nil))) (a := forB (nthS c35 2)) (kl := [3, 4]) (a1 (s29 w (.lst (bg rs)) [] none none none none c) rfl) rfl).trans e1
  have ec : c35 = .cons (nthS c35 0) (.cons (nthS c35 1) (.cons (nthS c35 2) (.cons (.ret (.v 2)) .nil))) := rfl
  rw [er, ec, sts_next q0, sts_next q1]
  exact congrArg Ev.finish ((sts_next (ss := .cons (.ret (.v 2)) .nil) q2).trans rfl)
def MayF (F : FT) : Prop := ∀ (rs : List (Nat × Nat)) (lot : List Nat) (l : D) (t : Bool) (r : Nat) (c : List Cell), LotV c l lot → r < rs.length → F 36 [nextL rs, l, so t, .int r] c = .ok (.bl (lastP rs lot t r)) c
theorem may_run {rs : List (Nat × Nat)} {lot : List Nat} {l : D} {t : Bool} {r : Nat} {c : List Cell} (hv : LotV c l lot) (hr : r < rs.length) : runDef G F ⟨4, 4, c36⟩ [nextL rs, l, so t, .int r] c = .ok (.bl (lastP rs lot t r)) c := by
  have a1 : evX G F (.idx (.v 0) (.v 3)) ⟨[some (.d (nextL rs)), some (.d (l)), some (.d (so t)), some (.d (.int r))], c⟩ = .ok (.d (.lst ((nx rs r).map ni))) ⟨[some (.d (nextL rs)), some (.d (l)), some (.d (so t)), some (.d (.int r))], c⟩ := idx_lst (xs := rs.map fun p => .lst ((begs rs p.2).map ni)) rfl rfl (nextL_at hr)
  have a2 : evX G F (.cmp .eq (.v 2) (.str "turns")) ⟨[some (.d (nextL rs)), some (.d (l)), some (.d (so t)), some (.d (.int r))], c⟩ = .ok (.d (.bl t)) ⟨[some (.d (nextL rs)), some (.d (l)), some (.d (so t)), some (.d (.int r))], c⟩ := cmp_eval (dx := so t) rfl rfl rfl rfl turns_eq
  have a3 := (in_lotV (F := F) (lot := lot) (a := .v 3) (b := .v 1) (s := ⟨[some (.d (nextL rs)), some (.d (l)), some (.d (so t)), some (.d (.int r))], c⟩) rfl rfl hv).1
  generalize hs : (⟨[some (.d (nextL rs)), some (.d (l)), some (.d (so t)), some (.d (.int r))], c⟩ : S) = s at *
  have a4 : evX G F (.cmp .eq (.bi .len (.cons (.idx (.v 0) (.v 3)) .nil)) (.int 0)) s = .ok (.d (.bl (decide ((nx rs r).length = 0)))) s := by
    generalize nx rs r = ns at *
    have k : evX G F (.bi .len (.cons (.idx (.v 0) (.v 3)) .nil)) s = .ok (.d (.int ns.length)) s := by
      show M.bind (M.bind (evX G F (.idx (.v 0) (.v 3))) fun x => M.bind (M.pure []) fun r => M.pure (x :: r)) (fun xs => biM .len xs) _ = _
      simp only [M.bind, a1, M.pure, biM, valsOf, PV.val, Option.map, biF, D.len, List.length_map]
      rfl
    refine cmp_eval k rfl rfl rfl ?_
    have := eqI ns.length 0
    simp only [cmpF, eqF, D.fin, Bool.and_self, if_true]
    exact congrArg some this
  have a5 : evX G F (.or (.cons (.cmp .eq (.v 2) (.str "turns")) (.cons (.cmp .nin (.v 3) (.v 1)) .nil))) s = .ok (.d (.bl (t || !lot.contains r))) s := by
    rw [or_eq, or2 a2, or1, a3]
    cases t <;> rfl
  have er : runDef G F ⟨4, 4, c36⟩ [nextL rs, l, so t, .int r] c = Ev.finish (evSs G F c36 s) := by rw [← hs]; rfl
  have ec : c36 = .cons (.ife (.cmp .eq (.bi .len (.cons (.idx (.v 0) (.v 3)) .nil)) (.int 0)) (.cons (.ret (.bl false)) .nil) .nil) (.cons (.ret (.or (.cons (.cmp .eq (.v 2) (.str "turns")) (.cons (.cmp .nin (.v 3) (.v 1)) .nil)))) .nil) := rfl
  have hcel : s.cel = c := by rw [← hs]
  rw [er, ec]
  unfold lastP
  by_cases g : (nx rs r).length = 0
  · rw [decide_eq_true g] at a4
    rw [decide_eq_false (show ¬ (0 < (nx rs r).length) by omega), Bool.false_and]
    refine (congrArg Ev.finish (sts_ret ((ife_t a4).trans (sts_ret (ss := .nil) (ret_eval (e := .bl false) (x := .bl false) rfl))))).trans ?_
    rw [← hcel]; rfl
  · rw [decide_eq_false g] at a4
    rw [decide_eq_true (show 0 < (nx rs r).length by omega), Bool.true_and]
    refine (congrArg Ev.finish ((sts_next ((ife_f a4).trans sts_nil)).trans (sts_ret (ss := .nil) (ret_eval a5)))).trans ?_
    rw [← hcel]; rfl
end
end Pr

set_option linter.all false
set_option maxRecDepth 100000
set_option maxHeartbeats 2000000
namespace Pr
open PySem Ev
/-! the law's places -/
def sil (rs : List (Nat × Nat)) (lot : List Nat) : List Nat := (List.range' 0 rs.length).filter fun a => !lot.contains a
def forksL (rs : List (Nat × Nat)) (lot : List Nat) (t : Bool) (a : Nat) (bs : List Nat) : List Pl := (bs.filter fun b => lastP rs lot t b && decide (1 < (nx rs a).length)).map (Pl.fork a)
def rowsL (rs : List (Nat × Nat)) (lot : List Nat) (t : Bool) (a : Nat) (ms : List Nat) : List Pl := ms.flatMap fun m => ((nx rs m).filter (lastP rs lot t)).map (Pl.row a m)
def foundL (rs : List (Nat × Nat)) (lot : List Nat) (t : Bool) : List Pl := (sil rs lot).flatMap (fun a => forksL rs lot t a (nx rs a)) ++ (sil rs lot).flatMap fun a => rowsL rs lot t a ((nx rs a).filter fun m => (sil rs lot).contains m)
theorem sil_lt {rs : List (Nat × Nat)} {lot : List Nat} {a : Nat} (h : a ∈ sil rs lot) : a < rs.length := by
  have := (List.mem_filter.mp h).1
  rw [List.mem_range'_1] at this
  omega
theorem sil_len {rs : List (Nat × Nat)} {lot : List Nat} : (sil rs lot).length ≤ rs.length := by
  have := List.length_filter_le (fun a => !lot.contains a) (List.range' 0 rs.length)
  rw [List.length_range'] at this
  exact this
section
variable {F : FT}
def s31 (nd l s : D) (fd : List Pl) (v4 v5 v6 v7 v8 : Option LV) (c : List Cell) : S := ⟨[some (.d nd), some (.d l), some (.d s), some (.own (.lst (fd.map pD))), v4, v5, v6, v7, v8], c⟩
theorem app31 {nd l sd : D} {fd : List Pl} {p : Pl} {v4 v5 v6 v7 v8 : Option LV} {c : List Cell} {L : Ex} (hL : evX G F L (s31 nd l sd fd v4 v5 v6 v7 v8 c) = .ok (.d (pD p)) (s31 nd l sd fd v4 v5 v6 v7 v8 c)) (hl : fd.length < line) :
    evS G F (.ex (.mm .append (.v 3) (.cons L .nil))) (s31 nd l sd fd v4 v5 v6 v7 v8 c) = .ok .next (s31 nd l sd (fd ++ [p]) v4 v5 v6 v7 v8 c) := by
  have a2 : evDs G F (.cons L .nil) (s31 nd l sd fd v4 v5 v6 v7 v8 c) = .ok [pD p] (s31 nd l sd fd v4 v5 v6 v7 v8 c) := by
    show M.bind (evX G F L) (fun x => M.bind x.store fun d => M.bind (M.pure []) fun r => M.pure (d :: r)) (s31 nd l sd fd v4 v5 v6 v7 v8 c) = _
    simp only [M.bind, hL, PV.store, M.pure]
  have m := mm_eval (m := .append) (o := .v 3) (s := s31 nd l sd fd v4 v5 v6 v7 v8 c) (pv := .own 3) (l := .sl 3) rfl rfl rfl a2 rfl (app_at (ts := fd.map pD) (by simpa using hl))
  have e : fd.map pD ++ [pD p] = (fd ++ [p]).map pD := by rw [List.map_append]; rfl
  rw [e] at m
  exact ex_eval m
theorem next31 {rs : List (Nat × Nat)} {a : Ex} {r : Nat} {s s1 : S} (h0 : s.loc1 0 = some (.d (nextL rs))) (h1 : evX G F a s = .ok (.d (.int r)) s1) (hr : r < rs.length) : evX G F (.idx (.v 0) a) s = .ok (.d (.lst ((nx rs r).map ni))) s1 := by
  have v : evX G F (.v 0) s = .ok (.d (.lst (rs.map fun p => .lst ((begs rs p.2).map ni)))) s := by
    show varM 0 s = _
    unfold varM; rw [h0]; rfl
  exact idx_lst (xs := rs.map fun p => .lst ((begs rs p.2).map ni)) v h1 (nextL_at hr)
/-- forks -/
theorem fork31 (hM : MayF F) {rs : List (Nat × Nat)} {lot : List Nat} {l : D} {t : Bool} {a : Nat} {fd : List Pl} {v4 v6 : Option LV} {c : List Cell} (hv : LotV c l lot) (l2 : rs.length ≤ 24) (ha : a < rs.length) (hf : fd.length ≤ 20000) :
    ∃ s1, evS G F (nthS (forB (nthS c37 2)) 0) (s31 (nextL rs) l (so t) fd v4 (some (.d (.int a))) v6 none none c) = .ok .next (wipe [6] s1) ∧ ∃ v6, s1 = s31 (nextL rs) l (so t) (fd ++ forksL rs lot t a (nx rs a)) v4 (some (.d (.int a))) v6 none none c := by
  have nl := nx_len (rs := rs) (r := a)
  have tt : forB (nthS (forB (nthS c37 2)) 0) = .cons (.ife (.and (.cons (.call .plain 36 (.cons (.v 0) (.cons (.v 1) (.cons (.v 2) (.cons (.v 6) .nil))))) (.cons (.cmp .gt (.bi .len (.cons (.idx (.v 0) (.v 5)) .nil)) (.int 1)) .nil))) (.cons (.ex (.mm .append (.v 3) (.cons (.tup (.cons (.str "fork") (.cons (.v 5) (.cons (.v 6) .nil)))) .nil))) .nil) .nil) .nil := rfl
  obtain ⟨s1, e1, v6', rfl⟩ := loopF_mapl (g := ni) (bd := turnM (.v 6) (evSs G F (forB (nthS (forB (nthS c37 2)) 0)))) (kl := [6])
    (fun done s => ∃ v6, s = s31 (nextL rs) l (so t) (fd ++ forksL rs lot t a done) v4 (some (.d (.int a))) v6 none none c) (nx rs a).length (nx rs a) [] (s31 (nextL rs) l (so t) fd v4 (some (.d (.int a))) v6 none none c) (by simp)
    (fun done x s hx hd ⟨v6, hs⟩ => by
      subst hs
      have e := hM rs lot l t x c hv (nx_lt hx)
      have b : (forksL rs lot t a done).length ≤ done.length := by
        unfold forksL; rw [List.length_map]; exact List.length_filter_le ..
      have sp : forksL rs lot t a (done ++ [x]) = forksL rs lot t a done ++ if (lastP rs lot t x && decide (1 < (nx rs a).length)) = true then [.fork a x] else [] := by
        unfold forksL
        rw [List.filter_append, List.map_append]
        congr 1
        by_cases h : (lastP rs lot t x && decide (1 < (nx rs a).length)) = true
        · rw [if_pos h]
          simp only [List.filter_cons, h, if_true, List.filter_nil, List.map_cons, List.map_nil]
        · rw [if_neg h]
          rw [Bool.not_eq_true] at h
          simp only [List.filter_cons, h, Bool.false_eq_true, if_false, List.filter_nil, List.map_nil]
      rw [sp, ← List.append_assoc, tt]
      generalize hfd : fd ++ forksL rs lot t a done = fd'
      have hfl : fd'.length < line := by rw [← hfd, line_eq, List.length_append]; omega
      have i1 := next31 (F := F) (rs := rs) (a := .v 5) (r := a) (s := s31 (nextL rs) l (so t) fd' v4 (some (.d (.int a))) (some (.d (.int x))) none none c) rfl rfl ha
      have k1 : evX G F (.bi .len (.cons (.idx (.v 0) (.v 5)) .nil)) (s31 (nextL rs) l (so t) fd' v4 (some (.d (.int a))) (some (.d (.int x))) none none c) = .ok (.d (.int (nx rs a).length)) (s31 (nextL rs) l (so t) fd' v4 (some (.d (.int a))) (some (.d (.int x))) none none c) := by
        show M.bind (M.bind (evX G F (.idx (.v 0) (.v 5))) fun x => M.bind (M.pure []) fun r => M.pure (x :: r)) (fun xs => biM .len xs) _ = _
        simp only [M.bind, i1, M.pure, biM, valsOf, PV.val, Option.map, biF, D.len, List.length_map]
        rfl
      have k2 : evX G F (.cmp .gt (.bi .len (.cons (.idx (.v 0) (.v 5)) .nil)) (.int 1)) (s31 (nextL rs) l (so t) fd' v4 (some (.d (.int a))) (some (.d (.int x))) none none c) = .ok (.d (.bl (decide (1 < (nx rs a).length)))) (s31 (nextL rs) l (so t) fd' v4 (some (.d (.int a))) (some (.d (.int x))) none none c) := by
        refine cmp_eval k1 rfl rfl rfl ?_
        show ltF (.int 1) (.int ((nx rs a).length : Nat)) = _
        generalize (nx rs a).length = n
        simp only [ltF, D.fin, alk, nonB, Bool.and_self, Bool.not_false, if_true, ltB]
        by_cases h : 1 < n
        · rw [decide_eq_true (show (1 : Int) < n by omega), decide_eq_true h]
        · rw [decide_eq_false (show ¬ (1 : Int) < n by omega), decide_eq_false h]
      have k3 := call_plain (G := G) (F := F) (f := 36) (es := .cons (.v 0) (.cons (.v 1) (.cons (.v 2) (.cons (.v 6) .nil)))) (s := s31 (nextL rs) l (so t) fd' v4 (some (.d (.int a))) (some (.d (.int x))) none none c) rfl e
      have k4 : evX G F (.and (.cons (.call .plain 36 (.cons (.v 0) (.cons (.v 1) (.cons (.v 2) (.cons (.v 6) .nil))))) (.cons (.cmp .gt (.bi .len (.cons (.idx (.v 0) (.v 5)) .nil)) (.int 1)) .nil))) (s31 (nextL rs) l (so t) fd' v4 (some (.d (.int a))) (some (.d (.int x))) none none c) = .ok (.d (.bl (lastP rs lot t x && decide (1 < (nx rs a).length)))) (s31 (nextL rs) l (so t) fd' v4 (some (.d (.int a))) (some (.d (.int x))) none none c) := by
        rw [and_eq, and2 k3, and1]
        cases lastP rs lot t x
        · rfl
        · exact k2
      by_cases h : (lastP rs lot t x && decide (1 < (nx rs a).length)) = true
      · rw [h] at k4
        rw [if_pos h]
        have k5 := app31 (F := F) (p := .fork a x) (fd := fd') (nd := nextL rs) (l := l) (sd := so t) (v4 := v4) (v5 := some (.d (.int a))) (v6 := some (.d (.int x))) (v7 := none) (v8 := none) (c := c) (L := .tup (.cons (.str "fork") (.cons (.v 5) (.cons (.v 6) .nil)))) (by
          generalize nextL rs = nd
          simp [runDef, evSs, evS, evX, evAnd, evOr, evDs, evPs, evQs, evIt, M.bind, M.pure, varM, Ev.S.loc1, two, one, PV.val, Cell.toD, idxF, pickI, ixN, cmpF, eqF, ltF, D.fin, dep, eqB, ltB, alk, nonB, toB, biM, valsOf, biF, D.len, Ev.finish, Exs.isNil, asgIM, asgOM, thaw, Ev.S.get, Ev.S.put, PV.lo, PV.store, bindM, bindT, bindTs, M.of, binF, doCall, endC, lstM, doMm, mmF, turnM, isLoop, s31, pD, line_eq]) hfl
        exact ⟨_, (sts_next (ss := .nil) ((ife_t (b := .nil) k4).trans ((sts_next (ss := .nil) k5).trans sts_nil))).trans sts_nil, none, rfl⟩
      · rw [Bool.not_eq_true] at h
        rw [h] at k4
        rw [h, if_neg (by simp), List.append_nil]
        exact ⟨_, (sts_next (ss := .nil) ((ife_f (b := .nil) k4).trans sts_nil)).trans sts_nil, none, rfl⟩)
    ⟨v6, by simp [forksL]⟩
  rw [List.nil_append] at e1
  have i0 := next31 (F := F) (rs := rs) (a := .v 5) (r := a) (s := s31 (nextL rs) l (so t) fd v4 (some (.d (.int a))) v6 none none c) rfl rfl ha
  exact ⟨_, (for_val i0 rfl).trans e1, v6', rfl⟩
/-- rows -/
theorem row31 (hM : MayF F) {rs : List (Nat × Nat)} {lot : List Nat} {l : D} {t : Bool} {a m : Nat} {fd : List Pl} {v4 v6 : Option LV} {c : List Cell} (hv : LotV c l lot) (l2 : rs.length ≤ 24) (hm : m < rs.length) (hf : fd.length ≤ 40000) :
    ∃ s1, evS G F (nthS (forB (nthS (forB (nthS c37 3)) 0)) 0) (s31 (nextL rs) l (so t) fd v4 (some (.d (.int a))) v6 (some (.d (.int m))) none c) = .ok .next (wipe [6] s1) ∧ ∃ v6, s1 = s31 (nextL rs) l (so t) (fd ++ ((nx rs m).filter (lastP rs lot t)).map (Pl.row a m)) v4 (some (.d (.int a))) v6 (some (.d (.int m))) none c := by
  have nl := nx_len (rs := rs) (r := m)
  have tt : forB (nthS (forB (nthS (forB (nthS c37 3)) 0)) 0) = .cons (.ife (.call .plain 36 (.cons (.v 0) (.cons (.v 1) (.cons (.v 2) (.cons (.v 6) .nil))))) (.cons (.ex (.mm .append (.v 3) (.cons (.tup (.cons (.str "row") (.cons (.v 5) (.cons (.v 7) (.cons (.v 6) .nil))))) .nil))) .nil) .nil) .nil := rfl
  obtain ⟨s1, e1, v6', rfl⟩ := loopF_mapl (g := ni) (bd := turnM (.v 6) (evSs G F (forB (nthS (forB (nthS (forB (nthS c37 3)) 0)) 0)))) (kl := [6])
    (fun done s => ∃ v6, s = s31 (nextL rs) l (so t) (fd ++ (done.filter (lastP rs lot t)).map (Pl.row a m)) v4 (some (.d (.int a))) v6 (some (.d (.int m))) none c) (nx rs m).length (nx rs m) [] (s31 (nextL rs) l (so t) fd v4 (some (.d (.int a))) v6 (some (.d (.int m))) none c) (by simp)
    (fun done x s hx hd ⟨v6, hs⟩ => by
      subst hs
      have e := hM rs lot l t x c hv (nx_lt hx)
      have b := List.length_filter_le (lastP rs lot t) done
      rw [List.filter_append, List.map_append, ← List.append_assoc, tt]
      generalize hfd : fd ++ (done.filter (lastP rs lot t)).map (Pl.row a m) = fd'
      have hfl : fd'.length < line := by rw [← hfd, line_eq, List.length_append, List.length_map]; omega
      have k3 := call_plain (G := G) (F := F) (f := 36) (es := .cons (.v 0) (.cons (.v 1) (.cons (.v 2) (.cons (.v 6) .nil)))) (s := s31 (nextL rs) l (so t) fd' v4 (some (.d (.int a))) (some (.d (.int x))) (some (.d (.int m))) none c) rfl e
      by_cases h : lastP rs lot t x = true
      · rw [h] at k3
        have k5 := app31 (F := F) (p := .row a m x) (fd := fd') (nd := nextL rs) (l := l) (sd := so t) (v4 := v4) (v5 := some (.d (.int a))) (v6 := some (.d (.int x))) (v7 := some (.d (.int m))) (v8 := none) (c := c) (L := .tup (.cons (.str "row") (.cons (.v 5) (.cons (.v 7) (.cons (.v 6) .nil))))) (by
          generalize nextL rs = nd
          simp [runDef, evSs, evS, evX, evAnd, evOr, evDs, evPs, evQs, evIt, M.bind, M.pure, varM, Ev.S.loc1, two, one, PV.val, Cell.toD, idxF, pickI, ixN, cmpF, eqF, ltF, D.fin, dep, eqB, ltB, alk, nonB, toB, biM, valsOf, biF, D.len, Ev.finish, Exs.isNil, asgIM, asgOM, thaw, Ev.S.get, Ev.S.put, PV.lo, PV.store, bindM, bindT, bindTs, M.of, binF, doCall, endC, lstM, doMm, mmF, turnM, isLoop, s31, pD, line_eq]) hfl
        rw [List.filter_cons_of_pos h]
        exact ⟨_, (sts_next (ss := .nil) ((ife_t (b := .nil) k3).trans ((sts_next (ss := .nil) k5).trans sts_nil))).trans sts_nil, none, rfl⟩
      · rw [List.filter_cons_of_neg h, List.filter_nil, List.map_nil, List.append_nil]
        rw [Bool.not_eq_true] at h
        rw [h] at k3
        exact ⟨_, (sts_next (ss := .nil) ((ife_f (b := .nil) k3).trans sts_nil)).trans sts_nil, none, rfl⟩)
    ⟨v6, by simp⟩
  rw [List.nil_append] at e1
  have i0 := next31 (F := F) (rs := rs) (a := .v 7) (r := m) (s := s31 (nextL rs) l (so t) fd v4 (some (.d (.int a))) v6 (some (.d (.int m))) none c) rfl rfl hm
  exact ⟨_, (for_val i0 rfl).trans e1, v6', rfl⟩
end
end Pr

set_option linter.all false
set_option maxRecDepth 100000
set_option maxHeartbeats 2000000
namespace Pr
open PySem Ev
theorem fm_perm {α β : Type} {f g : α → List β} : ∀ {l : List α}, (l.flatMap fun a => f a ++ g a).Perm (l.flatMap f ++ l.flatMap g)
  | [] => .nil
  | a :: l => by
    rw [List.flatMap_cons, List.flatMap_cons, List.flatMap_cons, List.append_assoc, List.append_assoc]
    refine List.Perm.append_left _ ?_
    refine (List.Perm.append_left _ fm_perm).trans ?_
    exact List.perm_append_comm_assoc ..
theorem forks_eq {rs : List (Nat × Nat)} {lot : List Nat} {t : Bool} {a : Nat} : forksP rs lot t a = forksL rs lot t a (nx rs a) := by
  unfold forksP forksL
  by_cases h : (nx rs a).length < 2
  · rw [if_pos h]
    have : ((nx rs a).filter fun b => lastP rs lot t b && decide (1 < (nx rs a).length)) = [] := by
      rw [List.filter_eq_nil_iff]
      intro b _
      rw [decide_eq_false (show ¬ 1 < (nx rs a).length by omega), Bool.and_false]
      simp
    rw [this]; rfl
  · rw [if_neg h]
    congr 1
    apply List.filter_congr
    intro b _
    rw [decide_eq_true (show 1 < (nx rs a).length by omega), Bool.and_true]
theorem sil_has {rs : List (Nat × Nat)} {lot : List Nat} {m : Nat} (hm : m < rs.length) : (sil rs lot).contains m = !lot.contains m := by
  rw [Bool.eq_iff_iff, List.contains_iff_mem]
  unfold sil
  rw [List.mem_filter, List.mem_range'_1]
  constructor
  · exact fun h => h.2
  · exact fun h => ⟨by omega, h⟩
theorem rows_eq {rs : List (Nat × Nat)} {lot : List Nat} {t : Bool} {a : Nat} : rowsP rs lot t a = rowsL rs lot t a ((nx rs a).filter fun m => (sil rs lot).contains m) := by
  unfold rowsP rowsL
  congr 1
  apply List.filter_congr
  intro m hm
  rw [sil_has (nx_lt hm)]
theorem found_perm {rs : List (Nat × Nat)} {lot : List Nat} {t : Bool} : (foundTo rs lot t rs.length).Perm (foundL rs lot t) := by
  have e : foundTo rs lot t rs.length = (sil rs lot).flatMap fun a => forksL rs lot t a (nx rs a) ++ rowsL rs lot t a ((nx rs a).filter fun m => (sil rs lot).contains m) := by
    unfold foundTo sil
    congr 1
    funext a
    rw [forks_eq, rows_eq]; rfl
  rw [e]
  exact fm_perm
/-! sorted is sorted -/
def ltP : Pl → Pl → Bool
  | .fork a b, .fork c d => decide (a < c ∨ a = c ∧ b < d)
  | .fork _ _, .row _ _ _ => true
  | .row _ _ _, .fork _ _ => false
  | .row a m b, .row c n d => decide (a < c ∨ a = c ∧ (m < n ∨ m = n ∧ b < d))
theorem eqI' (a b : Nat) : eqB (.int (a : Int)) (.int (b : Int)) = decide (a = b) := eqI a b
theorem ltI (a b : Nat) : ltB (.int (a : Int)) (.int (b : Int)) = decide (a < b) := by
  by_cases h : a < b
  · have : (a : Int) < b := by omega
    simp [ltB, h]
  · have : ¬ ((a : Int) < b) := by omega
    simp [ltB, h]
theorem ltP_eq (p q : Pl) : ltB (pD p) (pD q) = ltP p q := by
  have f1 : eqB (.str "fork") (.str "fork") = true := by decide +kernel
  have f2 : eqB (.str "row") (.str "row") = true := by decide +kernel
  have f3 : eqB (.str "fork") (.str "row") = false := by decide +kernel
  have f4 : eqB (.str "row") (.str "fork") = false := by decide +kernel
  have f5 : ltB (.str "fork") (.str "row") = true := by decide +kernel
  have f6 : ltB (.str "row") (.str "fork") = false := by decide +kernel
  cases p with
  | fork a b =>
    cases q with
    | fork c d =>
      show ltBs [.str "fork", .int a, .int b] [.str "fork", .int c, .int d] = decide _
      simp only [ltBs, f1, eqI', ltI, if_true]
      by_cases h1 : a = c <;> by_cases h2 : b = d <;> simp [h1, h2]
    | row c n d =>
      show ltBs [.str "fork", .int a, .int b] [.str "row", .int c, .int n, .int d] = true
      simp only [ltBs, f3, f5, Bool.false_eq_true, if_false]
  | row a m b =>
    cases q with
    | fork c d =>
      show ltBs [.str "row", .int a, .int m, .int b] [.str "fork", .int c, .int d] = false
      simp only [ltBs, f4, f6, Bool.false_eq_true, if_false]
    | row c n d =>
      show ltBs [.str "row", .int a, .int m, .int b] [.str "row", .int c, .int n, .int d] = decide _
      simp only [ltBs, f2, eqI', ltI, if_true]
      by_cases h1 : a = c <;> by_cases h2 : m = n <;> by_cases h3 : b = d <;> simp [h1, h2, h3]
def leP (p q : Pl) : Bool := !ltP q p
theorem leP_trans (a b c : Pl) (h1 : leP a b = true) (h2 : leP b c = true) : leP a c = true := by
  unfold leP at *
  cases a <;> cases b <;> cases c <;> simp only [ltP, Bool.not_eq_true', decide_eq_false_iff_not, Bool.not_true, Bool.not_false, Bool.false_eq_true] at * <;> omega
theorem leP_total (a b : Pl) : (leP a b || leP b a) = true := by
  unfold leP
  rw [Bool.or_eq_true]
  cases a <;> cases b <;> simp only [ltP, Bool.not_eq_true', decide_eq_false_iff_not, Bool.not_true, Bool.not_false, Bool.false_eq_true, or_true, true_or] <;> omega
theorem leP_anti (a b : Pl) (h1 : leP a b = true) (h2 : leP b a = true) : a = b := by
  unfold leP at *
  cases a <;> cases b <;> simp only [ltP, Bool.not_eq_true', decide_eq_false_iff_not, Bool.not_true, Bool.not_false, Bool.false_eq_true, Pl.fork.injEq, Pl.row.injEq, reduceCtorEq] at * <;> omega
theorem sortD_pl (l : List Pl) : sortD (l.map pD) = (l.mergeSort leP).map pD := by
  unfold sortD
  rw [List.map_mergeSort]
  intro a _ b _
  unfold leP
  rw [ltP_eq]
theorem sort_perm {l m : List Pl} (h : l.Perm m) : sortD (l.map pD) = sortD (m.map pD) := by
  rw [sortD_pl, sortD_pl]
  congr 1
  refine List.Perm.eq_of_pairwise (le := fun a b => leP a b = true) (fun a b _ _ h1 h2 => leP_anti a b h1 h2) (List.pairwise_mergeSort leP_trans leP_total l) (List.pairwise_mergeSort leP_trans leP_total m) ?_
  exact (List.mergeSort_perm l leP).trans (h.trans (List.mergeSort_perm m leP).symm)
theorem sorted_eq {rs : List (Nat × Nat)} {lot : List Nat} {t : Bool} : sorted rs lot t = sortD ((foundL rs lot t).map pD) := sort_perm found_perm
theorem sorted_pl {rs : List (Nat × Nat)} {lot : List Nat} {t : Bool} : ∃ ps : List Pl, sorted rs lot t = ps.map pD ∧ ∀ p, p ∈ ps ↔ p ∈ foundTo rs lot t rs.length :=
  ⟨_, sortD_pl _, fun p => List.mem_mergeSort⟩
section
variable {F : FT}
theorem in_lst {a b : Ex} {s s1 s2 : S} {x : Nat} {l : List Nat} (h1 : evX G F a s = .ok (.d (.int x)) s1) (h2 : evX G F b s1 = .ok (.d (.lst (l.map ni))) s2) : evX G F (.cmp .inn a b) s = .ok (.d (.bl (l.contains x))) s2 := by
  have g1 := ni_fins (l := l) (n := 60)
  have g2 := ni_any (l := l) (x := x)
  show two (evX G F a) (evX G F b) (fun x y => (cmpF .inn x y).map D.bl) s = _
  simp only [two, M.bind, h1, h2, PV.val, cmpF, inF, dep, D.fin, g1, g2, Bool.and_self, if_true, Option.map]
def LBadF (F : FT) : Prop := ∀ (rs : List (Nat × Nat)) (lot : List Nat) (l : D) (t : Bool) (c : List Cell), LotV c l lot → rs.length ≤ 24 → F 37 [nextL rs, l, so t] c = .ok (.lst (sorted rs lot t)) c
theorem rowsL_len {rs : List (Nat × Nat)} {lot : List Nat} {t : Bool} {a : Nat} {ms : List Nat} (l2 : rs.length ≤ 24) : (rowsL rs lot t a ms).length ≤ ms.length * 24 := fl_len fun m _ => by
  rw [List.length_map]
  exact Nat.le_trans (List.length_filter_le ..) (Nat.le_trans nx_len l2)
theorem lbad_run (hM : MayF F) {rs : List (Nat × Nat)} {lot : List Nat} {l : D} {t : Bool} {c : List Cell} (hv : LotV c l lot) (l2 : rs.length ≤ 24) : runDef G F ⟨3, 9, c37⟩ [nextL rs, l, so t] c = .ok (.lst (sorted rs lot t)) c := by
  have er : runDef G F ⟨3, 9, c37⟩ [nextL rs, l, so t] c = Ev.finish (evSs G F c37 ⟨[some (.d (nextL rs)), some (.d l), some (.d (so t)), none, none, none, none, none, none], c⟩) := rfl
  have ec : c37 = .cons (nthS c37 0) (.cons (nthS c37 1) (.cons (nthS c37 2) (.cons (nthS c37 3) (.cons (.ret (.bi .sorted (.cons (.v 3) .nil))) .nil)))) := rfl
  have q0 : evS G F (nthS c37 0) ⟨[some (.d (nextL rs)), some (.d l), some (.d (so t)), none, none, none, none, none, none], c⟩ = .ok .next (s31 (nextL rs) l (so t) [] none none none none none c) := rfl
  have hl : evX G F (.bi .len (.cons (.v 0) .nil)) (s31 (nextL rs) l (so t) [] none none none none none c) = .ok (.d (.int rs.length)) (s31 (nextL rs) l (so t) [] none none none none none c) := by
    have v : evX G F (.v 0) (s31 (nextL rs) l (so t) [] none none none none none c) = .ok (.d (.lst (rs.map fun p => .lst ((begs rs p.2).map ni)))) (s31 (nextL rs) l (so t) [] none none none none none c) := rfl
    show M.bind (M.bind (evX G F (.v 0)) fun x => M.bind (M.pure []) fun r => M.pure (x :: r)) (fun xs => biM .len xs) _ = _
    simp only [M.bind, v, M.pure, biM, valsOf, PV.val, Option.map, biF, D.len, List.length_map]
    rfl
  obtain ⟨ts, s2, e2, f, v, rfl⟩ := lcq_run (G := G) (F := F) (g := fun (j : Nat) => D.int (j : Int)) (tg := .v 8) (own := [8]) (elt := .v 8) (q := .cmp .nin (.v 8) (.v 1))
    (fun s => ∃ v, s = s31 (nextL rs) l (so t) [] none none none none v c) (fun x t => t = ni x) (fun x => !lot.contains x) (it_rng1 hl (rng_nat (by omega))) (by rw [line_eq, List.length_range']; omega) ⟨none, rfl⟩
    (fun x hx s ⟨v, hs⟩ => by
      subst hs
      exact ⟨s31 (nextL rs) l (so t) [] none none none none (some (.d (.int x))) c, _, rfl, (in_lotV rfl rfl hv).1, fun _ => ⟨_, rfl⟩, fun _ => ⟨_, _, rfl, rfl, _, rfl⟩⟩)
  have e3 := f.eq_map
  have e3 : ts = (sil rs lot).map ni := e3
  subst e3
  have q1 : evS G F (nthS c37 1) (s31 (nextL rs) l (so t) [] none none none none none c) = .ok .next (s31 (nextL rs) l (so t) [] (some (.d (.lst ((sil rs lot).map ni)))) none none none none c) := asg_eval (t := .v 4) e2 rfl
  have sl := sil_len (rs := rs) (lot := lot)
  -- forks
  obtain ⟨s3, e4, v5, v6, rfl⟩ := loopF_mapl (g := ni) (bd := turnM (.v 5) (evSs G F (forB (nthS c37 2)))) (kl := [5, 6])
    (fun done s => ∃ v5 v6, s = s31 (nextL rs) l (so t) (done.flatMap fun a => forksL rs lot t a (nx rs a)) (some (.d (.lst ((sil rs lot).map ni)))) v5 v6 none none c) (sil rs lot).length (sil rs lot) [] (s31 (nextL rs) l (so t) [] (some (.d (.lst ((sil rs lot).map ni)))) none none none none c) (by simp)
    (fun done a s ha hd ⟨v5, v6, hs⟩ => by
      subst hs
      have b : (done.flatMap fun a => forksL rs lot t a (nx rs a)).length ≤ done.length * 24 := fl_len fun x _ => by
        rw [← forks_eq]; exact forks_len l2
      have tt : forB (nthS c37 2) = .cons (nthS (forB (nthS c37 2)) 0) .nil := rfl
      obtain ⟨s1, e1, v6', rfl⟩ := fork31 hM (lot := lot) (l := l) (t := t) (v4 := some (.d (.lst ((sil rs lot).map ni)))) (v6 := v6) (c := c) (fd := done.flatMap fun a => forksL rs lot t a (nx rs a)) hv l2 (sil_lt ha) (by omega)
      rw [tt, List.flatMap_append]
      refine ⟨_, (turn_of (s1 := s31 (nextL rs) l (so t) (done.flatMap fun a => forksL rs lot t a (nx rs a)) (some (.d (.lst ((sil rs lot).map ni)))) (some (.d (.int a))) v6 none none c) rfl).trans ((sts_next (ss := .nil) e1).trans sts_nil), none, none, ?_⟩
      rw [List.flatMap_cons, List.flatMap_nil, List.append_nil]
      rfl)
    ⟨none, none, rfl⟩
  rw [List.nil_append] at e4
  have q2 := (for_val (e := .v 4) (tg := .v 5) (a := forB (nthS c37 2)) (kl := [5, 6]) (s := s31 (nextL rs) l (so t) [] (some (.d (.lst ((sil rs lot).map ni)))) none none none none c) (pv := .d (.lst ((sil rs lot).map ni))) (l := (sil rs lot).map ni) rfl rfl).trans e4
  generalize hfa : (sil rs lot).flatMap (fun a => forksL rs lot t a (nx rs a)) = fa at *
  have fal : fa.length ≤ 576 := by
    rw [← hfa]
    have : ((sil rs lot).flatMap fun a => forksL rs lot t a (nx rs a)).length ≤ (sil rs lot).length * 24 := fl_len fun x _ => by
      rw [← forks_eq]; exact forks_len l2
    omega
  -- rows
  obtain ⟨s5, e6, w5, w6, rfl⟩ := loopF_mapl (g := ni) (bd := turnM (.v 5) (evSs G F (forB (nthS c37 3)))) (kl := [5, 6, 7])
    (fun done s => ∃ v5 v6, s = s31 (nextL rs) l (so t) (fa ++ done.flatMap fun a => rowsL rs lot t a ((nx rs a).filter fun m => (sil rs lot).contains m)) (some (.d (.lst ((sil rs lot).map ni)))) v5 v6 none none c) (sil rs lot).length (sil rs lot) [] (s31 (nextL rs) l (so t) fa (some (.d (.lst ((sil rs lot).map ni)))) none none none none c) (by simp)
    (fun done a s ha hd ⟨v5, v6, hs⟩ => by
      subst hs
      have b : (done.flatMap fun a => rowsL rs lot t a ((nx rs a).filter fun m => (sil rs lot).contains m)).length ≤ done.length * 576 := fl_len fun x _ => by
        rw [← rows_eq]; exact rows_len' l2
      have tt : forB (nthS c37 3) = .cons (nthS (forB (nthS c37 3)) 0) .nil := rfl
      have sp : (done ++ [a]).flatMap (fun a => rowsL rs lot t a ((nx rs a).filter fun m => (sil rs lot).contains m)) = (done.flatMap fun a => rowsL rs lot t a ((nx rs a).filter fun m => (sil rs lot).contains m)) ++ rowsL rs lot t a ((nx rs a).filter fun m => (sil rs lot).contains m) := by
        rw [List.flatMap_append, List.flatMap_cons, List.flatMap_nil, List.append_nil]
      rw [sp, tt, ← List.append_assoc]
      generalize hfd : (fa ++ done.flatMap fun a => rowsL rs lot t a ((nx rs a).filter fun m => (sil rs lot).contains m)) = fd
      have fdl : fd.length ≤ 14400 := by rw [← hfd, List.length_append]; omega
      -- the middles
      have i0 := next31 (F := F) (rs := rs) (a := .v 5) (r := a) (s := s31 (nextL rs) l (so t) fd (some (.d (.lst ((sil rs lot).map ni)))) (some (.d (.int a))) v6 none none c) rfl rfl (sil_lt ha)
      have nl := nx_len (rs := rs) (r := a)
      obtain ⟨ms, s2, e2, f, v, rfl⟩ := lcq_run (G := G) (F := F) (g := ni) (xs := nx rs a) (it := .val (.idx (.v 0) (.v 5))) (tg := .v 8) (own := [8]) (elt := .v 8) (q := .cmp .inn (.v 8) (.v 4))
        (fun s => ∃ v, s = s31 (nextL rs) l (so t) fd (some (.d (.lst ((sil rs lot).map ni)))) (some (.d (.int a))) v6 none v c) (fun x t => t = ni x) (fun m => (sil rs lot).contains m) (it_val i0 rfl) (by rw [line_eq]; omega) ⟨none, rfl⟩
        (fun x hx s ⟨v, hs⟩ => by
          subst hs
          exact ⟨s31 (nextL rs) l (so t) fd (some (.d (.lst ((sil rs lot).map ni)))) (some (.d (.int a))) v6 none (some (.d (.int x))) c, _, rfl, in_lst rfl rfl, fun _ => ⟨_, rfl⟩, fun _ => ⟨_, _, rfl, rfl, _, rfl⟩⟩)
      have e3 := f.eq_map
      subst e3
      have ml := List.length_filter_le (fun m => (sil rs lot).contains m) (nx rs a)
      have mm : ∀ m ∈ (nx rs a).filter fun m => (sil rs lot).contains m, m < rs.length := fun m hm => nx_lt (List.mem_filter.mp hm).1
      generalize (nx rs a).filter (fun m => (sil rs lot).contains m) = ms at *
      obtain ⟨s7, e8, u6, u7, rfl⟩ := loopF_mapl (g := ni) (bd := turnM (.v 7) (evSs G F (forB (nthS (forB (nthS c37 3)) 0)))) (kl := [6, 7])
        (fun done s => ∃ v6 v7, s = s31 (nextL rs) l (so t) (fd ++ rowsL rs lot t a done) (some (.d (.lst ((sil rs lot).map ni)))) (some (.d (.int a))) v6 v7 none c) ms.length ms [] (s31 (nextL rs) l (so t) fd (some (.d (.lst ((sil rs lot).map ni)))) (some (.d (.int a))) v6 none none c) (by simp)
        (fun done m s hm hd ⟨v6, v7, hs⟩ => by
          subst hs
          have b := rowsL_len (rs := rs) (lot := lot) (t := t) (a := a) (ms := done) l2
          have tt : forB (nthS (forB (nthS c37 3)) 0) = .cons (nthS (forB (nthS (forB (nthS c37 3)) 0)) 0) .nil := rfl
          obtain ⟨s1, e1, v6', rfl⟩ := row31 hM (lot := lot) (l := l) (t := t) (a := a) (v4 := some (.d (.lst ((sil rs lot).map ni)))) (v6 := v6) (c := c) (fd := fd ++ rowsL rs lot t a done) hv l2 (mm m hm) (by rw [List.length_append]; omega)
          have sp : rowsL rs lot t a (done ++ [m]) = rowsL rs lot t a done ++ ((nx rs m).filter (lastP rs lot t)).map (Pl.row a m) := by
            unfold rowsL
            rw [List.flatMap_append, List.flatMap_cons, List.flatMap_nil, List.append_nil]
          rw [tt, sp, ← List.append_assoc]
          exact ⟨_, (turn_of (s1 := s31 (nextL rs) l (so t) (fd ++ rowsL rs lot t a done) (some (.d (.lst ((sil rs lot).map ni)))) (some (.d (.int a))) v6 (some (.d (.int m))) none c) rfl).trans ((sts_next (ss := .nil) e1).trans sts_nil), none, none, rfl⟩)
        ⟨v6, none, by simp [rowsL]⟩
      rw [List.nil_append] at e8
      have e3' : (ms.map fun x => ni x) = ms.map ni := rfl
      have q3 := (for_val (tg := .v 7) (a := forB (nthS (forB (nthS c37 3)) 0)) (kl := [6, 7]) (l := ms.map ni) (s2 := s31 (nextL rs) l (so t) fd (some (.d (.lst ((sil rs lot).map ni)))) (some (.d (.int a))) v6 none none c) e2 rfl).trans e8
      exact ⟨_, (turn_of (s1 := s31 (nextL rs) l (so t) fd (some (.d (.lst ((sil rs lot).map ni)))) (some (.d (.int a))) v6 none none c) rfl).trans ((sts_next (ss := .nil) q3).trans sts_nil), none, none, rfl⟩)
    ⟨none, none, by simp⟩
  rw [List.nil_append] at e6
  have q3 := (for_val (e := .v 4) (tg := .v 5) (a := forB (nthS c37 3)) (kl := [5, 6, 7]) (s := s31 (nextL rs) l (so t) fa (some (.d (.lst ((sil rs lot).map ni)))) none none none none c) (pv := .d (.lst ((sil rs lot).map ni))) (l := (sil rs lot).map ni) rfl rfl).trans e6
  have fe : fa ++ (sil rs lot).flatMap (fun a => rowsL rs lot t a ((nx rs a).filter fun m => (sil rs lot).contains m)) = foundL rs lot t := by rw [← hfa]; rfl
  rw [fe] at q3
  have fl : (foundL rs lot t).length ≤ line := by
    have := found_perm (rs := rs) (lot := lot) (t := t)
    rw [← this.length_eq, line_eq]
    have := found_len (rs := rs) (lot := lot) (t := t) (j := rs.length) l2
    omega
  rw [sorted_eq, er, ec, sts_next q0, sts_next q1]
  have q4 := sorted_eval (F := F) (e := .v 3) (pv := .own 3) (ps := foundL rs lot t) (s := s31 (nextL rs) l (so t) (foundL rs lot t) (some (.d (.lst ((sil rs lot).map ni)))) none none none none c) rfl rfl fl
  exact congrArg Ev.finish ((sts_next (ss := dropS c37 3) q2).trans ((sts_next (ss := dropS c37 4) q3).trans (sts_ret (ss := .nil) (ret_eval q4))))
end
end Pr

set_option linter.all false
set_option maxRecDepth 100000
set_option maxHeartbeats 2000000
namespace Pr
open PySem Ev
/-! drawn lots -/
theorem loopC_sub {α : Type} {g f : α → D} {tg : Tg} {tt : M Bool} {el : M D} {own : List Nat} (I : S → Prop) : ∀ (xs : List α) (acc : List D) (s : S),
    (∀ x ∈ xs, ∀ s, I s → ∃ s1 b s2, bindT tg (g x) (wipe own s) = some s1 ∧ tt s1 = .ok b s2 ∧ (b = false → I s2) ∧ (b = true → ∃ s3, el s2 = .ok (f x) s3 ∧ I s3)) →
    acc.length + xs.length ≤ line → I s → ∃ (ys : List α) (s' : S), ys.Sublist xs ∧ loopC tg tt el own acc (xs.map g) s = .ok (acc ++ ys.map f) s' ∧ I s'
  | [], acc, s, _, _, hs => ⟨[], s, .slnil, by simp [loopC, M.pure], hs⟩
  | x :: xs, acc, s, h, hl, hs => by
    obtain ⟨s1, b, s2, e1, t1, n, y⟩ := h x (List.mem_cons_self ..) s hs
    have hr := fun z hz => h z (List.mem_cons_of_mem _ hz)
    cases b with
    | false =>
      obtain ⟨ys, s', sb, e, i⟩ := loopC_sub I xs acc s2 hr (by simp at hl; omega) (n rfl)
      refine ⟨ys, s', sb.cons _, ?_, i⟩
      rw [← e, List.map_cons]
      conv => lhs; unfold loopC
      simp only [e1, t1]
    | true =>
      obtain ⟨s3, e3, i⟩ := y rfl
      obtain ⟨ys, s', sb, e, i⟩ := loopC_sub I xs (acc ++ [f x]) s3 hr (by simp at hl ⊢; omega) i
      refine ⟨x :: ys, s', sb.cons₂ _, ?_, i⟩
      rw [List.map_cons, List.map_cons, loopC_cons e1 t1 e3 (by simp at hl; omega), e, List.append_assoc]
      rfl
theorem range_ok {n : Nat} {l : List Nat} (h : l.Sublist (List.range' 0 n)) : LotOk n l := by
  refine ⟨List.Pairwise.sublist h List.pairwise_lt_range', fun x hx => ?_⟩
  have := h.mem hx
  rw [List.mem_range'_1] at this
  omega
section
variable {F : FT}
def LotDF (F : FT) : Prop := ∀ (n : Nat) (c : List Cell), n ≤ 24 → PL c → ∃ lot c', F 38 [.ref 1, .int n] c = .ok (lotD lot) c' ∧ LotOk n lot ∧ PL c'
theorem lotd_run (hD : DrawF F) {n : Nat} {c : List Cell} (hn : n ≤ 24) (hc : PL c) : ∃ lot c', runDef G F ⟨2, 4, c38⟩ [.ref 1, .int n] c = .ok (lotD lot) c' ∧ LotOk n lot ∧ PL c' := by
  obtain ⟨d, c1, e1, hd, p1⟩ := hD c 4 (by omega) (by omega) hc
  have er : runDef G F ⟨2, 4, c38⟩ [.ref 1, .int n] c = Ev.finish (evSs G F c38 ⟨[some (.d (.ref 1)), some (.d (.int n)), none, none], c⟩) := rfl
  have q0 : evS G F (nthS c38 0) ⟨[some (.d (.ref 1)), some (.d (.int n)), none, none], c⟩ = .ok .next ⟨[some (.d (.ref 1)), some (.d (.int n)), some (.d (.int (1 + d))), none], c1⟩ := by
    simp [runDef, evSs, evS, evX, evAnd, evOr, evDs, evPs, evQs, evIt, M.bind, M.pure, varM, Ev.S.loc1, two, one, PV.val, Cell.toD, idxF, pickI, ixN, cmpF, eqF, ltF, D.fin, dep, eqB, ltB, alk, nonB, toB, biM, valsOf, biF, D.len, Ev.finish, Exs.isNil, asgIM, asgOM, thaw, Ev.S.get, Ev.S.put, PV.lo, PV.store, bindM, bindT, bindTs, M.of, binF, doCall, endC, lstM, doMm, mmF, turnM, isLoop, nthS, c38, e1]
  obtain ⟨ys, s', sb, e, v, c2, rfl, p2⟩ := loopC_sub (g := fun (j : Nat) => D.int (j : Int)) (f := ni) (tg := .v 3) (tt := evQs G F (.cons (.cmp .lt (.call .plain 28 (.cons (.v 0) (.cons (.int 5) .nil))) (.v 2)) .nil)) (el := M.bind (evX G F (.v 3)) PV.store) (own := [3])
    (fun s => ∃ v c, s = ⟨[some (.d (.ref 1)), some (.d (.int n)), some (.d (.int (1 + d))), v], c⟩ ∧ PL c) (List.range' 0 n) [] ⟨[some (.d (.ref 1)), some (.d (.int n)), some (.d (.int (1 + d))), none], c1⟩
    (fun x _ s ⟨v, c, hs, pc⟩ => by
      subst hs
      obtain ⟨z, c3, e3, hz, p3⟩ := hD c 5 (by omega) (by omega) pc
      refine ⟨⟨[some (.d (.ref 1)), some (.d (.int n)), some (.d (.int (1 + d))), some (.d (.int x))], c⟩, decide ((z : Int) < 1 + d), ⟨[some (.d (.ref 1)), some (.d (.int n)), some (.d (.int (1 + d))), some (.d (.int x))], c3⟩, rfl, ?_, fun _ => ⟨_, c3, rfl, p3⟩, fun _ => ⟨_, rfl, _, c3, rfl, p3⟩⟩
      by_cases hq : (z : Int) < 1 + d
      · simp [runDef, evSs, evS, evX, evAnd, evOr, evDs, evPs, evQs, evIt, M.bind, M.pure, varM, Ev.S.loc1, two, one, PV.val, Cell.toD, idxF, pickI, ixN, cmpF, eqF, ltF, D.fin, dep, eqB, ltB, alk, nonB, toB, biM, valsOf, biF, D.len, Ev.finish, Exs.isNil, asgIM, asgOM, thaw, Ev.S.get, Ev.S.put, PV.lo, PV.store, bindM, bindT, bindTs, M.of, binF, doCall, endC, lstM, doMm, mmF, turnM, isLoop, e3, hq]
      · simp [runDef, evSs, evS, evX, evAnd, evOr, evDs, evPs, evQs, evIt, M.bind, M.pure, varM, Ev.S.loc1, two, one, PV.val, Cell.toD, idxF, pickI, ixN, cmpF, eqF, ltF, D.fin, dep, eqB, ltB, alk, nonB, toB, biM, valsOf, biF, D.len, Ev.finish, Exs.isNil, asgIM, asgOM, thaw, Ev.S.get, Ev.S.put, PV.lo, PV.store, bindM, bindT, bindTs, M.of, binF, doCall, endC, lstM, doMm, mmF, turnM, isLoop, e3, hq])
    (by rw [line_eq, List.length_range']; simp; omega) ⟨none, c1, rfl, p1⟩
  have q1 := tuple_eval (lc_eval (G := G) (F := F) (it_rng1 (ex := .v 1) (s := ⟨[some (.d (.ref 1)), some (.d (.int n)), some (.d (.int (1 + d))), none], c1⟩) (l := n) rfl (rng_nat (by omega))) e)
  have ec : c38 = .cons (nthS c38 0) (dropS c38 1) := rfl
  refine ⟨ys, c2, ?_, range_ok sb, p2⟩
  rw [er, ec, sts_next q0]
  exact congrArg Ev.finish (sts_ret (ss := .nil) (ret_eval q1))
/-! what is asked of a list of places -/
theorem pl_finsn {n : Nat} : ∀ {ps : List Pl}, D.fins (n + 1) (ps.map pD) = true
  | [] => rfl
  | p :: ps => by
    rw [List.map_cons]
    unfold D.fins
    rw [pl_finsn]
    cases p <;> cases n <;> rfl
theorem pl_refl (p : Pl) : eqB (pD p) (pD p) = true := by
  cases p with
  | fork a b =>
    show eqBs [.str "fork", .int a, .int b] [.str "fork", .int a, .int b] = true
    have f1 : eqB (.str "fork") (.str "fork") = true := by decide +kernel
    simp only [eqBs, f1, eqI', decide_true, Bool.and_self]
  | row a m b =>
    show eqBs [.str "row", .int a, .int m, .int b] [.str "row", .int a, .int m, .int b] = true
    have f1 : eqB (.str "row") (.str "row") = true := by decide +kernel
    simp only [eqBs, f1, eqI', decide_true, Bool.and_self]
theorem pls_refl : ∀ {ps : List Pl}, eqBs (ps.map pD) (ps.map pD) = true
  | [] => rfl
  | p :: ps => by
    rw [List.map_cons]
    unfold eqBs
    rw [pl_refl, pls_refl]; rfl
theorem eq_lst {rs : List (Nat × Nat)} {lot : List Nat} {t : Bool} : eqF (.lst (sorted rs lot t)) (.lst (sorted rs lot t)) = some true := by
  obtain ⟨ps, e, _⟩ := sorted_pl (rs := rs) (lot := lot) (t := t)
  rw [e]
  have h : D.fin dep (.lst (ps.map pD)) = true := pl_finsn (n := 58)
  unfold eqF
  rw [h]
  show some (eqBs (ps.map pD) (ps.map pD)) = _
  rw [pls_refl]
theorem eq_nil {rs : List (Nat × Nat)} {lot : List Nat} {t : Bool} : eqF (.lst (sorted rs lot t)) (.lst []) = some (decide ((sorted rs lot t).length = 0)) := by
  obtain ⟨ps, e, _⟩ := sorted_pl (rs := rs) (lot := lot) (t := t)
  rw [e]
  have h : D.fin dep (.lst (ps.map pD)) = true := pl_finsn (n := 58)
  unfold eqF
  rw [h]
  cases ps <;> rfl
theorem in_sorted {rs : List (Nat × Nat)} {lot : List Nat} {t : Bool} {p : Pl} (h : p ∈ foundTo rs lot t rs.length) : inF (pD p) (.lst (sorted rs lot t)) = some true := by
  obtain ⟨ps, e, m⟩ := sorted_pl (rs := rs) (lot := lot) (t := t)
  rw [e]
  have h1 : D.fin dep (pD p) = true := by cases p <;> rfl
  have h2 : D.fins dep (ps.map pD) = true := pl_fins
  unfold inF
  simp only [h1, h2, Bool.and_self, if_true]
  congr 1
  rw [List.any_eq_true]
  exact ⟨pD p, List.mem_map_of_mem ((m p).mpr h), pl_refl p⟩
/-- fewer told roads, or a finer sort: no fewer places -/
theorem found_mono {rs : List (Nat × Nat)} {lot lot' : List Nat} {t t' : Bool} {j : Nat} {p : Pl} (h1 : ∀ r, lot'.contains r = true → lot.contains r = true) (h2 : ∀ r, lastP rs lot t r = true → lastP rs lot' t' r = true) (h : p ∈ foundTo rs lot t j) : p ∈ foundTo rs lot' t' j := by
  have h1' : ∀ r, (!lot.contains r) = true → (!lot'.contains r) = true := fun r hr => by
    cases hc : lot'.contains r
    · rfl
    · rw [h1 r hc] at hr; cases hr
  unfold foundTo at *
  rw [List.mem_flatMap] at *
  obtain ⟨a, ha, hp⟩ := h
  rw [List.mem_filter] at ha
  refine ⟨a, List.mem_filter.mpr ⟨ha.1, h1' a ha.2⟩, ?_⟩
  rcases List.mem_append.mp hp with hp | hp
  · refine List.mem_append.mpr (.inl ?_)
    unfold forksP at *
    split at hp
    · simp at hp
    · rename_i g
      rw [if_neg g]
      obtain ⟨b, hb, rfl⟩ := List.mem_map.mp hp
      rw [List.mem_filter] at hb
      exact List.mem_map_of_mem (List.mem_filter.mpr ⟨hb.1, h2 b hb.2⟩)
  · refine List.mem_append.mpr (.inr ?_)
    unfold rowsP at *
    rw [List.mem_flatMap] at *
    obtain ⟨m, hm, hp⟩ := hp
    rw [List.mem_filter] at hm
    refine ⟨m, List.mem_filter.mpr ⟨hm.1, h1' m hm.2⟩, ?_⟩
    obtain ⟨b, hb, rfl⟩ := List.mem_map.mp hp
    rw [List.mem_filter] at hb
    exact List.mem_map_of_mem (List.mem_filter.mpr ⟨hb.1, h2 b hb.2⟩)
theorem val_ref {s : S} {k : Nat} {xs : List D} (h : s.cel[k]? = some (.lst xs)) : PV.val s (.d (.ref k)) = some (.lst xs) := by
  show (s.cel[k]?).map Cell.toD = _
  rw [h]; rfl
theorem at_end {c : List Cell} {x : Cell} : (c ++ [x])[c.length]? = some x := by simp
theorem set_end {c : List Cell} {x y : Cell} : (c ++ [x]).set c.length y = c ++ [y] := by simp
theorem isi_eval {e : Ex} {ts : List Ty} {pv : PV} {x y : D} {s s1 : S} (h1 : evX G F e s = .ok pv s1) (v1 : pv.val s1 = some x) (h2 : isiF G ts x = some y) : evX G F (.isi e ts) s = .ok (.d y) s1 := by
  show one (evX G F e) (isiF G ts) s = _
  unfold one
  simp only [M.bind, h1, v1, h2]
end
end Pr

set_option linter.all false
set_option maxRecDepth 100000
set_option maxHeartbeats 2000000
namespace Pr
open PySem Ev
theorem sorted_nil {rs : List (Nat × Nat)} {lot : List Nat} {t : Bool} : sorted rs lot t = [] ↔ foundTo rs lot t rs.length = [] := by
  obtain ⟨ps, e, m⟩ := sorted_pl (rs := rs) (lot := lot) (t := t)
  rw [e, List.map_eq_nil_iff, List.eq_nil_iff_forall_not_mem, List.eq_nil_iff_forall_not_mem]
  exact forall_congr' fun p => not_congr (m p)
theorem sorted_len {rs : List (Nat × Nat)} {lot : List Nat} {t : Bool} : (sorted rs lot t).length = 0 ↔ foundTo rs lot t rs.length = [] := by
  rw [List.length_eq_zero_iff, sorted_nil]
@[simp] theorem eqF_sorted {rs : List (Nat × Nat)} {lot : List Nat} {t : Bool} : eqF (.lst (sorted rs lot t)) (.lst []) = some (decide (foundTo rs lot t rs.length = [])) := by
  rw [eq_nil]
  exact congrArg some (decide_eq_decide.mpr sorted_len)
@[simp] theorem isi_kinds {rs : List (Nat × Nat)} {lot : List Nat} {t : Bool} : isiF G [.tuple] (kindsD rs lot t) = some (.bl (!(List.range rs.length).any (badK rs lot t))) := by
  unfold kindsD
  split <;> rename_i h
  · rw [h]; rfl
  · simp only [Bool.not_eq_true] at h
    rw [h]; rfl
@[simp] theorem isi_non : isiF G [.tuple] .non = some (.bl false) := (rfl)
theorem kd_fins {l : List Kd} : D.fins 59 (l.map kdD) = true := fins_map fun _ _ => kd_fin
theorem kinds_fin {rs : List (Nat × Nat)} {lot : List Nat} {t : Bool} : D.fin dep (kindsD rs lot t) = true := by
  unfold kindsD
  split
  · rfl
  · exact kd_fins
theorem kinds_eqB {rs : List (Nat × Nat)} {lot : List Nat} {t : Bool} : eqB (kindsD rs lot t) (kindsD rs lot t) = true := by
  unfold kindsD
  split
  · rfl
  · show eqBs _ _ = true
    rw [eqBs_map fun _ _ => kd_eqB]; simp
@[simp] theorem eqF_kinds {rs : List (Nat × Nat)} {lot : List Nat} {t : Bool} : eqF (kindsD rs lot t) (kindsD rs lot t) = some true := by
  unfold eqF
  rw [kinds_fin, kinds_eqB]; rfl
@[simp] theorem ref_kinds {rs : List (Nat × Nat)} {lot : List Nat} {t : Bool} : D.isRef (kindsD rs lot t) = false := by
  unfold kindsD; split <;> rfl
@[simp] theorem nonB_kinds {rs : List (Nat × Nat)} {lot : List Nat} {t : Bool} : nonB (kindsD rs lot t) = (List.range rs.length).any (badK rs lot t) := by
  unfold kindsD
  split <;> rename_i h
  · rw [h]; rfl
  · simp only [Bool.not_eq_true] at h
    rw [h]; rfl
section
variable {F : FT}
def BadD (F : FT) : Prop := ∀ (h : Nat) (rs : List (Nat × Nat)) (ro ti : List Nat) (lot : List Nat) (t : Bool) (c : List Cell), rs.length ≤ 24 → LotOk rs.length lot → F 20 [webO h rs ro ti, lotD lot, so t] c = .ok (.lst (sorted rs lot t)) c
theorem badd_run (hC : CLotF F) (hP : PlacesD F) {h : Nat} {rs : List (Nat × Nat)} {ro ti : List Nat} {lot : List Nat} {t : Bool} {c : List Cell} (l2 : rs.length ≤ 24) (L : LotOk rs.length lot) : runDef G F ⟨3, 3, c20⟩ [webO h rs ro ti, lotD lot, so t] c = .ok (.lst (sorted rs lot t)) c := by
  refine run_to rfl fun K kr kn => ?_
  simp [c20, hC h rs ro ti lot t c l2 L, hP h rs ro ti lot t c l2, kr]
def EnoughD (F : FT) : Prop := ∀ (h : Nat) (rs : List (Nat × Nat)) (ro ti : List Nat) (lot : List Nat) (t : Bool) (c : List Cell), rs.length ≤ 24 → LotOk rs.length lot → F 21 [webO h rs ro ti, so t, lotD lot] c = .ok (.bl (decide (foundTo rs lot t rs.length = []))) c
theorem enoughd_run (hS : CSortF F) (hL : LotF F) (hP : PlacesD F) {h : Nat} {rs : List (Nat × Nat)} {ro ti : List Nat} {lot : List Nat} {t : Bool} {c : List Cell} (l2 : rs.length ≤ 24) (L : LotOk rs.length lot) : runDef G F ⟨3, 3, c21⟩ [webO h rs ro ti, so t, lotD lot] c = .ok (.bl (decide (foundTo rs lot t rs.length = []))) c := by
  refine run_to rfl fun K kr kn => ?_
  simp [c21, hS t c, hL h rs ro ti lot c l2 L, hP h rs ro ti lot t c l2]
  exact kr _ _ _ (congrArg D.bl (decide_eq_decide.mpr sorted_nil)) rfl
def KindsD (F : FT) : Prop := ∀ (h : Nat) (rs : List (Nat × Nat)) (ro ti : List Nat) (lot : List Nat) (t : Bool) (c : List Cell), rs.length ≤ 24 → LotOk rs.length lot → F 25 [webO h rs ro ti, lotD lot, so t] c = .ok (kindsD rs lot t) c
theorem kindsd_run (hC : CLotF F) (hP : KindsF F) {h : Nat} {rs : List (Nat × Nat)} {ro ti : List Nat} {lot : List Nat} {t : Bool} {c : List Cell} (l2 : rs.length ≤ 24) (L : LotOk rs.length lot) : runDef G F ⟨3, 3, c25⟩ [webO h rs ro ti, lotD lot, so t] c = .ok (kindsD rs lot t) c := by
  refine run_to rfl fun K kr kn => ?_
  simp [c25, hC h rs ro ti lot t c l2 L, hP h rs ro ti lot t c l2, kr]
def IsKindsD (F : FT) : Prop := ∀ (h : Nat) (rs : List (Nat × Nat)) (ro ti : List Nat) (lot : List Nat) (t : Bool) (c : List Cell), rs.length ≤ 24 → LotOk rs.length lot →
  F 26 [webO h rs ro ti, lotD lot, so t, .non] c = .ok (.bl false) c ∧ F 26 [webO h rs ro ti, lotD lot, so t, kindsD rs lot t] c = .ok (.bl (!(List.range rs.length).any (badK rs lot t))) c
theorem iskinds_run (hC : CLotF F) (hP : KindsF F) {h : Nat} {rs : List (Nat × Nat)} {ro ti : List Nat} {lot : List Nat} {t : Bool} {c : List Cell} (l2 : rs.length ≤ 24) (L : LotOk rs.length lot) :
    runDef G F ⟨4, 4, c26⟩ [webO h rs ro ti, lotD lot, so t, .non] c = .ok (.bl false) c ∧ runDef G F ⟨4, 4, c26⟩ [webO h rs ro ti, lotD lot, so t, kindsD rs lot t] c = .ok (.bl (!(List.range rs.length).any (badK rs lot t))) c := by
  constructor
  · refine run_to rfl fun K kr kn => ?_
    simp [c26, hC h rs ro ti lot t c l2 L, hP h rs ro ti lot t c l2, kr]
  · refine run_to rfl fun K kr kn => ?_
    simp [c26, hC h rs ro ti lot t c l2 L, hP h rs ro ti lot t c l2, kr]
end
/-! the first fact -/
theorem forks_mem {rs : List (Nat × Nat)} {lot : List Nat} {t : Bool} {a : Nat} {p : Pl} : p ∈ forksP rs lot t a ↔ 2 ≤ (nx rs a).length ∧ ∃ b ∈ nx rs a, lastP rs lot t b = true ∧ p = .fork a b := by
  unfold forksP
  split <;> rename_i h
  · simp; omega
  · simp only [List.mem_map, List.mem_filter]
    constructor
    · rintro ⟨b, ⟨h1, h2⟩, rfl⟩; exact ⟨by omega, b, h1, h2, rfl⟩
    · rintro ⟨_, b, h1, h2, rfl⟩; exact ⟨b, ⟨h1, h2⟩, rfl⟩
theorem rows_mem {rs : List (Nat × Nat)} {lot : List Nat} {t : Bool} {a : Nat} {p : Pl} : p ∈ rowsP rs lot t a ↔ ∃ m ∈ nx rs a, m ∉ lot ∧ ∃ b ∈ nx rs m, lastP rs lot t b = true ∧ p = .row a m b := by
  unfold rowsP
  simp only [List.mem_flatMap, List.mem_map, List.mem_filter]
  constructor
  · rintro ⟨m, ⟨h0, h1⟩, b, ⟨h2, h3⟩, rfl⟩; exact ⟨m, h0, by simpa using h1, b, h2, h3, rfl⟩
  · rintro ⟨m, h0, h1, b, h2, h3, rfl⟩; exact ⟨m, ⟨h0, by simpa using h1⟩, b, ⟨h2, h3⟩, rfl⟩
theorem found_mem {rs : List (Nat × Nat)} {lot : List Nat} {t : Bool} {j : Nat} {p : Pl} : p ∈ foundTo rs lot t j ↔ ∃ a < j, a ∉ lot ∧ (p ∈ forksP rs lot t a ∨ p ∈ rowsP rs lot t a) := by
  unfold foundTo
  simp only [List.mem_flatMap, List.mem_filter, List.mem_range'_1, List.mem_append]
  constructor
  · rintro ⟨a, ⟨h0, h1⟩, h2⟩; exact ⟨a, by omega, by simpa using h1, h2⟩
  · rintro ⟨a, h0, h1, h2⟩; exact ⟨a, ⟨by omega, by simpa using h1⟩, h2⟩
theorem leads_mem {rs : List (Nat × Nat)} {lot : List Nat} {r : Nat} {told : Bool} : leadsTo rs lot r told = true ↔ ∃ x ∈ nx rs r, 0 < (nx rs x).length ∧ (told = true ↔ x ∈ lot) := by
  unfold leadsTo
  simp only [List.any_eq_true, Bool.and_eq_true, decide_eq_true_eq]
  constructor
  · rintro ⟨x, h1, h2, h3⟩; exact ⟨x, h1, h2, by rw [← h3]; simp⟩
  · rintro ⟨x, h1, h2, h3⟩; exact ⟨x, h1, h2, by cases told <;> simp_all⟩
theorem last_iff {rs : List (Nat × Nat)} {lot : List Nat} {t : Bool} {b : Nat} : lastP rs lot t b = true ↔ 0 < (nx rs b).length ∧ (t = true ∨ b ∉ lot) := by
  unfold lastP
  simp
theorem first_fact {rs : List (Nat × Nat)} {lot : List Nat} {t : Bool} : (List.range rs.length).any (badK rs lot t) = !decide (foundTo rs lot t rs.length = []) := by
  have key : (List.range rs.length).any (badK rs lot t) = true ↔ ¬ foundTo rs lot t rs.length = [] := by
    rw [List.any_eq_true]
    constructor
    · rintro ⟨a, ha, hb⟩ hn
      have ha : a < rs.length := by simpa using ha
      have none : ∀ p, p ∉ foundTo rs lot t rs.length := List.eq_nil_iff_forall_not_mem.mp hn
      have noF : a ∉ lot → ∀ b ∈ nx rs a, lastP rs lot t b = true → ¬ 2 ≤ (nx rs a).length := fun h1 b h2 h3 h4 => none (.fork a b) (found_mem.mpr ⟨a, ha, h1, .inl (forks_mem.mpr ⟨h4, b, h2, h3, rfl⟩)⟩)
      have noR : a ∉ lot → ∀ m ∈ nx rs a, m ∉ lot → ∀ b ∈ nx rs m, ¬ lastP rs lot t b = true := fun h1 m h2 h3 b h4 h5 => none (.row a m b) (found_mem.mpr ⟨a, ha, h1, .inr (rows_mem.mpr ⟨m, h2, h3, b, h4, h5, rfl⟩)⟩)
      simp only [badK, Bool.and_eq_true, Bool.or_eq_true, decide_eq_true_eq] at hb
      obtain ⟨hk, hb⟩ := hb
      have hl : a ∉ lot := by
        intro z
        unfold kindOf at hk
        rw [if_pos (by simpa using z)] at hk
        simp at hk
      -- some road behind may be last
      have hx : ∃ x ∈ nx rs a, lastP rs lot t x = true ∧ (kindOf rs lot t a = .first → x ∉ lot) := by
        unfold kindOf at hk ⊢
        rw [if_neg (by simpa using hl)] at hk ⊢
        split at hk
        · simp at hk
        · rename_i h0
          rw [if_neg h0]
          split at hk
          · rename_i h1
            rw [Bool.and_eq_true] at h1
            obtain ⟨x, q1, q2, q3⟩ := leads_mem.mp h1.2
            rw [if_pos (by rw [Bool.and_eq_true]; exact h1)]
            exact ⟨x, q1, last_iff.mpr ⟨q2, .inl h1.1⟩, fun z => by cases z⟩
          · split at hk
            · rename_i h2
              obtain ⟨x, q1, q2, q3⟩ := leads_mem.mp h2
              have : x ∉ lot := by simpa using q3
              exact ⟨x, q1, last_iff.mpr ⟨q2, .inr this⟩, fun _ => this⟩
            · simp at hk
      obtain ⟨x, x1, x2, x3⟩ := hx
      have l1 := noF hl x x1 x2
      rcases hb with hb | ⟨hf, hb⟩
      · omega
      · have e : nx rs a = [x] := by
          cases h : nx rs a with
          | nil => rw [h] at x1; simp at x1
          | cons u v =>
            rw [h] at x1 l1
            cases v with
            | nil => simp at x1; rw [x1]
            | cons _ _ => simp at l1
        rw [e] at hb
        simp only [List.getD_cons_zero] at hb
        have xl := x3 hf
        have nr := noR hl x x1 xl
        apply hb
        unfold kindOf
        have x4 := (last_iff.mp x2).1
        rw [if_neg (by simpa using xl), if_neg (by omega)]
        have n1 : ¬ ((t && leadsTo rs lot x true) = true) := fun z => by
          rw [Bool.and_eq_true] at z
          obtain ⟨y, y1, y2, y3⟩ := leads_mem.mp z.2
          exact nr y y1 (last_iff.mpr ⟨y2, .inl z.1⟩)
        have n2 : ¬ (leadsTo rs lot x false = true) := fun z => by
          obtain ⟨y, y1, y2, y3⟩ := leads_mem.mp z
          exact nr y y1 (last_iff.mpr ⟨y2, .inr (by simpa using y3)⟩)
        rw [if_neg n1, if_neg n2]
    · intro hn
      obtain ⟨p, hp⟩ := List.exists_mem_of_ne_nil _ hn
      obtain ⟨a, ha, hl, hp⟩ := found_mem.mp hp
      refine ⟨a, by simpa using ha, ?_⟩
      -- what a silent road that leads to one that may be last is
      have kf : ∀ a, a ∉ lot → ∀ x ∈ nx rs a, lastP rs lot t x = true → (kindOf rs lot t a = .queue ∨ kindOf rs lot t a = .first) ∧ (kindOf rs lot t a = .queue → ∃ y ∈ nx rs a, y ∈ lot) := fun a hl x x1 x2 => by
        obtain ⟨x3, x4⟩ := last_iff.mp x2
        have h0 : ¬ (nx rs a).length = 0 := fun z => by
          rw [List.length_eq_zero_iff] at z
          rw [z] at x1; simp at x1
        unfold kindOf
        rw [if_neg (by simpa using hl), if_neg h0]
        by_cases h1 : (t && leadsTo rs lot a true) = true
        · rw [if_pos h1]
          rw [Bool.and_eq_true] at h1
          obtain ⟨y, y1, y2, y3⟩ := leads_mem.mp h1.2
          exact ⟨.inl rfl, fun _ => ⟨y, y1, by simpa using y3⟩⟩
        · rw [if_neg h1]
          have h2 : leadsTo rs lot a false = true := by
            refine leads_mem.mpr ⟨x, x1, x3, ?_⟩
            simp
            intro z
            apply h1
            rw [Bool.and_eq_true]
            rcases x4 with x4 | x4
            · exact ⟨x4, leads_mem.mpr ⟨x, x1, x3, by simpa using z⟩⟩
            · exact absurd z x4
          rw [if_pos h2]
          exact ⟨.inr rfl, fun z => by cases z⟩
      simp only [badK, Bool.and_eq_true, Bool.or_eq_true, decide_eq_true_eq]
      rcases hp with hp | hp
      · obtain ⟨h1, b, b1, b2, rfl⟩ := forks_mem.mp hp
        exact ⟨(kf a hl b b1 b2).1, .inl (by omega)⟩
      · obtain ⟨m, m1, m2, b, b1, b2, rfl⟩ := rows_mem.mp hp
        have lm : lastP rs lot t m = true := last_iff.mpr ⟨by
          cases h : nx rs m with
          | nil => rw [h] at b1; simp at b1
          | cons _ _ => simp, .inr m2⟩
        obtain ⟨k1, k2⟩ := kf a hl m m1 lm
        refine ⟨k1, ?_⟩
        by_cases h1 : 1 < (nx rs a).length
        · exact .inl h1
        · have e : nx rs a = [m] := by
            cases h : nx rs a with
            | nil => rw [h] at m1; simp at m1
            | cons u v =>
              rw [h] at m1 h1
              cases v with
              | nil => simp at m1; rw [m1]
              | cons _ _ => simp at h1
          refine .inr ⟨?_, ?_⟩
          · rcases k1 with k1 | k1
            · obtain ⟨y, y1, y2⟩ := k2 k1
              rw [e, List.mem_singleton] at y1
              subst y1
              exact absurd y2 m2
            · exact k1
          · rw [e, List.getD_cons_zero]
            rcases (kf m m2 b b1 b2).1 with z | z <;> rw [z] <;> simp
  by_cases h : foundTo rs lot t rs.length = []
  · have := mt key.mp (fun z => z h)
    simpa [h] using this
  · rw [key.mpr h]; simp [h]
end Pr

set_option linter.all false
set_option maxRecDepth 100000
set_option maxHeartbeats 4000000
namespace Pr
open PySem Ev
@[simp] theorem ref_nextL {rs : List (Nat × Nat)} : D.isRef (nextL rs) = false := (rfl)
@[simp] theorem len_nextL {rs : List (Nat × Nat)} : biF .len [nextL rs] = some (.int rs.length) := by
  show some (D.int ((rs.map _).length : Nat)) = _
  rw [List.length_map]
@[simp] theorem idx_nextL {rs : List (Nat × Nat)} {r : Nat} (h : r < rs.length) : idxF (nextL rs) (.int r) = some (.lst ((nx rs r).map ni)) := by
  show pickI _ (r : Int) = _
  rw [pickI_nat]
  exact nextL_at h
theorem rng_n1 {n : Nat} (h : n ≤ 1000) : rngD (.d (.int 0)) (.d (.int (n + 1))) = some ((List.range (n + 1)).map fun (j : Nat) => D.int j) := rng_n (n := n + 1) (by omega)
/-- the roads of a place that may be told -/
def plH : Pl → Bool → List Nat
  | .fork a b, t => if t then [a] else [a, b]
  | .row a m b, t => if t then [a, m] else [a, m, b]
theorem plH_at {rs : List (Nat × Nat)} {lot : List Nat} {t : Bool} {p : Pl} (h : p ∈ foundTo rs lot t rs.length) : (∃ a ∈ plH p t, a ∉ lot) ∧ (∀ x ∈ plH p t, x < rs.length) ∧ (plH p t).length ≤ 3 := by
  obtain ⟨a, ha, hl, hp⟩ := found_mem.mp h
  rcases hp with hp | hp
  · obtain ⟨_, b, h1, _, rfl⟩ := forks_mem.mp hp
    have := nx_lt h1
    cases t <;> simp [plH, hl, ha, this]
  · obtain ⟨m, h1, _, b, h2, _, rfl⟩ := rows_mem.mp hp
    have := nx_lt h1
    have := nx_lt h2
    cases t <;> simp [plH, hl, ha, *]
theorem cut_h {p : Pl} : slF (some 1) none (pD p) = some (.tup ((plH p false).map ni)) := by
  cases p <;> rfl
theorem cut_t {p : Pl} : slF none (some (-1)) (.tup ((plH p false).map ni)) = some (.tup ((plH p true).map ni)) := by
  cases p <;> rfl
@[simp] theorem neg_int {i : Int} : negF (.int i) = some (.int (-i)) := (rfl)
@[simp] theorem ref_pD {p : Pl} : D.isRef (pD p) = false := by cases p <;> rfl
theorem nodup_lt {n : Nat} {l : List Nat} (h1 : l.Nodup) (h2 : ∀ x ∈ l, x < n) : l.length ≤ n := by
  have := List.Nodup.length_le_of_subset h1 (l₂ := List.range n) fun x hx => by simpa using h2 x hx
  simpa using this
section
variable {F : FT}
def EnLotF (F : FT) : Prop := ∀ (rs : List (Nat × Nat)) (t : Bool) (p : Pool) (r : List Cell), rs.length ≤ 24 → ∃ (lot : List Nat) (p' : Pool) (r' : List Cell), F 39 [.ref 1, nextL rs, so t] (p.c r) = .ok (lotD lot) (p'.c r') ∧ LotOk rs.length lot ∧ foundTo rs lot t rs.length = []
def s39 (rs : List (Nat × Nat)) (t : Bool) (r : List Cell) (b : Pool × List Nat) : S := ⟨[some (.d (.ref 1)), some (.d (nextL rs)), some (.d (so t)), some (.d (.ref (r.length + 2))), none, none, none, none, none], b.1.c (r ++ [.lst (b.2.map ni)])⟩
def Q39 (rs : List (Nat × Nat)) (t : Bool) (x : D) (c' : List Cell) : Prop := ∃ (lot : List Nat) (p' : Pool) (r' : List Cell), x = lotD lot ∧ c' = p'.c r' ∧ LotOk rs.length lot ∧ foundTo rs lot t rs.length = []
def K39 (rs : List (Nat × Nat)) (t : Bool) (r : List Cell) (told : List Nat) (s : S) : Prop := ∃ (told' : List Nat) (l : D) (v7 : Option LV) (p : Pool), s = ⟨[some (.d (.ref 1)), some (.d (nextL rs)), some (.d (so t)), some (.d l), none, none, none, v7, none], p.c (r ++ [.lst (told.map ni)])⟩ ∧
      LotV (p.c (r ++ [.lst (told.map ni)])) l told' ∧ (∀ x ∈ told', x < rs.length) ∧ foundTo rs told' t rs.length = []
theorem LotV.val {c : List Cell} {l : D} {lot : List Nat} (h : LotV c l lot) : ∃ d : D, (∀ loc, PV.val ⟨loc, c⟩ (.d l) = some d) ∧ ∀ x : Nat, inF (.int x) d = some (lot.contains x) := by
  rcases h with rfl | rfl | ⟨k, rfl, hk⟩
  · exact ⟨_, fun _ => rfl, fun x => inF_tup⟩
  · exact ⟨_, fun _ => rfl, fun x => inF_lst⟩
  · exact ⟨_, fun _ => by simp [hk], fun x => inF_lst⟩
theorem mono_nil {rs : List (Nat × Nat)} {lot lot' : List Nat} {t : Bool} (h : ∀ x ∈ lot', x ∈ lot) (h0 : foundTo rs lot' t rs.length = []) : foundTo rs lot t rs.length = [] := by
  rw [List.eq_nil_iff_forall_not_mem] at h0 ⊢
  intro p hp
  refine h0 p (found_mono (fun r hr => by simpa using h r (by simpa using hr)) (fun r hr => ?_) hp)
  obtain ⟨h1, h2⟩ := last_iff.mp hr
  exact last_iff.mpr ⟨h1, h2.imp id fun z y => z (h r y)⟩
theorem filt_ok {n : Nat} {told : List Nat} : LotOk n ((List.range n).filter fun x => told.contains x) := range_ok (by rw [← List.range_eq_range']; exact List.filter_sublist)
theorem enlot_run (hL : LBadF F) (hD : DrawP F) (hS : SomeP F) {rs : List (Nat × Nat)} {t : Bool} {p : Pool} {r : List Cell} (l2 : rs.length ≤ 24) :
    ∃ (lot : List Nat) (p' : Pool) (r' : List Cell), runDef G F ⟨3, 9, c39⟩ [.ref 1, nextL rs, so t] (p.c r) = .ok (lotD lot) (p'.c r') ∧ LotOk rs.length lot ∧ foundTo rs lot t rs.length = [] := by
  have ll : rs.length ≤ 1000 := by omega
  have l6 : rs.length ≤ 1000000 := by omega
  suffices h : ∃ x c', runDef G F ⟨3, 9, c39⟩ [.ref 1, nextL rs, so t] (p.c r) = .ok x c' ∧ Q39 rs t x c' by
    obtain ⟨_, _, e, lot, p', r', rfl, rfl, h1, h2⟩ := h
    exact ⟨lot, p', r', e, h1, h2⟩
  refine run_ex rfl fun K kr => ?_
  simp [c39, rng_n1 ll]
  refine runs_seq (P := fun s => ∃ p told, s = s39 rs t r (p, told) ∧ (∀ x ∈ told, x < rs.length) ∧ told.length ≤ 24 ∧ foundTo rs told t rs.length = []) ?_ ?_
  · intro K1 k1
    refine runs_rng0 (s39 rs t r) (fun j b => b.2.length = j ∧ b.2.Nodup ∧ ∀ x ∈ b.2, x < rs.length) (p, []) ⟨rfl, by simp, by simp⟩ ?_ ?_
    · rintro j ⟨p, told⟩ hj ⟨h1, h2, h3⟩ K2 k2
      simp only at h1 h2 h3
      have h4 := nodup_lt h2 h3
      have e := hL rs told (.ref (r.length + 2)) t (p.c (r ++ [.lst (told.map ni)])) (.inr (.inr ⟨_, rfl, by simp⟩)) l2
      simp [s39, e]
      refine seq_if (fun hc => ?_) fun hc => ?_
      · simp at hc
        simp
        exact k2.bk _ (k1.nx _ ⟨p, told, rfl, h3, by omega, hc⟩)
      simp at hc
      simp
      obtain ⟨ps, eps, mps⟩ := sorted_pl (rs := rs) (lot := told) (t := t)
      have hne : 1 ≤ (sorted rs told t).length := by
        rcases Nat.eq_zero_or_pos (sorted rs told t).length with z | z
        · exact absurd (sorted_len.mp z) hc
        · exact z
      have hle : (sorted rs told t).length ≤ 1000000 := by
        have := found_len (rs := rs) (lot := told) (t := t) (j := rs.length) l2
        have b4 : rs.length * 600 ≤ 24 * 600 := Nat.mul_le_mul_right 600 (by omega)
        unfold sorted sortD
        rw [List.length_mergeSort, List.length_map]
        omega
      obtain ⟨x, hx, p2, e2⟩ := hS (sorted rs told t) p (r ++ [.lst (told.map ni)]) hne hle
      rw [eps] at hx
      obtain ⟨pl, hpl, rfl⟩ := List.mem_map.mp hx
      have hpl := (mps pl).mp hpl
      obtain ⟨⟨a, a1, a2⟩, a3, a4⟩ := plH_at hpl
      simp [e2, cut_h]
      refine runs_seq (P := fun s => s = ⟨[some (.d (.ref 1)), some (.d (nextL rs)), some (.d (so t)), some (.d (.ref (r.length + 2))), some (.d (.int j)), some (.d (.lst (sorted rs told t))), some (.d (.tup ((plH pl t).map ni))), none, none], p2.c (r ++ [.lst (told.map ni)])⟩) (fun K3 k3 => by cases t <;> simp [cut_t] <;> exact k3.nx _ rfl) ?_
      · rintro s rfl
        simp
        rw [lc_pure (fun x => !told.contains x) (fun x => D.int x) (le_line (by omega)) (fun x hx => by simp [ni])]
        simp
        have em : ((plH pl t).filter fun x => !decide (x ∈ told)) ≠ [] := fun z => by
          have : a ∈ ((plH pl t).filter fun x => !decide (x ∈ told)) := by simp [a1, a2]
          rw [z] at this; simp at this
        have el : ((plH pl t).filter fun x => !decide (x ∈ told)).length ≤ 3 := Nat.le_trans (List.length_filter_le ..) a4
        obtain ⟨y, hy, p3, e3⟩ := hS (((plH pl t).filter fun x => !decide (x ∈ told)).map fun (x : Nat) => D.int (x : Int)) p2 (r ++ [.lst (told.map ni)]) (by rw [List.length_map]; exact List.length_pos_iff.mpr em) (by rw [List.length_map]; omega)
        obtain ⟨z, hz, rfl⟩ := List.mem_map.mp hy
        rw [List.mem_filter] at hz
        have hz2 : z ∉ told := by simpa using hz.2
        have nl : told.length ≤ 1000000 := by omega
        simp [e3, nl]
        refine k2.nx (p3, told ++ [z]) _ ?_ ?_
        · simp [s39, ni]
        · refine ⟨by simp [h1], ?_, ?_⟩
          · rw [List.nodup_append]
            exact ⟨h2, by simp, fun x hx y hy => by simp at hy; subst hy; exact fun z => hz2 (z ▸ hx)⟩
          · intro x hx
            simp at hx
            rcases hx with hx | rfl
            · exact h3 x hx
            · exact a3 _ hz.1
    · rintro ⟨p, told⟩ ⟨h1, h2, h3⟩
      have := nodup_lt h2 h3
      omega
  · rintro s ⟨p, told, rfl, h1, h2, h3⟩
    obtain ⟨d, p2, e, hd⟩ := hD p (r ++ [.lst (told.map ni)]) 4 (by omega) (by omega)
    simp [s39, e]
    refine runs_seq (P := K39 rs t r told) ?_ ?_
    · intro K1 k1
      have v0 : ∀ p : Pool, LotV (p.c (r ++ [.lst (told.map ni)])) (.ref (r.length + 2)) told := fun p => .inr (.inr ⟨_, rfl, by simp⟩)
      refine runs_if (fun hc => ?_) fun hc => ?_
      · simp [rng_n l6]
        refine runs_lc (fun (p : Pool) => (⟨[some (.d (.ref 1)), some (.d (nextL rs)), some (.d (so t)), some (.d (.ref (r.length + 2))), none, none, none, none, none], p.c (r ++ [.lst (told.map ni)])⟩ : S)) (fun dn ts p => ∃ l : List Nat, ts = l.map ni ∧ l.length ≤ dn.length ∧ ∀ x ∈ l, x ∈ dn) p2 ?_ ?_ ?_ ?_ ?_ ?_
        · rfl
        · exact ⟨[], rfl, by simp, by simp⟩
        · simp; exact le_line l6
        · rintro dn x rest ts p e0 ⟨l, rfl, q1, q2⟩ K2 k2
          obtain ⟨d3, p3, e3, hd3⟩ := hD p (r ++ [.lst (told.map ni)]) 3 (by omega) (by omega)
          simp [e3]
          by_cases hh : d3 = 0
          · subst hh
            simp
            exact k2 _ _ p3 rfl ⟨l ++ [x], by simp [ni], by simp; omega, fun y hy => by simp at hy ⊢; rcases hy with hy | rfl; exact .inl (q2 y hy); exact .inr rfl⟩
          · simp [hh]
            exact k2 _ _ p3 rfl ⟨l, by simp, by simp; omega, fun y hy => by simp; exact .inl (q2 y hy)⟩
        · exact fun _ => rfl
        · rintro ts p3 ⟨more, rfl, q1, q2⟩
          rw [List.length_range] at q1
          have q3 : ∀ x ∈ more, x < rs.length := fun x hx => by simpa using q2 x hx
          have nl : told.length + more.length ≤ 1000000 := by omega
          have e4 := hL rs (told ++ more) (.lst ((told ++ more).map ni)) t (p3.c (r ++ [.lst (told.map ni)])) (.inr (.inl rfl)) l2
          rw [List.map_append] at e4
          simp [nl, e4]
          refine runs_if (fun h5 => ?_) fun h5 => ?_
          · simp at h5
            simp
            exact k1.nx _ ⟨told ++ more, .lst (told.map ni ++ more.map ni), _, p3, rfl, .inr (.inl (by rw [List.map_append])), fun x hx => (List.mem_append.mp hx).elim (h1 x) (q3 x), h5⟩
          · simp
            exact k1.nx _ ⟨told, _, _, p3, rfl, v0 p3, h1, h3⟩
      · refine rok (k1.nx _ ?_)
        exact ⟨told, .ref (r.length + 2), none, p2, rfl, v0 p2, h1, h3⟩
    · intro s hs
      unfold K39 at hs
      obtain ⟨told', l, v7, p, hs, hv, g1, g2⟩ := hs
      subst hs
      have hh := hv.val
      cases hh with
      | intro dv hh =>
      have hv1 := hh.1
      have hv2 := hh.2
      simp [rng_n l6]
      rw [lc_pure (fun x => told'.contains x) (fun (x : Nat) => D.int (x : Int)) (by simp; exact le_line l6) (fun x hx => by simp [hv1, hv2])]
      simp
      refine kr.rt _ _ _ ⟨(List.range rs.length).filter fun x => told'.contains x, p, _, ?_, rfl, filt_ok, ?_⟩
      · simp [lotD, ni]
      · refine mono_nil (lot' := told') (fun x hx => ?_) g2
        rw [List.mem_filter]
        exact ⟨by simpa using g1 x hx, by simpa using hx⟩
end
end Pr

set_option linter.all false
set_option maxRecDepth 100000
set_option maxHeartbeats 4000000
namespace Pr
open PySem Ev
theorem filt_lt {α : Type} {p : α → Bool} {l : List α} : (l.filter p).length < l.length ↔ ∃ x ∈ l, p x = false := by
  induction l with
  | nil => simp
  | cons a l ih =>
    have := List.length_filter_le p l
    cases h : p a with
    | true => simp [h, ih]
    | false => simp [h]; omega
theorem filt_pos {α : Type} {p : α → Bool} {l : List α} : 0 < (l.filter p).length ↔ ∃ x ∈ l, p x = true := by
  rw [List.length_pos_iff]
  constructor
  · intro h
    obtain ⟨x, hx⟩ := List.exists_mem_of_ne_nil _ h
    exact ⟨x, List.mem_filter.mp hx⟩
  · rintro ⟨x, h1, h2⟩ z
    have : x ∈ l.filter p := List.mem_filter.mpr ⟨h1, h2⟩
    rw [z] at this; simp at this
theorem kd_told : D.str "told" = kdD .told := rfl
theorem kd_end : D.str "end" = kdD .ends := rfl
theorem kd_first : D.str "first" = kdD .first := rfl
theorem kd_second : D.str "second" = kdD .second := rfl
theorem kd_queue : D.str "queue" = kdD .queue := rfl
@[simp] theorem in_kdL {a b c : Kd} : inF (kdD a) (.lst [kdD b, kdD c]) = some (decide (a = b) || decide (a = c)) := in_kdT
section
variable {F : FT}
def LKindF (F : FT) : Prop := ∀ (rs : List (Nat × Nat)) (lot : List Nat) (t : Bool) (r : Nat) (c : List Cell), rs.length ≤ 24 → r < rs.length → F 41 [nextL rs, lotD lot, so t, .int r] c = .ok (kdD (kindOf rs lot t r)) c
theorem lkind_run {rs : List (Nat × Nat)} {lot : List Nat} {t : Bool} {r : Nat} {c : List Cell} (l2 : rs.length ≤ 24) (hr : r < rs.length) : runDef G F ⟨4, 7, c41⟩ [nextL rs, lotD lot, so t, .int r] c = .ok (kdD (kindOf rs lot t r)) c := by
  refine run_to rfl fun K kr kn => ?_
  have nl := nx_len (rs := rs) (r := r)
  have n1 : (nx rs r).length ≤ line := le_line (by omega)
  simp [c41, kd_told, kd_end, kd_queue, kd_first, kd_second]
  refine seq_if (fun hc => ?_) fun hc => ?_
  · simp at hc; simp [hc, kindOf, kr]
  simp at hc; simp [hr]
  refine seq_if (fun h1 => ?_) fun h1 => ?_
  · simp at h1; simp [hc, h1, kindOf, kr, kd_end]
  simp at h1; simp [hr]
  rw [lc_pure (fun x => decide (0 < (nx rs x).length)) ni n1 (fun x hx => by simp [ni, nx_lt hx])]
  simp
  have n2 : ((nx rs r).filter fun x => decide (0 < (nx rs x).length)).length ≤ line := Nat.le_trans (List.length_filter_le ..) n1
  rw [lc_pure (fun x => !lot.contains x) ni n2 (fun x hx => by simp [ni])]
  have e1 : leadsTo rs lot r true = decide ((((nx rs r).filter fun x => decide (0 < (nx rs x).length)).filter fun x => !lot.contains x).length < ((nx rs r).filter fun x => decide (0 < (nx rs x).length)).length) := by
    rw [Bool.eq_iff_iff, leads_mem, decide_eq_true_iff, filt_lt]
    simp only [List.mem_filter]
    constructor
    · rintro ⟨x, q1, q2, q3⟩; exact ⟨x, ⟨q1, by simpa using q2⟩, by simpa using q3⟩
    · rintro ⟨x, ⟨q1, q2⟩, q3⟩; exact ⟨x, q1, by simpa using q2, by simpa using q3⟩
  have e2 : leadsTo rs lot r false = decide (0 < (((nx rs r).filter fun x => decide (0 < (nx rs x).length)).filter fun x => !lot.contains x).length) := by
    rw [Bool.eq_iff_iff, leads_mem, decide_eq_true_iff, filt_pos]
    simp only [List.mem_filter]
    constructor
    · rintro ⟨x, q1, q2, q3⟩; exact ⟨x, ⟨q1, by simpa using q2⟩, by simpa using q3⟩
    · rintro ⟨x, ⟨q1, q2⟩, q3⟩; exact ⟨x, q1, by simpa using q2, by simpa using q3⟩
  have ek : kindOf rs lot t r = if t && leadsTo rs lot r true then .queue else if leadsTo rs lot r false then .first else .second := by
    simp [kindOf, hc, h1]
  rw [ek, e1, e2] at kr
  clear ek e1 e2 kn
  generalize ((nx rs r).filter fun x => decide (0 < (nx rs x).length)) = ls at *
  generalize (ls.filter fun x => !lot.contains x) = ss at *
  simp
  refine seq_if (fun h2 => ?_) fun h2 => ?_
  · have h2' : t = true ∧ ss.length < ls.length := by simpa using h2
    simp
    exact kr _ _ _ (by simp [h2', kd_queue]) rfl
  · have h2' : ¬ (t = true ∧ ss.length < ls.length) := by simpa using h2
    have h2'' : ¬ ((t && decide (ss.length < ls.length)) = true) := by simpa using h2'
    simp
    by_cases h3 : 0 < ss.length
    · simp [h3]
      exact kr _ _ _ (by rw [if_neg h2'', if_pos (by simpa using h3)]; rfl) rfl
    · simp [h3]
      exact kr _ _ _ (by rw [if_neg h2'', if_neg (by simpa using h3)]; rfl) rfl
def LKindsF (F : FT) : Prop := ∀ (rs : List (Nat × Nat)) (lot : List Nat) (t : Bool) (c : List Cell), rs.length ≤ 24 → F 42 [nextL rs, lotD lot, so t] c = .ok (kindsD rs lot t) c
theorem lkinds_run (hK : LKindF F) {rs : List (Nat × Nat)} {lot : List Nat} {t : Bool} {c : List Cell} (l2 : rs.length ≤ 24) : runDef G F ⟨3, 5, c42⟩ [nextL rs, lotD lot, so t] c = .ok (kindsD rs lot t) c := by
  refine run_to rfl fun K kr kn => ?_
  have ll : rs.length ≤ 1000000 := by omega
  simp [c42, rng_n ll]
  rw [lc_map (fun (j : Nat) => kdD (kindOf rs lot t j)) (by simp; exact le_line ll) (fun x hx => by simp [hK rs lot t x c l2 (by simpa using hx)])]
  have em : (List.range rs.length).map (fun (j : Nat) => kdD (kindOf rs lot t j)) = (kindsL rs lot t).map kdD := by unfold kindsL; rw [List.map_map]; rfl
  rw [em]
  simp [rng_n ll]
  refine runs_seq (P := fun s => s = ⟨[some (.d (nextL rs)), some (.d (lotD lot)), some (.d (so t)), some (.d (.lst ((kindsL rs lot t).map kdD))), none], c⟩ ∧ (List.range rs.length).any (badK rs lot t) = false) ?_ ?_
  · intro K1 k1
    refine runs_rng0 (fun _ => ⟨[some (.d (nextL rs)), some (.d (lotD lot)), some (.d (so t)), some (.d (.lst ((kindsL rs lot t).map kdD))), none], c⟩) (fun j (_ : Unit) => ∀ x < j, badK rs lot t x = false) () (by simp) ?_ ?_
    · intro x _ lx hI K2 k2
      have q0 := @kind_nx rs lot t x
      have bad : badK rs lot t x = true → K2 (.ret .non) ⟨[some (.d (nextL rs)), some (.d (lotD lot)), some (.d (so t)), some (.d (.lst ((kindsL rs lot t).map kdD))), some (.d (.int x))], c⟩ := fun h => by
        refine k2.rt _ _ (k1.rt _ _ (kr _ _ _ ?_ rfl))
        unfold kindsD
        rw [if_pos (List.any_eq_true.mpr ⟨x, by simpa using lx, h⟩)]
      have good : badK rs lot t x = false → K2 .next ⟨[some (.d (nextL rs)), some (.d (lotD lot)), some (.d (so t)), some (.d (.lst ((kindsL rs lot t).map kdD))), some (.d (.int x))], c⟩ := fun h => by
        refine k2.nx () _ rfl fun y hy => ?_
        by_cases e : y = x
        · rw [e]; exact h
        · exact hI y (by omega)
      have hx := kindsL_at (lot := lot) (t := t) lx
      by_cases hk : kindOf rs lot t x = .queue ∨ kindOf rs lot t x = .first
      · have hn := q0 hk
        have hk' : (decide (kindOf rs lot t x = .queue) || decide (kindOf rs lot t x = .first)) = true := by simpa using hk
        cases e : nx rs x with
        | nil => rw [e] at hn; cases hn
        | cons n0 ns =>
          have q2 : (kindsL rs lot t)[n0]? = some (kindOf rs lot t n0) := kindsL_at (nx_lt (r := x) (by rw [e]; simp))
          have hb : badK rs lot t x = (decide (ns ≠ []) || decide (kindOf rs lot t x = .first) && decide (kindOf rs lot t n0 ≠ .second)) := by
            unfold badK; rw [hk', e]; cases ns <;> simp
          rw [hb] at bad good
          generalize kindOf rs lot t x = kx at *
          generalize kindOf rs lot t n0 = k0 at *
          by_cases hs : ns = []
          · subst hs
            simp [lx, hx, e, kd_queue, kd_first, kd_second]
            simp only [ne_eq, not_true_eq_false, decide_false, Bool.false_or] at bad good
            by_cases h1 : kx = .first
            · simp [ni, h1, q2, kd_second] at bad good ⊢
              refine runs_if (fun h2 => rok (bad (by simpa using h2))) fun h2 => rok (good (by simpa using h2))
            · simp [h1] at bad good ⊢
              exact good
          · have hz : ¬ ((ns.length : Int) + 1 = 1) := by have := List.length_pos_iff.mpr hs; omega
            simp [lx, hx, e, hz, hk', kd_queue, kd_first, kd_second]
            exact bad (by simp [hs])
      · have hb : badK rs lot t x = false := by
          unfold badK
          simp only [not_or] at hk
          simp [hk]
        simp only [not_or] at hk
        simp [lx, hx, hk, kd_queue, kd_first, kd_second]
        exact good hb
    · intro _ hI
      refine k1.nx _ ⟨rfl, ?_⟩
      simpa using hI
  · rintro s ⟨rfl, h0⟩
    simp
    exact kr _ _ _ (by simp [kindsD, h0]) rfl
def RightK (F : FT) : Prop := ∀ (h : Nat) (rs : List (Nat × Nat)) (ro ti : List Nat) (lot : List Nat) (t : Bool) (c : List Cell), rs.length ≤ 24 → LotOk rs.length lot → F 43 [webO h rs ro ti, nextL rs, lotD lot, so t] c = .ok (.bl true) c
theorem rightk_run (hL : LKindsF F) (hK : KindsD F) (hE : EnoughD F) (hB : BadD F) (hI : IsKindsD F) {h : Nat} {rs : List (Nat × Nat)} {ro ti lot : List Nat} {t : Bool} {c : List Cell} (l2 : rs.length ≤ 24) (L : LotOk rs.length lot) :
    runDef G F ⟨4, 6, c43⟩ [webO h rs ro ti, nextL rs, lotD lot, so t] c = .ok (.bl true) c := by
  refine run_to rfl fun K kr kn => ?_
  have e1 := hL rs lot t c l2
  have e2 := hK h rs ro ti lot t c l2 L
  have e3 := hE h rs ro ti lot t c l2 L
  have e4 := hB h rs ro ti lot t c l2 L
  obtain ⟨e5, e6⟩ := hI h rs ro ti lot t c l2 L
  have ff := first_fact (rs := rs) (lot := lot) (t := t)
  simp only [ff] at e6
  by_cases hf : foundTo rs lot t rs.length = []
  · simp only [hf, decide_true, Bool.not_true, Bool.not_false] at ff e3 e6
    simp [c43, e1, e2, e3, e4, e5, e6, ff, hf]
    exact kr _ _ _ rfl rfl
  · simp only [hf, decide_false, Bool.not_false] at ff e3 e6
    simp [c43, e1, e2, e3, e4, e5, e6, ff, hf]
    exact kr _ _ _ rfl rfl
theorem kinds_some {rs : List (Nat × Nat)} {lot : List Nat} {t : Bool} (h : foundTo rs lot t rs.length = []) : nonB (kindsD rs lot t) = false := by
  rw [nonB_kinds, first_fact, h]; rfl
@[simp] theorem ref_wD {h : Nat} {rs : List (Nat × Nat)} {ro ti : List Nat} : D.isRef (wD h rs ro ti) = false := (rfl)
theorem law_run (hP : PoolF F) (hD : DrawP F) (hWe : WebF F) (hG : GreatF F) (hN : NextsF F) (hM : MadeF F) (hLd : LotDF F) (hEl : EnLotF F) (hLk : LKindsF F) (hR : RightK F) {ns : List Int} (hn : ns.length ≤ 63) :
    ∃ c, runDef G F ⟨1, 8, c44⟩ [.lst (ns.map .int)] [] = .ok (.bl true) c := by
  suffices h : ∃ x c, runDef G F ⟨1, 8, c44⟩ [.lst (ns.map .int)] [] = .ok x c ∧ x = .bl true by
    obtain ⟨x, c, e, rfl⟩ := h
    exact ⟨c, e⟩
  obtain ⟨c0, e0, p0⟩ := hP ns hn
  obtain ⟨h1, rs1, ro1, ti1, c1, e1, V1, p1⟩ := hWe c0 p0
  obtain ⟨pp, r1, rfl⟩ := p1.pool
  obtain ⟨d, p2, e2, hd⟩ := hD pp r1 4 (by omega) (by omega)
  refine run_ex rfl fun K kr => ?_
  generalize D.lst (ns.map .int) = x at *
  simp [c44, e0, e1, e2]
  refine runs_seq (P := fun s => ∃ (h : Nat) (rs : List (Nat × Nat)) (ro ti : List Nat) (p : Pool) (r : List Cell), s = ⟨[some (.d x), some (.d (.ref 1)), some (.d (wD h rs ro ti)), none, none, none, none, none], p.c r⟩ ∧ VW h rs ro ti) ?_ ?_
  · intro K1 k1
    refine runs_if (fun h0 => ?_) fun h0 => ?_
    · obtain ⟨h, rs, ro, ti, c3, e3, V, p3⟩ := hG (p2.c r1) Pool.pl
      obtain ⟨p3', r3, rfl⟩ := p3.pool
      simp [e3]
      exact k1.nx _ ⟨h, rs, ro, ti, p3', r3, rfl, V⟩
    · exact rok (k1.nx _ ⟨h1, rs1, ro1, ti1, p2, r1, rfl, V1⟩)
  · rintro s ⟨h, rs, ro, ti, p, r, hs, V⟩
    subst hs
    have l2 := V.l2
    have ll : rs.length ≤ 1000000 := by omega
    simp [hN h rs ro ti _ l2, hM h rs ro ti _ V]
    have el : [D.str "hours", D.str "turns"] = [false, true].map so := rfl
    rw [el]
    refine runs_seq (P := fun _ => True) ?_ ?_
    · intro K1 k1
      refine runs_for (fun (b : Pool × List Cell) => ⟨[some (.d x), some (.d (.ref 1)), some (.d (wD h rs ro ti)), some (.d (nextL rs)), some (.d (webO h rs ro ti)), none, none, none], b.1.c b.2⟩) (fun _ _ => True) (p, r) trivial ?_ (fun _ _ => k1.nx _ trivial)
      rintro dn t rest ⟨p, r⟩ e _ K2 k2
      obtain ⟨la, c3, e3, La, p3⟩ := hLd rs.length (p.c r) l2 Pool.pl
      obtain ⟨p3', r3, rfl⟩ := p3.pool
      obtain ⟨lb, p4, r4, e4, Lb, fb⟩ := hEl rs t p3' r3 l2
      have Ln : LotOk rs.length [] := ⟨by simp, by simp⟩
      simp [e3, e4, hLk rs lb t (p4.c r4) l2, kinds_some fb]
      have em : [D.tup [], lotD la, lotD lb] = [[], la, lb].map lotD := rfl
      rw [em]
      refine runs_for (fun (_ : Unit) => ⟨[some (.d x), some (.d (.ref 1)), some (.d (wD h rs ro ti)), some (.d (nextL rs)), some (.d (webO h rs ro ti)), some (.d (so t)), some (.d (.lst ([[], la, lb].map lotD))), none], p4.c r4⟩) (fun _ _ => True) () trivial ?_ (fun _ _ => k2.nx (p4, r4) _ rfl trivial)
      intro dn lot rest _ e _ K3 k3
      have L : LotOk rs.length lot := by
        have : lot ∈ [[], la, lb] := by rw [e]; simp
        simp at this
        rcases this with rfl | rfl | rfl <;> assumption
      simp [hR h rs ro ti lot t (p4.c r4) l2 L]
      exact k3.nx () _ rfl trivial
    · intro s _
      simp
      exact kr.rt _ _ _ rfl
end
end Pr

set_option linter.all false
set_option maxRecDepth 100000
set_option maxHeartbeats 4000000
namespace Pr
open PySem Ev
/-! so deep -/
theorem r_pool (k : Nat) : PoolF (run G P (k + 1)) := fun ns hn => pool_run hn
theorem r_drawp (k : Nat) : DrawP (run G P (k + 1)) := fun p r m h1 h2 => drawp_run h1 h2
theorem r_draw (k : Nat) : DrawF (run G P (k + 1)) := fun c m h1 h2 h3 => draw_run h1 h2 h3
theorem r_free (k : Nat) : FreeF (run G P (k + 2)) := fun c hi mi h n e1 e2 h1 h2 h3 hc => by
  subst e1 e2
  exact free_run (r_draw (k + 0)) h1 h2 h3 hc
theorem r_ring (k : Nat) : RingF (run G P (k + 1)) := fun c hi h e h1 h2 => by
  subst e
  exact ring_run h1 h2
theorem r_tree (k : Nat) : TreeF (run G P (k + 2)) := fun c hi h e h1 h2 hc => by
  subst e
  exact tree_run (r_draw (k + 0)) h1 h2 hc
theorem r_web (k : Nat) : WebF (run G P (k + 3)) := fun c hc => web_run (r_draw (k + 1)) (r_free (k + 0)) (r_ring (k + 1)) (r_tree (k + 0)) hc
theorem r_great (k : Nat) : GreatF (run G P (k + 3)) := fun c hc => great_run (r_draw (k + 1)) (r_free (k + 0)) hc
theorem r_nexts (k : Nat) : NextsF (run G P (k + 1)) := fun h rs ro ti c l2 => nexts_run l2
theorem r_int (k : Nat) : IntF (run G P (k + 1)) := fun i c => int_run
theorem r_wi (k : Nat) : WiF (run G P (k + 2)) := fun i l m c h1 h2 => wi_run (r_int (k + 0)) h1 h2
theorem r_pair (k : Nat) : PairF (run G P (k + 1)) := fun a b c => pair_run
theorem r_roads (k : Nat) : RoadsF (run G P (k + 3)) := fun h rs c h1 l1 l2 v => roads_run (r_wi (k + 0)) (r_pair (k + 1)) h1 l1 l2 v
theorem r_counts (k : Nat) : CountsF (run G P (k + 3)) := fun cs n ni' mi c h1 h2 h3 h4 => by
  subst h1 h2
  exact counts_run (r_wi (k + 0)) h3 h4
theorem r_keep (k : Nat) : KeepF (run G P (k + 1)) := fun h ro ti rs hl => keep_run hl
theorem r_init (k : Nat) : InitF (run G P (k + 4)) := fun h rs ro ti V => init_run (r_wi (k + 1)) (r_roads (k + 0)) (r_counts (k + 0)) (r_keep (k + 2)) V
theorem r_made (k : Nat) : MadeF (run G P (k + 5)) := fun h rs ro ti c V => made_run (r_init (k + 0)) V
theorem r_lotd (k : Nat) : LotDF (run G P (k + 2)) := fun n c hn hc => lotd_run (r_draw (k + 0)) hn hc
theorem r_may (k : Nat) : MayF (run G P (k + 1)) := fun rs lot l t r c hv hr => may_run hv hr
theorem r_lbad (k : Nat) : LBadF (run G P (k + 2)) := fun rs lot l t c hv l2 => lbad_run (r_may (k + 0)) hv l2
theorem r_somep (k : Nat) : SomeP (run G P (k + 2)) := fun xs p r h1 h2 => somep_run (r_drawp (k + 0)) h1 h2
theorem r_enlot (k : Nat) : EnLotF (run G P (k + 3)) := fun rs t p r l2 => enlot_run (r_lbad (k + 0)) (r_drawp (k + 1)) (r_somep (k + 0)) l2
theorem r_lkind (k : Nat) : LKindF (run G P (k + 1)) := fun rs lot t r c l2 hr => lkind_run l2 hr
theorem r_lkinds (k : Nat) : LKindsF (run G P (k + 2)) := fun rs lot t c l2 => lkinds_run (r_lkind (k + 0)) l2
theorem r_asc (k : Nat) : AscF (run G P (k + 1)) := fun n lot c hn L => asc_run hn L
theorem r_road (k : Nat) : RoadF (run G P (k + 3)) := fun h rs ro ti i c hi => road_run (r_wi (k + 0)) hi
theorem r_lot (k : Nat) : LotF (run G P (k + 4)) := fun h rs ro ti lot c l2 L => lot_run (r_asc (k + 2)) (r_road (k + 0)) l2 L
theorem r_cl (k : Nat) : CLF (run G P (k + 5)) := fun h rs ro ti lot c l2 L => cl_run (r_lot (k + 0)) l2 L
theorem r_sort (k : Nat) : SortF (run G P (k + 1)) := fun t c => sort_run
theorem r_csort (k : Nat) : CSortF (run G P (k + 2)) := fun t c => csort_run (r_sort (k + 0))
theorem r_cls (k : Nat) : CLotF (run G P (k + 6)) := fun h rs ro ti lot t c l2 L => cls_run (r_cl (k + 0)) (r_csort (k + 3)) l2 L
theorem r_leads (k : Nat) : LeadsF (run G P (k + 1)) := fun h rs ro ti lot r told c hr => leads_run hr
theorem r_kind (k : Nat) : KindF (run G P (k + 2)) := fun h rs ro ti lot t r c hr => kind_run (r_leads (k + 0)) hr
theorem r_kinds (k : Nat) : KindsF (run G P (k + 3)) := fun h rs ro ti lot t c l2 => kinds_run (r_kind (k + 0)) l2
theorem r_kindsd (k : Nat) : KindsD (run G P (k + 7)) := fun h rs ro ti lot t c l2 L => kindsd_run (r_cls (k + 0)) (r_kinds (k + 3)) l2 L
theorem r_last (k : Nat) : LastF (run G P (k + 1)) := fun h rs ro ti lot t r c hr => last_run hr
theorem r_forks (k : Nat) : ForksF (run G P (k + 2)) := fun h rs ro ti lot t r c l2 hr => forks_run (r_last (k + 0)) l2 hr
theorem r_rows (k : Nat) : RowsF (run G P (k + 2)) := fun h rs ro ti lot t r c l2 hr => rows_run (r_last (k + 0)) l2 hr
theorem r_placesd (k : Nat) : PlacesD (run G P (k + 3)) := fun h rs ro ti lot t c l2 => placesd_run (r_forks (k + 0)) (r_rows (k + 0)) l2
theorem r_enoughd (k : Nat) : EnoughD (run G P (k + 5)) := fun h rs ro ti lot t c l2 L => enoughd_run (r_csort (k + 2)) (r_lot (k + 0)) (r_placesd (k + 1)) l2 L
theorem r_badd (k : Nat) : BadD (run G P (k + 7)) := fun h rs ro ti lot t c l2 L => badd_run (r_cls (k + 0)) (r_placesd (k + 3)) l2 L
theorem r_iskinds (k : Nat) : IsKindsD (run G P (k + 7)) := fun h rs ro ti lot t c l2 L => iskinds_run (r_cls (k + 0)) (r_kinds (k + 3)) l2 L
theorem r_rightk (k : Nat) : RightK (run G P (k + 8)) := fun h rs ro ti lot t c l2 L => rightk_run (r_lkinds (k + 5)) (r_kindsd (k + 0)) (r_enoughd (k + 2)) (r_badd (k + 0)) (r_iskinds (k + 0)) l2 L
def depth : Nat := 9
theorem law : ∀ ns : List Int, ns.length ≤ 63 → ∃ c, run G P depth 44 [.lst (ns.map .int)] [] = .ok (.bl true) c := fun ns hn =>
  law_run (r_pool 7) (r_drawp 7) (r_web 5) (r_great 5) (r_nexts 7) (r_made 3) (r_lotd 6) (r_enlot 5) (r_lkinds 6) (r_rightk 0) hn
end Pr

set_option maxHeartbeats 0
namespace HeadT
open PySem PySem.Spec PyProof.Rows L2
def top (i : Nat) : Stmt := PySem.Challenge.pw_hourcards_k26_whole_kinds_or_a_bad_place.main.body.getD i (.Pass ⟨0, 0, 0, 0⟩)
def fn : List He.DefD := ([⟨("is_integer", none), "is_integer", "is_integer", defArgs (top 7), defBody (top 7), defScope (top 7), [], []⟩,
  ⟨("is_within", none), "is_within", "is_within", defArgs (top 8), defBody (top 8), defScope (top 8), [], []⟩,
  ⟨("is_pair", none), "is_pair", "is_pair", defArgs (top 9), defBody (top 9), defScope (top 9), [], []⟩,
  ⟨("is_sort", none), "is_sort", "is_sort", defArgs (top 10), defBody (top 10), defScope (top 10), [], []⟩,
  ⟨("are_ascending", none), "are_ascending", "are_ascending", defArgs (top 11), defBody (top 11), defScope (top 11), [], []⟩,
  ⟨("check_sort", none), "check_sort", "check_sort", defArgs (top 12), defBody (top 12), defScope (top 12), [], []⟩,
  ⟨("are_roads", none), "are_roads", "are_roads", defArgs (top 18), defBody (top 18), defScope (top 18), [], []⟩,
  ⟨("are_counts", none), "are_counts", "are_counts", defArgs (top 19), defBody (top 19), defScope (top 19), [], []⟩,
  ⟨("Web", some "__init__"), "__init__", "Web.__init__", defArgs (inClass (top 20) 0), defBody (inClass (top 20) 0), defScope (inClass (top 20) 0), [], []⟩,
  ⟨("Web", some "keep"), "keep", "Web.keep", defArgs (inClass (top 20) 1), defBody (inClass (top 20) 1), defScope (inClass (top 20) 1), [], []⟩,
  ⟨("Web", some "__eq__"), "__eq__", "Web.__eq__", defArgs (inClass (top 20) 2), defBody (inClass (top 20) 2), defScope (inClass (top 20) 2), [], []⟩,
  ⟨("is_road", none), "is_road", "is_road", defArgs (top 21), defBody (top 21), defScope (top 21), [], []⟩,
  ⟨("is_lot", none), "is_lot", "is_lot", defArgs (top 22), defBody (top 22), defScope (top 22), [], []⟩,
  ⟨("check_lot", none), "check_lot", "check_lot", defArgs (top 23), defBody (top 23), defScope (top 23), [], []⟩,
  ⟨("check_lot_sort", none), "check_lot_sort", "check_lot_sort", defArgs (top 24), defBody (top 24), defScope (top 24), [], []⟩,
  ⟨("may_be_last", none), "may_be_last", "may_be_last", defArgs (top 33), defBody (top 33), defScope (top 33), [], []⟩,
  ⟨("forks_at", none), "forks_at", "forks_at", defArgs (top 34), defBody (top 34), defScope (top 34), [], []⟩,
  ⟨("rows_at", none), "rows_at", "rows_at", defArgs (top 35), defBody (top 35), defScope (top 35), [], []⟩,
  ⟨("places_of", none), "places_of", "places_of", defArgs (top 36), defBody (top 36), defScope (top 36), [], []⟩,
  ⟨("bad_places", none), "bad_places", "bad_places", defArgs (top 37), defBody (top 37), defScope (top 37), [], []⟩,
  ⟨("is_enough", none), "is_enough", "is_enough", defArgs (top 38), defBody (top 38), defScope (top 38), [], []⟩,
  ⟨("leads_to", none), "leads_to", "leads_to", defArgs (top 39), defBody (top 39), defScope (top 39), [], []⟩,
  ⟨("kind_of", none), "kind_of", "kind_of", defArgs (top 40), defBody (top 40), defScope (top 40), [], []⟩,
  ⟨("kinds_of", none), "kinds_of", "kinds_of", defArgs (top 41), defBody (top 41), defScope (top 41), [], []⟩,
  ⟨("kinds", none), "kinds", "kinds", defArgs (top 42), defBody (top 42), defScope (top 42), [], []⟩] : List He.DefD) ++ ([⟨("is_kinds", none), "is_kinds", "is_kinds", defArgs (top 43), defBody (top 43), defScope (top 43), [], []⟩,
  ⟨("_law_pool", none), "_law_pool", "_law_pool", defArgs (top 45), defBody (top 45), defScope (top 45), [], []⟩,
  ⟨("_law_draw", none), "_law_draw", "_law_draw", defArgs (top 46), defBody (top 46), defScope (top 46), [], []⟩,
  ⟨("_law_some", none), "_law_some", "_law_some", defArgs (top 47), defBody (top 47), defScope (top 47), [], []⟩,
  ⟨("_law_free_roads", none), "_law_free_roads", "_law_free_roads", defArgs (top 48), defBody (top 48), defScope (top 48), [], []⟩,
  ⟨("_law_tree_roads", none), "_law_tree_roads", "_law_tree_roads", defArgs (top 49), defBody (top 49), defScope (top 49), [], []⟩,
  ⟨("_law_ring_roads", none), "_law_ring_roads", "_law_ring_roads", defArgs (top 50), defBody (top 50), defScope (top 50), [], []⟩,
  ⟨("_law_web", none), "_law_web", "_law_web", defArgs (top 51), defBody (top 51), defScope (top 51), [], []⟩,
  ⟨("_law_great_web", none), "_law_great_web", "_law_great_web", defArgs (top 52), defBody (top 52), defScope (top 52), [], []⟩,
  ⟨("_law_nexts", none), "_law_nexts", "_law_nexts", defArgs (top 53), defBody (top 53), defScope (top 53), [], []⟩,
  ⟨("_law_may_end", none), "_law_may_end", "_law_may_end", defArgs (top 54), defBody (top 54), defScope (top 54), [], []⟩,
  ⟨("_law_bad", none), "_law_bad", "_law_bad", defArgs (top 55), defBody (top 55), defScope (top 55), [], []⟩,
  ⟨("_law_lot", none), "_law_lot", "_law_lot", defArgs (top 56), defBody (top 56), defScope (top 56), [], []⟩,
  ⟨("_law_enough_lot", none), "_law_enough_lot", "_law_enough_lot", defArgs (top 57), defBody (top 57), defScope (top 57), [], []⟩,
  ⟨("_law_made", none), "_law_made", "_law_made", defArgs (top 58), defBody (top 58), defScope (top 58), [], []⟩,
  ⟨("_law_kind", none), "_law_kind", "_law_kind", defArgs (top 59), defBody (top 59), defScope (top 59), [], []⟩,
  ⟨("_law_kinds", none), "_law_kinds", "_law_kinds", defArgs (top 60), defBody (top 60), defScope (top 60), [], []⟩,
  ⟨("_law_is_right", none), "_law_is_right", "_law_is_right", defArgs (top 61), defBody (top 61), defScope (top 61), [], []⟩,
  ⟨("law", none), "law", "law", defArgs (top 62), defBody (top 62), defScope (top 62), [], []⟩] : List He.DefD)
def fa : List He.Fa := ([.glo "is_integer", .glo "is_within", .glo "is_pair", .glo "is_sort", .glo "are_ascending", .glo "check_sort", .glo "are_roads", .glo "are_counts", .glo "is_road", .glo "is_lot", .glo "check_lot", .glo "check_lot_sort", .glo "may_be_last", .glo "forks_at", .glo "rows_at", .glo "places_of", .glo "bad_places", .glo "is_enough", .glo "leads_to", .glo "kind_of", .glo "kinds_of", .glo "kinds", .glo "is_kinds", .glo "_law_pool", .glo "_law_draw"] : List He.Fa) ++ ([.glo "_law_some", .glo "_law_free_roads", .glo "_law_tree_roads", .glo "_law_ring_roads", .glo "_law_web", .glo "_law_great_web", .glo "_law_nexts", .glo "_law_may_end", .glo "_law_bad", .glo "_law_lot", .glo "_law_enough_lot", .glo "_law_made", .glo "_law_kind", .glo "_law_kinds", .glo "_law_is_right", .glo "law", .free "len", .free "abs", .free "int", .free "tuple", .free "list", .free "sum", .free "all", .free "any", .free "min"] : List He.Fa) ++ ([.free "max", .free "sorted", .free "set", .free "str", .free "divmod", .free "isinstance", .free "bool", .free "dict", .free "range", .free "enumerate", .free "zip", .free "reversed", .int "MOST_HOUSES" 12, .int "MOST_ROADS" 24, .int "MOST_ROOMS" 3, .int "MOST_TIME" 3, .glo "Web", .cls "Web", .noat "Web" "houses", .noat "Web" "roads", .noat "Web" "rooms", .noat "Web" "times", .noat "Web" "kept_next", .noat "Web" "kept_leads", .meth "Web" "keep"] : List He.Fa) ++ ([.mkr "Web", .glo "NoLot", .glo "NoSort", .exc "NoLot", .exc "NoSort"] : List He.Fa)
abbrev R : PySem.W.OpenRow := PySem.W.OpenLaw.row PySem.Challenge.rw_hourcards_k26_whole_kinds_or_a_bad_place
def fx : List Ev.Fx := ([.con "SORTS" (.tup [(.str "hours"), (.str "turns")]), .con "TOLD" (.str "told"), .con "END" (.str "end"), .con "FIRST" (.str "first"), .con "SECOND" (.str "second"), .con "QUEUE" (.str "queue"), .con "FORK" (.str "fork"), .con "ROW" (.str "row")] : List Ev.Fx)
abbrev hk : PySem.W.Hook := Ev.hookX 4 fa fn fx
def ob (s : PySem.W.SharedT) : Ev.AlX := Ev.obsXG 4 fa fn fx (HandSHeadRun.getT s)
theorem ob_eq (s : PySem.W.SharedT) : ob s = hk.obs s.abs := Ev.obsXG_eq (HandSHeadRun.getT_eq s)
def loose : List PySem.Str := (["HourError", "BadWeb", "NoLot", "NoSort", "SORTS", "is_integer", "is_within", "is_pair", "is_sort", "are_ascending", "check_sort", "MOST_HOUSES", "MOST_ROADS", "MOST_ROOMS", "MOST_TIME", "are_roads", "are_counts", "Web", "is_road", "is_lot", "check_lot", "check_lot_sort", "TOLD", "END", "FIRST", "SECOND", "QUEUE", "FORK", "ROW", "may_be_last"] : List PySem.Str) ++ (["forks_at", "rows_at", "places_of", "bad_places", "is_enough", "leads_to", "kind_of", "kinds_of", "kinds", "is_kinds", "_law_pool", "_law_draw", "_law_some", "_law_free_roads", "_law_tree_roads", "_law_ring_roads", "_law_web", "_law_great_web", "_law_nexts", "_law_may_end", "_law_bad", "_law_lot", "_law_enough_lot", "_law_made", "_law_kind", "_law_kinds", "_law_is_right"] : List PySem.Str)
theorem run (w : World) : HandSHeadRun.RunEq R (PySem.W.view R.prog [62]) hk ob 20000 loose w := by
  intro os
  kernel_rfl
end HeadT
namespace Pr
open PySem PySem.Spec PyProof.Rows L2 Ev HeadT
def nms (K : PySem.W.Frag) : Nms := ⟨K, fun k => He.ga K ((([(.ofString "Web"), (.ofString "HourError"), (.ofString "BadWeb"), (.ofString "NoLot"), (.ofString "NoSort")] : List Str)[k]?).getD "object"), nmOf names⟩
def adr (K : PySem.W.Frag) (f : Nat) : Addr := He.fAd K ((([((.ofString "BadWeb"), some (.ofString "__init__")), ((.ofString "is_integer"), none), ((.ofString "is_within"), none), ((.ofString "is_pair"), none), ((.ofString "is_sort"), none), ((.ofString "are_ascending"), none), ((.ofString "check_sort"), none), ((.ofString "are_roads"), none), ((.ofString "are_counts"), none), ((.ofString "Web"), some (.ofString "__init__")), ((.ofString "Web"), some (.ofString "keep")), ((.ofString "Web"), some (.ofString "__eq__")), ((.ofString "is_road"), none), ((.ofString "is_lot"), none), ((.ofString "check_lot"), none), ((.ofString "check_lot_sort"), none), ((.ofString "may_be_last"), none), ((.ofString "forks_at"), none), ((.ofString "rows_at"), none), ((.ofString "places_of"), none), ((.ofString "bad_places"), none), ((.ofString "is_enough"), none), ((.ofString "leads_to"), none), ((.ofString "kind_of"), none), ((.ofString "kinds_of"), none), ((.ofString "kinds"), none), ((.ofString "is_kinds"), none), ((.ofString "_law_pool"), none), ((.ofString "_law_draw"), none), ((.ofString "_law_some"), none), ((.ofString "_law_free_roads"), none), ((.ofString "_law_tree_roads"), none), ((.ofString "_law_ring_roads"), none), ((.ofString "_law_web"), none), ((.ofString "_law_great_web"), none), ((.ofString "_law_nexts"), none), ((.ofString "_law_may_end"), none), ((.ofString "_law_bad"), none), ((.ofString "_law_lot"), none), ((.ofString "_law_enough_lot"), none), ((.ofString "_law_made"), none), ((.ofString "_law_kind"), none), ((.ofString "_law_kinds"), none), ((.ofString "_law_is_right"), none), ((.ofString "law"), none)] : List (Str × Option Str))[f]?).getD ("object", none))
theorem nms_inj {K : PySem.W.Frag} (f g : Nat) (h : (nms K).nm f = (nms K).nm g) : f = g := nmOf_inj (by decide +kernel) (by decide +kernel) f g h
theorem kit_base {K : PySem.W.Frag} (tg : Tag) (ty : Ev.Ty) (h1 : match tg with | .obj c => c < T.cls.length ∧ G.isa c = true | _ => True) (h2 : match ty with | .cls c => c < T.cls.length ∧ G.isa c = true | _ => True) : PySem.W.kitOne K (tagV (nms K) tg) (tyV1 (nms K) ty) = some (isTag G.sub tg ty) := by
  cases tg <;> cases ty <;> first | (exact absurd h1.2 (by simp [G])) | (exact absurd h2.2 (by simp [G])) | rfl | decide +kernel
theorem sc1 : FnScope (["thing"] : List Str) (T.par 1) (defScope (top 7)) := ⟨rfl, rfl, rfl, by decide +kernel, rfl, by decide +kernel, by decide +kernel⟩
theorem ok1 (K : PySem.W.Frag) : okSs T (nms K) ⟨(["thing"] : List Str), defScope (top 7), defScope (top 7), false⟩ c1 (defBody (top 7)) = true := by kernel_rfl
theorem sc2 : FnScope (["thing", "least", "most"] : List Str) (T.par 2) (defScope (top 8)) := ⟨rfl, rfl, rfl, by decide +kernel, rfl, by decide +kernel, by decide +kernel⟩
theorem ok2 (K : PySem.W.Frag) : okSs T (nms K) ⟨(["thing", "least", "most"] : List Str), defScope (top 8), defScope (top 8), false⟩ c2 (defBody (top 8)) = true := by kernel_rfl
theorem sc3 : FnScope (["thing"] : List Str) (T.par 3) (defScope (top 9)) := ⟨rfl, rfl, rfl, by decide +kernel, rfl, by decide +kernel, by decide +kernel⟩
theorem ok3 (K : PySem.W.Frag) : okSs T (nms K) ⟨(["thing"] : List Str), defScope (top 9), defScope (top 9), false⟩ c3 (defBody (top 9)) = true := by kernel_rfl
theorem sc4 : FnScope (["thing"] : List Str) (T.par 4) (defScope (top 10)) := ⟨rfl, rfl, rfl, by decide +kernel, rfl, by decide +kernel, by decide +kernel⟩
theorem ok4 (K : PySem.W.Frag) : okSs T (nms K) ⟨(["thing"] : List Str), defScope (top 10), defScope (top 10), false⟩ c4 (defBody (top 10)) = true := by kernel_rfl
theorem sc5 : FnScope (["numbers", "at"] : List Str) (T.par 5) (defScope (top 11)) := ⟨rfl, rfl, rfl, by decide +kernel, rfl, by decide +kernel, by decide +kernel⟩
theorem ok5 (K : PySem.W.Frag) : okSs T (nms K) ⟨(["numbers", "at"] : List Str), defScope (top 11), defScope (top 11), false⟩ c5 (defBody (top 11)) = true := by kernel_rfl
theorem sc6 : FnScope (["thing"] : List Str) (T.par 6) (defScope (top 12)) := ⟨rfl, rfl, rfl, by decide +kernel, rfl, by decide +kernel, by decide +kernel⟩
theorem ok6 (K : PySem.W.Frag) : okSs T (nms K) ⟨(["thing"] : List Str), defScope (top 12), defScope (top 12), false⟩ c6 (defBody (top 12)) = true := by kernel_rfl
theorem sc7 : FnScope (["thing", "houses", "pair", "house"] : List Str) (T.par 7) (defScope (top 18)) := ⟨rfl, rfl, rfl, by decide +kernel, rfl, by decide +kernel, by decide +kernel⟩
theorem ok7 (K : PySem.W.Frag) : okSs T (nms K) ⟨(["thing", "houses", "pair", "house"] : List Str), defScope (top 18), defScope (top 18), false⟩ c7 (defBody (top 18)) = true := by kernel_rfl
theorem sc8 : FnScope (["thing", "many", "most", "count"] : List Str) (T.par 8) (defScope (top 19)) := ⟨rfl, rfl, rfl, by decide +kernel, rfl, by decide +kernel, by decide +kernel⟩
theorem ok8 (K : PySem.W.Frag) : okSs T (nms K) ⟨(["thing", "many", "most", "count"] : List Str), defScope (top 19), defScope (top 19), false⟩ c8 (defBody (top 19)) = true := by kernel_rfl
theorem sc9 : FnScope (["self", "houses", "roads", "rooms", "times"] : List Str) (T.par 9) (defScope (inClass (top 20) 0)) := ⟨rfl, rfl, rfl, by decide +kernel, rfl, by decide +kernel, by decide +kernel⟩
theorem ok9 (K : PySem.W.Frag) : okSs T (nms K) ⟨(["self", "houses", "roads", "rooms", "times"] : List Str), defScope (inClass (top 20) 0), defScope (inClass (top 20) 0), false⟩ c9 (defBody (inClass (top 20) 0)) = true := by kernel_rfl
theorem sc10 : FnScope (["self", "houses", "roads", "rooms", "times", "begun", "road", "pair", "row"] : List Str) (T.par 10) (defScope (inClass (top 20) 1)) := ⟨rfl, rfl, rfl, by decide +kernel, rfl, by decide +kernel, by decide +kernel⟩
theorem ok10 (K : PySem.W.Frag) : okSs T (nms K) ⟨(["self", "houses", "roads", "rooms", "times", "begun", "road", "pair", "row"] : List Str), defScope (inClass (top 20) 1), defScope (inClass (top 20) 1), false⟩ c10 (defBody (inClass (top 20) 1)) = true := by kernel_rfl
theorem sc11 : FnScope (["self", "other"] : List Str) (T.par 11) (defScope (inClass (top 20) 2)) := ⟨rfl, rfl, rfl, by decide +kernel, rfl, by decide +kernel, by decide +kernel⟩
theorem ok11 (K : PySem.W.Frag) : okSs T (nms K) ⟨(["self", "other"] : List Str), defScope (inClass (top 20) 2), defScope (inClass (top 20) 2), false⟩ c11 (defBody (inClass (top 20) 2)) = true := by kernel_rfl
theorem sc12 : FnScope (["web", "thing"] : List Str) (T.par 12) (defScope (top 21)) := ⟨rfl, rfl, rfl, by decide +kernel, rfl, by decide +kernel, by decide +kernel⟩
theorem ok12 (K : PySem.W.Frag) : okSs T (nms K) ⟨(["web", "thing"] : List Str), defScope (top 21), defScope (top 21), false⟩ c12 (defBody (top 21)) = true := by kernel_rfl
theorem sc13 : FnScope (["web", "thing", "road"] : List Str) (T.par 13) (defScope (top 22)) := ⟨rfl, rfl, rfl, by decide +kernel, rfl, by decide +kernel, by decide +kernel⟩
theorem ok13 (K : PySem.W.Frag) : okSs T (nms K) ⟨(["web", "thing", "road"] : List Str), defScope (top 22), defScope (top 22), false⟩ c13 (defBody (top 22)) = true := by kernel_rfl
theorem sc14 : FnScope (["web", "thing"] : List Str) (T.par 14) (defScope (top 23)) := ⟨rfl, rfl, rfl, by decide +kernel, rfl, by decide +kernel, by decide +kernel⟩
theorem ok14 (K : PySem.W.Frag) : okSs T (nms K) ⟨(["web", "thing"] : List Str), defScope (top 23), defScope (top 23), false⟩ c14 (defBody (top 23)) = true := by kernel_rfl
theorem sc15 : FnScope (["web", "lot", "sort"] : List Str) (T.par 15) (defScope (top 24)) := ⟨rfl, rfl, rfl, by decide +kernel, rfl, by decide +kernel, by decide +kernel⟩
theorem ok15 (K : PySem.W.Frag) : okSs T (nms K) ⟨(["web", "lot", "sort"] : List Str), defScope (top 24), defScope (top 24), false⟩ c15 (defBody (top 24)) = true := by kernel_rfl
theorem sc16 : FnScope (["web", "lot", "sort", "road"] : List Str) (T.par 16) (defScope (top 33)) := ⟨rfl, rfl, rfl, by decide +kernel, rfl, by decide +kernel, by decide +kernel⟩
theorem ok16 (K : PySem.W.Frag) : okSs T (nms K) ⟨(["web", "lot", "sort", "road"] : List Str), defScope (top 33), defScope (top 33), false⟩ c16 (defBody (top 33)) = true := by kernel_rfl
theorem sc17 : FnScope (["web", "lot", "sort", "road", "after", "later"] : List Str) (T.par 17) (defScope (top 34)) := ⟨rfl, rfl, rfl, by decide +kernel, rfl, by decide +kernel, by decide +kernel⟩
theorem ok17 (K : PySem.W.Frag) : okSs T (nms K) ⟨(["web", "lot", "sort", "road", "after", "later"] : List Str), defScope (top 34), defScope (top 34), false⟩ c17 (defBody (top 34)) = true := by kernel_rfl
theorem sc18 : FnScope (["web", "lot", "sort", "road", "found", "middle", "later"] : List Str) (T.par 18) (defScope (top 35)) := ⟨rfl, rfl, rfl, by decide +kernel, rfl, by decide +kernel, by decide +kernel⟩
theorem ok18 (K : PySem.W.Frag) : okSs T (nms K) ⟨(["web", "lot", "sort", "road", "found", "middle", "later"] : List Str), defScope (top 35), defScope (top 35), false⟩ c18 (defBody (top 35)) = true := by kernel_rfl
theorem sc19 : FnScope (["web", "lot", "sort", "found", "road"] : List Str) (T.par 19) (defScope (top 36)) := ⟨rfl, rfl, rfl, by decide +kernel, rfl, by decide +kernel, by decide +kernel⟩
theorem ok19 (K : PySem.W.Frag) : okSs T (nms K) ⟨(["web", "lot", "sort", "found", "road"] : List Str), defScope (top 36), defScope (top 36), false⟩ c19 (defBody (top 36)) = true := by kernel_rfl
theorem sc20 : FnScope (["web", "lot", "sort"] : List Str) (T.par 20) (defScope (top 37)) := ⟨rfl, rfl, rfl, by decide +kernel, rfl, by decide +kernel, by decide +kernel⟩
theorem ok20 (K : PySem.W.Frag) : okSs T (nms K) ⟨(["web", "lot", "sort"] : List Str), defScope (top 37), defScope (top 37), false⟩ c20 (defBody (top 37)) = true := by kernel_rfl
theorem sc21 : FnScope (["web", "sort", "lot"] : List Str) (T.par 21) (defScope (top 38)) := ⟨rfl, rfl, rfl, by decide +kernel, rfl, by decide +kernel, by decide +kernel⟩
theorem ok21 (K : PySem.W.Frag) : okSs T (nms K) ⟨(["web", "sort", "lot"] : List Str), defScope (top 38), defScope (top 38), false⟩ c21 (defBody (top 38)) = true := by kernel_rfl
theorem sc22 : FnScope (["web", "lot", "road", "told", "later"] : List Str) (T.par 22) (defScope (top 39)) := ⟨rfl, rfl, rfl, by decide +kernel, rfl, by decide +kernel, by decide +kernel⟩
theorem ok22 (K : PySem.W.Frag) : okSs T (nms K) ⟨(["web", "lot", "road", "told", "later"] : List Str), defScope (top 39), defScope (top 39), false⟩ c22 (defBody (top 39)) = true := by kernel_rfl
theorem sc23 : FnScope (["web", "lot", "sort", "road"] : List Str) (T.par 23) (defScope (top 40)) := ⟨rfl, rfl, rfl, by decide +kernel, rfl, by decide +kernel, by decide +kernel⟩
theorem ok23 (K : PySem.W.Frag) : okSs T (nms K) ⟨(["web", "lot", "sort", "road"] : List Str), defScope (top 40), defScope (top 40), false⟩ c23 (defBody (top 40)) = true := by kernel_rfl
theorem sc24 : FnScope (["web", "lot", "sort", "found", "road", "kind", "after"] : List Str) (T.par 24) (defScope (top 41)) := ⟨rfl, rfl, rfl, by decide +kernel, rfl, by decide +kernel, by decide +kernel⟩
theorem ok24 (K : PySem.W.Frag) : okSs T (nms K) ⟨(["web", "lot", "sort", "found", "road", "kind", "after"] : List Str), defScope (top 41), defScope (top 41), false⟩ c24 (defBody (top 41)) = true := by kernel_rfl
theorem sc25 : FnScope (["web", "lot", "sort"] : List Str) (T.par 25) (defScope (top 42)) := ⟨rfl, rfl, rfl, by decide +kernel, rfl, by decide +kernel, by decide +kernel⟩
theorem ok25 (K : PySem.W.Frag) : okSs T (nms K) ⟨(["web", "lot", "sort"] : List Str), defScope (top 42), defScope (top 42), false⟩ c25 (defBody (top 42)) = true := by kernel_rfl
theorem sc26 : FnScope (["web", "lot", "sort", "thing"] : List Str) (T.par 26) (defScope (top 43)) := ⟨rfl, rfl, rfl, by decide +kernel, rfl, by decide +kernel, by decide +kernel⟩
theorem ok26 (K : PySem.W.Frag) : okSs T (nms K) ⟨(["web", "lot", "sort", "thing"] : List Str), defScope (top 43), defScope (top 43), false⟩ c26 (defBody (top 43)) = true := by kernel_rfl
theorem sc27 : FnScope (["_law_script", "_law_seed", "_law_cell"] : List Str) (T.par 27) (defScope (top 45)) := ⟨rfl, rfl, rfl, by decide +kernel, rfl, by decide +kernel, by decide +kernel⟩
theorem ok27 (K : PySem.W.Frag) : okSs T (nms K) ⟨(["_law_script", "_law_seed", "_law_cell"] : List Str), defScope (top 45), defScope (top 45), false⟩ c27 (defBody (top 45)) = true := by kernel_rfl
theorem sc28 : FnScope (["_law_pool_here", "_law_many", "_law_cells", "_law_mixed", "_law_digit"] : List Str) (T.par 28) (defScope (top 46)) := ⟨rfl, rfl, rfl, by decide +kernel, rfl, by decide +kernel, by decide +kernel⟩
theorem ok28 (K : PySem.W.Frag) : okSs T (nms K) ⟨(["_law_pool_here", "_law_many", "_law_cells", "_law_mixed", "_law_digit"] : List Str), defScope (top 46), defScope (top 46), false⟩ c28 (defBody (top 46)) = true := by kernel_rfl
theorem sc29 : FnScope (["_law_pool_here", "_law_things"] : List Str) (T.par 29) (defScope (top 47)) := ⟨rfl, rfl, rfl, by decide +kernel, rfl, by decide +kernel, by decide +kernel⟩
theorem ok29 (K : PySem.W.Frag) : okSs T (nms K) ⟨(["_law_pool_here", "_law_things"] : List Str), defScope (top 47), defScope (top 47), false⟩ c29 (defBody (top 47)) = true := by kernel_rfl
theorem sc30 : FnScope (["_law_pool_here", "_law_houses", "_law_many", "_law_roads", "_law_k", "_law_begin", "_law_end"] : List Str) (T.par 30) (defScope (top 48)) := ⟨rfl, rfl, rfl, by decide +kernel, rfl, by decide +kernel, by decide +kernel⟩
theorem ok30 (K : PySem.W.Frag) : okSs T (nms K) ⟨(["_law_pool_here", "_law_houses", "_law_many", "_law_roads", "_law_k", "_law_begin", "_law_end"] : List Str), defScope (top 48), defScope (top 48), false⟩ c30 (defBody (top 48)) = true := by kernel_rfl
theorem sc31 : FnScope (["_law_houses", "_law_pool_here", "_law_house"] : List Str) (T.par 31) (defScope (top 49)) := ⟨rfl, rfl, rfl, by decide +kernel, rfl, by decide +kernel, by decide +kernel⟩
theorem ok31 (K : PySem.W.Frag) : okSs T (nms K) ⟨(["_law_houses", "_law_pool_here", "_law_house"] : List Str), defScope (top 49), defScope (top 49), false⟩ c31 (defBody (top 49)) = true := by kernel_rfl
theorem sc32 : FnScope (["_law_houses", "_law_house"] : List Str) (T.par 32) (defScope (top 50)) := ⟨rfl, rfl, rfl, by decide +kernel, rfl, by decide +kernel, by decide +kernel⟩
theorem ok32 (K : PySem.W.Frag) : okSs T (nms K) ⟨(["_law_houses", "_law_house"] : List Str), defScope (top 50), defScope (top 50), false⟩ c32 (defBody (top 50)) = true := by kernel_rfl
theorem sc33 : FnScope (["_law_pool_here", "_law_most", "_law_kind_here", "_law_houses", "_law_roads", "_law_plain", "_law_rooms", "_law_times", "_law_ties", "_law_road", "_law_begin", "_law_end"] : List Str) (T.par 33) (defScope (top 51)) := ⟨rfl, rfl, rfl, by decide +kernel, rfl, by decide +kernel, by decide +kernel⟩
theorem ok33 (K : PySem.W.Frag) : okSs T (nms K) ⟨(["_law_pool_here", "_law_most", "_law_kind_here", "_law_houses", "_law_roads", "_law_plain", "_law_rooms", "_law_times", "_law_ties", "_law_road", "_law_begin", "_law_end"] : List Str), defScope (top 51), defScope (top 51), false⟩ c33 (defBody (top 51)) = true := by kernel_rfl
theorem sc34 : FnScope (["_law_pool_here", "_law_houses", "_law_roads", "_law_ones"] : List Str) (T.par 34) (defScope (top 52)) := ⟨rfl, rfl, rfl, by decide +kernel, rfl, by decide +kernel, by decide +kernel⟩
theorem ok34 (K : PySem.W.Frag) : okSs T (nms K) ⟨(["_law_pool_here", "_law_houses", "_law_roads", "_law_ones"] : List Str), defScope (top 52), defScope (top 52), false⟩ c34 (defBody (top 52)) = true := by kernel_rfl
theorem sc35 : FnScope (["_law_web_here", "_law_begins", "_law_found", "_law_begin", "_law_end", "_law_pair", "_law_k"] : List Str) (T.par 35) (defScope (top 53)) := ⟨rfl, rfl, rfl, by decide +kernel, rfl, by decide +kernel, by decide +kernel⟩
theorem ok35 (K : PySem.W.Frag) : okSs T (nms K) ⟨(["_law_web_here", "_law_begins", "_law_found", "_law_begin", "_law_end", "_law_pair", "_law_k"] : List Str), defScope (top 53), defScope (top 53), false⟩ c35 (defBody (top 53)) = true := by kernel_rfl
theorem sc36 : FnScope (["_law_nexts_here", "_law_lot_here", "_law_sort", "_law_road"] : List Str) (T.par 36) (defScope (top 54)) := ⟨rfl, rfl, rfl, by decide +kernel, rfl, by decide +kernel, by decide +kernel⟩
theorem ok36 (K : PySem.W.Frag) : okSs T (nms K) ⟨(["_law_nexts_here", "_law_lot_here", "_law_sort", "_law_road"] : List Str), defScope (top 54), defScope (top 54), false⟩ c36 (defBody (top 54)) = true := by kernel_rfl
theorem sc37 : FnScope (["_law_nexts_here", "_law_lot_here", "_law_sort", "_law_found", "_law_silent", "_law_a", "_law_b", "_law_m", "_law_road"] : List Str) (T.par 37) (defScope (top 55)) := ⟨rfl, rfl, rfl, by decide +kernel, rfl, by decide +kernel, by decide +kernel⟩
theorem ok37 (K : PySem.W.Frag) : okSs T (nms K) ⟨(["_law_nexts_here", "_law_lot_here", "_law_sort", "_law_found", "_law_silent", "_law_a", "_law_b", "_law_m", "_law_road"] : List Str), defScope (top 55), defScope (top 55), false⟩ c37 (defBody (top 55)) = true := by kernel_rfl
theorem sc38 : FnScope (["_law_pool_here", "_law_many", "_law_share", "_law_road"] : List Str) (T.par 38) (defScope (top 56)) := ⟨rfl, rfl, rfl, by decide +kernel, rfl, by decide +kernel, by decide +kernel⟩
theorem ok38 (K : PySem.W.Frag) : okSs T (nms K) ⟨(["_law_pool_here", "_law_many", "_law_share", "_law_road"] : List Str), defScope (top 56), defScope (top 56), false⟩ c38 (defBody (top 56)) = true := by kernel_rfl
theorem sc39 : FnScope (["_law_pool_here", "_law_nexts_here", "_law_sort", "_law_told", "_law_turn", "_law_places", "_law_place", "_law_more", "_law_road"] : List Str) (T.par 39) (defScope (top 57)) := ⟨rfl, rfl, rfl, by decide +kernel, rfl, by decide +kernel, by decide +kernel⟩
theorem ok39 (K : PySem.W.Frag) : okSs T (nms K) ⟨(["_law_pool_here", "_law_nexts_here", "_law_sort", "_law_told", "_law_turn", "_law_places", "_law_place", "_law_more", "_law_road"] : List Str), defScope (top 57), defScope (top 57), false⟩ c39 (defBody (top 57)) = true := by kernel_rfl
theorem sc40 : FnScope (["_law_web_here"] : List Str) (T.par 40) (defScope (top 58)) := ⟨rfl, rfl, rfl, by decide +kernel, rfl, by decide +kernel, by decide +kernel⟩
theorem ok40 (K : PySem.W.Frag) : okSs T (nms K) ⟨(["_law_web_here"] : List Str), defScope (top 58), defScope (top 58), false⟩ c40 (defBody (top 58)) = true := by kernel_rfl
theorem sc41 : FnScope (["_law_nexts_here", "_law_lot_here", "_law_sort", "_law_road", "_law_leading", "_law_silent", "_law_later"] : List Str) (T.par 41) (defScope (top 59)) := ⟨rfl, rfl, rfl, by decide +kernel, rfl, by decide +kernel, by decide +kernel⟩
theorem ok41 (K : PySem.W.Frag) : okSs T (nms K) ⟨(["_law_nexts_here", "_law_lot_here", "_law_sort", "_law_road", "_law_leading", "_law_silent", "_law_later"] : List Str), defScope (top 59), defScope (top 59), false⟩ c41 (defBody (top 59)) = true := by kernel_rfl
theorem sc42 : FnScope (["_law_nexts_here", "_law_lot_here", "_law_sort", "_law_found", "_law_road"] : List Str) (T.par 42) (defScope (top 60)) := ⟨rfl, rfl, rfl, by decide +kernel, rfl, by decide +kernel, by decide +kernel⟩
theorem ok42 (K : PySem.W.Frag) : okSs T (nms K) ⟨(["_law_nexts_here", "_law_lot_here", "_law_sort", "_law_found", "_law_road"] : List Str), defScope (top 60), defScope (top 60), false⟩ c42 (defBody (top 60)) = true := by kernel_rfl
theorem sc43 : FnScope (["_law_web_here", "_law_nexts_here", "_law_lot_here", "_law_sort", "_law_due", "_law_told"] : List Str) (T.par 43) (defScope (top 61)) := ⟨rfl, rfl, rfl, by decide +kernel, rfl, by decide +kernel, by decide +kernel⟩
theorem ok43 (K : PySem.W.Frag) : okSs T (nms K) ⟨(["_law_web_here", "_law_nexts_here", "_law_lot_here", "_law_sort", "_law_due", "_law_told"] : List Str), defScope (top 61), defScope (top 61), false⟩ c43 (defBody (top 61)) = true := by kernel_rfl
theorem sc44 : FnScope (["_law_script", "_law_pool_here", "_law_parts", "_law_nexts_here", "_law_web_here", "_law_sort", "_law_lots", "_law_lot_here"] : List Str) (T.par 44) (defScope (top 62)) := ⟨rfl, rfl, rfl, by decide +kernel, rfl, by decide +kernel, by decide +kernel⟩
theorem ok44 (K : PySem.W.Frag) : okSs T (nms K) ⟨(["_law_script", "_law_pool_here", "_law_parts", "_law_nexts_here", "_law_web_here", "_law_sort", "_law_lots", "_law_lot_here"] : List Str), defScope (top 62), defScope (top 62), false⟩ c44 (defBody (top 62)) = true := by kernel_rfl
theorem okf_list (f : Nat) (h : okf f = true) : f ∈ ([1, 2, 3, 4, 5, 6, 7, 8, 9, 10, 11, 12, 13, 14, 15, 16, 17, 18, 19, 20, 21, 22, 23, 24, 25, 26, 27, 28, 29, 30, 31, 32, 33, 34, 35, 36, 37, 38, 39, 40, 41, 42, 43, 44] : List Nat) := by simpa [okf] using h
theorem prf {K : PySem.W.Frag} {hp : Heap} {mg : Str → Option Value} (X : K.In hp) (Gm : hp.Ns mainGlobals mg) (c : He.SaysD fa fn K) (cx : Ev.SaysX fa fn fx K) : PrF T (nms K) G P K mg (adr K) okf where
  hK := rfl
  defs := fun f hf => by
    have hf := okf_list f hf
    simp only [List.mem_cons, List.not_mem_nil, or_false] at hf
    rcases hf with rfl | rfl | rfl | rfl | rfl | rfl | rfl | rfl | rfl | rfl | rfl | rfl | rfl | rfl | rfl | rfl | rfl | rfl | rfl | rfl | rfl | rfl | rfl | rfl | rfl | rfl | rfl | rfl | rfl | rfl | rfl | rfl | rfl | rfl | rfl | rfl | rfl | rfl | rfl | rfl | rfl | rfl | rfl | rfl
    · obtain ⟨fd, Fd⟩ := c.def_ 0 rfl
      exact ⟨_, fd, _, _, _, _, _, _, rfl, Fd, sc1, rfl, rfl, ok1 K, Fd.bindsN fun _ _ _ _ _ _ us hl => match us, hl with | [_], _ => rfl⟩
    · obtain ⟨fd, Fd⟩ := c.def_ 1 rfl
      exact ⟨_, fd, _, _, _, _, _, _, rfl, Fd, sc2, rfl, rfl, ok2 K, Fd.bindsN fun _ _ _ _ _ _ us hl => match us, hl with | [_, _, _], _ => rfl⟩
    · obtain ⟨fd, Fd⟩ := c.def_ 2 rfl
      exact ⟨_, fd, _, _, _, _, _, _, rfl, Fd, sc3, rfl, rfl, ok3 K, Fd.bindsN fun _ _ _ _ _ _ us hl => match us, hl with | [_], _ => rfl⟩
    · obtain ⟨fd, Fd⟩ := c.def_ 3 rfl
      exact ⟨_, fd, _, _, _, _, _, _, rfl, Fd, sc4, rfl, rfl, ok4 K, Fd.bindsN fun _ _ _ _ _ _ us hl => match us, hl with | [_], _ => rfl⟩
    · obtain ⟨fd, Fd⟩ := c.def_ 4 rfl
      exact ⟨_, fd, _, _, _, _, _, _, rfl, Fd, sc5, rfl, rfl, ok5 K, Fd.bindsN fun _ _ _ _ _ _ us hl => match us, hl with | [_], _ => rfl⟩
    · obtain ⟨fd, Fd⟩ := c.def_ 5 rfl
      exact ⟨_, fd, _, _, _, _, _, _, rfl, Fd, sc6, rfl, rfl, ok6 K, Fd.bindsN fun _ _ _ _ _ _ us hl => match us, hl with | [_], _ => rfl⟩
    · obtain ⟨fd, Fd⟩ := c.def_ 6 rfl
      exact ⟨_, fd, _, _, _, _, _, _, rfl, Fd, sc7, rfl, rfl, ok7 K, Fd.bindsN fun _ _ _ _ _ _ us hl => match us, hl with | [_, _], _ => rfl⟩
    · obtain ⟨fd, Fd⟩ := c.def_ 7 rfl
      exact ⟨_, fd, _, _, _, _, _, _, rfl, Fd, sc8, rfl, rfl, ok8 K, Fd.bindsN fun _ _ _ _ _ _ us hl => match us, hl with | [_, _, _], _ => rfl⟩
    · obtain ⟨fd, Fd⟩ := c.def_ 8 rfl
      exact ⟨_, fd, _, _, _, _, _, _, rfl, Fd, sc9, rfl, rfl, ok9 K, Fd.bindsN fun _ _ _ _ _ _ us hl => match us, hl with | [_, _, _, _, _], _ => rfl⟩
    · obtain ⟨fd, Fd⟩ := c.def_ 9 rfl
      exact ⟨_, fd, _, _, _, _, _, _, rfl, Fd, sc10, rfl, rfl, ok10 K, Fd.bindsN fun _ _ _ _ _ _ us hl => match us, hl with | [_, _, _, _, _], _ => rfl⟩
    · obtain ⟨fd, Fd⟩ := c.def_ 10 rfl
      exact ⟨_, fd, _, _, _, _, _, _, rfl, Fd, sc11, rfl, rfl, ok11 K, Fd.bindsN fun _ _ _ _ _ _ us hl => match us, hl with | [_, _], _ => rfl⟩
    · obtain ⟨fd, Fd⟩ := c.def_ 11 rfl
      exact ⟨_, fd, _, _, _, _, _, _, rfl, Fd, sc12, rfl, rfl, ok12 K, Fd.bindsN fun _ _ _ _ _ _ us hl => match us, hl with | [_, _], _ => rfl⟩
    · obtain ⟨fd, Fd⟩ := c.def_ 12 rfl
      exact ⟨_, fd, _, _, _, _, _, _, rfl, Fd, sc13, rfl, rfl, ok13 K, Fd.bindsN fun _ _ _ _ _ _ us hl => match us, hl with | [_, _], _ => rfl⟩
    · obtain ⟨fd, Fd⟩ := c.def_ 13 rfl
      exact ⟨_, fd, _, _, _, _, _, _, rfl, Fd, sc14, rfl, rfl, ok14 K, Fd.bindsN fun _ _ _ _ _ _ us hl => match us, hl with | [_, _], _ => rfl⟩
    · obtain ⟨fd, Fd⟩ := c.def_ 14 rfl
      exact ⟨_, fd, _, _, _, _, _, _, rfl, Fd, sc15, rfl, rfl, ok15 K, Fd.bindsN fun _ _ _ _ _ _ us hl => match us, hl with | [_, _, _], _ => rfl⟩
    · obtain ⟨fd, Fd⟩ := c.def_ 15 rfl
      exact ⟨_, fd, _, _, _, _, _, _, rfl, Fd, sc16, rfl, rfl, ok16 K, Fd.bindsN fun _ _ _ _ _ _ us hl => match us, hl with | [_, _, _, _], _ => rfl⟩
    · obtain ⟨fd, Fd⟩ := c.def_ 16 rfl
      exact ⟨_, fd, _, _, _, _, _, _, rfl, Fd, sc17, rfl, rfl, ok17 K, Fd.bindsN fun _ _ _ _ _ _ us hl => match us, hl with | [_, _, _, _], _ => rfl⟩
    · obtain ⟨fd, Fd⟩ := c.def_ 17 rfl
      exact ⟨_, fd, _, _, _, _, _, _, rfl, Fd, sc18, rfl, rfl, ok18 K, Fd.bindsN fun _ _ _ _ _ _ us hl => match us, hl with | [_, _, _, _], _ => rfl⟩
    · obtain ⟨fd, Fd⟩ := c.def_ 18 rfl
      exact ⟨_, fd, _, _, _, _, _, _, rfl, Fd, sc19, rfl, rfl, ok19 K, Fd.bindsN fun _ _ _ _ _ _ us hl => match us, hl with | [_, _, _], _ => rfl⟩
    · obtain ⟨fd, Fd⟩ := c.def_ 19 rfl
      exact ⟨_, fd, _, _, _, _, _, _, rfl, Fd, sc20, rfl, rfl, ok20 K, Fd.bindsN fun _ _ _ _ _ _ us hl => match us, hl with | [_, _, _], _ => rfl⟩
    · obtain ⟨fd, Fd⟩ := c.def_ 20 rfl
      exact ⟨_, fd, _, _, _, _, _, _, rfl, Fd, sc21, rfl, rfl, ok21 K, Fd.bindsN fun _ _ _ _ _ _ us hl => match us, hl with | [_, _, _], _ => rfl⟩
    · obtain ⟨fd, Fd⟩ := c.def_ 21 rfl
      exact ⟨_, fd, _, _, _, _, _, _, rfl, Fd, sc22, rfl, rfl, ok22 K, Fd.bindsN fun _ _ _ _ _ _ us hl => match us, hl with | [_, _, _, _], _ => rfl⟩
    · obtain ⟨fd, Fd⟩ := c.def_ 22 rfl
      exact ⟨_, fd, _, _, _, _, _, _, rfl, Fd, sc23, rfl, rfl, ok23 K, Fd.bindsN fun _ _ _ _ _ _ us hl => match us, hl with | [_, _, _, _], _ => rfl⟩
    · obtain ⟨fd, Fd⟩ := c.def_ 23 rfl
      exact ⟨_, fd, _, _, _, _, _, _, rfl, Fd, sc24, rfl, rfl, ok24 K, Fd.bindsN fun _ _ _ _ _ _ us hl => match us, hl with | [_, _, _], _ => rfl⟩
    · obtain ⟨fd, Fd⟩ := c.def_ 24 rfl
      exact ⟨_, fd, _, _, _, _, _, _, rfl, Fd, sc25, rfl, rfl, ok25 K, Fd.bindsN fun _ _ _ _ _ _ us hl => match us, hl with | [_, _, _], _ => rfl⟩
    · obtain ⟨fd, Fd⟩ := c.def_ 25 rfl
      exact ⟨_, fd, _, _, _, _, _, _, rfl, Fd, sc26, rfl, rfl, ok26 K, Fd.bindsN fun _ _ _ _ _ _ us hl => match us, hl with | [_, _, _, _], _ => rfl⟩
    · obtain ⟨fd, Fd⟩ := c.def_ 26 rfl
      exact ⟨_, fd, _, _, _, _, _, _, rfl, Fd, sc27, rfl, rfl, ok27 K, Fd.bindsN fun _ _ _ _ _ _ us hl => match us, hl with | [_], _ => rfl⟩
    · obtain ⟨fd, Fd⟩ := c.def_ 27 rfl
      exact ⟨_, fd, _, _, _, _, _, _, rfl, Fd, sc28, rfl, rfl, ok28 K, Fd.bindsN fun _ _ _ _ _ _ us hl => match us, hl with | [_, _], _ => rfl⟩
    · obtain ⟨fd, Fd⟩ := c.def_ 28 rfl
      exact ⟨_, fd, _, _, _, _, _, _, rfl, Fd, sc29, rfl, rfl, ok29 K, Fd.bindsN fun _ _ _ _ _ _ us hl => match us, hl with | [_, _], _ => rfl⟩
    · obtain ⟨fd, Fd⟩ := c.def_ 29 rfl
      exact ⟨_, fd, _, _, _, _, _, _, rfl, Fd, sc30, rfl, rfl, ok30 K, Fd.bindsN fun _ _ _ _ _ _ us hl => match us, hl with | [_, _, _], _ => rfl⟩
    · obtain ⟨fd, Fd⟩ := c.def_ 30 rfl
      exact ⟨_, fd, _, _, _, _, _, _, rfl, Fd, sc31, rfl, rfl, ok31 K, Fd.bindsN fun _ _ _ _ _ _ us hl => match us, hl with | [_, _], _ => rfl⟩
    · obtain ⟨fd, Fd⟩ := c.def_ 31 rfl
      exact ⟨_, fd, _, _, _, _, _, _, rfl, Fd, sc32, rfl, rfl, ok32 K, Fd.bindsN fun _ _ _ _ _ _ us hl => match us, hl with | [_], _ => rfl⟩
    · obtain ⟨fd, Fd⟩ := c.def_ 32 rfl
      exact ⟨_, fd, _, _, _, _, _, _, rfl, Fd, sc33, rfl, rfl, ok33 K, Fd.bindsN fun _ _ _ _ _ _ us hl => match us, hl with | [_, _], _ => rfl⟩
    · obtain ⟨fd, Fd⟩ := c.def_ 33 rfl
      exact ⟨_, fd, _, _, _, _, _, _, rfl, Fd, sc34, rfl, rfl, ok34 K, Fd.bindsN fun _ _ _ _ _ _ us hl => match us, hl with | [_], _ => rfl⟩
    · obtain ⟨fd, Fd⟩ := c.def_ 34 rfl
      exact ⟨_, fd, _, _, _, _, _, _, rfl, Fd, sc35, rfl, rfl, ok35 K, Fd.bindsN fun _ _ _ _ _ _ us hl => match us, hl with | [_], _ => rfl⟩
    · obtain ⟨fd, Fd⟩ := c.def_ 35 rfl
      exact ⟨_, fd, _, _, _, _, _, _, rfl, Fd, sc36, rfl, rfl, ok36 K, Fd.bindsN fun _ _ _ _ _ _ us hl => match us, hl with | [_, _, _, _], _ => rfl⟩
    · obtain ⟨fd, Fd⟩ := c.def_ 36 rfl
      exact ⟨_, fd, _, _, _, _, _, _, rfl, Fd, sc37, rfl, rfl, ok37 K, Fd.bindsN fun _ _ _ _ _ _ us hl => match us, hl with | [_, _, _], _ => rfl⟩
    · obtain ⟨fd, Fd⟩ := c.def_ 37 rfl
      exact ⟨_, fd, _, _, _, _, _, _, rfl, Fd, sc38, rfl, rfl, ok38 K, Fd.bindsN fun _ _ _ _ _ _ us hl => match us, hl with | [_, _], _ => rfl⟩
    · obtain ⟨fd, Fd⟩ := c.def_ 38 rfl
      exact ⟨_, fd, _, _, _, _, _, _, rfl, Fd, sc39, rfl, rfl, ok39 K, Fd.bindsN fun _ _ _ _ _ _ us hl => match us, hl with | [_, _, _], _ => rfl⟩
    · obtain ⟨fd, Fd⟩ := c.def_ 39 rfl
      exact ⟨_, fd, _, _, _, _, _, _, rfl, Fd, sc40, rfl, rfl, ok40 K, Fd.bindsN fun _ _ _ _ _ _ us hl => match us, hl with | [_], _ => rfl⟩
    · obtain ⟨fd, Fd⟩ := c.def_ 40 rfl
      exact ⟨_, fd, _, _, _, _, _, _, rfl, Fd, sc41, rfl, rfl, ok41 K, Fd.bindsN fun _ _ _ _ _ _ us hl => match us, hl with | [_, _, _, _], _ => rfl⟩
    · obtain ⟨fd, Fd⟩ := c.def_ 41 rfl
      exact ⟨_, fd, _, _, _, _, _, _, rfl, Fd, sc42, rfl, rfl, ok42 K, Fd.bindsN fun _ _ _ _ _ _ us hl => match us, hl with | [_, _, _], _ => rfl⟩
    · obtain ⟨fd, Fd⟩ := c.def_ 42 rfl
      exact ⟨_, fd, _, _, _, _, _, _, rfl, Fd, sc43, rfl, rfl, ok43 K, Fd.bindsN fun _ _ _ _ _ _ us hl => match us, hl with | [_, _, _, _], _ => rfl⟩
    · obtain ⟨fd, Fd⟩ := c.def_ 43 rfl
      exact ⟨_, fd, _, _, _, _, _, _, rfl, Fd, sc44, rfl, rfl, ok44 K, Fd.bindsN fun _ _ _ _ _ _ us hl => match us, hl with | [_], _ => rfl⟩
  fns := fun f x hx => by
    have hx := lookup_mem hx
    simp only [List.mem_cons, List.not_mem_nil, or_false, Prod.mk.injEq] at hx
    rcases hx with ⟨rfl, rfl⟩ | ⟨rfl, rfl⟩ | ⟨rfl, rfl⟩ | ⟨rfl, rfl⟩ | ⟨rfl, rfl⟩ | ⟨rfl, rfl⟩ | ⟨rfl, rfl⟩ | ⟨rfl, rfl⟩ | ⟨rfl, rfl⟩ | ⟨rfl, rfl⟩ | ⟨rfl, rfl⟩ | ⟨rfl, rfl⟩ | ⟨rfl, rfl⟩ | ⟨rfl, rfl⟩ | ⟨rfl, rfl⟩ | ⟨rfl, rfl⟩ | ⟨rfl, rfl⟩ | ⟨rfl, rfl⟩ | ⟨rfl, rfl⟩ | ⟨rfl, rfl⟩ | ⟨rfl, rfl⟩ | ⟨rfl, rfl⟩ | ⟨rfl, rfl⟩ | ⟨rfl, rfl⟩ | ⟨rfl, rfl⟩ | ⟨rfl, rfl⟩ | ⟨rfl, rfl⟩ | ⟨rfl, rfl⟩ | ⟨rfl, rfl⟩ | ⟨rfl, rfl⟩ | ⟨rfl, rfl⟩ | ⟨rfl, rfl⟩ | ⟨rfl, rfl⟩ | ⟨rfl, rfl⟩ | ⟨rfl, rfl⟩ | ⟨rfl, rfl⟩ | ⟨rfl, rfl⟩ | ⟨rfl, rfl⟩ | ⟨rfl, rfl⟩ | ⟨rfl, rfl⟩ | ⟨rfl, rfl⟩
    · exact ⟨rfl, He.glo_ok X Gm (c.fact 0 (f := .glo "is_integer") rfl)⟩
    · exact ⟨rfl, He.glo_ok X Gm (c.fact 1 (f := .glo "is_within") rfl)⟩
    · exact ⟨rfl, He.glo_ok X Gm (c.fact 2 (f := .glo "is_pair") rfl)⟩
    · exact ⟨rfl, He.glo_ok X Gm (c.fact 3 (f := .glo "is_sort") rfl)⟩
    · exact ⟨rfl, He.glo_ok X Gm (c.fact 4 (f := .glo "are_ascending") rfl)⟩
    · exact ⟨rfl, He.glo_ok X Gm (c.fact 5 (f := .glo "check_sort") rfl)⟩
    · exact ⟨rfl, He.glo_ok X Gm (c.fact 6 (f := .glo "are_roads") rfl)⟩
    · exact ⟨rfl, He.glo_ok X Gm (c.fact 7 (f := .glo "are_counts") rfl)⟩
    · exact ⟨rfl, He.glo_ok X Gm (c.fact 8 (f := .glo "is_road") rfl)⟩
    · exact ⟨rfl, He.glo_ok X Gm (c.fact 9 (f := .glo "is_lot") rfl)⟩
    · exact ⟨rfl, He.glo_ok X Gm (c.fact 10 (f := .glo "check_lot") rfl)⟩
    · exact ⟨rfl, He.glo_ok X Gm (c.fact 11 (f := .glo "check_lot_sort") rfl)⟩
    · exact ⟨rfl, He.glo_ok X Gm (c.fact 12 (f := .glo "may_be_last") rfl)⟩
    · exact ⟨rfl, He.glo_ok X Gm (c.fact 13 (f := .glo "forks_at") rfl)⟩
    · exact ⟨rfl, He.glo_ok X Gm (c.fact 14 (f := .glo "rows_at") rfl)⟩
    · exact ⟨rfl, He.glo_ok X Gm (c.fact 15 (f := .glo "places_of") rfl)⟩
    · exact ⟨rfl, He.glo_ok X Gm (c.fact 16 (f := .glo "bad_places") rfl)⟩
    · exact ⟨rfl, He.glo_ok X Gm (c.fact 17 (f := .glo "is_enough") rfl)⟩
    · exact ⟨rfl, He.glo_ok X Gm (c.fact 18 (f := .glo "leads_to") rfl)⟩
    · exact ⟨rfl, He.glo_ok X Gm (c.fact 19 (f := .glo "kind_of") rfl)⟩
    · exact ⟨rfl, He.glo_ok X Gm (c.fact 20 (f := .glo "kinds_of") rfl)⟩
    · exact ⟨rfl, He.glo_ok X Gm (c.fact 21 (f := .glo "kinds") rfl)⟩
    · exact ⟨rfl, He.glo_ok X Gm (c.fact 22 (f := .glo "is_kinds") rfl)⟩
    · exact ⟨rfl, He.glo_ok X Gm (c.fact 23 (f := .glo "_law_pool") rfl)⟩
    · exact ⟨rfl, He.glo_ok X Gm (c.fact 24 (f := .glo "_law_draw") rfl)⟩
    · exact ⟨rfl, He.glo_ok X Gm (c.fact 25 (f := .glo "_law_some") rfl)⟩
    · exact ⟨rfl, He.glo_ok X Gm (c.fact 26 (f := .glo "_law_free_roads") rfl)⟩
    · exact ⟨rfl, He.glo_ok X Gm (c.fact 27 (f := .glo "_law_tree_roads") rfl)⟩
    · exact ⟨rfl, He.glo_ok X Gm (c.fact 28 (f := .glo "_law_ring_roads") rfl)⟩
    · exact ⟨rfl, He.glo_ok X Gm (c.fact 29 (f := .glo "_law_web") rfl)⟩
    · exact ⟨rfl, He.glo_ok X Gm (c.fact 30 (f := .glo "_law_great_web") rfl)⟩
    · exact ⟨rfl, He.glo_ok X Gm (c.fact 31 (f := .glo "_law_nexts") rfl)⟩
    · exact ⟨rfl, He.glo_ok X Gm (c.fact 32 (f := .glo "_law_may_end") rfl)⟩
    · exact ⟨rfl, He.glo_ok X Gm (c.fact 33 (f := .glo "_law_bad") rfl)⟩
    · exact ⟨rfl, He.glo_ok X Gm (c.fact 34 (f := .glo "_law_lot") rfl)⟩
    · exact ⟨rfl, He.glo_ok X Gm (c.fact 35 (f := .glo "_law_enough_lot") rfl)⟩
    · exact ⟨rfl, He.glo_ok X Gm (c.fact 36 (f := .glo "_law_made") rfl)⟩
    · exact ⟨rfl, He.glo_ok X Gm (c.fact 37 (f := .glo "_law_kind") rfl)⟩
    · exact ⟨rfl, He.glo_ok X Gm (c.fact 38 (f := .glo "_law_kinds") rfl)⟩
    · exact ⟨rfl, He.glo_ok X Gm (c.fact 39 (f := .glo "_law_is_right") rfl)⟩
    · exact ⟨rfl, He.glo_ok X Gm (c.fact 40 (f := .glo "law") rfl)⟩
  mts := fun k m f hx => by
    have hx := find_mem hx
    simp only [List.mem_cons, List.not_mem_nil, or_false, Prod.mk.injEq] at hx
    rcases hx with ⟨rfl, rfl, rfl⟩
    · exact ⟨rfl, by decide, He.meth_ok (c.fact 74 (f := .meth "Web" "keep") rfl)⟩
  inis := fun k f hx => by
    have hx := lookup_mem hx
    simp only [List.mem_cons, List.not_mem_nil, or_false, Prod.mk.injEq] at hx
    rcases hx with ⟨rfl, rfl⟩
    · exact ⟨rfl, by decide, He.mkr_ok (c.fact 75 (f := .mkr "Web") rfl)⟩
  blt := fun x hx => by
    simp only [bltNames, List.mem_cons, List.mem_nil_iff, or_false] at hx
    rcases hx with rfl | rfl | rfl | rfl | rfl | rfl | rfl | rfl | rfl | rfl | rfl | rfl | rfl | rfl | rfl | rfl | rfl | rfl | rfl | rfl | rfl
    · exact He.free_ok X Gm (c.fact 41 (f := .free "len") rfl)
    · exact He.free_ok X Gm (c.fact 42 (f := .free "abs") rfl)
    · exact He.free_ok X Gm (c.fact 43 (f := .free "int") rfl)
    · exact He.free_ok X Gm (c.fact 44 (f := .free "tuple") rfl)
    · exact He.free_ok X Gm (c.fact 45 (f := .free "list") rfl)
    · exact He.free_ok X Gm (c.fact 46 (f := .free "sum") rfl)
    · exact He.free_ok X Gm (c.fact 47 (f := .free "all") rfl)
    · exact He.free_ok X Gm (c.fact 48 (f := .free "any") rfl)
    · exact He.free_ok X Gm (c.fact 49 (f := .free "min") rfl)
    · exact He.free_ok X Gm (c.fact 50 (f := .free "max") rfl)
    · exact He.free_ok X Gm (c.fact 51 (f := .free "sorted") rfl)
    · exact He.free_ok X Gm (c.fact 52 (f := .free "set") rfl)
    · exact He.free_ok X Gm (c.fact 53 (f := .free "str") rfl)
    · exact He.free_ok X Gm (c.fact 54 (f := .free "divmod") rfl)
    · exact He.free_ok X Gm (c.fact 55 (f := .free "isinstance") rfl)
    · exact He.free_ok X Gm (c.fact 56 (f := .free "bool") rfl)
    · exact He.free_ok X Gm (c.fact 57 (f := .free "dict") rfl)
    · exact He.free_ok X Gm (c.fact 58 (f := .free "range") rfl)
    · exact He.free_ok X Gm (c.fact 59 (f := .free "enumerate") rfl)
    · exact He.free_ok X Gm (c.fact 60 (f := .free "zip") rfl)
    · exact He.free_ok X Gm (c.fact 61 (f := .free "reversed") rfl)
  con := fun g x hx => by
    have hx := lookup_mem hx
    simp only [List.mem_cons, List.not_mem_nil, or_false, Prod.mk.injEq] at hx
    rcases hx with ⟨rfl, rfl⟩ | ⟨rfl, rfl⟩ | ⟨rfl, rfl⟩ | ⟨rfl, rfl⟩ | ⟨rfl, rfl⟩ | ⟨rfl, rfl⟩ | ⟨rfl, rfl⟩ | ⟨rfl, rfl⟩ | ⟨rfl, rfl⟩ | ⟨rfl, rfl⟩ | ⟨rfl, rfl⟩ | ⟨rfl, rfl⟩
    · obtain ⟨v, u, e1, e2, e3⟩ := conB_ok (N := nms K) X Gm (cx.more 0 (f := .con "SORTS" (.tup [(.str "hours"), (.str "turns")])) rfl)
      exact ⟨_, v, u, rfl, e1, e2, trivial, e3⟩
    · obtain ⟨t, e⟩ := He.int_ok X Gm (c.fact 62 (f := .int "MOST_HOUSES" 12) rfl)
      exact ⟨_, .int 12, _, rfl, e, ⟨t, rfl⟩, trivial, fun _ _ _ => .int _⟩
    · obtain ⟨t, e⟩ := He.int_ok X Gm (c.fact 63 (f := .int "MOST_ROADS" 24) rfl)
      exact ⟨_, .int 24, _, rfl, e, ⟨t, rfl⟩, trivial, fun _ _ _ => .int _⟩
    · obtain ⟨t, e⟩ := He.int_ok X Gm (c.fact 64 (f := .int "MOST_ROOMS" 3) rfl)
      exact ⟨_, .int 3, _, rfl, e, ⟨t, rfl⟩, trivial, fun _ _ _ => .int _⟩
    · obtain ⟨t, e⟩ := He.int_ok X Gm (c.fact 65 (f := .int "MOST_TIME" 3) rfl)
      exact ⟨_, .int 3, _, rfl, e, ⟨t, rfl⟩, trivial, fun _ _ _ => .int _⟩
    · obtain ⟨v, u, e1, e2, e3⟩ := conB_ok (N := nms K) X Gm (cx.more 1 (f := .con "TOLD" (.str "told")) rfl)
      exact ⟨_, v, u, rfl, e1, e2, trivial, e3⟩
    · obtain ⟨v, u, e1, e2, e3⟩ := conB_ok (N := nms K) X Gm (cx.more 2 (f := .con "END" (.str "end")) rfl)
      exact ⟨_, v, u, rfl, e1, e2, trivial, e3⟩
    · obtain ⟨v, u, e1, e2, e3⟩ := conB_ok (N := nms K) X Gm (cx.more 3 (f := .con "FIRST" (.str "first")) rfl)
      exact ⟨_, v, u, rfl, e1, e2, trivial, e3⟩
    · obtain ⟨v, u, e1, e2, e3⟩ := conB_ok (N := nms K) X Gm (cx.more 4 (f := .con "SECOND" (.str "second")) rfl)
      exact ⟨_, v, u, rfl, e1, e2, trivial, e3⟩
    · obtain ⟨v, u, e1, e2, e3⟩ := conB_ok (N := nms K) X Gm (cx.more 5 (f := .con "QUEUE" (.str "queue")) rfl)
      exact ⟨_, v, u, rfl, e1, e2, trivial, e3⟩
    · obtain ⟨v, u, e1, e2, e3⟩ := conB_ok (N := nms K) X Gm (cx.more 6 (f := .con "FORK" (.str "fork")) rfl)
      exact ⟨_, v, u, rfl, e1, e2, trivial, e3⟩
    · obtain ⟨v, u, e1, e2, e3⟩ := conB_ok (N := nms K) X Gm (cx.more 7 (f := .con "ROW" (.str "row")) rfl)
      exact ⟨_, v, u, rfl, e1, e2, trivial, e3⟩
  cls := fun k x hx => by
    match k, hx with
    | 0, hx =>
      cases hx
      exact He.glo_ok X Gm (c.fact 66 (f := .glo "Web") rfl)
    | n + 1, hx => exact absurd hx (by simp [T])
  fld := fun k hk => by
    match k, hk with
    | 0, hk =>
      refine ⟨He.cls_ok (c.fact 67 (f := .cls "Web") rfl), fun f hf => ?_⟩
      have hf : f ∈ ([1, 2, 3, 4, 5, 6] : List Nat) := by simpa [G] using hf
      simp only [List.mem_cons, List.not_mem_nil, or_false] at hf
      rcases hf with rfl | rfl | rfl | rfl | rfl | rfl
      · exact He.noat_ok (c.fact 68 (f := .noat "Web" "houses") rfl)
      · exact He.noat_ok (c.fact 69 (f := .noat "Web" "roads") rfl)
      · exact He.noat_ok (c.fact 70 (f := .noat "Web" "rooms") rfl)
      · exact He.noat_ok (c.fact 71 (f := .noat "Web" "times") rfl)
      · exact He.noat_ok (c.fact 72 (f := .noat "Web" "kept_next") rfl)
      · exact He.noat_ok (c.fact 73 (f := .noat "Web" "kept_leads") rfl)
    | n + 1, hk => exact absurd hk (by simp [T])
  exn := fun k x hx => by
    have hx := lookup_mem hx
    simp only [List.mem_cons, List.not_mem_nil, or_false, Prod.mk.injEq] at hx
    rcases hx with ⟨rfl, rfl⟩ | ⟨rfl, rfl⟩
    · exact He.glo_ok X Gm (c.fact 76 (f := .glo "NoLot") rfl)
    · exact He.glo_ok X Gm (c.fact 77 (f := .glo "NoSort") rfl)
  hdn := fun k x hx => by
    exact absurd hx (by simp [T])
  exo := fun k hk => by
    have hk : k ∈ ([3, 4] : List Nat) := by
      by_cases z : ([3, 4] : List Nat).contains k = true
      · simpa using z
      · exact absurd hk (by simp only [G]; rw [if_neg z]; simp)
    simp only [List.mem_cons, List.not_mem_nil, or_false] at hk
    rcases hk with rfl | rfl
    · obtain ⟨e1, e2, e3, e4⟩ := He.exc_ok (c.fact 78 (f := .exc "NoLot") rfl)
      exact ⟨e1, e2, e3, e4⟩
    · obtain ⟨e1, e2, e3, e4⟩ := He.exc_ok (c.fact 79 (f := .exc "NoSort") rfl)
      exact ⟨e1, e2, e3, e4⟩
  exm := fun j k x hj hx => by
    exact absurd hx (by simp [T])
  ncl := rfl
  nm := nms_inj
  kit := fun tg ty h1 h2 => kit_base tg ty h1 h2
  ist := fun k _ hk => by exact absurd hk (by simp [G])
end Pr
open PySem PySem.W PySem.Calls PyProof.Rows
theorem PySem.Challenge.cw_hourcards_k26_whole_kinds_or_a_bad_place_holds : PySem.Challenge.rw_hourcards_k26_whole_kinds_or_a_bad_place.Holds := by
  w_on; o_law
  refine HandSHeadRun.head_any (r := OpenLaw.row PySem.Challenge.rw_hourcards_k26_whole_kinds_or_a_bad_place) (q := view (OpenLaw.row PySem.Challenge.rw_hourcards_k26_whole_kinds_or_a_bad_place).prog [62]) (H := HeadT.hk) (ob := HeadT.ob) (M := 20000) (loose := HeadT.loose) (d := HandSHeadRun.topDef (OpenLaw.row PySem.Challenge.rw_hourcards_k26_whole_kinds_or_a_bad_place).prog 62) (kwd := []) HeadT.ob_eq
    (by kernel_rfl) (fun s => by kernel_rfl) HeadT.run (by kernel_rfl) (by kernel_rfl) (by kernel_rfl) (by rfl) (by first | assumption | decide +kernel) (by decide +kernel) ⟨rfl, rfl, rfl, rfl, rfl, by decide +kernel⟩ ?hw ?hc
  case hw => w_witness2
  case hc =>
    refine L2.walk_ofE (l := PySem.Challenge.rw_hourcards_k26_whole_kinds_or_a_bad_place) (n := 63) (k := 2 * Pr.depth) (x := "_law_script") (CX := L2.CX0) rfl (by decide) (by kernel_rfl) ⟨rfl, by decide, by decide⟩ ?F ?hCX
    case F =>
      intro w mg fa h Y Gm hmg0
      obtain ⟨K, KX, cx⟩ := Y
      have c := cx.base
      have hmg : mg ("law" : PySem.Str) = some (.ref fa) := by
        have e : (HandSHeadRun.topDef (OpenLaw.row PySem.Challenge.rw_hourcards_k26_whole_kinds_or_a_bad_place).prog 62).name = ("law" : PySem.Str) := by kernel_rfl
        rw [← e]
        exact hmg0
      obtain ⟨fd, Fd⟩ := c.def_ 43 rfl
      have pf := Pr.prf KX Gm c cx
      have e := hmg.symm.trans (He.glo_ok KX Gm (c.fact 40 (f := .glo "law") rfl))
      cases e
      have b := L2.FunD.bindsA (ps := ["_law_script"]) Fd fun _ _ _ _ _ _ us hl => match us, hl with | [_], _ => rfl
      refine ⟨K, fd, Ev.spLaw K 63, KX, fun s u => b s [u] rfl, fun H a ns hl _ hS => ⟨a, ns, rfl, hl, hS, fun _ => rfl⟩, fun base _ _ => ?_⟩
      obtain ⟨fd', q2, q3, q4, q5, _, _, _, _, _, q6⟩ := Ev.run_ok (P := (PySem.Challenge.rw_hourcards_k26_whole_kinds_or_a_bad_place).prog) (w := w) (base := base) pf Pr.depth 44 rfl
      obtain rfl := Ev.fd_same Fd q6
      exact Ev.FnOk.calm q4 (Ev.law_ok (N := Pr.nms K) rfl Pr.law)
    case hCX => exact fun _ _ _ _ z => z
