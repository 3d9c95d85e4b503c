import PyProof.Rows.All
import Wide.All
import OpenK.AllK
import Wide.FinOn
import KE.KStateDown
import Lean
import HandS.Base
import HandS.Call
import HandS.Ends
import HandS.More
import HandS.Words
import HandS.WordsExc
import HandS.Defaults
import HandS.Head0
import HandS.Head1
import HandS.Head2
import HandS.HeadEnd
import HandS.HeadHook1
import HandS.HeadHook2
import PyProof.TableCode
import PySem.Str
import HandS.ForExc
import HandS.Iter
import HandS.Comp
import HandS.Dict
import HandS.TupAny
import HandS.TupMul
import HandS.Wide
import KE.DataEq
import KE.DataCmp
import KE.LtData
import HandS.IsInst
import KE.SortData
import HandS.Text
import HandS.Style
import KE.GoesEnum
import KE.GoesZip
import HandS.Walk
import HandS.Zip
import HandS.Conv
import HandS.Codes
import PySem.Challenge.RW_hourcards_k77_whole_least_plan
set_option Elab.async false
set_option linter.all false
set_option maxRecDepth 100000
set_option maxHeartbeats 0
set_option autoImplicit false
set_option autoImplicit false
/-! The core: values, expressions, statements, and what they do. Plain Lean: no program, no model in sight. -/
namespace Ev
open PySem (Str)

/-! ### values -/
inductive D where
  | non | bl (b : Bool) | int (i : Int) | str (x : Str)
  | tup (xs : List D) | lst (xs : List D)
  | dct (kvs : List (D × D))
  | obj (c : Nat) (fs : List (Nat × D))
  | ref (k : Nat)
  deriving Inhabited
/-- what may change: a slot's own thing, or a thing of the store -/
inductive Cell where
  | lst (xs : List D) | dct (kvs : List (D × D)) | obj (c : Nat) (fs : List (Nat × D))
  deriving Inhabited
def Cell.toD : Cell → D
  | .lst xs => .lst xs | .dct kvs => .dct kvs | .obj c fs => .obj c fs

mutual
def eqB : D → D → Bool
  | .non, .non => true
  | .bl a, .bl b => a == b
  | .bl a, .int j => (if a then 1 else 0) == j
  | .int i, .bl b => i == (if b then 1 else 0)
  | .int i, .int j => i == j
  | .str x, .str y => x == y
  | .lst xs, .lst ys => eqBs xs ys
  | .tup xs, .tup ys => eqBs xs ys
  | _, _ => false
def eqBs : List D → List D → Bool
  | [], [] => true
  | x :: xs, y :: ys => eqB x y && eqBs xs ys
  | _, _ => false
end
mutual
def ltB : D → D → Bool
  | .bl a, .bl b => !a && b
  | .int i, .int j => decide (i < j)
  | .str x, .str y => decide (x.cps.toList < y.cps.toList)
  | .lst xs, .lst ys => ltBs xs ys
  | .tup xs, .tup ys => ltBs xs ys
  | _, _ => false
def ltBs : List D → List D → Bool
  | [], [] => false
  | [], _ :: _ => true
  | _ :: _, [] => false
  | x :: xs, y :: ys => if eqB x y then ltBs xs ys else ltB x y
end
mutual
/-- comparable place by place -/
def alk : D → D → Bool
  | .non, .non => true
  | .bl _, .bl _ => true
  | .int _, .int _ => true
  | .str _, .str _ => true
  | .lst xs, .lst ys => alks xs ys
  | .tup xs, .tup ys => alks xs ys
  | _, _ => false
def alks : List D → List D → Bool
  | x :: xs, y :: ys => alk x y && alks xs ys
  | _, _ => true
end
mutual
/-- plain data, not too deep -/
def D.fin : Nat → D → Bool
  | _, .non | _, .bl _ | _, .int _ | _, .str _ => true
  | 0, _ => false
  | n + 1, .tup xs => D.fins n xs
  | n + 1, .lst xs => D.fins n xs
  | _, _ => false
def D.fins : Nat → List D → Bool
  | _, [] => true
  | n, x :: xs => D.fin n x && D.fins n xs
end
mutual
/-- all refs are below n -/
def D.blw (n : Nat) : D → Bool
  | .ref k => decide (k < n)
  | .tup xs | .lst xs => D.blws n xs
  | .dct kvs => D.blwk n kvs
  | .obj _ fs => D.blwf n fs
  | _ => true
def D.blws (n : Nat) : List D → Bool
  | [] => true
  | x :: xs => x.blw n && D.blws n xs
def D.blwk (n : Nat) : List (D × D) → Bool
  | [] => true
  | (k, x) :: xs => k.blw n && x.blw n && D.blwk n xs
def D.blwf (n : Nat) : List (Nat × D) → Bool
  | [] => true
  | (_, x) :: xs => x.blw n && D.blwf n xs
end
def Cell.blw (n : Nat) : Cell → Bool
  | .lst xs => D.blws n xs
  | .dct kvs => D.blwk n kvs
  | .obj _ fs => D.blwf n fs

/-! ### the language -/
inductive Op where | add | sub | mul | fdiv | mod | pow
  deriving DecidableEq
inductive Cm where | eq | ne | lt | le | gt | ge | inn | nin | isN | notN
  deriving DecidableEq
inductive Bi where
  | len | abs | int | tuple | list | sum | min1 | max1 | min2 | max2 | all | any | sorted | set | str | divmod
  | sset
  deriving DecidableEq
inductive Bm where | get | count | index | split | join | strip
  deriving DecidableEq
inductive Mm where | append | extend | pop | popAt | reverse | clear | insert | remove
  deriving DecidableEq
inductive Ty where | int | bool | str | tuple | list | dict | cls (c : Nat)
  deriving DecidableEq
inductive Ck where | plain | trunc | pure
  deriving DecidableEq
mutual
inductive Tg where
  | v (i : Nat) | tup (ts : Tgs)
inductive Tgs where
  | nil | cons (t : Tg) (ts : Tgs)
end
mutual
inductive Ex where
  | v (i : Nat) | con (g : Nat)
  | int (i : Int) | str (x : Str) | bl (b : Bool) | non
  | bin (op : Op) (a b : Ex) | neg (a : Ex) | not (a : Ex)
  | and (es : Exs) | or (es : Exs) | ife (t a b : Ex)
  | cmp (c : Cm) (a b : Ex) | chain (c c' : Cm) (a b d : Ex)
  | tup (es : Exs) | lst (es : Exs) | dct (ks vs : Exs)
  | new (e : Ex)
  | idx (a i : Ex) | sl (a lo hi : Ex) | rev (a : Ex)      -- a part left out: non; a[::-1]
  | attr (a : Ex) (f : Nat)
  | call (q : Ck) (f : Nat) (es : Exs) | mk (c : Nat) (es : Exs) | mkN (c : Nat) (es : Exs) | meth (q : Ck) (o : Ex) (m : Nat) (es : Exs)
  | bi (b : Bi) (es : Exs) | bm (m : Bm) (o : Ex) (es : Exs) | mm (m : Mm) (o : Ex) (es : Exs)
  | ext (o e : Ex)
  | sdef (o k : Ex)                                        -- o.setdefault(k, []): a list of the store
  | rg (t : Bool) (a b : Ex)                               -- tuple(range(a, b)), list(..); range(b): a the 0
  | rg3 (a b c : Ex)
  | isi (e : Ex) (ts : List Ty)
  | lc (elt : Ex) (tg : Tg) (it : It) (ifs : Exs) (own : List Nat)
  | bad
inductive Exs where
  | nil | cons (e : Ex) (es : Exs)
inductive It where
  | val (e : Ex) | rng1 (e : Ex) | rng2 (a b : Ex) | enum (e : Ex) (n : Int) | zip (a b : Ex) | rev (e : Ex) | revr (e : Ex) | items (e : Ex) | vals (e : Ex)
end
mutual
inductive St where
  | asg (t : Tg) (e : Ex)
  | asgO (i : Nat) (e : Ex)        -- a slot's own new thing
  | asgF (o : Ex) (f : Nat) (e : Ex) | asgI (o i e : Ex)
  | aug (i : Nat) (op : Op) (e : Ex) | augF (o : Ex) (f : Nat) (op : Op) (e : Ex) | augI (o i : Ex) (op : Op) (e : Ex)
  | ex (e : Ex)
  | ife (c : Ex) (a b : Sts)
  | whl (n : Nat) (c : Ex) (a : Sts) (kl : List Nat)
  | for (tg : Tg) (it : It) (a : Sts) (kl : List Nat)
  | ret (e : Ex) | retN
  | brk | cnt | pass
  | rais (c : Nat) (es : Exs)
  | tryx (a : Sts) (hs : Hds)
  | bad
inductive Sts where
  | nil | cons (s : St) (ss : Sts)
inductive Hds where
  | nil | cons (c : Nat) (bd : Option Nat) (a : Sts) (hs : Hds)
end

def Ex.isNon : Ex → Bool
  | .non => true
  | _ => false
def Exs.isNil : Exs → Bool
  | .nil => true
  | _ => false
/-! ### the state -/
inductive LV where
  | d (x : D) | own (c : Cell)
structure S where
  loc : List (Option LV)
  cel : List Cell
structure Exc where
  c : Nat
  fs : List (Nat × D)
inductive Res (α : Type) where
  | ok (a : α) (s : S) | exc (e : Exc) (s : S) | stk
abbrev M (α : Type) := S → Res α
def M.bind {α β : Type} (m : M α) (f : α → M β) : M β := fun s => match m s with
  | .ok a s' => f a s'
  | .exc e s' => .exc e s'
  | .stk => .stk
def M.pure {α : Type} (a : α) : M α := fun s => .ok a s
def stk {α : Type} : M α := fun _ => .stk
def M.of {α : Type} : Option α → M α
  | some a => M.pure a
  | none => stk
/-- a def's end: what it returns, the store -/
inductive FRes where
  | ok (r : D) (c : List Cell) | exc (e : Exc) (c : List Cell) | stk
abbrev FT := Nat → List D → List Cell → FRes
structure Tab where
  con : List D
  ncls : Nat
  meth : Nat → Nat → Option Nat
  ini : Nat → Option Nat
  sub : Nat → Nat → Bool
  exf : Nat → Option (List Nat)

/-! ### data -/
def keyGet {α : Type} (k : D) : List (D × α) → Option α
  | [] => none
  | (k', x) :: r => if eqB k' k then some x else keyGet k r
def keyPut {α : Type} (k : D) (x : α) : List (D × α) → List (D × α)
  | [] => [(k, x)]
  | (k', y) :: r => if eqB k' k then (k', x) :: r else (k', y) :: keyPut k x r
def fldPut {α : Type} (k : Nat) (x : α) : List (Nat × α) → List (Nat × α)
  | [] => [(k, x)]
  | (k', y) :: r => if k' = k then (k', x) :: r else (k', y) :: fldPut k x r
def D.len : D → Option Nat
  | .tup xs | .lst xs => some xs.length
  | _ => none
def D.items : D → Option (List D)
  | .tup xs | .lst xs => some xs
  | _ => none
def ixN (n : Nat) (i : Int) : Option Nat := if 0 ≤ i then (if i < n then some i.toNat else none) else if -(n : Int) ≤ i then some (i + n).toNat else none
def pickI {α : Type} (xs : List α) (i : Int) : Option α := (ixN xs.length i).bind fun j => xs[j]?
def clipI (n : Nat) (i : Int) : Nat := if 0 ≤ i then min i.toNat n else (i + n).toNat
def cutI {α : Type} (xs : List α) (lo hi : Option Int) : List α :=
  let a := match lo with | none => 0 | some i => clipI xs.length i
  let b := match hi with | none => xs.length | some i => clipI xs.length i
  (xs.drop a).take (b - a)
def D.ints : List D → Option (List Int)
  | [] => some []
  | .int i :: r => (D.ints r).map (i :: ·)
  | _ => none
def D.bls : List D → Option (List Bool)
  | [] => some []
  | .bl i :: r => (D.bls r).map (i :: ·)
  | _ => none
def big : Int := 2 ^ 62
def sml (i : Int) : Bool := decide (-big ≤ i) && decide (i < big)
def line : Nat := 16777216
/-- lo, lo + 1, .. ahead of hi -/
def rangeL (lo hi : Int) : List Int := (List.range (hi - lo).toNat).map fun (j : Nat) => lo + (j : Int)
/-- lo, lo + st, .. ahead of hi, 0 < st -/
def rangeS (lo hi st : Int) : List Int := (List.range ((hi - lo + st - 1) / st).toNat).map fun (j : Nat) => lo + (j : Int) * st
def nonB (x : D) : Bool := match x with | .non => true | _ => false
def allAlk (xs : List D) : Bool := xs.all fun x => !nonB x && xs.all fun y => alk x y
/-- all tuples with an item, or none a tuple -/
def srtOk (xs : List D) : Bool := (xs.all fun x => match x with | .tup (_ :: _) => true | _ => false) || (xs.all fun x => match x with | .tup _ | .non => false | _ => true)
def sortD (xs : List D) : List D := xs.mergeSort fun a b => !ltB b a
def minI (x : Int) (xs : List Int) : Int := xs.foldl (fun a y => if y < a then y else a) x
def maxI (x : Int) (xs : List Int) : Int := xs.foldl (fun a y => if a < y then y else a) x
def nodupD : List D → List D
  | [] => []
  | x :: xs => if xs.any (fun y => eqB y x) then nodupD xs else x :: nodupD xs

def binF : Op → D → D → Option D
  | .add, .int a, .int b => some (.int (a + b))
  | .sub, .int a, .int b => some (.int (a - b))
  | .mul, .int a, .int b => if a.natAbs < 2 ^ 64 ∨ b.natAbs < 2 ^ 64 ∨ a.natAbs.log2 + b.natAbs.log2 < 1000000 then some (.int (a * b)) else none
  | .fdiv, .int a, .int b => if 0 < b ∧ b.natAbs.log2 < 9000 then some (.int (a / b)) else none
  | .mod, .int a, .int b => if 0 < b then some (.int (a % b)) else none
  | .pow, .int a, .int b => if 0 ≤ b ∧ b ≤ 1000 ∧ a.natAbs < 2 ^ 64 then some (.int (a ^ b.toNat)) else none
  | .add, .str a, .str b => if a.cps.size + b.cps.size ≤ line then some (.str (a ++ b)) else none
  | .add, .tup a, .tup b => if a.length + b.length ≤ line then some (.tup (a ++ b)) else none
  | .add, .lst a, .lst b => if a.length + b.length ≤ line then some (.lst (a ++ b)) else none
  | .mul, .tup (x :: a'), .int b => let a := x :: a'; if 2 ≤ b ∧ b ≤ 1000 ∧ a.length ≤ 1000 then some (.tup (List.replicate b.toNat a).flatten) else none
  | _, _, _ => none
def negF : D → Option D
  | .int i => some (.int (-i))
  | _ => none
def dep : Nat := 60
def eqF (x y : D) : Option Bool := if x.fin dep && y.fin dep then some (eqB x y) else none
def ltF (x y : D) : Option Bool := if x.fin dep && y.fin dep && alk x y && !nonB x then some (ltB x y) else none
def inF (x c : D) : Option Bool := match c with
  | .lst ys | .tup ys => if x.fin dep && D.fins dep ys then some (ys.any fun y => eqB y x) else none
  | _ => none
def cmpF : Cm → D → D → Option Bool
  | .eq, x, y => eqF x y
  | .ne, x, y => (eqF x y).map (!·)
  | .lt, x, y => ltF x y
  | .gt, x, y => ltF y x
  | .le, x, y => (ltF y x).map (!·)
  | .ge, x, y => (ltF x y).map (!·)
  | .inn, x, y => inF x y
  | .nin, x, y => (inF x y).map (!·)
  | .isN, x, .non => some (nonB x)
  | .notN, x, .non => some (!nonB x)
  | _, _, _ => none
def idxF : D → D → Option D
  | .lst xs, .int i | .tup xs, .int i => pickI xs i
  | .str x, .int i => if x.cps.size ≤ line then (pickI x.cps.toList i).map fun c => .str ⟨#[c]⟩ else none
  | _, _ => none
/-- n: the part is left out -/
def partF : Bool → D → Option (Option Int)
  | true, .non => some none
  | false, .int i => some (some i)
  | _, _ => none
def slF (a b : Option Int) (x : D) : Option D := match x with
  | .lst xs => some (.lst (cutI xs a b))
  | .tup xs => some (.tup (cutI xs a b))
  | .str x => if x.cps.size ≤ line then some (.str ⟨(cutI x.cps.toList a b).toArray⟩) else none
  | _ => none
def revF : D → Option D
  | .lst xs => some (.lst xs.reverse)
  | .tup xs => some (.tup xs.reverse)
  | _ => none
def isTy (sub : Nat → Nat → Bool) : D → Ty → Bool
  | .int _, .int | .bl _, .int | .bl _, .bool | .str _, .str | .tup _, .tuple | .lst _, .list | .dct _, .dict => true
  | .obj c _, .cls c' => sub c c'
  | _, _ => false
def biF : Bi → List D → Option D
  | .len, [.str x] => if x.cps.size ≤ line then some (.int x.cps.size) else none
  | .len, [x] => x.len.map fun n => .int n
  | .abs, [.int i] => some (.int (if i < 0 then -i else i))
  | .int, [.int i] => some (.int i)
  | .int, [.bl b] => some (.int (if b then 1 else 0))
  | .tuple, [.lst xs] => some (.tup xs)
  | .tuple, [.tup xs] => some (.tup xs)
  | .list, [.lst xs] => some (.lst xs)
  | .list, [.tup xs] => some (.lst xs)
  | .sum, [.lst xs] => (D.ints xs).map fun is => .int is.sum
  | .all, [.lst xs] => (D.bls xs).map fun bs => .bl (bs.all id)
  | .any, [.lst xs] => (D.bls xs).map fun bs => .bl (bs.any id)
  | .min1, [.lst (.int x :: xs)] => (D.ints xs).map fun is => .int (minI x is)
  | .max1, [.lst (.int x :: xs)] => (D.ints xs).map fun is => .int (maxI x is)
  | .min2, [.int a, .int b] => some (.int (if b < a then b else a))
  | .max2, [.int a, .int b] => some (.int (if b > a then b else a))
  | .sorted, [.lst xs] => if D.fins dep xs && allAlk xs && srtOk xs && decide (xs.length ≤ line) then some (.lst (sortD xs)) else none
  | .sset, [.tup xs] => if D.fins dep xs && allAlk xs then some (.lst (sortD (nodupD xs))) else none
  | _, _ => none
def bmF : Bm → D → List D → Option D
  | .get, .dct kvs, [k, x] => if k.fin 8 then some ((keyGet k kvs).getD x) else none
  | _, _, _ => none

/-! ### running -/
inductive PV where
  | d (x : D) | own (i : Nat)
def S.loc1 (s : S) (i : Nat) : Option LV := (s.loc[i]?).bind id
/-- what a value holds now -/
def PV.val (s : S) : PV → Option D
  | .d (.ref k) => (s.cel[k]?).map Cell.toD
  | .d x => some x
  | .own i => match s.loc1 i with
    | some (.own c) => some c.toD
    | some (.d (.ref _)) => none
    | some (.d x) => some x
    | none => none
/-- a place that may change -/
inductive Lo where
  | sl (i : Nat) | id (k : Nat)
def PV.lo : PV → Option Lo
  | .d (.ref k) => some (.id k)
  | .own i => some (.sl i)
  | _ => none
def S.get (s : S) : Lo → Option Cell
  | .sl i => match s.loc1 i with
    | some (.own c) => some c
    | _ => none
  | .id k => s.cel[k]?
def S.put (s : S) (c : Cell) : Lo → S
  | .sl i => { s with loc := s.loc.set i (some (.own c)) }
  | .id k => { s with cel := s.cel.set k c }
/-- what is to be stored: a slot's own thing is data from now on -/
def PV.store : PV → M D
  | .d x => M.pure x
  | .own i => fun s => match s.loc1 i with
    | some (.own c) => .ok c.toD { s with loc := s.loc.set i (some (.d c.toD)) }
    | some (.d x) => .ok x s
    | none => .stk
def varM (i : Nat) : M PV := fun s => match s.loc1 i with
  | some (.d x) => .ok (.d x) s
  | some (.own _) => .ok (.own i) s
  | none => .stk
def two (ma mb : M PV) (f : D → D → Option D) : M PV := M.bind ma fun a => M.bind mb fun b => fun s => match a.val s, b.val s with
  | some x, some y => (match f x y with
    | some z => .ok (.d z) s
    | none => .stk)
  | _, _ => .stk
def one (ma : M PV) (f : D → Option D) : M PV := M.bind ma fun a => fun s => match a.val s with
  | some x => (match f x with
    | some z => .ok (.d z) s
    | none => .stk)
  | none => .stk
def toB (pv : PV) : M Bool := match pv with
  | .d (.bl b) => M.pure b
  | _ => stk
def valsOf (s : S) : List PV → Option (List D)
  | [] => some []
  | a :: r => match a.val s with
    | some x => (valsOf s r).map (x :: ·)
    | none => none
def biM (b : Bi) (xs : List PV) : M PV := fun s => match valsOf s xs with
  | some ds => (match biF b ds with
    | some z => .ok (.d z) s
    | none => .stk)
  | none => .stk
def bmM (m : Bm) (x : PV) (xs : List PV) : M PV := fun s => match x.val s, valsOf s xs with
  | some d, some ds => (match bmF m d ds with
    | some z => .ok (.d z) s
    | none => .stk)
  | _, _ => .stk
def partM (n : Bool) (l : PV) : M (Option Int) := match l with
  | .d y => M.of (partF n y)
  | _ => stk
def slM (x : PV) (a b : Option Int) : M PV := fun s => match x.val s with
  | some z => (match slF a b z with
    | some z => .ok (.d z) s
    | none => .stk)
  | none => .stk
def fldF (n f : Nat) : D → Option D
  | .obj c fs => if c < n then fs.lookup f else none
  | _ => none
def isiF (G : Tab) (ts : List Ty) : D → Option D
  | .obj c fs => if c < G.ncls then some (.bl (ts.any (isTy G.sub (.obj c fs)))) else none
  | .ref _ => none
  | x => some (.bl (ts.any (isTy G.sub x)))
/-- the second comparison of a chain -/
def chain2 (c' : Cm) (y : PV) (mz : M PV) : M PV := M.bind mz fun z => fun s => match y.val s, z.val s with
  | some y, some z => (match cmpF c' y z with
    | some k => .ok (.d (.bl k)) s
    | none => .stk)
  | _, _ => .stk
def chainM (c c' : Cm) (x y : PV) (mz : M PV) : M PV := fun s => match x.val s, y.val s with
  | some x', some y' => (match cmpF c x' y' with
    | some true => chain2 c' y mz s
    | some false => .ok (.d (.bl false)) s
    | none => .stk)
  | _, _ => .stk
/-- a thing of the store that is given back is read as data -/
def snap (n : Nat) (c : List Cell) : D → D
  | .ref k => if k < n then .ref k else match c[k]? with
    | some x => x.toD
    | none => .ref k
  | x => x
def Exc.blw (n : Nat) (e : Exc) : Bool := D.blwf n e.fs
/-- how a call ends: plain: as it is; trunc: the store is cut to what it was; pure: in a store of its own -/
def endC (q : Ck) (c0 : List Cell) (r : FRes) (s : S) : Res D := match q, r with
  | .plain, .ok x c => .ok x { s with cel := c }
  | .plain, .exc e c => .exc e { s with cel := c }
  | .trunc, .ok x c => let y := snap c0.length c x
    if y.blw c0.length && (c.take c0.length).all (Cell.blw c0.length) then .ok y { s with cel := c.take c0.length } else .stk
  | .trunc, .exc e c => if e.blw c0.length && (c.take c0.length).all (Cell.blw c0.length) then .exc e { s with cel := c.take c0.length } else .stk
  | .pure, .ok x c => let y := snap 0 c x
    if y.blw 0 then .ok y s else .stk
  | .pure, .exc e _ => if e.blw 0 then .exc e s else .stk
  | _, .stk => .stk
def doCall (q : Ck) (r : List D → List Cell → FRes) (as : List D) : M D := fun s => match q with
  | .pure => if D.blws 0 as then endC .pure [] (r as []) s else .stk
  | q => endC q s.cel (r as s.cel) s
/-- a new object that never changes again -/
def mkObj (G : Tab) (F : FT) (c : Nat) (as : List D) : M D := fun s => match G.ini c with
  | none => .stk
  | some f => if D.blws 0 as then (match F f (.ref 0 :: as) [.obj c []] with
    | .ok .non (.obj c fs :: _) => if D.blwf 0 fs then .ok (.obj c fs) s else .stk
    | .exc e _ => if e.blw 0 then .exc e s else .stk
    | _ => .stk) else .stk
/-- a new object of the store -/
def mkNew (G : Tab) (F : FT) (c : Nat) (as : List D) : M D := fun s => match G.ini c with
  | none => .stk
  | some f => match F f (.ref s.cel.length :: as) (s.cel ++ [.obj c []]) with
    | .ok .non c' => .ok (.ref s.cel.length) { s with cel := c' }
    | .exc e c' => .exc e { s with cel := c' }
    | _ => .stk
/-- the class of the object at hand -/
def clsOf (s : S) : D → Option Nat
  | .obj c _ => some c
  | .ref k => match s.cel[k]? with
    | some (.obj c _) => some c
    | _ => none
  | _ => none
def mmF : Mm → Cell → List D → Option (D × Cell)
  | .append, .lst ts, [x] => if ts.length < line then some (.non, .lst (ts ++ [x])) else none
  | .pop, .lst ts, [] => (ts.getLast?).map fun t => (t, .lst ts.dropLast)
  | .popAt, .lst ts, [.int i] => if sml i then (ixN ts.length i).bind fun j => (ts[j]?).map fun t => (t, .lst (ts.eraseIdx j)) else none
  | .reverse, .lst ts, [] => some (.non, .lst ts.reverse)
  | .clear, .lst _, [] => some (.non, .lst [])
  | _, _, _ => none
/-- a list that may change -/
def lstM (pv : PV) : M Unit := fun s => match pv.lo with
  | some l => (match s.get l with
    | some (.lst _) => .ok () s
    | _ => .stk)
  | none => .stk
def doMm (m : Mm) (pv : PV) (as : List D) : M D := fun s => match pv.lo with
  | some l => (match s.get l with
    | some c => (match mmF m c as with
      | some (x, c') => .ok x (s.put c' l)
      | none => .stk)
    | none => .stk)
  | none => .stk
/-- list.extend(e): e's items, read now -/
def doExt (pv : PV) (a : PV) : M D := fun s => match pv.lo, a.val s with
  | some l, some x => (match s.get l, x.items with
    | some (.lst ts), some xs => if ts.length + xs.length ≤ line then .ok .non (s.put (.lst (ts ++ xs)) l) else .stk
    | _, _ => .stk)
  | _, _ => .stk
def sdefM (pv k : PV) : M PV := fun s => match pv.lo, k with
  | some l, .d k => (match s.get l with
    | some (.dct kvs) => if k.fin 8 && decide (kvs.length < line) then (match keyGet k kvs with
        | some x => .ok (.d x) s
        | none => .ok (.d (.ref s.cel.length)) (({ s with cel := s.cel ++ [.lst []] } : S).put (.dct (kvs ++ [(k, .ref s.cel.length)])) l)) else .stk
    | _ => .stk)
  | _, _ => .stk
def wipe (vs : List Nat) (s : S) : S := { s with loc := vs.foldl (fun l i => l.set i none) s.loc }
mutual
def bindT : Tg → D → S → Option S
  | .v i, x, s => some { s with loc := s.loc.set i (some (.d x)) }
  | .tup ts, .tup xs, s => bindTs ts xs s
  | _, _, _ => none
def bindTs : Tgs → List D → S → Option S
  | .nil, [], s => some s
  | .cons t ts, x :: xs, s => (bindT t x s).bind (bindTs ts xs)
  | _, _, _ => none
end
/-- what is walked: data, or a list of the store as it stands -/
inductive Wk where
  | xs (l : List D) | rf (k : Nat) (n : Nat)
def walk (pv : PV) : M Wk := match pv with
  | .d (.ref k) => fun s => (match s.cel[k]? with
    | some (.lst xs) => .ok (.rf k xs.length) s
    | _ => .stk)
  | pv => M.bind pv.store fun x => M.of (x.items.map .xs)
/-- data that is walked -/
def walkD (pv : PV) : M (List D) := match pv with
  | .d (.ref _) => stk
  | pv => M.bind pv.store fun x => M.of x.items
/-- the ends of a range -/
def rngF : PV → PV → Option (Int × Int)
  | .d (.int a), .d (.int b) => if sml a && sml b then some (a, b) else none
  | _, _ => none
def enumFrom (n : Int) : List D → List D
  | [] => []
  | x :: xs => .tup [.int n, x] :: enumFrom (n + 1) xs
def zipL : List D → List D → List D
  | x :: xs, y :: ys => .tup [x, y] :: zipL xs ys
  | _, _ => []

/-! ### flows -/
inductive Flow where
  | next | ret (t : D) | brk | cont
def loopF (bd : D → M Flow) (kl : List Nat) : List D → M Flow
  | [] => fun s => .ok .next (wipe kl s)
  | x :: xs => fun s => match bd x s with
    | .ok .next s' | .ok .cont s' => loopF bd kl xs (wipe kl s')
    | .ok .brk s' => .ok .next (wipe kl s')
    | .ok (.ret t) s' => .ok (.ret t) s'
    | .exc e s' => .exc e s'
    | .stk => .stk
/-- over the list k of the store, n long, from its place i on -/
def loopR (bd : D → M Flow) (kl : List Nat) (k n : Nat) : Nat → Nat → M Flow
  | i, 0 => fun s => match s.cel[k]? with
    | some (.lst xs) => if xs.length = n ∧ i = n then .ok .next (wipe kl s) else .stk
    | _ => .stk
  | i, m + 1 => fun s => match s.cel[k]? with
    | some (.lst xs) => if xs.length = n then (match xs[i]? with
      | some x => (match bd x s with
        | .ok .next s' | .ok .cont s' => loopR bd kl k n (i + 1) m (wipe kl s')
        | .ok .brk s' => .ok .next (wipe kl s')
        | .ok (.ret t) s' => .ok (.ret t) s'
        | .exc e s' => .exc e s'
        | .stk => .stk)
      | none => .stk) else .stk
    | _ => .stk
def loopW (c : M Bool) (bd : M Flow) (kl : List Nat) : Nat → M Flow
  | 0 => stk
  | n + 1 => fun s => match c s with
    | .ok true s1 => (match bd s1 with
      | .ok .next s' | .ok .cont s' => loopW c bd kl n (wipe kl s')
      | .ok .brk s' => .ok .next (wipe kl s')
      | .ok (.ret t) s' => .ok (.ret t) s'
      | .exc e s' => .exc e s'
      | .stk => .stk)
    | .ok false s1 => .ok .next s1
    | .exc e s' => .exc e s'
    | .stk => .stk
/-- a comprehension's turns: the items so far -/
def loopC (tg : Tg) (tt : M Bool) (el : M D) (own : List Nat) : List D → List D → M (List D)
  | acc, [] => M.pure acc
  | acc, x :: xs => fun s => match bindT tg x (wipe own s) with
    | none => .stk
    | some s1 => match tt s1 with
      | .ok true s2 => (match el s2 with
        | .ok t s3 => if acc.length < line then loopC tg tt el own (acc ++ [t]) xs s3 else .stk
        | _ => .stk)
      | .ok false s2 => loopC tg tt el own acc xs s2
      | _ => .stk
/-- a comprehension's end: its own names are as they were; a thing of one's own is forgotten -/
def LV.dat : Option LV → Option LV
  | some (.d x) => some (.d x)
  | _ => none
def unown (own : List Nat) (l0 : List (Option LV)) (s : S) : S := { s with loc := own.foldl (fun l i => l.set i (LV.dat ((l0[i]?).getD none))) s.loc }
def lcM (own : List Nat) (m : M (List D)) : M (List D) := fun s => match m s with
  | .ok ts s' => .ok ts (unown own s.loc s')
  | _ => .stk

/-! ### the evaluator -/
section
variable (G : Tab) (F : FT)
/-- data as a thing -/
def thaw : PV → Option Cell
  | .d (.lst xs) => some (.lst xs)
  | .d (.dct kvs) => some (.dct kvs)
  | _ => none
/-- a new thing of the store -/
def newM (x : PV) : M PV := fun s => match thaw x with
  | some c => .ok (.d (.ref s.cel.length)) { s with cel := s.cel ++ [c] }
  | none => .stk
def methM (q : Ck) (m : Nat) (x : D) (as : List D) : M D := fun s => match (clsOf s x).bind fun c => G.meth c m with
  | some f => doCall q (F f) (x :: as) s
  | none => .stk
def rgF (t : Bool) (q : Int × Int) : Option D := if q.2 - q.1 ≤ line then some (if t then .tup ((rangeL q.1 q.2).map .int) else .lst ((rangeL q.1 q.2).map .int)) else none
def rg3F : PV → PV → PV → Option D
  | .d (.int a), .d (.int b), .d (.int c) => if 0 ≤ a ∧ a ≤ 1000 ∧ 0 ≤ b ∧ b ≤ 1000 ∧ 0 < c ∧ c ≤ 1000 then some (.tup ((rangeS a b c).map .int)) else none
  | _, _, _ => none
mutual
def evX : Ex → M PV
  | .v i => varM i
  | .con g => M.of ((G.con[g]?).map .d)
  | .int i => M.pure (.d (.int i))
  | .str x => M.pure (.d (.str x))
  | .bl b => M.pure (.d (.bl b))
  | .non => M.pure (.d .non)
  | .bin op a b => two (evX a) (evX b) (binF op)
  | .neg a => one (evX a) negF
  | .not a => M.bind (evX a) fun x => M.bind (toB x) fun b => M.pure (.d (.bl !b))
  | .and es => evAnd es
  | .or es => evOr es
  | .ife t a b => M.bind (evX t) fun x => M.bind (toB x) fun c => if c then evX a else evX b
  | .cmp c a b => two (evX a) (evX b) fun x y => (cmpF c x y).map .bl
  | .chain c c' a b e => M.bind (evX a) fun x => M.bind (evX b) fun y => chainM c c' x y (evX e)
  | .tup es => M.bind (evDs es) fun xs => if xs.length ≤ line then M.pure (.d (.tup xs)) else stk
  | .lst es => M.bind (evDs es) fun xs => if xs.length ≤ line then M.pure (.d (.lst xs)) else stk
  | .dct ks _ => if ks.isNil then M.pure (.d (.dct [])) else stk
  | .new e => M.bind (evX e) newM
  | .idx a i => two (evX a) (evX i) idxF
  | .sl a lo hi => M.bind (evX a) fun x => M.bind (evX lo) fun l => M.bind (partM lo.isNon l) fun i => M.bind (evX hi) fun h => M.bind (partM hi.isNon h) fun j => slM x i j
  | .rev a => one (evX a) revF
  | .attr a f => one (evX a) (fldF G.ncls f)
  | .call q f es => M.bind (evDs es) fun as => M.bind (doCall q (F f) as) fun x => M.pure (.d x)
  | .mk c es => M.bind (evDs es) fun as => M.bind (mkObj G F c as) fun x => M.pure (.d x)
  | .mkN c es => M.bind (evDs es) fun as => M.bind (mkNew G F c as) fun x => M.pure (.d x)
  | .meth q o m es => M.bind (evX o) fun x => M.bind x.store fun x => M.bind (evDs es) fun as => M.bind (methM G F q m x as) fun x => M.pure (.d x)
  | .bi b es => M.bind (evPs es) fun xs => biM b xs
  | .bm m o es => M.bind (evX o) fun x => M.bind (evPs es) fun xs => bmM m x xs
  | .mm m o es => M.bind (evX o) fun x => M.bind (lstM x) fun _ => M.bind (evDs es) fun as => M.bind (doMm m x as) fun y => M.pure (.d y)
  | .ext o e => M.bind (evX o) fun x => M.bind (lstM x) fun _ => M.bind (evX e) fun a => M.bind (doExt x a) fun y => M.pure (.d y)
  | .bad => stk
  | .sdef o k => M.bind (evX o) fun x => M.bind (evX k) fun k => sdefM x k
  | .rg t a b => M.bind (evX a) fun x => M.bind (evX b) fun y => M.of (((rngF x y).bind (rgF t)).map .d)
  | .rg3 a b c => M.bind (evX a) fun x => M.bind (evX b) fun y => M.bind (evX c) fun z => M.of ((rg3F x y z).map .d)
  | .isi e ts => one (evX e) (isiF G ts)
  | .lc elt tg it ifs own => M.bind (evIt it) fun xs => M.bind (lcM own (loopC tg (evQs ifs) (M.bind (evX elt) PV.store) own [] xs)) fun ts => M.pure (.d (.lst ts))
def evDs : Exs → M (List D)
  | .nil => M.pure []
  | .cons e es => M.bind (evX e) fun x => M.bind x.store fun d => M.bind (evDs es) fun r => M.pure (d :: r)
def evPs : Exs → M (List PV)
  | .nil => M.pure []
  | .cons e es => M.bind (evX e) fun x => M.bind (evPs es) fun r => M.pure (x :: r)
def evAnd : Exs → M PV
  | .nil => stk
  | .cons e es => if es.isNil then evX e else M.bind (evX e) fun x => M.bind (toB x) fun c => if c then evAnd es else M.pure (.d (.bl false))
def evOr : Exs → M PV
  | .nil => stk
  | .cons e es => if es.isNil then evX e else M.bind (evX e) fun x => M.bind (toB x) fun c => if c then M.pure (.d (.bl true)) else evOr es
/-- a clause's tests -/
def evQs : Exs → M Bool
  | .nil => M.pure true
  | .cons e es => M.bind (evX e) fun x => M.bind (toB x) fun b => if b then evQs es else M.pure false
/-- data that is walked -/
def evIt : It → M (List D)
  | .val e => M.bind (evX e) walkD
  | .rng1 e => M.bind (evX e) fun x => M.of ((rngF (.d (.int 0)) x).map fun q => (rangeL q.1 q.2).map .int)
  | .rng2 a b => M.bind (evX a) fun x => M.bind (evX b) fun y => M.of ((rngF x y).map fun q => (rangeL q.1 q.2).map .int)
  | .enum e n => M.bind (evX e) fun x => M.bind (walkD x) fun xs => M.pure (enumFrom n xs)
  | .zip a b => M.bind (evX a) fun x => M.bind (evX b) fun y => M.bind (walkD x) fun xs => M.bind (walkD y) fun ys => M.pure (zipL xs ys)
  | .rev e => M.bind (evX e) fun x => M.bind (walkD x) fun xs => M.pure xs.reverse
  | .revr e => M.bind (evX e) fun x => M.of ((rngF (.d (.int 0)) x).map fun q => (rangeL q.1 q.2).reverse.map .int)
  | .items _ => stk
  | .vals _ => stk
end
/-- a new thing for a slot -/
def asgOM (i : Nat) (x : PV) : M Flow := fun s => match thaw x with
  | some c => if i < s.loc.length then .ok .next { s with loc := s.loc.set i (some (.own c)) } else .stk
  | none => .stk
def asgFM (x : PV) (f : Nat) (t : D) : M Flow := fun s => match x.lo with
  | some l => (match s.get l with
    | some (.obj c fs) => .ok .next (s.put (.obj c (fldPut f t fs)) l)
    | _ => .stk)
  | none => .stk
def asgIM (x y : PV) (t : D) : M Flow := fun s => match x.lo, y.val s with
  | some l, some y => (match s.get l, y with
    | some (.lst ts), .int j => (match ixN ts.length j with
      | some n => .ok .next (s.put (.lst (ts.set n t)) l)
      | none => .stk)
    | _, _ => .stk)
  | _, _ => .stk
def augV (i : Nat) : M D := fun s => match s.loc1 i with
  | some (.d (.ref _)) => .stk
  | some (.d x) => .ok x s
  | _ => .stk
def augI : Op → D → PV → Option D
  | .add, .int a, .d (.int b) => some (.int (a + b))
  | .sub, .int a, .d (.int b) => some (.int (a - b))
  | _, _, _ => none
def augB (i : Nat) (op : Op) (x : D) (y : PV) : M Flow := fun s => match augI op x y with
  | some z => .ok .next { s with loc := s.loc.set i (some (.d z)) }
  | none => .stk
def augFV (n : Nat) (x : PV) (f : Nat) : M D := fun s => match x.val s with
  | some ox => (match fldF n f ox with
    | some (.int a) => .ok (.int a) s
    | _ => .stk)
  | none => .stk
def augIV (x n : PV) : M D := fun s => match x.val s, n with
  | some ox, .d n => (match idxF ox n with
    | some (.int a) => .ok (.int a) s
    | _ => .stk)
  | _, _ => .stk
def augOp (op : Op) (a : D) (y : PV) : M D := match y with
  | .d y => M.of (binF op a y)
  | _ => stk
def bindM (t : Tg) (x : D) : M Flow := fun s => match bindT t x s with
  | some s' => .ok .next s'
  | none => .stk
def turnM (tg : Tg) (bd : M Flow) (x : D) : M Flow := fun s => match bindT tg x s with
  | some s1 => bd s1
  | none => .stk
def loopA (bd : D → M Flow) (kl : List Nat) : Wk → M Flow
  | .xs l => loopF bd kl l
  | .rf k n => loopR bd kl k n 0 n
def raisM (G : Tab) (c : Nat) (ds : List D) : M Flow := fun s => match G.exf c with
  | some fs => if fs.length = ds.length then .exc ⟨c, fs.zip ds⟩ s else .stk
  | none => .stk
def isLoop : It → Option Ex
  | .val e => some e
  | _ => none
mutual
def evS : St → M Flow
  | .asg t e => M.bind (evX G F e) fun x => M.bind x.store fun y => bindM t y
  | .asgO i e => M.bind (evX G F e) fun x => asgOM i x
  | .asgF o f e => M.bind (evX G F e) fun t => M.bind t.store fun t => M.bind (evX G F o) fun x => asgFM x f t
  | .asgI o i e => M.bind (evX G F e) fun t => M.bind t.store fun t => M.bind (evX G F o) fun x => M.bind (evX G F i) fun y => asgIM x y t
  | .aug i op e => M.bind (augV i) fun x => M.bind (evX G F e) fun y => augB i op x y
  | .augF o f op e => M.bind (evX G F o) fun x => M.bind (augFV G.ncls x f) fun a => M.bind (evX G F e) fun y => M.bind (augOp op a y) fun z => asgFM x f z
  | .augI o i op e => M.bind (evX G F o) fun x => M.bind (evX G F i) fun n => M.bind (augIV x n) fun a => M.bind (evX G F e) fun y => M.bind (augOp op a y) fun z => asgIM x n z
  | .ex e => M.bind (evX G F e) fun _ => M.pure .next
  | .ife c a b => M.bind (evX G F c) fun x => M.bind (toB x) fun k => if k then evSs a else evSs b
  | .whl n c a kl => loopW (M.bind (evX G F c) toB) (evSs a) kl n
  | .for tg it a kl => match isLoop it with
    | some e => M.bind (evX G F e) fun x => M.bind (walk x) fun wk => loopA (turnM tg (evSs a)) kl wk
    | none => M.bind (evIt G F it) fun l => loopF (turnM tg (evSs a)) kl l
  | .ret e => M.bind (evX G F e) fun x => M.bind x.store fun y => M.pure (.ret y)
  | .retN => M.pure (.ret .non)
  | .brk => M.pure .brk
  | .cnt => M.pure .cont
  | .pass => M.pure .next
  | .rais c es => M.bind (evDs G F es) fun ds => raisM G c ds
  | .tryx a hs => fun s => match evSs a s with
    | .exc e s' => evHs hs e s'
    | r => r
  | .bad => stk
def evSs : Sts → M Flow
  | .nil => M.pure .next
  | .cons s ss => fun st => match evS s st with
    | .ok .next st' => evSs ss st'
    | r => r
def evHs : Hds → Exc → M Flow
  | .nil, e => fun s => .exc e s
  | .cons c bd a hs, e => if G.sub e.c c then (match bd with
      | none => evSs a
      | some i => fun s => match evSs a { s with loc := s.loc.set i (some (.d (.obj e.c e.fs))) } with
        | .ok f s' => .ok f { s' with loc := s'.loc.set i none }
        | r => r) else evHs hs e
end
end
/-! ### defs -/
structure Def where
  np : Nat
  n : Nat
  body : Sts
def finish : Res Flow → FRes
  | .ok .next s => .ok .non s.cel
  | .ok (.ret t) s => .ok t s.cel
  | .exc e s => .exc e s.cel
  | _ => .stk
def runDef (G : Tab) (F : FT) (d : Def) (ts : List D) (c : List Cell) : FRes :=
  if ts.length = d.np then finish (evSs G F d.body { loc := ts.map (fun x => some (.d x)) ++ List.replicate (d.n - d.np) none, cel := c }) else .stk
/-- the program, so many calls deep -/
def run (G : Tab) (P : List Def) : Nat → FT
  | 0 => fun _ _ _ => .stk
  | k + 1 => fun f ts c => match P[f]? with
    | some d => runDef G (run G P k) d ts c
    | none => .stk
end Ev

set_option autoImplicit false
set_option linter.all false
/-! How the core's state lies in the heap. -/
namespace Ev
open PySem L2
/-- where the classes stand, how the fields are called -/
structure Nms where
  K : PySem.W.Frag
  cl : Nat → Addr
  nm : Nat → Str
variable {N : Nms}
/-- what a lock leaves out of account -/
def core : HO → HO
  | .frz _ (.dK kvs) => .dK kvs
  | .frz _ (.dT kvs) => .dT kvs
  | o => o
def Sm (B B' : Hp) : Prop := ∀ a o, B a = some o → ∃ o', B' a = some o' ∧ core o' = core o
theorem Sm.refl (B : Hp) : Sm B B := fun _ _ h => ⟨_, h, rfl⟩
theorem Sm.trans {A B C : Hp} (h : Sm A B) (k : Sm B C) : Sm A C := fun a o e => by
  obtain ⟨o1, e1, c1⟩ := h a o e
  obtain ⟨o2, e2, c2⟩ := k a o1 e1
  exact ⟨o2, e2, c2.trans c1⟩
theorem Sm.of {A B : Hp} (h : Same A B) : Sm A B := fun a o e => ⟨o, h a o e, rfl⟩
theorem core_lst {o : HO} {xs : List V} (h : core o = .lst xs) : o = .lst xs := by
  cases o <;> simp_all [core]
  rename_i u; cases u <;> simp_all [core]
theorem core_tup {o : HO} {xs : List V} (h : core o = .tup xs) : o = .tup xs := by
  cases o <;> simp_all [core]
  rename_i u; cases u <;> simp_all [core]
theorem core_ins {o : HO} {C dx : Addr} {fs : List (Str × V)} (h : core o = .ins C dx fs) : o = .ins C dx fs := by
  cases o <;> simp_all [core]
  rename_i u; cases u <;> simp_all [core]
theorem core_frzl {o : HO} {ob : Obj} {xs : List V} (h : core o = .frz ob (.lst xs)) : o = .frz ob (.lst xs) := by
  cases o <;> simp_all [core]
  rename_i u; cases u <;> simp_all [core]
theorem core_frzt {o : HO} {ob : Obj} {xs : List V} (h : core o = .frz ob (.tup xs)) : o = .frz ob (.tup xs) := by
  cases o <;> simp_all [core]
  rename_i u; cases u <;> simp_all [core]
theorem core_dK {o : HO} {kvs : List (Key × V)} (h : core o = .dK kvs) : o = .dK kvs ∨ ∃ ob, o = .frz ob (.dK kvs) := by
  cases o <;> simp_all [core]
  rename_i u; cases u <;> simp_all [core]
theorem core_dT {o : HO} {kvs : List (List Key × V)} (h : core o = .dT kvs) : o = .dT kvs ∨ ∃ ob, o = .frz ob (.dT kvs) := by
  cases o <;> simp_all [core]
  rename_i u; cases u <;> simp_all [core]
theorem SqL.sm {K : PySem.W.Frag} {B B' : Hp} {a : Addr} {xs : List V} (k : Sm B B') (h : SqL K B a xs) : SqL K B' a xs := by
  rcases h with (h | ⟨o, h⟩) | h
  · obtain ⟨o', e, c⟩ := k _ _ h
    exact .inl (.inl (by rw [e, core_lst c]))
  · obtain ⟨o', e, c⟩ := k _ _ h
    exact .inl (.inr ⟨o, by rw [e, core_frzl c]⟩)
  · exact .inr h
theorem SqT.sm {K : PySem.W.Frag} {B B' : Hp} {a : Addr} {xs : List V} (k : Sm B B') (h : SqT K B a xs) : SqT K B' a xs := by
  rcases h with (h | ⟨o, h⟩) | h
  · obtain ⟨o', e, c⟩ := k _ _ h
    exact .inl (.inl (by rw [e, core_tup c]))
  · obtain ⟨o', e, c⟩ := k _ _ h
    exact .inl (.inr ⟨o, by rw [e, core_frzt c]⟩)
  · exact .inr h
theorem Rd.smK {B B' : Hp} {a : Addr} {kvs : List (Key × V)} (k : Sm B B') (h : Rd B a (.dK kvs)) : Rd B' a (.dK kvs) := by
  rcases h with h | ⟨o, h⟩
  · obtain ⟨o', e, c⟩ := k _ _ h
    rcases core_dK c with c | ⟨ob, c⟩
    · exact .inl (by rw [e, c])
    · exact .inr ⟨ob, by rw [e, c]⟩
  · obtain ⟨o', e, c⟩ := k _ _ h
    rcases core_dK c with c | ⟨ob, c⟩
    · exact .inl (by rw [e, c])
    · exact .inr ⟨ob, by rw [e, c]⟩
theorem Rd.smT {B B' : Hp} {a : Addr} {kvs : List (List Key × V)} (k : Sm B B') (h : Rd B a (.dT kvs)) : Rd B' a (.dT kvs) := by
  rcases h with h | ⟨o, h⟩
  · obtain ⟨o', e, c⟩ := k _ _ h
    rcases core_dT c with c | ⟨ob, c⟩
    · exact .inl (by rw [e, c])
    · exact .inr ⟨ob, by rw [e, c]⟩
  · obtain ⟨o', e, c⟩ := k _ _ h
    rcases core_dT c with c | ⟨ob, c⟩
    · exact .inl (by rw [e, c])
    · exact .inr ⟨ob, by rw [e, c]⟩
/-- a key as data -/
def kD : Key → D
  | .inl i => .int i
  | .inr x => .str x
/-! ### data in the heap: n: how many things of the store there are; ad: where they stand; B: what never changes -/
mutual
inductive RepD (N : Nms) (n : Nat) (ad : Nat → Addr) (B : Hp) : V → D → Prop
  | non : RepD N n ad B .non .non
  | bl (b : Bool) : RepD N n ad B (.bl b) (.bl b)
  | int (i : Int) : RepD N n ad B (.int i) (.int i)
  | str (x : Str) : RepD N n ad B (.str x) (.str x)
  | tup {a : Addr} {xs : List V} {ds : List D} : SqT N.K B a xs → RepDs N n ad B xs ds → RepD N n ad B (.ref a) (.tup ds)
  | lst {a : Addr} {xs : List V} {ds : List D} : SqL N.K B a xs → RepDs N n ad B xs ds → RepD N n ad B (.ref a) (.lst ds)
  | obj {a dx : Addr} {c : Nat} {fv : List (Str × V)} {fs : List (Nat × D)} : B a = some (.ins (N.cl c) dx fv) → RepFs N n ad B fv fs → RepD N n ad B (.ref a) (.obj c fs)
  | dK {a : Addr} {kvs : List (Key × V)} {ds : List (D × D)} : Rd B a (.dK kvs) → RepKs N n ad B kvs ds → RepD N n ad B (.ref a) (.dct ds)
  | ref {k : Nat} : k < n → RepD N n ad B (.ref (ad k)) (.ref k)
inductive RepDs (N : Nms) (n : Nat) (ad : Nat → Addr) (B : Hp) : List V → List D → Prop
  | nil : RepDs N n ad B [] []
  | cons {v : V} {vs : List V} {d : D} {ds : List D} : RepD N n ad B v d → RepDs N n ad B vs ds → RepDs N n ad B (v :: vs) (d :: ds)
inductive RepFs (N : Nms) (n : Nat) (ad : Nat → Addr) (B : Hp) : List (Str × V) → List (Nat × D) → Prop
  | nil : RepFs N n ad B [] []
  | cons {v : V} {fv : List (Str × V)} {f : Nat} {d : D} {fs : List (Nat × D)} : RepD N n ad B v d → RepFs N n ad B fv fs → RepFs N n ad B ((N.nm f, v) :: fv) ((f, d) :: fs)
inductive RepKs (N : Nms) (n : Nat) (ad : Nat → Addr) (B : Hp) : List (Key × V) → List (D × D) → Prop
  | nil : RepKs N n ad B [] []
  | cons {k : Key} {v : V} {kvs : List (Key × V)} {d : D} {ds : List (D × D)} : RepD N n ad B v d → RepKs N n ad B kvs ds → RepKs N n ad B ((k, v) :: kvs) ((kD k, d) :: ds)
end
section
variable {n n' : Nat} {ad ad' : Nat → Addr} {B B' : Hp}
mutual
theorem RepD.mono (hn : n ≤ n') (ha : ∀ k, k < n → ad' k = ad k) (k : Sm B B') : ∀ (d : D) {v : V}, RepD N n ad B v d → RepD N n' ad' B' v d
  | .non, _, h => by cases h; exact .non
  | .bl b, _, h => by cases h; exact .bl b
  | .int b, _, h => by cases h; exact .int b
  | .str b, _, h => by cases h; exact .str b
  | .tup ds, _, h => by cases h with | tup s r => exact .tup (SqT.sm k s) (RepDs.mono hn ha k ds r)
  | .lst ds, _, h => by cases h with | lst s r => exact .lst (SqL.sm k s) (RepDs.mono hn ha k ds r)
  | .obj c fs, _, h => by
    cases h with
    | obj s r =>
      obtain ⟨o', e, c⟩ := k _ _ s
      exact .obj (by rw [e, core_ins c]) (RepFs.mono hn ha k fs r)
  | .dct ds, _, h => by cases h with | dK s r => exact .dK (Rd.smK k s) (RepKs.mono hn ha k ds r)
  | .ref j, _, h => by cases h with | ref hj => rw [← ha j hj]; exact .ref (Nat.lt_of_lt_of_le hj hn)
theorem RepDs.mono (hn : n ≤ n') (ha : ∀ k, k < n → ad' k = ad k) (k : Sm B B') : ∀ (ds : List D) {vs : List V}, RepDs N n ad B vs ds → RepDs N n' ad' B' vs ds
  | [], _, h => by cases h; exact .nil
  | d :: ds, _, h => by cases h with | cons a b => exact .cons (RepD.mono hn ha k d a) (RepDs.mono hn ha k ds b)
theorem RepFs.mono (hn : n ≤ n') (ha : ∀ k, k < n → ad' k = ad k) (k : Sm B B') : ∀ (fs : List (Nat × D)) {fv : List (Str × V)}, RepFs N n ad B fv fs → RepFs N n' ad' B' fv fs
  | [], _, h => by cases h; exact .nil
  | (_, d) :: fs, _, h => by cases h with | cons a b => exact .cons (RepD.mono hn ha k d a) (RepFs.mono hn ha k fs b)
theorem RepKs.mono (hn : n ≤ n') (ha : ∀ k, k < n → ad' k = ad k) (k : Sm B B') : ∀ (fs : List (D × D)) {fv : List (Key × V)}, RepKs N n ad B fv fs → RepKs N n' ad' B' fv fs
  | [], _, h => by cases h; exact .nil
  | (_, d) :: fs, _, h => by cases h with | cons a b => exact .cons (RepD.mono hn ha k d a) (RepKs.mono hn ha k fs b)
end
mutual
/-- where all refs are below m, no more of the store is asked -/
theorem RepD.blw {m : Nat} : ∀ (d : D) {v : V}, d.blw m = true → RepD N n ad B v d → RepD N m ad B v d
  | .non, _, _, h => by cases h; exact .non
  | .bl b, _, _, h => by cases h; exact .bl b
  | .int b, _, _, h => by cases h; exact .int b
  | .str b, _, _, h => by cases h; exact .str b
  | .tup ds, _, w, h => by cases h with | tup s r => exact .tup s (RepDs.blw ds (by simpa [D.blw] using w) r)
  | .lst ds, _, w, h => by cases h with | lst s r => exact .lst s (RepDs.blw ds (by simpa [D.blw] using w) r)
  | .obj c fs, _, w, h => by cases h with | obj s r => exact .obj s (RepFs.blw fs (by simpa [D.blw] using w) r)
  | .dct ds, _, w, h => by cases h with | dK s r => exact .dK s (RepKs.blw ds (by simpa [D.blw] using w) r)
  | .ref j, _, w, h => by cases h with | ref hj => exact .ref (by simpa [D.blw] using w)
theorem RepDs.blw {m : Nat} : ∀ (ds : List D) {vs : List V}, D.blws m ds = true → RepDs N n ad B vs ds → RepDs N m ad B vs ds
  | [], _, _, h => by cases h; exact .nil
  | d :: ds, _, w, h => by
    simp only [D.blws, Bool.and_eq_true] at w
    cases h with | cons a b => exact .cons (RepD.blw d w.1 a) (RepDs.blw ds w.2 b)
theorem RepFs.blw {m : Nat} : ∀ (fs : List (Nat × D)) {fv : List (Str × V)}, D.blwf m fs = true → RepFs N n ad B fv fs → RepFs N m ad B fv fs
  | [], _, _, h => by cases h; exact .nil
  | (_, d) :: fs, _, w, h => by
    simp only [D.blwf, Bool.and_eq_true] at w
    cases h with | cons a b => exact .cons (RepD.blw d w.1 a) (RepFs.blw fs w.2 b)
theorem RepKs.blw {m : Nat} : ∀ (fs : List (D × D)) {fv : List (Key × V)}, D.blwk m fs = true → RepKs N n ad B fv fs → RepKs N m ad B fv fs
  | [], _, _, h => by cases h; exact .nil
  | (_, d) :: fs, _, w, h => by
    simp only [D.blwk, Bool.and_eq_true] at w
    cases h with | cons a b => exact .cons (RepD.blw d w.1.2 a) (RepKs.blw fs w.2 b)
end
mutual
/-- where there is no ref, ad does not matter -/
theorem RepD.pure {m : Nat} {ad2 : Nat → Addr} : ∀ (d : D) {v : V}, d.blw 0 = true → RepD N n ad B v d → RepD N m ad2 B v d
  | .non, _, _, h => by cases h; exact .non
  | .bl b, _, _, h => by cases h; exact .bl b
  | .int b, _, _, h => by cases h; exact .int b
  | .str b, _, _, h => by cases h; exact .str b
  | .tup ds, _, w, h => by cases h with | tup s r => exact .tup s (RepDs.pure ds (by simpa [D.blw] using w) r)
  | .lst ds, _, w, h => by cases h with | lst s r => exact .lst s (RepDs.pure ds (by simpa [D.blw] using w) r)
  | .obj c fs, _, w, h => by cases h with | obj s r => exact .obj s (RepFs.pure fs (by simpa [D.blw] using w) r)
  | .dct ds, _, w, h => by cases h with | dK s r => exact .dK s (RepKs.pure ds (by simpa [D.blw] using w) r)
  | .ref j, _, w, h => by simp [D.blw] at w
theorem RepDs.pure {m : Nat} {ad2 : Nat → Addr} : ∀ (ds : List D) {vs : List V}, D.blws 0 ds = true → RepDs N n ad B vs ds → RepDs N m ad2 B vs ds
  | [], _, _, h => by cases h; exact .nil
  | d :: ds, _, w, h => by
    simp only [D.blws, Bool.and_eq_true] at w
    cases h with | cons a b => exact .cons (RepD.pure d w.1 a) (RepDs.pure ds w.2 b)
theorem RepFs.pure {m : Nat} {ad2 : Nat → Addr} : ∀ (fs : List (Nat × D)) {fv : List (Str × V)}, D.blwf 0 fs = true → RepFs N n ad B fv fs → RepFs N m ad2 B fv fs
  | [], _, _, h => by cases h; exact .nil
  | (_, d) :: fs, _, w, h => by
    simp only [D.blwf, Bool.and_eq_true] at w
    cases h with | cons a b => exact .cons (RepD.pure d w.1 a) (RepFs.pure fs w.2 b)
theorem RepKs.pure {m : Nat} {ad2 : Nat → Addr} : ∀ (fs : List (D × D)) {fv : List (Key × V)}, D.blwk 0 fs = true → RepKs N n ad B fv fs → RepKs N m ad2 B fv fs
  | [], _, _, h => by cases h; exact .nil
  | (_, d) :: fs, _, w, h => by
    simp only [D.blwk, Bool.and_eq_true] at w
    cases h with | cons a b => exact .cons (RepD.pure d w.1.2 a) (RepKs.pure fs w.2 b)
end
theorem RepDs.length : ∀ {vs : List V} {ds : List D}, RepDs N n ad B vs ds → vs.length = ds.length
  | _, _, .nil => rfl
  | _, _, .cons _ b => by simp [RepDs.length b]
theorem RepDs.get : ∀ {vs : List V} {ds : List D} {i : Nat} {d : D}, RepDs N n ad B vs ds → ds[i]? = some d → ∃ v, vs[i]? = some v ∧ RepD N n ad B v d
  | _, _, _, _, .nil, e => by simp at e
  | _, _, 0, d, .cons a _, e => by simp at e; subst e; exact ⟨_, rfl, a⟩
  | _, _, i + 1, d, .cons _ b, e => by
    obtain ⟨v, h1, h2⟩ := RepDs.get (i := i) b (by simpa using e)
    exact ⟨v, by simpa using h1, h2⟩
theorem RepDs.getV : ∀ {vs : List V} {ds : List D} {i : Nat} {v : V}, RepDs N n ad B vs ds → vs[i]? = some v → ∃ d, ds[i]? = some d ∧ RepD N n ad B v d
  | _, _, _, _, .nil, e => by simp at e
  | _, _, 0, d, .cons a _, e => by simp at e; subst e; exact ⟨_, rfl, a⟩
  | _, _, i + 1, d, .cons _ b, e => by
    obtain ⟨v, h1, h2⟩ := RepDs.getV (i := i) b (by simpa using e)
    exact ⟨v, by simpa using h1, h2⟩
theorem RepDs.set {v : V} {d : D} (h : RepD N n ad B v d) : ∀ {vs : List V} {ds : List D} (i : Nat), RepDs N n ad B vs ds → RepDs N n ad B (vs.set i v) (ds.set i d)
  | _, _, _, .nil => .nil
  | _, _, 0, .cons _ b => .cons h b
  | _, _, i + 1, .cons a b => .cons a (RepDs.set h i b)
theorem RepDs.append : ∀ {vs ws : List V} {ds es : List D}, RepDs N n ad B vs ds → RepDs N n ad B ws es → RepDs N n ad B (vs ++ ws) (ds ++ es)
  | _, _, _, _, .nil, s => s
  | _, _, _, _, .cons a b, s => .cons a (RepDs.append b s)
theorem RepDs.take : ∀ {vs : List V} {ds : List D} (m : Nat), RepDs N n ad B vs ds → RepDs N n ad B (vs.take m) (ds.take m)
  | _, _, 0, _ => .nil
  | _, _, _ + 1, .nil => .nil
  | _, _, m + 1, .cons a b => .cons a (RepDs.take m b)
theorem RepDs.drop : ∀ {vs : List V} {ds : List D} (m : Nat), RepDs N n ad B vs ds → RepDs N n ad B (vs.drop m) (ds.drop m)
  | _, _, 0, h => h
  | _, _, _ + 1, .nil => .nil
  | _, _, m + 1, .cons _ b => RepDs.drop m b
theorem RepDs.rev : ∀ {vs : List V} {ds : List D}, RepDs N n ad B vs ds → RepDs N n ad B vs.reverse ds.reverse
  | _, _, .nil => .nil
  | _, _, .cons a b => by
    rw [List.reverse_cons, List.reverse_cons]
    exact (RepDs.rev b).append (.cons a .nil)
theorem RepDs.ints : ∀ (is : List Int), RepDs N n ad B (is.map .int) (is.map .int)
  | [] => .nil
  | i :: is => .cons (.int i) (RepDs.ints is)
theorem RepDs.rep {vs : List V} {ds : List D} (r : RepDs N n ad B vs ds) : ∀ m : Nat, RepDs N n ad B (List.replicate m vs).flatten (List.replicate m ds).flatten
  | 0 => by simpa using RepDs.nil
  | m + 1 => by
    rw [List.replicate_succ, List.replicate_succ, List.flatten_cons, List.flatten_cons]
    exact r.append (RepDs.rep r m)
theorem RepFs.lookup (inj : ∀ f g, N.nm f = N.nm g → f = g) : ∀ {fv : List (Str × V)} {fs : List (Nat × D)} {f : Nat} {d : D}, RepFs N n ad B fv fs → fs.lookup f = some d → ∃ v, fv.lookup (N.nm f) = some v ∧ RepD N n ad B v d
  | _, _, _, _, .nil, e => by simp at e
  | _, _, f, d, .cons (f := g) a b, e => by
    rw [List.lookup_cons] at e ⊢
    by_cases h : f = g
    · subst h; simp at e ⊢; subst e; exact a
    · have h1 : (f == g) = false := by simpa using h
      have h2 : (N.nm f == N.nm g) = false := by simpa using fun q => h (inj _ _ q)
      rw [h1] at e
      rw [h2]
      exact RepFs.lookup inj b e
end

/-! ### masks -/
open Classical in
noncomputable def msk (H : Hp) (M : Addr → Prop) : Hp := fun a => if M a then none else H a
section
variable {H H' : Hp} {M M' : Addr → Prop}
theorem msk_le : Same (msk H M) H := fun a o h => by
  unfold msk at h
  split at h
  · cases h
  · exact h
theorem msk_of {a : Addr} (h : ¬ M a) : msk H M a = H a := if_neg h
theorem msk_get {a : Addr} {o : HO} (h : msk H M a = some o) : H a = some o ∧ ¬ M a := by
  unfold msk at h
  split at h
  · cases h
  · exact ⟨h, ‹_›⟩
theorem msk_sm (k : ∀ a o, H a = some o → ¬ M a → (∃ o', H' a = some o' ∧ core o' = core o) ∧ ¬ M' a) : Sm (msk H M) (msk H' M') := fun a o h => by
  obtain ⟨h1, h2⟩ := msk_get h
  obtain ⟨⟨o', e, c⟩, h3⟩ := k a o h1 h2
  exact ⟨o', by rw [msk_of h3]; exact e, c⟩
theorem msk_same (k : Same H H') : Same (msk H M) (msk H' M) := fun a o h => by
  obtain ⟨h1, h2⟩ := msk_get h
  rw [msk_of h2]
  exact k a o h1
end

/-! ### the state -/
def adr (ad : Nat → Addr) (σ : L2.St) : Lo → Option Addr
  | .sl i => match σ[i]? with
    | some (some (.ref a)) => some a
    | _ => none
  | .id k => some (ad k)
/-- what may change, and what is held aside -/
def Mk (ad : Nat → Addr) (σ : L2.St) (s : S) (F : Addr → Prop) : Addr → Prop := fun a => F a ∨ ∃ l c, s.get l = some c ∧ adr ad σ l = some a
def CelOk (N : Nms) (n : Nat) (ad : Nat → Addr) (B H : Hp) (a : Addr) : Cell → Prop
  | .lst ds => ∃ xs, H a = some (.lst xs) ∧ RepDs N n ad B xs ds
  | .obj c fs => ∃ dx fv, H a = some (.ins (N.cl c) dx fv) ∧ RepFs N n ad B fv fs
  | .dct ds => ∃ kvs, H a = some (.dK kvs) ∧ RepKs N n ad B kvs ds
structure Rel (N : Nms) (ad : Nat → Addr) (σ : L2.St) (H : Hp) (s : S) (F : Addr → Prop) : Prop where
  len : σ.length = s.loc.length
  dat : ∀ (i : Nat) (x : D), s.loc[i]? = some (some (LV.d x)) → ∃ v, σ[i]? = some (some v) ∧ RepD N s.cel.length ad (msk H (Mk ad σ s F)) v x
  own : ∀ l c, s.get l = some c → ∃ a, adr ad σ l = some a ∧ CelOk N s.cel.length ad (msk H (Mk ad σ s F)) H a c
  inj : ∀ l l' c c' a, s.get l = some c → s.get l' = some c' → adr ad σ l = some a → adr ad σ l' = some a → l = l'
  frn : ∀ a, F a → (∃ o, H a = some o) ∧ ∀ l c, s.get l = some c → adr ad σ l ≠ some a
structure Post (ad : Nat → Addr) (σ : L2.St) (H : Hp) (s : S) (ad' : Nat → Addr) (σ' : L2.St) (H' : Hp) (s' : S) (F : Addr → Prop) : Prop where
  agr : ∀ k, k < s.cel.length → ad' k = ad k
  len : s.cel.length ≤ s'.cel.length
  ll : s'.loc.length = s.loc.length
  sm : Sm (msk H (Mk ad σ s F)) (msk H' (Mk ad' σ' s' F))
  frn : ∀ a, F a → H' a = H a
theorem CelOk.mono {n n' : Nat} {ad ad' : Nat → Addr} {B B' H H' : Hp} {a : Addr} (hn : n ≤ n') (ha : ∀ k, k < n → ad' k = ad k) (k : Sm B B') (e : H' a = H a) : ∀ (c : Cell), CelOk N n ad B H a c → CelOk N n' ad' B' H' a c
  | .lst ds, ⟨xs, h, r⟩ => ⟨xs, e.trans h, r.mono hn ha k⟩
  | .obj c fs, ⟨dx, fv, h, r⟩ => ⟨dx, fv, e.trans h, r.mono hn ha k⟩
  | .dct ds, ⟨kvs, h, r⟩ => ⟨kvs, e.trans h, r.mono hn ha k⟩
theorem CelOk.blw {n m : Nat} {ad : Nat → Addr} {B H : Hp} {a : Addr} : ∀ (c : Cell), c.blw m = true → CelOk N n ad B H a c → CelOk N m ad B H a c
  | .lst ds, w, ⟨xs, h, r⟩ => ⟨xs, h, r.blw _ w⟩
  | .obj c fs, w, ⟨dx, fv, h, r⟩ => ⟨dx, fv, h, r.blw _ w⟩
  | .dct ds, w, ⟨kvs, h, r⟩ => ⟨kvs, h, r.blw _ w⟩
theorem CelOk.some {n : Nat} {ad : Nat → Addr} {B H : Hp} {a : Addr} : ∀ (c : Cell), CelOk N n ad B H a c → ∃ o, H a = some o
  | .lst ds, ⟨xs, h, r⟩ => ⟨_, h⟩
  | .obj c fs, ⟨dx, fv, h, r⟩ => ⟨_, h⟩
  | .dct ds, ⟨kvs, h, r⟩ => ⟨_, h⟩
/-- a thing that is read as data where it stands -/
theorem CelOk.toD {n : Nat} {ad : Nat → Addr} {B B' H : Hp} {a : Addr} (k : Sm B B') (e : B' a = H a) : ∀ (c : Cell), CelOk N n ad B H a c → RepD N n ad B' (.ref a) c.toD
  | .lst ds, ⟨xs, h, r⟩ => .lst (SqL.of (e.trans h)) (r.mono (Nat.le_refl _) (fun _ _ => rfl) k)
  | .obj c fs, ⟨dx, fv, h, r⟩ => .obj (e.trans h) (r.mono (Nat.le_refl _) (fun _ _ => rfl) k)
  | .dct ds, ⟨kvs, h, r⟩ => .dK (.inl (e.trans h)) (r.mono (Nat.le_refl _) (fun _ _ => rfl) k)
section
variable {ad ad' ad2 : Nat → Addr} {σ σ' σ2 : L2.St} {H H' H2 : Hp} {s s' s2 : S} {F : Addr → Prop}
theorem Post.refl : Post ad σ H s ad σ H s F := ⟨fun _ _ => rfl, Nat.le_refl _, rfl, Sm.refl _, fun _ _ => rfl⟩
theorem Post.trans (P : Post ad σ H s ad' σ' H' s' F) (Q : Post ad' σ' H' s' ad2 σ2 H2 s2 F) : Post ad σ H s ad2 σ2 H2 s2 F where
  agr := fun k h => (Q.agr k (Nat.lt_of_lt_of_le h P.len)).trans (P.agr k h)
  len := Nat.le_trans P.len Q.len
  ll := Q.ll.trans P.ll
  sm := P.sm.trans Q.sm
  frn := fun a h => (Q.frn a h).trans (P.frn a h)
theorem Post.rep (P : Post ad σ H s ad' σ' H' s' F) {v : V} {d : D} (r : RepD N s.cel.length ad (msk H (Mk ad σ s F)) v d) : RepD N s'.cel.length ad' (msk H' (Mk ad' σ' s' F)) v d := r.mono P.len P.agr P.sm
theorem Post.reps (P : Post ad σ H s ad' σ' H' s' F) {v : List V} {d : List D} (r : RepDs N s.cel.length ad (msk H (Mk ad σ s F)) v d) : RepDs N s'.cel.length ad' (msk H' (Mk ad' σ' s' F)) v d := r.mono P.len P.agr P.sm
/-- the heap grows -/
theorem Rel.grow (R : Rel N ad σ H s F) (k : Same H H') : Rel N ad σ H' s F where
  len := R.len
  dat := fun i x h => by
    obtain ⟨v, h1, h2⟩ := R.dat i x h
    exact ⟨v, h1, h2.mono (Nat.le_refl _) (fun _ _ => rfl) (.of (msk_same k))⟩
  own := fun l c h => by
    obtain ⟨a, h1, h2⟩ := R.own l c h
    obtain ⟨o, ho⟩ := h2.some
    exact ⟨a, h1, h2.mono (Nat.le_refl _) (fun _ _ => rfl) (.of (msk_same k)) ((k _ _ ho).trans ho.symm)⟩
  inj := R.inj
  frn := fun a h => by
    obtain ⟨⟨o, ho⟩, h2⟩ := R.frn a h
    exact ⟨⟨o, k _ _ ho⟩, h2⟩
theorem Post.grow (R : Rel N ad σ H s F) (k : Same H H') : Post ad σ H s ad σ H' s F :=
  ⟨fun _ _ => rfl, Nat.le_refl _, rfl, .of (msk_same k), fun a h => by
    obtain ⟨⟨o, ho⟩, _⟩ := R.frn a h
    rw [ho]; exact k _ _ ho⟩
theorem Rel.masked (R : Rel N ad σ H s F) {a : Addr} (h : Mk ad σ s F a) : ∃ o, H a = some o := by
  rcases h with h | ⟨l, c, h1, h2⟩
  · exact (R.frn a h).1
  · obtain ⟨b, e, ok⟩ := R.own l c h1
    rw [h2] at e; cases e
    exact ok.some
theorem loc1_some {i : Nat} {x : LV} : s.loc1 i = some x ↔ s.loc[i]? = some (some x) := by
  unfold S.loc1
  cases h : s.loc[i]? with
  | none => simp
  | some o => cases o <;> simp
theorem get_sl {i : Nat} {c : Cell} : s.get (.sl i) = some c ↔ s.loc[i]? = some (some (LV.own c)) := by
  rw [← loc1_some]
  unfold S.get
  simp only
  cases h : s.loc1 i with
  | none => simp
  | some o => cases o <;> simp
theorem get_id {k : Nat} {c : Cell} : s.get (.id k) = some c ↔ s.cel[k]? = some c := Iff.rfl
end
end Ev

set_option autoImplicit false
set_option linter.all false
/-! What the core's steps do to the relation. -/
namespace Ev
open PySem L2
variable {N : Nms}
section
variable {ad ad' ad2 : Nat → Addr} {σ σ' σ2 : L2.St} {H H' H2 : Hp} {s s' s2 : S} {F F' : Addr → Prop}
def FAdd (F : Addr → Prop) (p : Addr) : Addr → Prop := fun a => F a ∨ a = p
theorem Mk.sub (h : ∀ l c, s'.get l = some c → ∃ c', s.get l = some c' ∧ adr ad' σ' l = adr ad σ l) {a : Addr} (m : Mk ad' σ' s' F a) : Mk ad σ s F a := by
  rcases m with m | ⟨l, c, h1, h2⟩
  · exact .inl m
  · obtain ⟨c', q1, q2⟩ := h l c h1
    exact .inr ⟨l, c', q1, q2 ▸ h2⟩
theorem sm_sub {M M' : Addr → Prop} (h : ∀ a, M' a → M a) : Sm (msk H M) (msk H M') := msk_sm fun a o e n => ⟨⟨o, e, rfl⟩, fun m => n (h a m)⟩
theorem get_set_loc {i : Nat} {x : Option LV} {l : Lo} {c : Cell} (h : ({ s with loc := s.loc.set i x } : S).get l = some c) (hx : ∀ c, x ≠ some (.own c)) : s.get l = some c ∧ l ≠ .sl i := by
  cases l with
  | sl j =>
    rw [get_sl] at h
    by_cases hj : i = j
    · subst hj
      have h : (s.loc.set i x)[i]? = _ := h
      rw [List.getElem?_set, if_pos rfl] at h
      split at h
      · exact absurd (Option.some.inj h) (hx c)
      · cases h
    · simp only [List.getElem?_set, hj, if_false] at h
      exact ⟨get_sl.mpr h, fun e => hj (by cases e; rfl)⟩
  | id k => exact ⟨h, fun e => by cases e⟩
theorem adr_sl {i : Nat} {a : Addr} : adr ad σ (.sl i) = some a ↔ σ[i]? = some (some (.ref a)) := by
  show (match σ[i]? with
    | some (some (.ref a)) => some a
    | _ => none) = some a ↔ _
  constructor
  · intro h
    split at h
    · rename_i b e; rw [e]; cases h; rfl
    · cases h
  · intro h; rw [h]
theorem adr_set {i : Nat} {x : Option V} {l : Lo} (h : l ≠ .sl i) : adr ad (σ.set i x) l = adr ad σ l := by
  cases l with
  | sl j =>
    have hj : i ≠ j := fun e => h (by rw [e])
    simp only [adr, List.getElem?_set, hj, if_false]
  | id k => rfl
/-- a slot holds data from now on, or nothing -/
theorem Rel.setLoc (R : Rel N ad σ H s F) (i : Nat) (x : Option LV) (v : Option V) (hx : ∀ c, x ≠ some (.own c)) (r : ∀ d, x = some (.d d) → ∃ w, v = some w ∧ RepD N s.cel.length ad (msk H (Mk ad σ s F)) w d) :
    Rel N ad (σ.set i v) H { s with loc := s.loc.set i x } F ∧ Post ad σ H s ad (σ.set i v) H { s with loc := s.loc.set i x } F := by
  have sub : ∀ a, Mk ad (σ.set i v) { s with loc := s.loc.set i x } F a → Mk ad σ s F a := fun a => Mk.sub fun l c h => by
    obtain ⟨h1, h2⟩ := get_set_loc h hx
    exact ⟨c, h1, adr_set h2⟩
  have sm := sm_sub (H := H) sub
  refine ⟨⟨?_, ?_, ?_, ?_, ?_⟩, ⟨fun _ _ => rfl, Nat.le_refl _, by simp, sm, fun _ _ => rfl⟩⟩
  · show (σ.set i v).length = (s.loc.set i x).length
    rw [List.length_set, List.length_set, R.len]
  · intro j y h
    have h : (s.loc.set i x)[j]? = some (some (LV.d y)) := h
    show ∃ w, (σ.set i v)[j]? = some (some w) ∧ _
    by_cases hj : i = j
    · subst hj
      rw [List.getElem?_set] at h ⊢
      simp only [if_true] at h ⊢
      by_cases hl : i < s.loc.length
      · rw [if_pos hl] at h
        have h := Option.some.inj h
        obtain ⟨w, e, rw'⟩ := r y h
        rw [if_pos (by rw [R.len]; exact hl)]
        exact ⟨w, by rw [e], rw'.mono (Nat.le_refl _) (fun _ _ => rfl) sm⟩
      · rw [if_neg hl] at h; cases h
    · rw [List.getElem?_set, if_neg hj] at h ⊢
      obtain ⟨w, e, rw'⟩ := R.dat j y h
      exact ⟨w, e, rw'.mono (Nat.le_refl _) (fun _ _ => rfl) sm⟩
  · intro l c h
    obtain ⟨h1, h2⟩ := get_set_loc h hx
    obtain ⟨a, e, ok⟩ := R.own l c h1
    exact ⟨a, (adr_set h2).trans e, ok.mono (Nat.le_refl _) (fun _ _ => rfl) sm rfl⟩
  · intro l l' c c' a h h' e e'
    obtain ⟨h1, h2⟩ := get_set_loc h hx
    obtain ⟨h1', h2'⟩ := get_set_loc h' hx
    exact R.inj l l' c c' a h1 h1' ((adr_set h2).symm.trans e) ((adr_set h2').symm.trans e')
  · intro a h
    refine ⟨(R.frn a h).1, fun l c h' e => ?_⟩
    obtain ⟨h1, h2⟩ := get_set_loc h' hx
    exact (R.frn a h).2 l c h1 ((adr_set h2).symm.trans e)
theorem Rel.setD (R : Rel N ad σ H s F) (i : Nat) {v : V} {d : D} (r : RepD N s.cel.length ad (msk H (Mk ad σ s F)) v d) :
    Rel N ad (σ.set i (some v)) H { s with loc := s.loc.set i (some (.d d)) } F ∧ Post ad σ H s ad (σ.set i (some v)) H { s with loc := s.loc.set i (some (.d d)) } F :=
  R.setLoc i _ _ (fun c e => by cases e) fun d' e => by cases e; exact ⟨v, rfl, r⟩
/-- a slot is forgotten, the model's is what it is -/
theorem Rel.unset (R : Rel N ad σ H s F) (i : Nat) (v : Option V) : Rel N ad (σ.set i v) H { s with loc := s.loc.set i none } F ∧ Post ad σ H s ad (σ.set i v) H { s with loc := s.loc.set i none } F :=
  R.setLoc i _ _ (fun c e => by cases e) fun d' e => by cases e
theorem set_same {α : Type} : ∀ {l : List α} {i : Nat} {x : α}, l[i]? = some x → l.set i x = l
  | [], _, _, h => by simp at h
  | y :: l, 0, x, h => by simp at h; simp [h]
  | y :: l, i + 1, x, h => by
    have := set_same (l := l) (i := i) (x := x) (by simpa using h)
    simp [this]
theorem Rel.forget (R : Rel N ad σ H s F) (i : Nat) : Rel N ad σ H { s with loc := s.loc.set i none } F ∧ Post ad σ H s ad σ H { s with loc := s.loc.set i none } F := by
  by_cases h : i < σ.length
  · have e : σ.set i σ[i] = σ := set_same (List.getElem?_eq_getElem h)
    have := R.unset i σ[i]
    rwa [e] at this
  · have e : σ.set i none = σ := List.set_eq_of_length_le (by omega)
    have := R.unset i none
    rwa [e] at this
theorem Rel.wipe (kl : List Nat) : ∀ {s : S}, Rel N ad σ H s F → Rel N ad σ H (wipe kl s) F ∧ Post ad σ H s ad σ H (wipe kl s) F := by
  induction kl with
  | nil => intro s R; exact ⟨R, Post.refl⟩
  | cons i kl ih =>
    intro s R
    obtain ⟨R1, P1⟩ := R.forget i
    obtain ⟨R2, P2⟩ := ih R1
    exact ⟨R2, P1.trans P2⟩
/-- what is held aside is let go -/
theorem Rel.dropF (R : Rel N ad σ H s F') (h : ∀ a, F a → F' a) : Rel N ad σ H s F ∧ Sm (msk H (Mk ad σ s F')) (msk H (Mk ad σ s F)) := by
  have sm : Sm (msk H (Mk ad σ s F')) (msk H (Mk ad σ s F)) := sm_sub fun a m => m.imp (h a) id
  refine ⟨⟨R.len, fun i x e => ?_, fun l c e => ?_, R.inj, fun a e => R.frn a (h a e)⟩, sm⟩
  · obtain ⟨v, h1, h2⟩ := R.dat i x e
    exact ⟨v, h1, h2.mono (Nat.le_refl _) (fun _ _ => rfl) sm⟩
  · obtain ⟨a, h1, h2⟩ := R.own l c e
    exact ⟨a, h1, h2.mono (Nat.le_refl _) (fun _ _ => rfl) sm rfl⟩
/-- a new object is held aside -/
theorem Rel.addF (R : Rel N ad σ H s F) {p : Addr} {o : HO} (hp : H p = none) : Rel N ad σ (upd H p o) s (FAdd F p) ∧ Sm (msk H (Mk ad σ s F)) (msk (upd H p o) (Mk ad σ s (FAdd F p))) := by
  have hH : Same H (upd H p o) := fun b u e => by rw [upd_ne (ne_of_none e hp)]; exact e
  have sm : Sm (msk H (Mk ad σ s F)) (msk (upd H p o) (Mk ad σ s (FAdd F p))) := msk_sm fun a u e n => ⟨⟨u, hH a u e, rfl⟩, fun m => by
    rcases m with (m | m) | m
    · exact n (.inl m)
    · exact ne_of_none e hp m
    · exact n (.inr m)⟩
  refine ⟨⟨R.len, fun i x e => ?_, fun l c e => ?_, R.inj, fun a e => ?_⟩, sm⟩
  · obtain ⟨v, h1, h2⟩ := R.dat i x e
    exact ⟨v, h1, h2.mono (Nat.le_refl _) (fun _ _ => rfl) sm⟩
  · obtain ⟨a, h1, h2⟩ := R.own l c e
    obtain ⟨u, hu⟩ := h2.some
    exact ⟨a, h1, h2.mono (Nat.le_refl _) (fun _ _ => rfl) sm (by rw [hH _ _ hu, hu])⟩
  · rcases e with e | rfl
    · obtain ⟨⟨u, hu⟩, h2⟩ := R.frn a e
      exact ⟨⟨u, hH _ _ hu⟩, h2⟩
    · refine ⟨⟨o, upd_same⟩, fun l c e z => ?_⟩
      obtain ⟨u, hu⟩ := R.masked (.inr ⟨l, c, e, z⟩)
      rw [hp] at hu; cases hu
theorem get_put_self {c c0 : Cell} {l : Lo} (h : s.get l = some c0) : (s.put c l).get l = some c := by
  cases l with
  | sl i =>
    rw [get_sl] at h ⊢
    show (s.loc.set i (some (.own c)))[i]? = _
    rw [List.getElem?_set]
    have := (List.getElem?_eq_some_iff.mp h).1
    simp [this]
  | id k =>
    have h : s.cel[k]? = some c0 := h
    show (s.cel.set k c)[k]? = some c
    rw [List.getElem?_set]
    have := (List.getElem?_eq_some_iff.mp h).1
    simp [this]
theorem get_put_ne {c : Cell} {l l' : Lo} (h : l' ≠ l) : (s.put c l).get l' = s.get l' := by
  cases l with
  | sl i =>
    cases l' with
    | sl j =>
      have hj : i ≠ j := fun e => h (by rw [e])
      unfold S.put S.get S.loc1
      simp only [List.getElem?_set, hj, if_false]
    | id k => rfl
  | id k =>
    cases l' with
    | sl j => rfl
    | id m =>
      have hj : k ≠ m := fun e => h (by rw [e])
      show (s.cel.set k c)[m]? = s.cel[m]?
      rw [List.getElem?_set, if_neg hj]
theorem put_cel {c : Cell} {l : Lo} : (s.put c l).cel.length = s.cel.length := by
  cases l with
  | sl i => rfl
  | id k => exact List.length_set
/-- a write -/
theorem Rel.put (R : Rel N ad σ H s F) {l : Lo} {c0 c : Cell} {a : Addr} {o : HO} (hl : s.get l = some c0) (ha : adr ad σ l = some a) (ok : CelOk N s.cel.length ad (msk H (Mk ad σ s F)) (upd H a o) a c) :
    Rel N ad σ (upd H a o) (s.put c l) F ∧ Post ad σ H s ad σ (upd H a o) (s.put c l) F := by
  have hM : ∀ b, Mk ad σ (s.put c l) F b ↔ Mk ad σ s F b := fun b => by
    constructor
    · rintro (m | ⟨l', c', h1, h2⟩)
      · exact .inl m
      · by_cases e : l' = l
        · subst e; exact .inr ⟨l', c0, hl, h2⟩
        · rw [get_put_ne e] at h1; exact .inr ⟨l', c', h1, h2⟩
    · rintro (m | ⟨l', c', h1, h2⟩)
      · exact .inl m
      · by_cases e : l' = l
        · subst e; exact .inr ⟨l', c, get_put_self hl, h2⟩
        · exact .inr ⟨l', c', by rw [get_put_ne e]; exact h1, h2⟩
  have hma : Mk ad σ s F a := .inr ⟨l, c0, hl, ha⟩
  have sm : Sm (msk H (Mk ad σ s F)) (msk (upd H a o) (Mk ad σ (s.put c l) F)) := msk_sm fun b u e n => by
    refine ⟨⟨u, ?_, rfl⟩, fun m => n ((hM b).mp m)⟩
    rw [upd_ne (fun z => n (by rw [z]; exact hma))]; exact e
  have hn := put_cel (s := s) (c := c) (l := l)
  refine ⟨⟨?_, ?_, ?_, ?_, ?_⟩, ⟨fun _ _ => rfl, Nat.le_of_eq hn.symm, ?_, sm, fun b hb => ?_⟩⟩
  · rw [R.len]
    cases l with
    | sl i => exact List.length_set.symm
    | id k => rfl
  · intro i x h
    have h' : s.loc[i]? = some (some (LV.d x)) := by
      cases l with
      | sl j =>
        have h : (s.loc.set j (some (.own c)))[i]? = _ := h
        rw [List.getElem?_set] at h
        by_cases hj : j = i
        · simp only [hj, if_true] at h
          split at h
          · have := Option.some.inj (Option.some.inj h); cases this
          · cases h
        · rw [if_neg hj] at h; exact h
      | id k => exact h
    obtain ⟨v, h1, h2⟩ := R.dat i x h'
    exact ⟨v, h1, h2.mono (Nat.le_of_eq hn.symm) (fun _ _ => rfl) sm⟩
  · intro l' c' h
    by_cases e : l' = l
    · subst e
      rw [get_put_self hl] at h; cases h
      exact ⟨a, ha, ok.mono (Nat.le_of_eq hn.symm) (fun _ _ => rfl) sm rfl⟩
    · rw [get_put_ne e] at h
      obtain ⟨b, h1, h2⟩ := R.own l' c' h
      refine ⟨b, h1, h2.mono (Nat.le_of_eq hn.symm) (fun _ _ => rfl) sm (upd_ne fun z => ?_)⟩
      subst z
      exact e (R.inj _ _ _ _ _ h hl h1 ha)
  · intro l1 l2 c1 c2 b h1 h2 e1 e2
    have q : ∀ l' c', (s.put c l).get l' = some c' → ∃ c'', s.get l' = some c'' := fun l' c' h => by
      by_cases e : l' = l
      · subst e; exact ⟨_, hl⟩
      · rw [get_put_ne e] at h; exact ⟨_, h⟩
    obtain ⟨d1, q1⟩ := q l1 c1 h1
    obtain ⟨d2, q2⟩ := q l2 c2 h2
    exact R.inj _ _ _ _ _ q1 q2 e1 e2
  · intro b hb
    obtain ⟨⟨u, hu⟩, h2⟩ := R.frn b hb
    have hne : b ≠ a := fun z => h2 l c0 hl (by rw [z]; exact ha)
    refine ⟨⟨u, by rw [upd_ne hne]; exact hu⟩, fun l' c' h e => ?_⟩
    by_cases el : l' = l
    · subst el; exact h2 l' c0 hl e
    · rw [get_put_ne el] at h; exact h2 l' c' h e
  · cases l with
    | sl i => exact List.length_set
    | id k => rfl
  · exact upd_ne fun z => (R.frn b hb).2 l c0 hl (by rw [z]; exact ha)
/-- a slot's own thing is data from now on -/
theorem Rel.freeze (R : Rel N ad σ H s F) {i : Nat} {c : Cell} (hl : s.get (.sl i) = some c) : ∃ a, σ[i]? = some (some (.ref a)) ∧
    RepD N s.cel.length ad (msk H (Mk ad σ { s with loc := s.loc.set i (some (.d c.toD)) } F)) (.ref a) c.toD ∧ Rel N ad σ H { s with loc := s.loc.set i (some (.d c.toD)) } F ∧ Post ad σ H s ad σ H { s with loc := s.loc.set i (some (.d c.toD)) } F := by
  obtain ⟨a, ha, ok⟩ := R.own _ _ hl
  have hσ : σ[i]? = some (some (.ref a)) := adr_sl.mp ha
  obtain ⟨R1, P1⟩ := R.forget i
  have nm : ¬ Mk ad σ { s with loc := s.loc.set i none } F a := by
    rintro (m | ⟨l, c', h1, h2⟩)
    · exact (R.frn a m).2 _ _ hl ha
    · obtain ⟨q1, q2⟩ := get_set_loc h1 (fun c e => by cases e)
      exact q2 (R.inj _ _ _ _ _ q1 hl h2 ha)
  have rd : RepD N s.cel.length ad (msk H (Mk ad σ { s with loc := s.loc.set i none } F)) (.ref a) c.toD := ok.toD P1.sm (msk_of nm)
  have e : σ.set i (some (.ref a)) = σ := set_same hσ
  have := R1.setD i rd
  have e2 : ((s.loc.set i none).set i (some (LV.d c.toD))) = s.loc.set i (some (.d c.toD)) := List.set_set ..
  simp only [e, e2] at this
  obtain ⟨R2, P2⟩ := this
  exact ⟨a, hσ, P2.rep rd, R2, P1.trans P2⟩
end
end Ev

set_option autoImplicit false
set_option linter.all false
/-! New things; what a run guarantees. -/
namespace Ev
open PySem L2
variable {N : Nms}
section
variable {ad ad' ad0 ad2 : Nat → Addr} {σ σ' σ0 σ2 : L2.St} {H H' H0 H2 : Hp} {s s' s0 s2 : S} {F F' : Addr → Prop} {p : Addr}
/-- behind a run that made the new object p -/
structure PostN (ad : Nat → Addr) (σ : L2.St) (H : Hp) (s : S) (ad' : Nat → Addr) (σ' : L2.St) (H' : Hp) (s' : S) (F : Addr → Prop) (p : Addr) : Prop where
  agr : ∀ k, k < s.cel.length → ad' k = ad k
  len : s.cel.length ≤ s'.cel.length
  ll : s'.loc.length = s.loc.length
  sm : Sm (msk H (Mk ad σ s F)) (msk H' (Mk ad' σ' s' (FAdd F p)))
  frn : ∀ a, F a → H' a = H a
  new : ¬ F p
theorem Post.newP (P : Post ad σ H s ad' σ' H' s' F) (R : Rel N ad' σ' H' s' F) {o : HO} (hp : H' p = none) : PostN ad σ H s ad' σ' (upd H' p o) s' F p :=
  ⟨P.agr, P.len, P.ll, P.sm.trans (R.addF hp).2, fun a h => by
    obtain ⟨⟨u, hu⟩, _⟩ := R.frn a h
    rw [upd_ne (ne_of_none hu hp)]; exact P.frn a h, fun h => by
    obtain ⟨⟨u, hu⟩, _⟩ := R.frn p h
    rw [hp] at hu; cases hu⟩
theorem Post.toN (P : Post ad σ H s ad0 σ0 H0 s0 F) (Q : PostN ad0 σ0 H0 s0 ad' σ' H' s' F p) : PostN ad σ H s ad' σ' H' s' F p :=
  ⟨fun k h => (Q.agr k (Nat.lt_of_lt_of_le h P.len)).trans (P.agr k h), Nat.le_trans P.len Q.len, Q.ll.trans P.ll, P.sm.trans Q.sm, fun a h => (Q.frn a h).trans (P.frn a h), Q.new⟩
/-- the new object is data -/
theorem Rel.take (P : PostN ad σ H s ad' σ' H' s' F p) (R : Rel N ad' σ' H' s' (FAdd F p)) : Rel N ad' σ' H' s' F ∧ Post ad σ H s ad' σ' H' s' F ∧ Sm (msk H' (Mk ad' σ' s' (FAdd F p))) (msk H' (Mk ad' σ' s' F)) ∧ ¬ Mk ad' σ' s' F p := by
  obtain ⟨R1, sm⟩ := R.dropF (F := F) fun a h => .inl h
  refine ⟨R1, ⟨P.agr, P.len, P.ll, P.sm.trans sm, P.frn⟩, sm, ?_⟩
  rintro (m | ⟨l, c, h1, h2⟩)
  · exact P.new m
  · exact (R.frn p (.inr rfl)).2 l c h1 h2
theorem get_set_own {i : Nat} {c : Cell} {l : Lo} {c' : Cell} (h : ({ s with loc := s.loc.set i (some (.own c)) } : S).get l = some c') (hl : l ≠ .sl i) : s.get l = some c' := by
  cases l with
  | sl j =>
    have hj : i ≠ j := fun e => hl (by rw [e])
    rw [get_sl] at h ⊢
    have h : (s.loc.set i (some (.own c)))[j]? = _ := h
    rw [List.getElem?_set, if_neg hj] at h
    exact h
  | id k => exact h
theorem get_set_own' {i : Nat} {c : Cell} (h : i < s.loc.length) : ({ s with loc := s.loc.set i (some (.own c)) } : S).get (.sl i) = some c := by
  rw [get_sl]
  show (s.loc.set i (some (.own c)))[i]? = _
  rw [List.getElem?_set, if_pos rfl, if_pos h]
/-- the new object is a slot's own -/
theorem Rel.setOwn (P : PostN ad σ H s ad' σ' H' s' F p) (R : Rel N ad' σ' H' s' (FAdd F p)) {i : Nat} {c : Cell} (hi : i < s'.loc.length) (ok : CelOk N s'.cel.length ad' (msk H' (Mk ad' σ' s' (FAdd F p))) H' p c) :
    Rel N ad' (σ'.set i (some (.ref p))) H' { s' with loc := s'.loc.set i (some (.own c)) } F ∧ Post ad σ H s ad' (σ'.set i (some (.ref p))) H' { s' with loc := s'.loc.set i (some (.own c)) } F := by
  have hiσ : i < σ'.length := by rw [R.len]; exact hi
  have ai : adr ad' (σ'.set i (some (.ref p))) (.sl i) = some p := by
    rw [adr_sl, List.getElem?_set, if_pos rfl, if_pos hiσ]
  have old : ∀ l c', l ≠ .sl i → ({ s' with loc := s'.loc.set i (some (.own c)) } : S).get l = some c' → s'.get l = some c' ∧ adr ad' (σ'.set i (some (.ref p))) l = adr ad' σ' l := fun l c' hl h => ⟨get_set_own h hl, adr_set hl⟩
  have sm : Sm (msk H' (Mk ad' σ' s' (FAdd F p))) (msk H' (Mk ad' (σ'.set i (some (.ref p))) { s' with loc := s'.loc.set i (some (.own c)) } F)) := sm_sub fun a m => by
    rcases m with m | ⟨l, c', h1, h2⟩
    · exact .inl (.inl m)
    · by_cases hl : l = .sl i
      · subst hl
        rw [ai] at h2; cases h2
        exact .inl (.inr rfl)
      · obtain ⟨q1, q2⟩ := old l c' hl h1
        exact .inr ⟨l, c', q1, q2 ▸ h2⟩
  have apart : ∀ l c', s'.get l = some c' → adr ad' σ' l ≠ some p := (R.frn p (.inr rfl)).2
  refine ⟨⟨?_, ?_, ?_, ?_, ?_⟩, ⟨P.agr, P.len, ?_, P.sm.trans sm, P.frn⟩⟩
  · show (σ'.set i _).length = (s'.loc.set i _).length
    rw [List.length_set, List.length_set, R.len]
  · intro j y h
    have h : (s'.loc.set i (some (LV.own c)))[j]? = some (some (LV.d y)) := h
    show ∃ w, (σ'.set i _)[j]? = some (some w) ∧ _
    rw [List.getElem?_set] at h ⊢
    by_cases hj : i = j
    · subst hj
      simp only [if_true] at h
      rw [if_pos hi] at h
      have := Option.some.inj (Option.some.inj h); cases this
    · rw [if_neg hj] at h ⊢
      obtain ⟨w, e, rw'⟩ := R.dat j y h
      exact ⟨w, e, rw'.mono (Nat.le_refl _) (fun _ _ => rfl) sm⟩
  · intro l c' h
    by_cases hl : l = .sl i
    · subst hl
      rw [get_set_own' hi] at h; cases h
      exact ⟨p, ai, ok.mono (Nat.le_refl _) (fun _ _ => rfl) sm rfl⟩
    · obtain ⟨q1, q2⟩ := old l c' hl h
      obtain ⟨a, e, k⟩ := R.own l c' q1
      exact ⟨a, q2.trans e, k.mono (Nat.le_refl _) (fun _ _ => rfl) sm rfl⟩
  · intro l l' c1 c2 a h h' e e'
    by_cases hl : l = .sl i
    · by_cases hl' : l' = .sl i
      · rw [hl, hl']
      · subst hl
        rw [ai] at e; cases e
        obtain ⟨q1, q2⟩ := old l' c2 hl' h'
        exact absurd (q2.symm.trans e') (apart l' c2 q1)
    · obtain ⟨q1, q2⟩ := old l c1 hl h
      by_cases hl' : l' = .sl i
      · subst hl'
        rw [ai] at e'; cases e'
        exact absurd (q2.symm.trans e) (apart l c1 q1)
      · obtain ⟨q1', q2'⟩ := old l' c2 hl' h'
        exact R.inj l l' c1 c2 a q1 q1' (q2.symm.trans e) (q2'.symm.trans e')
  · intro a h
    obtain ⟨h1, h2⟩ := R.frn a (.inl h)
    refine ⟨h1, fun l c' h' e => ?_⟩
    by_cases hl : l = .sl i
    · subst hl
      rw [ai] at e; cases e
      exact P.new h
    · obtain ⟨q1, q2⟩ := old l c' hl h'
      exact h2 l c' q1 (q2.symm.trans e)
  · show (s'.loc.set i _).length = _
    rw [List.length_set]; exact P.ll
/-- the new object is a thing of the store -/
theorem Rel.alloc (P : PostN ad σ H s ad' σ' H' s' F p) (R : Rel N ad' σ' H' s' (FAdd F p)) {c : Cell} (ok : CelOk N s'.cel.length ad' (msk H' (Mk ad' σ' s' (FAdd F p))) H' p c) :
    ∃ ad2 : Nat → Addr, ad2 s'.cel.length = p ∧ Rel N ad2 σ' H' { s' with cel := s'.cel ++ [c] } F ∧ Post ad σ H s ad2 σ' H' { s' with cel := s'.cel ++ [c] } F ∧ (∀ k, k < s'.cel.length → ad2 k = ad' k) ∧
      Sm (msk H' (Mk ad' σ' s' (FAdd F p))) (msk H' (Mk ad2 σ' { s' with cel := s'.cel ++ [c] } F)) := by
  let ad2 : Nat → Addr := fun k => if k = s'.cel.length then p else ad' k
  have a0 : ad2 s'.cel.length = p := if_pos rfl
  have a1 : ∀ k, k < s'.cel.length → ad2 k = ad' k := fun k h => if_neg (Nat.ne_of_lt h)
  have gn : ({ s' with cel := s'.cel ++ [c] } : S).get (.id s'.cel.length) = some c := by
    show (s'.cel ++ [c])[s'.cel.length]? = some c
    simp
  have old : ∀ l c', l ≠ .id s'.cel.length → ({ s' with cel := s'.cel ++ [c] } : S).get l = some c' → s'.get l = some c' ∧ adr ad2 σ' l = adr ad' σ' l := fun l c' hl h => by
    cases l with
    | sl j => exact ⟨h, rfl⟩
    | id k =>
      have h : (s'.cel ++ [c])[k]? = some c' := h
      have hk : k < s'.cel.length := by
        have := (List.getElem?_eq_some_iff.mp h).1
        rw [List.length_append] at this
        have : k ≠ s'.cel.length := fun e => hl (by rw [e])
        simp at *
        omega
      rw [List.getElem?_append_left hk] at h
      exact ⟨h, congrArg some (a1 k hk)⟩
  have apart : ∀ l c', s'.get l = some c' → adr ad' σ' l ≠ some p := (R.frn p (.inr rfl)).2
  have ai : adr ad2 σ' (.id s'.cel.length) = some p := congrArg some a0
  have sm : Sm (msk H' (Mk ad' σ' s' (FAdd F p))) (msk H' (Mk ad2 σ' { s' with cel := s'.cel ++ [c] } F)) := sm_sub fun a m => by
    rcases m with m | ⟨l, c', h1, h2⟩
    · exact .inl (.inl m)
    · by_cases hl : l = .id s'.cel.length
      · subst hl
        rw [ai] at h2; cases h2
        exact .inl (.inr rfl)
      · obtain ⟨q1, q2⟩ := old l c' hl h1
        exact .inr ⟨l, c', q1, q2 ▸ h2⟩
  have le : s'.cel.length ≤ (s'.cel ++ [c]).length := by simp
  refine ⟨ad2, a0, ⟨R.len, ?_, ?_, ?_, ?_⟩, ⟨fun k h => (a1 k (Nat.lt_of_lt_of_le h P.len)).trans (P.agr k h), Nat.le_trans P.len le, P.ll, P.sm.trans sm, P.frn⟩, a1, sm⟩
  · intro j y h
    obtain ⟨w, e, rw'⟩ := R.dat j y h
    exact ⟨w, e, rw'.mono le a1 sm⟩
  · intro l c' h
    by_cases hl : l = .id s'.cel.length
    · subst hl
      rw [gn] at h; cases h
      exact ⟨p, ai, ok.mono le a1 sm rfl⟩
    · obtain ⟨q1, q2⟩ := old l c' hl h
      obtain ⟨a, e, k⟩ := R.own l c' q1
      exact ⟨a, q2.trans e, k.mono le a1 sm rfl⟩
  · intro l l' c1 c2 a h h' e e'
    by_cases hl : l = .id s'.cel.length
    · by_cases hl' : l' = .id s'.cel.length
      · rw [hl, hl']
      · subst hl
        rw [ai] at e; cases e
        obtain ⟨q1, q2⟩ := old l' c2 hl' h'
        exact absurd (q2.symm.trans e') (apart l' c2 q1)
    · obtain ⟨q1, q2⟩ := old l c1 hl h
      by_cases hl' : l' = .id s'.cel.length
      · subst hl'
        rw [ai] at e'; cases e'
        exact absurd (q2.symm.trans e) (apart l c1 q1)
      · obtain ⟨q1', q2'⟩ := old l' c2 hl' h'
        exact R.inj l l' c1 c2 a q1 q1' (q2.symm.trans e) (q2'.symm.trans e')
  · intro a h
    obtain ⟨h1, h2⟩ := R.frn a (.inl h)
    refine ⟨h1, fun l c' h' e => ?_⟩
    by_cases hl : l = .id s'.cel.length
    · subst hl
      rw [ai] at e; cases e
      exact P.new h
    · obtain ⟨q1, q2⟩ := old l c' hl h'
      exact h2 l c' q1 (q2.symm.trans e)
end
/-! ### what a run guarantees -/
/-- an exception as the core tells it -/
def RepE (N : Nms) (n : Nat) (ad : Nat → Addr) (B H : Hp) (e : Exc) (cls : Value) (d : Option Addr) : Prop :=
  cls = .ref (N.cl e.c) ∧ (e.fs = [] ∨ ∃ dd fv, d = some dd ∧ H dd = some (.xd fv) ∧ RepFs N n ad B fv e.fs)
def Gar {α : Type} (N : Nms) (W : WX) (ad : Nat → Addr) (σ : L2.St) (H : Hp) (s : S) (F : Addr → Prop) (r : Res α) (K : α → S → (Nat → Addr) → Hp → Prop) : Prop := match r with
  | .ok a s' => ∀ ad' H', Rel N ad' σ H' s' F → Post ad σ H s ad' σ H' s' F → K a s' ad' H'
  | .exc e s' => ∀ cls d ad' H', Rel N ad' σ H' s' F → Post ad σ H s ad' σ H' s' F → RepE N s'.cel.length ad' (msk H' (Mk ad' σ s' F)) H' e cls d → W cls d σ H'
  | .stk => False
section
variable {W : WX} {ad ad' ad0 : Nat → Addr} {σ : L2.St} {H H' H0 : Hp} {s s' s0 : S} {F : Addr → Prop} {α β : Type}
theorem Gar.from {r : Res α} {K : α → S → (Nat → Addr) → Hp → Prop} (P : Post ad0 σ H0 s0 ad σ H s F) (h : Gar N W ad0 σ H0 s0 F r K) : Gar N W ad σ H s F r K := by
  cases r with
  | ok a s' => exact fun ad' H' R' P' => h ad' H' R' (P.trans P')
  | exc e s' => exact fun cls d ad' H' R' P' => h cls d ad' H' R' (P.trans P')
  | stk => exact h
theorem Gar.mono {r : Res α} {K K' : α → S → (Nat → Addr) → Hp → Prop} (h : Gar N W ad σ H s F r K) (i : ∀ a s' ad' H', Rel N ad' σ H' s' F → Post ad σ H s ad' σ H' s' F → K a s' ad' H' → K' a s' ad' H') : Gar N W ad σ H s F r K' := by
  cases r with
  | ok a s' => exact fun ad' H' R' P' => i _ _ _ _ R' P' (h ad' H' R' P')
  | exc e s' => exact h
  | stk => exact h
theorem Gar.bind {m : M α} {f : α → M β} {K : β → S → (Nat → Addr) → Hp → Prop} (h : Gar N W ad σ H s F (M.bind m f s) K) :
    Gar N W ad σ H s F (m s) fun a s' ad' H' => Gar N W ad' σ H' s' F (f a s') K := by
  unfold M.bind at h
  cases hm : m s with
  | ok a s' => rw [hm] at h; exact fun ad' H' R' P' => h.from P'
  | exc e s' => rw [hm] at h; exact h
  | stk => rw [hm] at h; exact h
end
/-- a value -/
def RepPV (N : Nms) (ad : Nat → Addr) (σ : L2.St) (H : Hp) (s : S) (F : Addr → Prop) (v : V) : PV → Prop
  | .d x => RepD N s.cel.length ad (msk H (Mk ad σ s F)) v x
  | .own i => σ[i]? = some (some v)
theorem RepPV.post {ad ad' : Nat → Addr} {σ : L2.St} {H H' : Hp} {s s' : S} {F : Addr → Prop} {v : V} (P : Post ad σ H s ad' σ H' s' F) : ∀ {pv : PV}, RepPV N ad σ H s F v pv → RepPV N ad' σ H' s' F v pv
  | .d x, r => P.rep r
  | .own i, r => r
/-- the readings of runs -/
def tX (N : Nms) (W : WX) (m : M PV) : TE := fun σ H Q => ∃ ad s F, Rel N ad σ H s F ∧ Gar N W ad σ H s F (m s) fun pv s' ad' H' => ∀ v, RepPV N ad' σ H' s' F v pv → Q v H'
def tD (N : Nms) (W : WX) (m : M D) : TE := fun σ H Q => ∃ ad s F, Rel N ad σ H s F ∧ Gar N W ad σ H s F (m s) fun x s' ad' H' => ∀ v, RepD N s'.cel.length ad' (msk H' (Mk ad' σ s' F)) v x → Q v H'
def tT (N : Nms) (W : WX) (m : M Bool) : TT := fun σ H Q => ∃ ad s F, Rel N ad σ H s F ∧ Gar N W ad σ H s F (m s) fun b s' ad' H' => Q b H'
def tAs (N : Nms) (W : WX) (m : M (List D)) : TA := fun σ H Q => ∃ ad s F, Rel N ad σ H s F ∧ Gar N W ad σ H s F (m s) fun xs s' ad' H' => ∀ vs, RepDs N s'.cel.length ad' (msk H' (Mk ad' σ s' F)) vs xs → Q vs H'
inductive RepPs (N : Nms) (ad : Nat → Addr) (σ : L2.St) (H : Hp) (s : S) (F : Addr → Prop) : List V → List PV → Prop
  | nil : RepPs N ad σ H s F [] []
  | cons {v : V} {vs : List V} {x : PV} {xs : List PV} : RepPV N ad σ H s F v x → RepPs N ad σ H s F vs xs → RepPs N ad σ H s F (v :: vs) (x :: xs)
def tPs (N : Nms) (W : WX) (m : M (List PV)) : TA := fun σ H Q => ∃ ad s F, Rel N ad σ H s F ∧ Gar N W ad σ H s F (m s) fun xs s' ad' H' => ∀ vs, RepPs N ad' σ H' s' F vs xs → Q vs H'
theorem pe_imp {X : Cx} {e : Expr} {t t' : TE} (h : PE X e t) (i : ∀ σ H Q, t' σ H Q → t σ H Q) : PE X e t' := ⟨fun pins s σ H Q I hw => h.run pins s σ H Q I (i _ _ _ hw)⟩
theorem pt_imp {X : Cx} {e : Expr} {t t' : TT} (h : PT X e t) (i : ∀ σ H Q, t' σ H Q → t σ H Q) : PT X e t' := ⟨fun pins s σ H Q I hw => h.run pins s σ H Q I (i _ _ _ hw)⟩
theorem pa_imp {X : Cx} {e : List Expr} {t t' : TA} (h : PA X e t) (i : ∀ σ H Q, t' σ H Q → t σ H Q) : PA X e t' := ⟨fun pos pins s σ H Q I hw => h.run pos pins s σ H Q I (i _ _ _ hw)⟩
theorem ps_imp {X : Cx} {e : Stmt} {t t' : TS} (h : PS X e t) (i : ∀ D σ H, t' D σ H → t D σ H) : PS X e t' := ⟨fun pins s σ H Q I hw => h.run pins s σ H Q I (i _ _ _ hw)⟩
theorem pss_imp {X : Cx} {e : List Stmt} {t t' : TS} (h : PSs X e t) (i : ∀ D σ H, t' D σ H → t D σ H) : PSs X e t' := ⟨fun pins s σ H Q I hw => h.run pins s σ H Q I (i _ _ _ hw)⟩
/-- an object that is read: it stands in H, its parts among what never changes -/
inductive RepW (N : Nms) (n : Nat) (ad : Nat → Addr) (B H : Hp) : V → D → Prop
  | d {v : V} {x : D} : RepD N n ad B v x → RepW N n ad B H v x
  | c {a : Addr} {c : Cell} : CelOk N n ad B H a c → RepW N n ad B H (.ref a) c.toD
section
variable {ad : Nat → Addr} {σ : L2.St} {H : Hp} {s : S} {F : Addr → Prop}
theorem RepPV.val (R : Rel N ad σ H s F) {v : V} {pv : PV} {x : D} (r : RepPV N ad σ H s F v pv) (h : pv.val s = some x) : RepW N s.cel.length ad (msk H (Mk ad σ s F)) H v x := by
  cases pv with
  | d y =>
    cases y with
    | ref k =>
      have h : (s.cel[k]?).map Cell.toD = some x := h
      cases hc : s.cel[k]? with
      | none => rw [hc] at h; cases h
      | some c =>
        rw [hc] at h; cases h
        obtain ⟨a, e, ok⟩ := R.own (.id k) c hc
        have r : RepD N s.cel.length ad (msk H (Mk ad σ s F)) v (.ref k) := r
        cases r
        have e : some (ad k) = some a := e
        cases e
        exact .c ok
    | _ => cases h; exact .d r
  | own i =>
    have r : σ[i]? = some (some v) := r
    have h : (match s.loc1 i with
      | some (.own c) => some c.toD
      | some (.d (.ref _)) => none
      | some (.d x) => some x
      | none => none) = some x := h
    cases hc : s.loc1 i with
    | none => rw [hc] at h; cases h
    | some lv =>
      rw [hc] at h
      cases lv with
      | own c =>
        cases h
        obtain ⟨a, e, ok⟩ := R.own (.sl i) c (get_sl.mpr (loc1_some.mp hc))
        rw [adr_sl, r] at e; cases e
        exact .c ok
      | d y =>
        have q := R.dat i y (loc1_some.mp hc)
        obtain ⟨w, e, rd⟩ := q
        rw [r] at e; cases e
        cases y with
        | ref k => cases h
        | _ => cases h; exact .d rd
end
end Ev

set_option autoImplicit false
set_option linter.all false
set_option maxRecDepth 100000
/-! Data of the core as the library's data: ==, <, in. -/
namespace Ev
open PySem L2
variable {N : Nms}
mutual
def D.py : D → PyData
  | .bl b => .bool b
  | .int i => .int i
  | .str x => .str x
  | .tup xs => .tuple (D.pys xs)
  | .lst xs => .list (D.pys xs)
  | _ => .none
def D.pys : List D → List PyData
  | [] => []
  | x :: xs => x.py :: D.pys xs
end
mutual
theorem fin_plain : ∀ (n : Nat) (d : D), d.fin n = true → d.py.plain = true ∧ d.py.depth ≤ n
  | _, .non, _ => ⟨rfl, Nat.zero_le _⟩
  | _, .bl _, _ => ⟨rfl, Nat.zero_le _⟩
  | _, .int _, _ => ⟨rfl, Nat.zero_le _⟩
  | _, .str _, _ => ⟨rfl, Nat.zero_le _⟩
  | 0, .tup _, h => by simp [D.fin] at h
  | 0, .lst _, h => by simp [D.fin] at h
  | n + 1, .tup xs, h => by
    have q := fins_plain n xs (by simpa [D.fin] using h)
    exact ⟨by simpa [D.py, PyData.plain] using q.1, by simp only [D.py, PyData.depth]; omega⟩
  | n + 1, .lst xs, h => by
    have q := fins_plain n xs (by simpa [D.fin] using h)
    exact ⟨by simpa [D.py, PyData.plain] using q.1, by simp only [D.py, PyData.depth]; omega⟩
  | 0, .dct _, h => by simp [D.fin] at h
  | 0, .obj _ _, h => by simp [D.fin] at h
  | 0, .ref _, h => by simp [D.fin] at h
  | n + 1, .dct _, h => by simp [D.fin] at h
  | n + 1, .obj _ _, h => by simp [D.fin] at h
  | n + 1, .ref _, h => by simp [D.fin] at h
theorem fins_plain : ∀ (n : Nat) (ds : List D), D.fins n ds = true → PyData.plainAll (D.pys ds) = true ∧ PyData.depthAll (D.pys ds) ≤ n
  | _, [], _ => ⟨rfl, by simp [D.pys, PyData.depthAll]⟩
  | n, d :: ds, h => by
    simp only [D.fins, Bool.and_eq_true] at h
    have p := fin_plain n d h.1
    have q := fins_plain n ds h.2
    exact ⟨by simp [D.pys, PyData.plainAll, p.1, q.1], by simp only [D.pys, PyData.depthAll]; omega⟩
end
mutual
theorem RepD.reads {X : Cx} {pins : List (Addr × Obj)} {σ : L2.St} {H : Hp} {s : Shared} {m : Nat} {ad : Nat → Addr} (hK : X.K = N.K) (I : Inv X pins σ H s) : ∀ (n : Nat) (d : D) {v : V} {u : Value}, d.fin n = true → RepD N m ad H v d → RelV v u → ∃ as, Reads s.heap u d.py as
  | _, .non, _, _, _, h, r => by cases h; cases r; exact ⟨_, Reads.none⟩
  | _, .bl b, _, _, _, h, r => by cases h; cases r; exact ⟨_, Reads.bool b⟩
  | _, .int i, _, _, _, h, r => by cases h; obtain ⟨t, rfl⟩ := r; exact ⟨_, Reads.int i t⟩
  | _, .str x, _, _, _, h, r => by cases h; obtain ⟨t, rfl⟩ := r; exact ⟨_, Reads.str x t⟩
  | 0, .tup _, _, _, f, _, _ => by simp [D.fin] at f
  | 0, .lst _, _, _, f, _, _ => by simp [D.fin] at f
  | n + 1, .tup ds, _, _, f, h, r => by
    cases h with
    | tup hs ha =>
      cases r
      rw [← hK] at hs
      obtain ⟨its, rv, ⟨o, ho, hc, m, hd⟩, _⟩ := I.tuple hs
      obtain ⟨as, hr⟩ := RepDs.reads hK I n ds (by simpa [D.fin] using f) ha rv
      exact ⟨_, Reads.tuple ho hc hd (by simpa using hr)⟩
  | n + 1, .lst ds, _, _, f, h, r => by
    cases h with
    | lst hs ha =>
      cases r
      rw [← hK] at hs
      obtain ⟨its, rv, ⟨o, m, ho, hc, _, hd⟩, _⟩ := I.list hs
      obtain ⟨as, hr⟩ := RepDs.reads hK I n ds (by simpa [D.fin] using f) ha rv
      exact ⟨_, Reads.list ho hc hd (by simpa using hr)⟩
  | n, .dct _, _, _, f, h, _ => by cases n <;> simp [D.fin] at f
  | n, .obj _ _, _, _, f, h, _ => by cases n <;> simp [D.fin] at f
  | n, .ref _, _, _, f, h, _ => by cases n <;> simp [D.fin] at f
theorem RepDs.reads {X : Cx} {pins : List (Addr × Obj)} {σ : L2.St} {H : Hp} {s : Shared} {m : Nat} {ad : Nat → Addr} (hK : X.K = N.K) (I : Inv X pins σ H s) : ∀ (n : Nat) (ds : List D) {vs : List V} {us : List Value}, D.fins n ds = true → RepDs N m ad H vs ds → Vals vs us → ∃ as, ReadsAll s.heap us (D.pys ds) as
  | _, [], _, _, _, h, r => by cases h; cases r; exact ⟨_, ReadsAll.nil⟩
  | n, d :: ds, _, _, f, h, r => by
    simp only [D.fins, Bool.and_eq_true] at f
    cases h with
    | cons h1 h2 =>
      cases r with
      | cons r1 r2 =>
        obtain ⟨as, q1⟩ := RepD.reads hK I n d f.1 h1 r1
        obtain ⟨bs, q2⟩ := RepDs.reads hK I n ds f.2 h2 r2
        exact ⟨_, ReadsAll.cons q1 q2⟩
end
mutual
theorem eqB_py : ∀ (n m : Nat) (x y : D), x.fin n = true → y.fin m = true → eqB x y = PyData.eqv x.py y.py
  | n, m, .non, y, _, h => by cases y <;> first | rfl | (cases m <;> simp [D.fin] at h)
  | n, m, .bl a, y, _, h => by cases y <;> first | rfl | (cases m <;> simp [D.fin] at h) | simp [eqB, D.py, PyData.eqv]
  | n, m, .int a, y, _, h => by cases y <;> first | rfl | (cases m <;> simp [D.fin] at h) | simp [eqB, D.py, PyData.eqv]
  | n, m, .str a, y, _, h => by cases y <;> first | rfl | (cases m <;> simp [D.fin] at h) | simp [eqB, D.py, PyData.eqv]
  | 0, _, .tup _, _, h, _ => by simp [D.fin] at h
  | 0, _, .lst _, _, h, _ => by simp [D.fin] at h
  | n + 1, m, .tup xs, y, hx, h => by
    cases y with
    | tup ys =>
      cases m with
      | zero => simp [D.fin] at h
      | succ m =>
        simp only [eqB, D.py, PyData.eqv]
        exact eqBs_py n m xs ys (by simpa [D.fin] using hx) (by simpa [D.fin] using h)
    | _ => first | rfl | (cases m <;> simp [D.fin] at h) | simp [eqB, D.py, PyData.eqv]
  | n + 1, m, .lst xs, y, hx, h => by
    cases y with
    | lst ys =>
      cases m with
      | zero => simp [D.fin] at h
      | succ m =>
        simp only [eqB, D.py, PyData.eqv]
        exact eqBs_py n m xs ys (by simpa [D.fin] using hx) (by simpa [D.fin] using h)
    | _ => first | rfl | (cases m <;> simp [D.fin] at h) | simp [eqB, D.py, PyData.eqv]
  | n, _, .dct _, _, h, _ => by cases n <;> simp [D.fin] at h
  | n, _, .obj _ _, _, h, _ => by cases n <;> simp [D.fin] at h
  | n, _, .ref _, _, h, _ => by cases n <;> simp [D.fin] at h
theorem eqBs_py : ∀ (n m : Nat) (xs ys : List D), D.fins n xs = true → D.fins m ys = true → eqBs xs ys = PyData.eqvAll (D.pys xs) (D.pys ys)
  | _, _, [], [], _, _ => rfl
  | _, _, [], _ :: _, _, _ => rfl
  | _, _, _ :: _, [], _, _ => rfl
  | n, m, x :: xs, y :: ys, hx, hy => by
    simp only [D.fins, Bool.and_eq_true] at hx hy
    simp only [eqBs, D.pys, PyData.eqvAll, eqB_py n m x y hx.1 hy.1, eqBs_py n m xs ys hx.2 hy.2]
end
mutual
theorem alk_py : ∀ (x y : D), alk x y = true → PySem.W.alike x.py y.py = true
  | .non, y, h => by cases y <;> first | rfl | simp [alk] at h
  | .bl a, y, h => by cases y <;> first | rfl | simp [alk] at h
  | .int a, y, h => by cases y <;> first | rfl | simp [alk] at h
  | .str a, y, h => by cases y <;> first | rfl | simp [alk] at h
  | .tup xs, y, h => by
    cases y with
    | tup ys => simp only [D.py, PySem.W.alike]; exact alks_py xs ys (by simpa [alk] using h)
    | _ => simp [alk] at h
  | .lst xs, y, h => by
    cases y with
    | lst ys => simp only [D.py, PySem.W.alike]; exact alks_py xs ys (by simpa [alk] using h)
    | _ => simp [alk] at h
  | .dct _, y, h => by simp [alk] at h
  | .obj _ _, y, h => by simp [alk] at h
  | .ref _, y, h => by simp [alk] at h
theorem alks_py : ∀ (xs ys : List D), alks xs ys = true → PySem.W.alikeAll (D.pys xs) (D.pys ys) = true
  | [], _, _ => by simp [D.pys, PySem.W.alikeAll]
  | _ :: _, [], _ => by simp [D.pys, PySem.W.alikeAll]
  | x :: xs, y :: ys, h => by
    simp only [alks, Bool.and_eq_true] at h
    simp [D.pys, PySem.W.alikeAll, alk_py x y h.1, alks_py xs ys h.2]
end
mutual
theorem ltB_py : ∀ (n m : Nat) (x y : D), x.fin n = true → y.fin m = true → alk x y = true → ltB x y = PySem.W.dataLt x.py y.py
  | n, m, .non, y, _, _, h => by cases y <;> first | rfl | simp [alk] at h
  | n, m, .bl a, y, _, _, h => by
    cases y with
    | bl b =>
      simp only [ltB, D.py, PySem.W.dataLt_bool]
      cases a <;> cases b <;> rfl
    | _ => simp [alk] at h
  | n, m, .int a, y, _, _, h => by
    cases y with
    | int b => simp only [ltB, D.py, PySem.W.dataLt_int]
    | _ => simp [alk] at h
  | n, m, .str a, y, _, _, h => by
    cases y with
    | str b => simp only [ltB, D.py, PySem.W.dataLt_str]
    | _ => simp [alk] at h
  | 0, _, .tup _, _, h, _, _ => by simp [D.fin] at h
  | 0, _, .lst _, _, h, _, _ => by simp [D.fin] at h
  | n + 1, m, .tup xs, y, hx, h, ha => by
    cases y with
    | tup ys =>
      cases m with
      | zero => simp [D.fin] at h
      | succ m =>
        simp only [ltB, D.py, PySem.W.dataLt_tuple]
        exact ltBs_py n m xs ys (by simpa [D.fin] using hx) (by simpa [D.fin] using h) (by simpa [alk] using ha)
    | _ => simp [alk] at ha
  | n + 1, m, .lst xs, y, hx, h, ha => by
    cases y with
    | lst ys =>
      cases m with
      | zero => simp [D.fin] at h
      | succ m =>
        simp only [ltB, D.py, PySem.W.dataLt_list]
        exact ltBs_py n m xs ys (by simpa [D.fin] using hx) (by simpa [D.fin] using h) (by simpa [alk] using ha)
    | _ => simp [alk] at ha
  | n, _, .dct _, _, h, _, _ => by cases n <;> simp [D.fin] at h
  | n, _, .obj _ _, _, h, _, _ => by cases n <;> simp [D.fin] at h
  | n, _, .ref _, _, h, _, _ => by cases n <;> simp [D.fin] at h
theorem ltBs_py : ∀ (n m : Nat) (xs ys : List D), D.fins n xs = true → D.fins m ys = true → alks xs ys = true → ltBs xs ys = PyProof.Rows.lexLt PyProof.Rows.itemOrd (PySem.W.keyToksAll (D.pys xs)) (PySem.W.keyToksAll (D.pys ys))
  | _, _, [], [], _, _, _ => by decide +kernel
  | _, _, [], y :: ys, _, _, _ => by
    simp only [ltBs, D.pys, PySem.W.keyToksAll]
    rw [PySem.W.lex_atom (by decide)]
    decide +kernel
  | _, _, x :: xs, [], _, _, _ => by
    simp only [ltBs, D.pys, PySem.W.keyToksAll]
    rw [PySem.W.lex_atom (by decide)]
    decide +kernel
  | n, m, x :: xs, y :: ys, hx, hy, ha => by
    simp only [D.fins, Bool.and_eq_true] at hx hy
    simp only [alks, Bool.and_eq_true] at ha
    have e := eqB_py n m x y hx.1 hy.1
    simp only [ltBs, D.pys]
    cases he : eqB x y with
    | true =>
      rw [PySem.W.dataLt_all_yes (alk_py _ _ ha.1) (by rw [← e]; exact he)]
      exact ltBs_py n m xs ys hx.2 hy.2 ha.2
    | false =>
      rw [PySem.W.dataLt_all_no (alk_py _ _ ha.1) (by rw [← e]; exact he)]
      exact ltB_py n m x y hx.1 hy.1 ha.1
end
mutual
theorem alk_symm : ∀ (x y : D), alk x y = true → alk y x = true
  | .tup xs, y, h => by
    cases y with
    | tup ys => simp only [alk] at h ⊢; exact alks_symm xs ys h
    | _ => simp [alk] at h
  | .lst xs, y, h => by
    cases y with
    | lst ys => simp only [alk] at h ⊢; exact alks_symm xs ys h
    | _ => simp [alk] at h
  | .non, y, h => by cases y <;> first | rfl | simp [alk] at h
  | .bl _, y, h => by cases y <;> first | rfl | simp [alk] at h
  | .int _, y, h => by cases y <;> first | rfl | simp [alk] at h
  | .str _, y, h => by cases y <;> first | rfl | simp [alk] at h
  | .dct _, y, h => by simp [alk] at h
  | .obj _ _, y, h => by simp [alk] at h
  | .ref _, y, h => by simp [alk] at h
theorem alks_symm : ∀ (xs ys : List D), alks xs ys = true → alks ys xs = true
  | [], [], _ => by simp [alks]
  | [], _ :: _, _ => by simp [alks]
  | _ :: _, [], _ => by simp [alks]
  | x :: xs, y :: ys, h => by
    simp only [alks, Bool.and_eq_true] at h ⊢
    exact ⟨alk_symm x y h.1, alks_symm xs ys h.2⟩
end
end Ev

set_option autoImplicit false
set_option linter.all false
set_option maxRecDepth 100000
/-! Operators over data. -/
namespace Ev
open PySem L2 PyProof.Rows
variable {N : Nms}
section
variable {n : Nat} {ad : Nat → Addr} {B H : Hp} {M : Addr → Prop} {v : V}
theorem RepW.nonI (h : RepW N n ad B H v .non) : v = .non := by
  generalize e : D.non = d at h
  cases h with
  | d h => subst e; cases h; rfl
  | c ok => rename_i c; cases c <;> cases e
theorem RepW.intI {i : Int} (h : RepW N n ad B H v (.int i)) : v = .int i := by
  generalize e : D.int i = d at h
  cases h with
  | d h => subst e; cases h; rfl
  | c ok => rename_i c; cases c <;> cases e
theorem RepW.blI {i : Bool} (h : RepW N n ad B H v (.bl i)) : v = .bl i := by
  generalize e : D.bl i = d at h
  cases h with
  | d h => subst e; cases h; rfl
  | c ok => rename_i c; cases c <;> cases e
theorem RepW.strI {i : Str} (h : RepW N n ad B H v (.str i)) : v = .str i := by
  generalize e : D.str i = d at h
  cases h with
  | d h => subst e; cases h; rfl
  | c ok => rename_i c; cases c <;> cases e
theorem sm_le {H : Hp} {M : Addr → Prop} : Sm (msk H M) H := .of msk_le
theorem RepW.tupI {ds : List D} (h : RepW N n ad (msk H M) H v (.tup ds)) : ∃ a xs, v = .ref a ∧ SqT N.K (msk H M) a xs ∧ SqT N.K H a xs ∧ RepDs N n ad (msk H M) xs ds := by
  generalize e : D.tup ds = d at h
  cases h with
  | d h => subst e; cases h with | tup s r => exact ⟨_, _, rfl, s, SqT.sm sm_le s, r⟩
  | c ok => rename_i c; cases c <;> cases e
theorem RepW.lstI {ds : List D} (h : RepW N n ad (msk H M) H v (.lst ds)) : ∃ a xs, v = .ref a ∧ SqL N.K H a xs ∧ RepDs N n ad (msk H M) xs ds := by
  generalize e : D.lst ds = d at h
  cases h with
  | d h => subst e; cases h with | lst s r => exact ⟨_, _, rfl, SqL.sm sm_le s, r⟩
  | c ok =>
    rename_i c
    cases c <;> cases e
    obtain ⟨xs, h1, h2⟩ := ok
    exact ⟨_, _, rfl, SqL.of h1, h2⟩
theorem RepW.dctI {ds : List (D × D)} (h : RepW N n ad (msk H M) H v (.dct ds)) : ∃ a kvs, v = .ref a ∧ Rd H a (.dK kvs) ∧ RepKs N n ad (msk H M) kvs ds := by
  generalize e : D.dct ds = d at h
  cases h with
  | d h => subst e; cases h with | dK s r => exact ⟨_, _, rfl, Rd.smK sm_le s, r⟩
  | c ok =>
    rename_i c
    cases c <;> cases e
    obtain ⟨xs, h1, h2⟩ := ok
    exact ⟨_, _, rfl, .inl h1, h2⟩
theorem RepW.objI {c : Nat} {fs : List (Nat × D)} (h : RepW N n ad (msk H M) H v (.obj c fs)) : ∃ a dx fv, v = .ref a ∧ H a = some (.ins (N.cl c) dx fv) ∧ RepFs N n ad (msk H M) fv fs := by
  generalize e : D.obj c fs = d at h
  cases h with
  | d h =>
    subst e
    cases h with
    | obj s r => exact ⟨_, _, _, rfl, (msk_get s).1, r⟩
  | c ok =>
    rename_i c
    cases c <;> cases e
    obtain ⟨dx, xs, h1, h2⟩ := ok
    exact ⟨_, _, _, rfl, h1, h2⟩
/-- all of it as data of the whole heap -/
theorem RepW.full {x : D} (h : RepW N n ad (msk H M) H v x) : RepD N n ad H v x := by
  cases h with
  | d h => exact RepD.mono (Nat.le_refl _) (fun _ _ => rfl) sm_le _ h
  | c ok => exact CelOk.toD sm_le rfl _ ok
/-- an object that is new -/
theorem new_same {p : Addr} {o : HO} (hp : H p = none) : Same H (upd H p o) := fun b u e => by rw [upd_ne (ne_of_none e hp)]; exact e
theorem new_msk {p : Addr} {o : HO} (hM : ∀ p, M p → ∃ o, H p = some o) (hp : H p = none) : msk (upd H p o) M p = some o ∧ Sm (msk H M) (msk (upd H p o) M) := by
  refine ⟨?_, .of (msk_same (new_same hp))⟩
  rw [msk_of fun m => ?_]
  · exact upd_same
  · obtain ⟨u, hu⟩ := hM p m
    rw [hp] at hu; cases hu
theorem new_tup {p : Addr} {ys : List V} {es : List D} (hM : ∀ p, M p → ∃ o, H p = some o) (hp : H p = none) (r : RepDs N n ad (msk H M) ys es) : RepD N n ad (msk (upd H p (.tup ys)) M) (.ref p) (.tup es) :=
  let ⟨h1, h2⟩ := new_msk (o := .tup ys) hM hp
  .tup (SqT.of h1) (RepDs.mono (Nat.le_refl _) (fun _ _ => rfl) h2 _ r)
theorem new_lst {p : Addr} {ys : List V} {es : List D} (hM : ∀ p, M p → ∃ o, H p = some o) (hp : H p = none) (r : RepDs N n ad (msk H M) ys es) : RepD N n ad (msk (upd H p (.lst ys)) M) (.ref p) (.lst es) :=
  let ⟨h1, h2⟩ := new_msk (o := .lst ys) hM hp
  .lst (SqL.of h1) (RepDs.mono (Nat.le_refl _) (fun _ _ => rfl) h2 _ r)
end
/-- an operator over data -/
def rD2 (N : Nms) (f : D → D → Option D) : R2 := fun x y H Q => ∃ n ad M a b z, (∀ p, M p → ∃ o, H p = some o) ∧ RepW N n ad (msk H M) H x a ∧ RepW N n ad (msk H M) H y b ∧ f a b = some z ∧ ∀ v H', Same H H' → RepD N n ad (msk H' M) v z → Q v H'
def rD1 (N : Nms) (f : D → Option D) : V → Hp → VK → Prop := fun x H Q => ∃ n ad M a z, (∀ p, M p → ∃ o, H p = some o) ∧ RepW N n ad (msk H M) H x a ∧ f a = some z ∧ ∀ v H', Same H H' → RepD N n ad (msk H' M) v z → Q v H'
inductive RepWs (N : Nms) (n : Nat) (ad : Nat → Addr) (B H : Hp) : List V → List D → Prop
  | nil : RepWs N n ad B H [] []
  | cons {v : V} {vs : List V} {x : D} {xs : List D} : RepW N n ad B H v x → RepWs N n ad B H vs xs → RepWs N n ad B H (v :: vs) (x :: xs)
def rDs (N : Nms) (f : List D → Option D) : List V → Hp → VK → Prop := fun xs H Q => ∃ n ad M as z, (∀ p, M p → ∃ o, H p = some o) ∧ RepWs N n ad (msk H M) H xs as ∧ f as = some z ∧ ∀ v H', Same H H' → RepD N n ad (msk H' M) v z → Q v H'
section
variable {W : WX} {α β : Type}
theorem tX_two {r : R2} {f : D → D → Option D} {ma mb : M PV} (hr : ∀ x y H Q, rD2 N f x y H Q → r x y H Q) : ∀ σ H Q, tX N W (two ma mb f) σ H Q → tOp r (tX N W ma) (tX N W mb) σ H Q := by
  rintro σ H Q ⟨ad, s, F, R, h⟩
  refine ⟨ad, s, F, R, (Gar.bind h).mono fun a s1 ad1 H1 R1 P1 h1 x rx => ?_⟩
  refine ⟨ad1, s1, F, R1, (Gar.bind h1).mono fun b s2 ad2 H2 R2 P2 h2 y ry => ?_⟩
  have rx2 := rx.post P2
  cases hx : a.val s2 with
  | none => simp only [hx] at h2; exact h2.elim
  | some dx =>
    cases hy : b.val s2 with
    | none => simp only [hx, hy] at h2; exact h2.elim
    | some dy =>
      cases hf : f dx dy with
      | none => simp only [hx, hy, hf] at h2; exact h2.elim
      | some z =>
        simp only [hx, hy, hf] at h2
        exact hr _ _ _ _ ⟨_, _, Mk ad2 σ s2 F, dx, dy, z, fun p m => R2.masked m, rx2.val R2 hx, ry.val R2 hy, hf, fun v H3 sm r3 => h2 ad2 H3 (R2.grow sm) (.grow R2 sm) v r3⟩
theorem tX_one {r : V → Hp → VK → Prop} {f : D → Option D} {ma : M PV} (hr : ∀ x H Q, rD1 N f x H Q → r x H Q) : ∀ σ H Q, tX N W (one ma f) σ H Q → tUn r (tX N W ma) σ H Q := by
  rintro σ H Q ⟨ad, s, F, R, h⟩
  refine ⟨ad, s, F, R, (Gar.bind h).mono fun a s2 ad2 H2 R2 P2 h2 x rx => ?_⟩
  cases hx : a.val s2 with
  | none => simp only [hx] at h2; exact h2.elim
  | some dx =>
    cases hf : f dx with
    | none => simp only [hx, hf] at h2; exact h2.elim
    | some z =>
      simp only [hx, hf] at h2
      exact hr _ _ _ ⟨_, _, Mk ad2 σ s2 F, dx, z, fun p m => R2.masked m, rx.val R2 hx, hf, fun v H3 sm r3 => h2 ad2 H3 (R2.grow sm) (.grow R2 sm) v r3⟩
theorem RepPs.val {ad : Nat → Addr} {σ : L2.St} {H : Hp} {s : S} {F : Addr → Prop} (R : Rel N ad σ H s F) : ∀ {vs : List V} {xs : List PV} {ds : List D}, RepPs N ad σ H s F vs xs → valsOf s xs = some ds → RepWs N s.cel.length ad (msk H (Mk ad σ s F)) H vs ds
  | _, _, ds, .nil, h => by cases h; exact .nil
  | _, _, ds, .cons (x := x) (xs := xs) a b, h => by
    unfold valsOf at h
    cases hx : x.val s with
    | none => rw [hx] at h; cases h
    | some d =>
      rw [hx] at h
      cases hr : valsOf s xs with
      | none => rw [hr] at h; cases h
      | some ds' =>
        rw [hr] at h; cases h
        exact .cons (a.val R hx) (RepPs.val R b hr)
theorem RepPs.post {ad ad' : Nat → Addr} {σ : L2.St} {H H' : Hp} {s s' : S} {F : Addr → Prop} (P : Post ad σ H s ad' σ H' s' F) : ∀ {vs : List V} {xs : List PV}, RepPs N ad σ H s F vs xs → RepPs N ad' σ H' s' F vs xs
  | _, _, .nil => .nil
  | _, _, .cons a b => .cons (a.post P) (RepPs.post P b)
/-- a built-in's call -/
theorem tX_bi {r : List V → Hp → VK → Prop} {b : Bi} {m : M (List PV)} (hr : ∀ x H Q, rDs N (biF b) x H Q → r x H Q) : ∀ σ H Q, tX N W (M.bind m fun xs => biM b xs) σ H Q → tCB r (tPs N W m) σ H Q := by
  rintro σ H Q ⟨ad, s, F, R, h⟩
  refine ⟨ad, s, F, R, (Gar.bind h).mono fun xs s2 ad2 H2 R2 P2 h2 vs rv => ?_⟩
  unfold biM at h2
  cases hx : valsOf s2 xs with
  | none => simp only [hx] at h2; exact h2.elim
  | some ds =>
    cases hf : biF b ds with
    | none => simp only [hx, hf] at h2; exact h2.elim
    | some z =>
      simp only [hx, hf] at h2
      exact hr _ _ _ ⟨_, _, Mk ad2 σ s2 F, ds, z, fun p m => R2.masked m, rv.val R2 hx, hf, fun v H3 sm r3 => h2 ad2 H3 (R2.grow sm) (.grow R2 sm) v r3⟩
end
def opS : Op → Operator
  | .add => .Add | .sub => .Sub | .mul => .Mult | .fdiv => .FloorDiv | .mod => .Mod | .pow => .Pow
theorem sizeLine_line : sizeLine = line := by rw [sizeLine_eq]; rfl
section
variable {X : Cx} {a b : Addr} {xs ys : List V}
/-- list + list, of any lists that are read -/
theorem op_catL : OpR X (binaryOp .Add) (fun x y H Q => ∃ l b xs zs, x = .ref l ∧ y = .ref b ∧ SqL X.K H l xs ∧ SqL X.K H b zs ∧ xs.length + zs.length ≤ sizeLine ∧ ∀ p, H p = none → Q (.ref p) (upd H p (.lst (xs ++ zs)))) := by
  intro pins s σ H x y v u Q I rx ry h
  obtain ⟨l, b, xs, zs, rfl, rfl, hH, hB, hz, q⟩ := h
  cases rx
  cases ry
  obtain ⟨its, r, ⟨⟨cls, dd, data, sl⟩, n, ho, hc, hn, hd⟩, z⟩ := I.list hH
  obtain ⟨its2, r2, ⟨⟨cls2, dd2, data2, sl2⟩, n2, ho2, hc2, hn2, hd2⟩, z2⟩ := I.list hB
  simp only at hc hd hc2 hd2
  subst hc hd hc2 hd2
  have e : its.toArray ++ its2.toArray = (its ++ its2).toArray := by simp
  have l1 := r.length
  have l2 := r2.length
  refine concat_meets ⟨_, ho, rfl⟩ ⟨_, ho2, rfl⟩ noFill_list_add seq_list_add PySem.F.slot_list_add PySem.F.entry_list_add (PySem.F.args_list_add_2 _ _) (list_addW l b its.toArray its2.toArray n n2 dd dd2 sl sl2 (by simp; omega)) ⟨ho, ho2, ?_⟩
  rw [e]
  exact ⟨.ref _, _, I.lnew (t' := s.toks) (r.append r2) (by rw [List.length_append]; omega), rfl, q _ I.fresh⟩
end
section
variable {X : Cx}
theorem op_bin (hK : X.K = N.K) (op : Op) : OpR X (binaryOp (opS op)) (rD2 N (binF op)) := by
  intro pins s σ H x y v u Q I rx ry h
  obtain ⟨n, ad, M, a, b, z, hM, ra, rb, hf, q⟩ := h
  cases op with
  | add =>
    cases a <;> cases b <;> simp only [binF] at hf <;> try (cases hf; done)
    · rename_i i j
      obtain rfl := ra.intI
      obtain rfl := rb.intI
      cases hf
      exact op_add pins s σ H _ _ v u Q I rx ry ⟨_, _, rfl, rfl, q _ _ (Same.refl _) (.int _)⟩
    · obtain rfl := ra.strI
      obtain rfl := rb.strI
      split at hf
      · rename_i hl
        cases hf
        exact op_add_str pins s σ H _ _ v u Q I rx ry ⟨_, _, rfl, rfl, by rw [sizeLine_line]; exact hl, q _ _ (Same.refl _) (.str _)⟩
      · cases hf
    · rename_i ds es
      obtain ⟨a, xs, rfl, sa', sa, da⟩ := ra.tupI
      obtain ⟨b, ys, rfl, sb', sb, db⟩ := rb.tupI
      split at hf
      · rename_i hl
        cases hf
        rw [← hK] at sa sb
        refine op_catA pins s σ H _ _ v u Q I rx ry ⟨_, _, _, _, rfl, rfl, sa, sb, by rw [sizeLine_line, da.length, db.length]; exact hl, fun e => ?_, fun _ e => ?_, fun _ _ p hp => ?_⟩
        · subst e
          cases da
          exact q _ _ (Same.refl _) (.tup sb' db)
        · subst e
          cases db
          rw [List.append_nil] at q
          exact q _ _ (Same.refl _) (.tup sa' da)
        · exact q _ _ (new_same hp) (new_tup hM hp (da.append db))
      · cases hf
    · rename_i ds es
      obtain ⟨a, xs, rfl, sa, da⟩ := ra.lstI
      obtain ⟨b, ys, rfl, sb, db⟩ := rb.lstI
      split at hf
      · rename_i hl
        cases hf
        rw [← hK] at sa sb
        exact op_catL pins s σ H _ _ v u Q I rx ry ⟨_, _, _, _, rfl, rfl, sa, sb, by rw [sizeLine_line, da.length, db.length]; exact hl, fun p hp => q _ _ (new_same hp) (new_lst hM hp (da.append db))⟩
      · cases hf
  | sub =>
    cases a <;> cases b <;> simp only [binF] at hf <;> try (cases hf; done)
    obtain rfl := ra.intI
    obtain rfl := rb.intI
    cases hf
    exact op_sub pins s σ H _ _ v u Q I rx ry ⟨_, _, rfl, rfl, q _ _ (Same.refl _) (.int _)⟩
  | mul =>
    cases a <;> cases b <;> simp only [binF] at hf <;> try (cases hf; done)
    · rename_i i j
      obtain rfl := ra.intI
      obtain rfl := rb.intI
      split at hf
      · rename_i hc
        cases hf
        rcases hc with hc | hc | hc
        · exact op_mul pins s σ H _ _ v u Q I rx ry ⟨_, _, rfl, rfl, .inl ⟨by omega, by omega⟩, q _ _ (Same.refl _) (.int _)⟩
        · exact op_mul pins s σ H _ _ v u Q I rx ry ⟨_, _, rfl, rfl, .inr ⟨by omega, by omega⟩, q _ _ (Same.refl _) (.int _)⟩
        · exact op_mulW pins s σ H _ _ v u Q I rx ry ⟨_, _, rfl, rfl, hc, q _ _ (Same.refl _) (.int _)⟩
      · cases hf
    · rename_i ds j
      cases ds with
      | nil => cases hf
      | cons d0 ds =>
      obtain ⟨a, xs, rfl, sa', sa, da⟩ := ra.tupI
      obtain rfl := rb.intI
      simp only at hf
      split at hf
      · rename_i hl
        cases hf
        rw [← hK] at sa
        have le := da.length
        refine op_repT pins s σ H _ _ v u Q I rx ry ⟨_, _, _, rfl, rfl, sa, ?_, hl.1, hl.2.1, by rw [le]; exact hl.2.2, fun p hp => ?_⟩
        · intro e; subst e; simp at le
        · exact q _ _ (new_same hp) (new_tup hM hp (da.rep _))
      · cases hf
  | fdiv =>
    cases a <;> cases b <;> simp only [binF] at hf <;> try (cases hf; done)
    obtain rfl := ra.intI
    obtain rfl := rb.intI
    split at hf
    · rename_i hc
      cases hf
      exact op_fdivW pins s σ H _ _ v u Q I rx ry ⟨_, _, rfl, rfl, hc, q _ _ (Same.refl _) (.int _)⟩
    · cases hf
  | mod =>
    cases a <;> cases b <;> simp only [binF] at hf <;> try (cases hf; done)
    obtain rfl := ra.intI
    obtain rfl := rb.intI
    split at hf
    · rename_i hc
      cases hf
      exact op_mod pins s σ H _ _ v u Q I rx ry ⟨_, _, rfl, rfl, hc, q _ _ (Same.refl _) (.int _)⟩
    · cases hf
  | pow =>
    cases a <;> cases b <;> simp only [binF] at hf <;> try (cases hf; done)
    obtain rfl := ra.intI
    obtain rfl := rb.intI
    split at hf
    · rename_i hc
      cases hf
      exact op_pow pins s σ H _ _ v u Q I rx ry ⟨_, _, rfl, rfl, ⟨hc.1, by omega, hc.2.2⟩, q _ _ (Same.refl _) (.int _)⟩
    · cases hf
end
end Ev

set_option autoImplicit false
set_option linter.all false
set_option maxRecDepth 100000
/-! Comparisons, places, built-ins. -/
namespace Ev
open PySem L2 PyProof.Rows
variable {N : Nms}
def cmS : Cm → CmpOp
  | .eq => .Eq | .ne => .NotEq | .lt => .Lt | .le => .LtE | .gt => .Gt | .ge => .GtE | .inn => .In | .nin => .NotIn | .isN => .Is | .notN => .IsNot
theorem nonB_of {n : Nat} {ad : Nat → Addr} {H : Hp} {M : Addr → Prop} {v : V} {x : D} (h : RepW N n ad (msk H M) H v x) : decide (v = .non) = nonB x := by
  cases h with
  | d h => cases h <;> rfl
  | c ok => rename_i c; cases c <;> rfl
theorem pys_len : ∀ xs : List D, (D.pys xs).length = xs.length
  | [] => rfl
  | x :: xs => by simp [D.pys, pys_len xs]
theorem any_py {x : D} {n : Nat} (hx : x.fin n = true) : ∀ ys : List D, D.fins n ys = true → (ys.any fun y => eqB y x) = (D.pys ys).any fun z => PyData.eqv z x.py
  | [], _ => rfl
  | y :: ys, h => by
    simp only [D.fins, Bool.and_eq_true] at h
    simp only [List.any_cons, D.pys, eqB_py n n y x h.1 hx, any_py hx ys h.2]
section
variable {X : Cx}
theorem fin_bl {pins : List (Addr × Obj)} {σ : L2.St} {H : Hp} {s : Shared} {Q : VK} {b : Bool} (I : Inv X pins σ H s) (q : Q (.bl b) H) : EP X pins σ Q (.bool b) s := ⟨.bl b, H, I, rfl, q⟩
theorem op_cmp (hK : X.K = N.K) (hu : X.A.units + 200 < cLine) (c : Cm) : OpR X (compareOp (cmS c)) (rD2 N fun x y => (cmpF c x y).map .bl) := by
  intro pins s σ H x y v u Q I rx ry h
  obtain ⟨n, ad, M, a, b, z, hM, ra, rb, hf, q⟩ := h
  have q' : ∀ k, z = .bl k → Q (.bl k) H := fun k e => by subst e; exact q _ _ (Same.refl _) (.bl k)
  have rdA : ∀ {m : Nat}, a.fin m = true → ∃ as, Reads s.heap v a.py as := fun {m} hm => RepD.reads hK I m a hm ra.full rx
  have rdB : ∀ {m : Nat}, b.fin m = true → ∃ as, Reads s.heap u b.py as := fun {m} hm => RepD.reads hK I m b hm rb.full ry
  cases c with
  | eq =>
    simp only [cmpF, eqF] at hf
    split at hf
    · rename_i hc
      simp only [Bool.and_eq_true] at hc
      cases hf
      obtain ⟨as, h1⟩ := rdA hc.1
      obtain ⟨bs, h2⟩ := rdB hc.2
      obtain ⟨p1, p2⟩ := fin_plain _ _ hc.1
      obtain ⟨p3, p4⟩ := fin_plain _ _ hc.2
      refine SeqAt.eq_plain h1 h2 p1 p3 (by unfold dep at *; omega) (fin_bl I ?_)
      rw [← eqB_py _ _ _ _ hc.1 hc.2]
      exact q' _ rfl
    · cases hf
  | ne =>
    simp only [cmpF, eqF] at hf
    split at hf
    · rename_i hc
      simp only [Bool.and_eq_true] at hc
      cases hf
      obtain ⟨as, h1⟩ := rdA hc.1
      obtain ⟨bs, h2⟩ := rdB hc.2
      obtain ⟨p1, p2⟩ := fin_plain _ _ hc.1
      obtain ⟨p3, p4⟩ := fin_plain _ _ hc.2
      refine SeqAt.ne_plain h1 h2 p1 p3 (by unfold dep at *; omega) (fin_bl I ?_)
      rw [← eqB_py _ _ _ _ hc.1 hc.2]
      exact q' _ rfl
    · cases hf
  | lt =>
    simp only [cmpF, ltF] at hf
    split at hf
    · rename_i hc
      simp only [Bool.and_eq_true, Bool.not_eq_true'] at hc
      obtain ⟨⟨⟨h1, h2⟩, h3⟩, h4⟩ := hc
      cases hf
      obtain ⟨as, r1⟩ := rdA h1
      obtain ⟨bs, r2⟩ := rdB h2
      obtain ⟨p1, p2⟩ := fin_plain _ _ h1
      refine PySem.W.lt_data r1 r2 (alk_py _ _ h3) (by cases a <;> simp_all [D.py, nonB, D.fin, dep]) (by unfold dep at *; omega) (fin_bl I ?_)
      rw [← ltB_py _ _ _ _ h1 h2 h3]
      exact q' _ rfl
    · cases hf
  | gt =>
    simp only [cmpF, ltF] at hf
    split at hf
    · rename_i hc
      simp only [Bool.and_eq_true, Bool.not_eq_true'] at hc
      obtain ⟨⟨⟨h1, h2⟩, h3⟩, h4⟩ := hc
      cases hf
      obtain ⟨as, r1⟩ := rdA h2
      obtain ⟨bs, r2⟩ := rdB h1
      obtain ⟨p1, p2⟩ := fin_plain _ _ h2
      have h3' := alk_symm _ _ h3
      refine PySem.W.gt_data r1 r2 (alk_py _ _ h3') (by cases a <;> cases b <;> simp_all [D.py, nonB, alk]) (by unfold dep at *; omega) (fin_bl I ?_)
      rw [← ltB_py _ _ _ _ h1 h2 h3]
      exact q' _ rfl
    · cases hf
  | le =>
    simp only [cmpF, ltF] at hf
    split at hf
    · rename_i hc
      simp only [Bool.and_eq_true, Bool.not_eq_true'] at hc
      obtain ⟨⟨⟨h1, h2⟩, h3⟩, h4⟩ := hc
      cases hf
      obtain ⟨as, r1⟩ := rdA h2
      obtain ⟨bs, r2⟩ := rdB h1
      obtain ⟨p1, p2⟩ := fin_plain _ _ h2
      have h3' := alk_symm _ _ h3
      refine PySem.W.le_data r1 r2 (alk_py _ _ h3') (by cases a <;> cases b <;> simp_all [D.py, nonB, alk]) (by unfold dep at *; omega) (fin_bl I ?_)
      rw [← ltB_py _ _ _ _ h1 h2 h3]
      exact q' _ rfl
    · cases hf
  | ge =>
    simp only [cmpF, ltF] at hf
    split at hf
    · rename_i hc
      simp only [Bool.and_eq_true, Bool.not_eq_true'] at hc
      obtain ⟨⟨⟨h1, h2⟩, h3⟩, h4⟩ := hc
      cases hf
      obtain ⟨as, r1⟩ := rdA h1
      obtain ⟨bs, r2⟩ := rdB h2
      obtain ⟨p1, p2⟩ := fin_plain _ _ h1
      refine PySem.W.ge_data r1 r2 (alk_py _ _ h3) (by cases a <;> simp_all [D.py, nonB, D.fin, dep]) (by unfold dep at *; omega) (fin_bl I ?_)
      rw [← ltB_py _ _ _ _ h1 h2 h3]
      exact q' _ rfl
    · cases hf
  | inn =>
    cases b <;> simp only [cmpF, inF] at hf <;> try (cases hf; done)
    all_goals
      split at hf
      · rename_i ys hc
        simp only [Bool.and_eq_true] at hc
        cases hf
        obtain ⟨as, r1⟩ := rdA hc.1
        obtain ⟨bs, r2⟩ := rdB (m := dep + 1) (by simpa [D.fin] using hc.2)
        obtain ⟨p1, p2⟩ := fin_plain _ _ hc.1
        obtain ⟨p3, p4⟩ := fins_plain _ _ hc.2
        first
          | (refine SeqAt.in_list_data r2 r1 p3 p1 (by unfold dep at *; omega) (fin_bl I ?_)
             rw [← any_py hc.1 _ hc.2]
             exact q' _ rfl)
          | (refine SeqAt.in_tuple_data r2 r1 p3 p1 (by unfold dep at *; omega) (fin_bl I ?_)
             rw [← any_py hc.1 _ hc.2]
             exact q' _ rfl)
      · cases hf
  | nin =>
    cases b <;> simp only [cmpF, inF] at hf <;> try (cases hf; done)
    all_goals
      split at hf
      · rename_i ys hc
        simp only [Bool.and_eq_true] at hc
        cases hf
        obtain ⟨as, r1⟩ := rdA hc.1
        obtain ⟨bs, r2⟩ := rdB (m := dep + 1) (by simpa [D.fin] using hc.2)
        obtain ⟨p1, p2⟩ := fin_plain _ _ hc.1
        obtain ⟨p3, p4⟩ := fins_plain _ _ hc.2
        first
          | (refine SeqAt.notIn_list_data r2 r1 p3 p1 (by unfold dep at *; omega) (fin_bl I ?_)
             rw [← any_py hc.1 _ hc.2]
             exact q' _ rfl)
          | (refine SeqAt.notIn_tuple_data r2 r1 p3 p1 (by unfold dep at *; omega) (fin_bl I ?_)
             rw [← any_py hc.1 _ hc.2]
             exact q' _ rfl)
      · cases hf
  | isN =>
    cases b <;> simp only [cmpF] at hf <;> try (cases hf; done)
    obtain rfl := rb.nonI
    cases hf
    refine op_isN pins s σ H x .non v u Q I rx ry ⟨rfl, ?_⟩
    rw [nonB_of ra]
    exact q' _ rfl
  | notN =>
    cases b <;> simp only [cmpF] at hf <;> try (cases hf; done)
    obtain rfl := rb.nonI
    cases hf
    refine op_notN pins s σ H x .non v u Q I rx ry ⟨rfl, ?_⟩
    rw [nonB_of ra]
    exact q' _ rfl
end
end Ev

set_option autoImplicit false
set_option linter.all false
set_option maxRecDepth 100000
/-! Places, slices, built-ins. -/
namespace Ev
open PySem L2 PyProof.Rows
variable {N : Nms}
section
variable {n : Nat} {ad : Nat → Addr} {B H : Hp}
theorem RepDs.intsV : ∀ {xs : List V} {ds : List D} {is : List Int}, RepDs N n ad B xs ds → D.ints ds = some is → xs = is.map V.int
  | _, _, is, .nil, e => by cases e; rfl
  | _, _, is, .cons (d := d) (ds := ds) a b, e => by
    cases d <;> simp only [D.ints] at e <;> try (cases e; done)
    cases a
    cases h : D.ints ds with
    | none => rw [h] at e; cases e
    | some js =>
      rw [h] at e; cases e
      rw [RepDs.intsV b h]; rfl
theorem RepDs.blsV : ∀ {xs : List V} {ds : List D} {is : List Bool}, RepDs N n ad B xs ds → D.bls ds = some is → xs = is.map V.bl
  | _, _, is, .nil, e => by cases e; rfl
  | _, _, is, .cons (d := d) (ds := ds) a b, e => by
    cases d <;> simp only [D.bls] at e <;> try (cases e; done)
    cases a
    cases h : D.bls ds with
    | none => rw [h] at e; cases e
    | some js =>
      rw [h] at e; cases e
      rw [RepDs.blsV b h]; rfl
end
theorem minI_spec (x : Int) (xs : List Int) : minI x xs ∈ x :: xs ∧ ∀ y ∈ x :: xs, minI x xs ≤ y := by
  unfold minI
  induction xs generalizing x with
  | nil => simp
  | cons y ys ih =>
    simp only [List.foldl_cons]
    obtain ⟨h1, h2⟩ := ih (if y < x then y else x)
    refine ⟨?_, fun z hz => ?_⟩
    · rcases List.mem_cons.mp h1 with h | h
      · rw [h]; split <;> simp
      · simp [h]
    · have h3 := h2 (if y < x then y else x) (by simp)
      generalize List.foldl (fun a y => if y < a then y else a) (if y < x then y else x) ys = m at *
      rcases List.mem_cons.mp hz with rfl | hz
      · split at h3 <;> omega
      · rcases List.mem_cons.mp hz with rfl | hz
        · split at h3 <;> omega
        · exact h2 z (by simp [hz])
theorem maxI_spec (x : Int) (xs : List Int) : maxI x xs ∈ x :: xs ∧ ∀ y ∈ x :: xs, y ≤ maxI x xs := by
  unfold maxI
  induction xs generalizing x with
  | nil => simp
  | cons y ys ih =>
    simp only [List.foldl_cons]
    obtain ⟨h1, h2⟩ := ih (if x < y then y else x)
    refine ⟨?_, fun z hz => ?_⟩
    · rcases List.mem_cons.mp h1 with h | h
      · rw [h]; split <;> simp
      · simp [h]
    · have h3 := h2 (if x < y then y else x) (by simp)
      generalize List.foldl (fun a y => if a < y then y else a) (if x < y then y else x) ys = m at *
      rcases List.mem_cons.mp hz with rfl | hz
      · split at h3 <;> omega
      · rcases List.mem_cons.mp hz with rfl | hz
        · split at h3 <;> omega
        · exact h2 z (by simp [hz])
/-! ### places -/
theorem ixN_L2 (n : Nat) (i : Int) : Ev.ixN n i = L2.ixN n i := rfl
section
variable {X : Cx}
theorem ix_all (hK : X.K = N.K) : IxR X (rD2 N idxF) := by
  intro value slice pins s σ H x y v u Q I rx ry h hs
  obtain ⟨n, ad, M, a, b, z, hM, ra, rb, hf, q⟩ := h
  cases a <;> simp only [idxF] at hf <;> try (cases hf; done)
  · -- text
    rename_i tx
    cases b <;> simp only at hf <;> try (cases hf; done)
    rename_i i
    obtain rfl := ra.strI
    obtain rfl := rb.intI
    split at hf
    · rename_i hl
      cases hp : pickI tx.cps.toList i with
      | none => rw [hp] at hf; cases hf
      | some c =>
        rw [hp] at hf; cases hf
        exact ix_str value slice pins s σ H _ _ v u Q I rx ry ⟨_, _, c, rfl, rfl, by rw [sizeLine_line]; exact hl, hp, q _ _ (Same.refl _) (.str _)⟩ hs
    · cases hf
  · cases b <;> simp only at hf <;> try (cases hf; done)
    rename_i ds i
    obtain ⟨p, xs, rfl, _, sa, da⟩ := ra.tupI
    obtain rfl := rb.intI
    unfold pickI at hf
    cases hp : Ev.ixN ds.length i with
    | none => rw [hp] at hf; cases hf
    | some j =>
      rw [hp] at hf
      obtain ⟨w, e, rw'⟩ := da.get hf
      rw [← hK] at sa
      refine ix_tup value slice pins s σ H _ _ v u Q I rx ry ⟨_, _, _, w, rfl, rfl, sa, ?_, q _ _ (Same.refl _) rw'⟩ hs
      unfold atI
      rw [← ixN_L2, da.length, hp]
      exact e
  · cases b <;> simp only at hf <;> try (cases hf; done)
    rename_i ds i
    obtain ⟨p, xs, rfl, sa, da⟩ := ra.lstI
    obtain rfl := rb.intI
    unfold pickI at hf
    cases hp : Ev.ixN ds.length i with
    | none => rw [hp] at hf; cases hf
    | some j =>
      rw [hp] at hf
      obtain ⟨w, e, rw'⟩ := da.get hf
      rw [← hK] at sa
      refine ix_list value slice pins s σ H _ _ v u Q I rx ry ⟨_, _, _, w, rfl, rfl, sa, ?_, q _ _ (Same.refl _) rw'⟩ hs
      unfold atI
      rw [← ixN_L2, da.length, hp]
      exact e
end
/-! ### slices -/
theorem clip_sIx (n d : Nat) (lo : Option Int) : HT.sIx n d lo = (match lo with | none => d | some i => clipI n i) := by
  cases lo with
  | none => rfl
  | some i =>
    show (if i < 0 then (i + (n : Int)).toNat else min i.toNat n) = clipI n i
    unfold clipI
    by_cases h : i < 0
    · rw [if_pos h, if_neg (by omega)]
    · rw [if_neg h, if_pos (by omega)]
theorem cutI_eq {α : Type} (xs : List α) (lo hi : Option Int) : cutI xs lo hi = (xs.drop (HT.sIx xs.length 0 lo)).take (HT.sIx xs.length xs.length hi - HT.sIx xs.length 0 lo) := by
  rw [clip_sIx, clip_sIx]
  cases lo <;> cases hi <;> rfl
theorem RepDs.cut {n : Nat} {ad : Nat → Addr} {B : Hp} {xs : List V} {ds : List D} (r : RepDs N n ad B xs ds) (lo hi : Option Int) : RepDs N n ad B (cutV xs lo hi) (cutI ds lo hi) := by
  rw [cutI_eq]
  unfold cutV
  rw [r.length]
  exact (r.drop _).take _
/-- a slice's reading -/
def rSl (N : Nms) : V → Option Int → Option Int → Hp → VK → Prop := fun x lo hi H Q => ∃ n ad M a z, (∀ p, M p → ∃ o, H p = some o) ∧ RepW N n ad (msk H M) H x a ∧
  (match a with
    | .lst xs => some (D.lst (cutI xs lo hi))
    | .tup xs => some (D.tup (cutI xs lo hi))
    | .str x => if x.cps.size ≤ line then some (D.str ⟨(cutI x.cps.toList lo hi).toArray⟩) else none
    | _ => none) = some z ∧ ∀ v H', Same H H' → RepD N n ad (msk H' M) v z → Q v H'
def rSlAll (K : PySem.W.Frag) : V → Option Int → Option Int → Hp → VK → Prop := fun x lo hi H Q => rSlL K x lo hi H Q ∨ rSlA K x lo hi H Q ∨ rSlS x lo hi H Q
theorem sl_all {X : Cx} : SlR X (rSlAll X.K) := SlR.or sl_list (SlR.or sl_tupA sl_str)
theorem rSl_all {K : PySem.W.Frag} (hK : K = N.K) {x : V} {lo hi : Option Int} {H : Hp} {Q : VK} (h : rSl N x lo hi H Q) : rSlAll K x lo hi H Q := by
  obtain ⟨n, ad, M, a, z, hM, ra, hf, q⟩ := h
  subst hK
  cases a <;> simp only at hf <;> try (cases hf; done)
  · rename_i tx
    obtain rfl := ra.strI
    split at hf
    · rename_i hl
      cases hf
      refine .inr (.inr ⟨tx, rfl, by rw [sizeLine_line]; exact hl, ?_⟩)
      have e : cutS tx lo hi = ⟨(cutI tx.cps.toList lo hi).toArray⟩ := by
        rw [cutI_eq]
        unfold cutS Str.length
        simp only [Array.length_toList]
      rw [e]
      exact q _ _ (Same.refl _) (.str _)
    · cases hf
  · cases hf
    obtain ⟨p, xs, rfl, sa', sa, da⟩ := ra.tupI
    refine .inr (.inl ⟨p, xs, rfl, sa, ?_⟩)
    have e := da.cut lo hi
    refine ⟨fun hw => ?_, fun hw p hp => q _ _ (new_same hp) (new_tup hM hp e)⟩
    have : cutV xs lo hi = xs := by
      unfold cutV
      rw [hw.1, hw.2]
      simp
    rw [this] at e
    exact q _ _ (Same.refl _) (.tup sa' e)
  · cases hf
    obtain ⟨p, xs, rfl, sa, da⟩ := ra.lstI
    exact .inl ⟨p, xs, rfl, sa, fun p hp => q _ _ (new_same hp) (new_lst hM hp (da.cut lo hi))⟩
end Ev

set_option autoImplicit false
set_option linter.all false
set_option maxRecDepth 100000
/-! Built-in calls. -/
namespace Ev
open PySem L2 PyProof.Rows
variable {N : Nms}
def biV : Bi → Value
  | .len => .builtin "len" | .abs => .builtin "abs" | .int => .type "int" | .tuple => .type "tuple" | .list => .type "list" | .sum => .builtin "sum" | .all => .builtin "all" | .any => .builtin "any"
  | .min1 | .min2 => .builtin "min" | .max1 | .max2 => .builtin "max" | .sorted => .builtin "sorted" | _ => .none
def biOk : Bi → Bool
  | .len | .abs | .int | .tuple | .list | .sum | .all | .any | .min1 | .min2 | .max1 | .max2 | .sorted => true
  | _ => false
section
variable {n : Nat} {ad : Nat → Addr} {B H : Hp}
theorem RepWs.one {xs : List V} {a : D} (h : RepWs N n ad B H xs [a]) : ∃ x, xs = [x] ∧ RepW N n ad B H x a := by
  cases h with
  | cons a b => cases b; exact ⟨_, rfl, a⟩
theorem RepWs.two {xs : List V} {a b : D} (h : RepWs N n ad B H xs [a, b]) : ∃ x y, xs = [x, y] ∧ RepW N n ad B H x a ∧ RepW N n ad B H y b := by
  cases h with
  | cons a b =>
    cases b with
    | cons b c => cases c; exact ⟨_, _, rfl, a, b⟩
theorem RepKs.length : ∀ {vs : List (Key × V)} {ds : List (D × D)}, RepKs N n ad B vs ds → vs.length = ds.length
  | _, _, .nil => rfl
  | _, _, .cons _ b => by simp [RepKs.length b]
end
/-! ### sorted -/
theorem zip_mono {α β : Type} : ∀ {xs : List α} {ys : List β}, xs.length = ys.length → (xs.zip ys).map (·.1) = xs ∧ (xs.zip ys).map (·.2) = ys
  | [], [], _ => ⟨rfl, rfl⟩
  | [], _ :: _, h => by simp at h
  | _ :: _, [], h => by simp at h
  | x :: xs, y :: ys, h => by
    obtain ⟨h1, h2⟩ := zip_mono (xs := xs) (ys := ys) (by simpa using h)
    simp [h1, h2]
theorem RepDs.zipMem {n : Nat} {ad : Nat → Addr} {B : Hp} : ∀ {xs : List V} {ds : List D}, RepDs N n ad B xs ds → ∀ p ∈ xs.zip ds, RepD N n ad B p.1 p.2
  | _, _, .nil, p, h => by simp at h
  | _, _, .cons a b, p, h => by
    rcases List.mem_cons.mp h with rfl | h
    · exact a
    · exact RepDs.zipMem b p h
theorem RepDs.ofMem {n : Nat} {ad : Nat → Addr} {B : Hp} : ∀ {ps : List (V × D)}, (∀ p ∈ ps, RepD N n ad B p.1 p.2) → RepDs N n ad B (ps.map (·.1)) (ps.map (·.2))
  | [], _ => .nil
  | p :: ps, h => .cons (h p (by simp)) (RepDs.ofMem fun q hq => h q (by simp [hq]))
theorem each_zip {R : Value → V × D → Prop} : ∀ {its : List Value} {xs : List V} {ds : List D}, its.length = xs.length → xs.length = ds.length → (∀ (i : Nat) u x d, its[i]? = some u → xs[i]? = some x → ds[i]? = some d → R u (x, d)) → PySem.W.EachIs R its (xs.zip ds)
  | [], [], [], _, _, _ => .nil
  | u :: us, x :: xs, d :: ds, h1, h2, h => .cons (h 0 u x d rfl rfl rfl) (each_zip (by simpa using h1) (by simpa using h2) fun i a b c e1 e2 e3 => h (i + 1) a b c (by simpa using e1) (by simpa using e2) (by simpa using e3))
  | [], _ :: _, _, h, _, _ => by simp at h
  | _ :: _, [], _, h, _, _ => by simp at h
  | [], [], _ :: _, _, h, _ => by simp at h
  | _ :: _, _ :: _, [], _, h, _ => by simp at h
theorem each_vals {its : List Value} : ∀ {ps : List (V × D)}, PySem.W.EachIs (fun u (p : V × D) => RelV p.1 u) its ps → Vals (ps.map (·.1)) its := by
  intro ps h
  induction h with
  | nil => exact .nil
  | cons a _ ih => exact .cons a ih
theorem fins_mem {n : Nat} : ∀ {ds : List D}, D.fins n ds = true → ∀ d ∈ ds, d.fin n = true
  | [], _, d, h => by simp at h
  | x :: xs, h, d, hd => by
    simp only [D.fins, Bool.and_eq_true] at h
    rcases List.mem_cons.mp hd with rfl | hd
    · exact h.1
    · exact fins_mem h.2 d hd
theorem pys_map : ∀ ds : List D, D.pys ds = ds.map D.py
  | [] => rfl
  | d :: ds => by simp [D.pys, pys_map ds]
section
variable {X : Cx}
theorem sorted_ok (hK : X.K = N.K) (hu : X.A.units + 200 < cLine) {pins : List (Addr × Obj)} {σ : L2.St} {H : Hp} {s : Shared} {Q : VK} {n : Nat} {ad : Nat → Addr} {M : Addr → Prop} {x : V} {v : Value} {ds : List D}
    (I : Inv X pins σ H s) (hM : ∀ p, M p → ∃ o, H p = some o) (rx : RelV x v) (ra : RepW N n ad (msk H M) H x (.lst ds)) (h1 : D.fins dep ds = true) (h2 : allAlk ds = true) (h3 : srtOk ds = true) (h4 : ds.length ≤ line)
    (q : ∀ v H', Same H H' → RepD N n ad (msk H' M) v (.lst (sortD ds)) → Q v H') : wpAny (model X.prog X.w) X.A (call (.builtin "sorted") [v]) (EP X pins σ Q) X.xe s := by
  obtain ⟨a, xs, rfl, sa, da⟩ := ra.lstI
  cases rx
  have sa' := sa
  rw [← hK] at sa'
  obtain ⟨its, rv, hl, hz⟩ := I.list sa'
  have l1 := rv.length
  have l2 := da.length
  have all : ∀ d ∈ ds, ∀ e ∈ ds, alk d e = true := fun d hd e he => by
    unfold allAlk at h2
    simp only [List.all_eq_true, Bool.and_eq_true] at h2
    exact (h2 d hd).2 e he
  have e : PySem.W.EachIs (fun u (p : V × D) => RelV p.1 u) its (xs.zip ds) := each_zip l1.symm l2 fun i u x d e1 e2 e3 => by
    obtain ⟨u', h, r⟩ := rv.get e2
    rw [e1] at h; cases h
    exact r
  have er : PySem.W.EachIs (fun u (p : V × D) => ∃ as, Reads s.heap u p.2.py as) its (xs.zip ds) := each_zip l1.symm l2 fun i u x d e1 e2 e3 => by
    obtain ⟨u', h, r⟩ := rv.get e2
    rw [e1] at h; cases h
    obtain ⟨x', hx, rd⟩ := da.get e3
    rw [e2] at hx; cases hx
    exact RepD.reads hK I dep d (fins_mem h1 d (List.mem_of_getElem? e3)) (RepD.mono (Nat.le_refl _) (fun _ _ => rfl) sm_le _ rd) r
  have zm := zip_mono (ys := ds) l2
  have hal : PySem.W.AllAlike ((xs.zip ds).map fun p => p.2.py) := by
    intro d hd d' hd'
    obtain ⟨p, hp, rfl⟩ := List.mem_map.mp hd
    obtain ⟨p', hp', rfl⟩ := List.mem_map.mp hd'
    exact alk_py _ _ (all _ (List.of_mem_zip hp).2 _ (List.of_mem_zip hp').2)
  have hk : PySem.W.Sortable ((xs.zip ds).map fun p => p.2.py) := by
    unfold srtOk at h3
    simp only [Bool.or_eq_true, List.all_eq_true] at h3
    rcases h3 with h3 | h3
    · refine .inl fun d hd => ?_
      obtain ⟨p, hp, rfl⟩ := List.mem_map.mp hd
      have := h3 _ (List.of_mem_zip hp).2
      split at this
      · rename_i y ys e
        exact ⟨y.py, D.pys ys, by simp only [e, D.py, D.pys]⟩
      · cases this
    · refine .inr fun d hd => ?_
      obtain ⟨p, hp, rfl⟩ := List.mem_map.mp hd
      have g := h3 _ (List.of_mem_zip hp).2
      have f := fins_mem h1 _ (List.of_mem_zip hp).2
      generalize p.2 = y at g f
      cases y <;> simp_all [D.py, D.fin, dep]
  have hzl : (xs.zip ds).length = ds.length := by rw [List.length_zip, l2, Nat.min_self]
  refine PySem.W.sorted_data (bs := xs.zip ds) (enc := fun p => p.2.py) hl.isList e er hal hk (by rw [hzl, sizeLine_line]; exact h4) (fun p hp => ?_) fun out ho eo => ?_
  · have := (fin_plain dep p.2 (fins_mem h1 _ (List.of_mem_zip hp).2)).2
    unfold dep at this
    show X.A.units + 2 + p.2.py.depth < cLine
    omega
  · have le : ∀ p ∈ xs.zip ds, ∀ p' ∈ xs.zip ds, PySem.W.dataLe false (fun (p : V × D) => p.2.py) p p' = (fun a b => !ltB b a) p.2 p'.2 := fun p hp p' hp' => by
      have m1 := (List.of_mem_zip hp).2
      have m2 := (List.of_mem_zip hp').2
      rw [PySem.W.dataLe_eq]
      show (!PySem.W.dataLt p'.2.py p.2.py) = !ltB p'.2 p.2
      rw [ltB_py dep dep _ _ (fins_mem h1 _ m2) (fins_mem h1 _ m1) (all _ m2 _ m1)]
    have srt : ((xs.zip ds).mergeSort (PySem.W.dataLe false fun (p : V × D) => p.2.py)).map (·.2) = sortD ds := by
      unfold sortD
      conv => rhs; rw [← zm.2]
      exact List.map_mergeSort le
    have pm : ∀ p ∈ (xs.zip ds).mergeSort (PySem.W.dataLe false fun (p : V × D) => p.2.py), RepD N n ad (msk H M) p.1 p.2 := fun p hp => da.zipMem p (List.mem_mergeSort.mp hp)
    have rds := RepDs.ofMem pm
    rw [srt] at rds
    have rvo := each_vals eo
    obtain ⟨ep, he'⟩ := PyProof.Rows.sortedAll_at s.heap its out.toArray
    have hfresh : H (s.heap.objs.size + 1) = none := I.hok.fresh (Nat.le_succ _)
    have hlen : (((xs.zip ds).mergeSort (PySem.W.dataLe false fun (p : V × D) => p.2.py)).map (·.1)).length ≤ sizeLine := by
      rw [rvo.length, ho, hzl, sizeLine_line]; exact h4
    exact ⟨.ref _, upd H (s.heap.objs.size + 1) (.lst _), I.laid (t' := s.toks) (fun _ _ => PyProof.Rows.sortedAll_old) (Nat.le_succ _) ⟨hlen, out, ep, rvo, he'⟩, rfl, q _ _ (new_same hfresh) (new_lst hM hfresh rds)⟩
theorem call_bi (hK : X.K = N.K) (hu : X.A.units + 200 < cLine) (hc : X.calm = true) (b : Bi) (hb : biOk b = true) : CallR X (biV b) (rDs N (biF b)) := by
  intro pins s σ H xs us Q I r h
  obtain ⟨n, ad, M, as, z, hM, ra, hf, q⟩ := h
  have fin1 : ∀ a, as = [a] → ∃ x u, xs = [x] ∧ us = [u] ∧ RelV x u ∧ RepW N n ad (msk H M) H x a := fun a e => by
    subst e
    obtain ⟨x, rfl, w⟩ := ra.one
    obtain ⟨u, rfl, ru⟩ := vals1 r
    exact ⟨x, u, rfl, rfl, ru, w⟩
  cases b <;> try (simp [biOk] at hb; done)
  · -- len
    rcases as with _ | ⟨a0, as1⟩
    · exact nomatch (show (none : Option D) = some z from hf)
    rcases as1 with _ | ⟨a1, as1⟩
    rotate_left
    · cases a0 <;> first | exact nomatch (show (none : Option D) = some z from hf) | (simp [biF] at hf; done)
    cases a0 <;> try (exact nomatch (show (none : Option D) = some z from hf))
    · rename_i x
      obtain ⟨_, u, rfl, rfl, ru, w⟩ := fin1 _ rfl
      obtain rfl := w.strI
      simp only [biF] at hf
      split at hf
      · rename_i hl
        cases hf
        exact call_len pins s σ H _ _ Q I r ⟨_, x.cps.size, rfl, ⟨by rw [sizeLine_line]; exact hl, rfl⟩, q _ _ (Same.refl _) (.int _)⟩
      · cases hf
    · rename_i ds
      obtain ⟨_, u, rfl, rfl, ru, w⟩ := fin1 _ rfl
      obtain ⟨a, ys, rfl, _, sa, da⟩ := w.tupI
      cases hf
      rw [← hK] at sa
      exact call_len pins s σ H _ _ Q I r ⟨_, ds.length, rfl, .inr ⟨ys, sa, da.length.symm⟩, q _ _ (Same.refl _) (.int _)⟩
    · rename_i ds
      obtain ⟨_, u, rfl, rfl, ru, w⟩ := fin1 _ rfl
      obtain ⟨a, ys, rfl, sa, da⟩ := w.lstI
      cases hf
      rw [← hK] at sa
      exact call_len pins s σ H _ _ Q I r ⟨_, ds.length, rfl, .inl ⟨ys, sa, da.length.symm⟩, q _ _ (Same.refl _) (.int _)⟩
  · -- abs
    rcases as with _ | ⟨a0, as1⟩
    · exact nomatch (show (none : Option D) = some z from hf)
    rcases as1 with _ | ⟨a1, as1⟩
    rotate_left
    · cases a0 <;> first | exact nomatch (show (none : Option D) = some z from hf) | (simp [biF] at hf; done)
    cases a0 <;> try (exact nomatch (show (none : Option D) = some z from hf))
    rename_i i
    obtain ⟨_, u, rfl, rfl, ru, w⟩ := fin1 _ rfl
    obtain rfl := w.intI
    cases hf
    exact call_abs pins s σ H _ _ Q I r ⟨i, rfl, q _ _ (Same.refl _) (.int _)⟩
  · -- int
    rcases as with _ | ⟨a0, as1⟩
    · exact nomatch (show (none : Option D) = some z from hf)
    rcases as1 with _ | ⟨a1, as1⟩
    rotate_left
    · cases a0 <;> first | exact nomatch (show (none : Option D) = some z from hf) | (simp [biF] at hf; done)
    cases a0 <;> try (exact nomatch (show (none : Option D) = some z from hf))
    · rename_i i
      obtain ⟨_, u, rfl, rfl, ru, w⟩ := fin1 _ rfl
      obtain rfl := w.blI
      cases hf
      exact call_int1 pins s σ H _ _ Q I r (.inr ⟨i, rfl, q _ _ (Same.refl _) (.int _)⟩)
    · rename_i i
      obtain ⟨_, u, rfl, rfl, ru, w⟩ := fin1 _ rfl
      obtain rfl := w.intI
      cases hf
      exact call_int1 pins s σ H _ _ Q I r (.inl ⟨i, rfl, q _ _ (Same.refl _) (.int _)⟩)
  · -- tuple
    rcases as with _ | ⟨a0, as1⟩
    · exact nomatch (show (none : Option D) = some z from hf)
    rcases as1 with _ | ⟨a1, as1⟩
    rotate_left
    · cases a0 <;> first | exact nomatch (show (none : Option D) = some z from hf) | (simp [biF] at hf; done)
    cases a0 <;> try (exact nomatch (show (none : Option D) = some z from hf))
    · rename_i ds
      obtain ⟨_, u, rfl, rfl, ru, w⟩ := fin1 _ rfl
      obtain ⟨a, ys, rfl, sa', sa, da⟩ := w.tupI
      cases hf
      rw [← hK] at sa
      exact call_tuple_of pins s σ H _ _ Q I r ⟨a, ys, rfl, .inr ⟨sa, q _ _ (Same.refl _) (.tup sa' da)⟩⟩
    · rename_i ds
      obtain ⟨_, u, rfl, rfl, ru, w⟩ := fin1 _ rfl
      obtain ⟨a, ys, rfl, sa, da⟩ := w.lstI
      cases hf
      rw [← hK] at sa
      exact call_tuple_of pins s σ H _ _ Q I r ⟨a, ys, rfl, .inl ⟨sa, fun l hl => q _ _ (new_same hl) (new_tup hM hl da)⟩⟩
  · -- list
    rcases as with _ | ⟨a0, as1⟩
    · exact nomatch (show (none : Option D) = some z from hf)
    rcases as1 with _ | ⟨a1, as1⟩
    rotate_left
    · cases a0 <;> first | exact nomatch (show (none : Option D) = some z from hf) | (simp [biF] at hf; done)
    cases a0 <;> try (exact nomatch (show (none : Option D) = some z from hf))
    · rename_i ds
      obtain ⟨_, u, rfl, rfl, ru, w⟩ := fin1 _ rfl
      obtain ⟨a, ys, rfl, sa', sa, da⟩ := w.tupI
      cases hf
      rw [← hK] at sa
      exact call_list_of pins s σ H _ _ Q I r ⟨a, ys, rfl, .inr sa, fun l hl => q _ _ (new_same hl) (new_lst hM hl da)⟩
    · rename_i ds
      obtain ⟨_, u, rfl, rfl, ru, w⟩ := fin1 _ rfl
      obtain ⟨a, ys, rfl, sa, da⟩ := w.lstI
      cases hf
      rw [← hK] at sa
      exact call_list_of pins s σ H _ _ Q I r ⟨a, ys, rfl, .inl sa, fun l hl => q _ _ (new_same hl) (new_lst hM hl da)⟩
  · -- sum
    rcases as with _ | ⟨a0, as1⟩
    · exact nomatch (show (none : Option D) = some z from hf)
    rcases as1 with _ | ⟨a1, as1⟩
    rotate_left
    · cases a0 <;> first | exact nomatch (show (none : Option D) = some z from hf) | (simp [biF] at hf; done)
    cases a0 <;> try (exact nomatch (show (none : Option D) = some z from hf))
    rename_i ds
    obtain ⟨_, u, rfl, rfl, ru, w⟩ := fin1 _ rfl
    obtain ⟨a, ys, rfl, sa, da⟩ := w.lstI
    simp only [biF] at hf
    cases e : D.ints ds with
    | none => rw [e] at hf; cases hf
    | some is =>
      rw [e] at hf; cases hf
      rw [← hK, da.intsV e] at sa
      exact cr_sum hc pins s σ H _ _ Q I r ⟨a, is, rfl, sa, q _ _ (Same.refl _) (.int _)⟩
  · -- min1
    rcases as with _ | ⟨a0, as1⟩
    · exact nomatch (show (none : Option D) = some z from hf)
    rcases as1 with _ | ⟨a1, as1⟩
    rotate_left
    · cases a0 <;> first | exact nomatch (show (none : Option D) = some z from hf) | (simp [biF] at hf; done)
    cases a0 <;> try (exact nomatch (show (none : Option D) = some z from hf))
    rename_i l0
    rcases l0 with _ | ⟨b0, ds⟩ <;> try (exact nomatch (show (none : Option D) = some z from hf))
    cases b0 <;> try (exact nomatch (show (none : Option D) = some z from hf))
    rename_i i
    obtain ⟨_, u, rfl, rfl, ru, w⟩ := fin1 _ rfl
    obtain ⟨a, ys, rfl, sa, da⟩ := w.lstI
    simp only [biF] at hf
    cases e : D.ints ds with
    | none => rw [e] at hf; cases hf
    | some is =>
      rw [e] at hf; cases hf
      have e' : D.ints (.int i :: ds) = some (i :: is) := by simp [D.ints, e]
      rw [← hK, da.intsV e'] at sa
      refine cr_min hc pins s σ H _ _ Q I r ⟨a, i :: is, rfl, sa, by simp, fun m hm hle => ?_⟩
      obtain ⟨h1, h2⟩ := minI_spec i is
      have : m = minI i is := Int.le_antisymm (hle _ h1) (h2 _ hm)
      rw [this]
      exact q _ _ (Same.refl _) (.int _)
  · -- max1
    rcases as with _ | ⟨a0, as1⟩
    · exact nomatch (show (none : Option D) = some z from hf)
    rcases as1 with _ | ⟨a1, as1⟩
    rotate_left
    · cases a0 <;> first | exact nomatch (show (none : Option D) = some z from hf) | (simp [biF] at hf; done)
    cases a0 <;> try (exact nomatch (show (none : Option D) = some z from hf))
    rename_i l0
    rcases l0 with _ | ⟨b0, ds⟩ <;> try (exact nomatch (show (none : Option D) = some z from hf))
    cases b0 <;> try (exact nomatch (show (none : Option D) = some z from hf))
    rename_i i
    obtain ⟨_, u, rfl, rfl, ru, w⟩ := fin1 _ rfl
    obtain ⟨a, ys, rfl, sa, da⟩ := w.lstI
    simp only [biF] at hf
    cases e : D.ints ds with
    | none => rw [e] at hf; cases hf
    | some is =>
      rw [e] at hf; cases hf
      have e' : D.ints (.int i :: ds) = some (i :: is) := by simp [D.ints, e]
      rw [← hK, da.intsV e'] at sa
      refine cr_max hc pins s σ H _ _ Q I r ⟨a, i :: is, rfl, sa, by simp, fun m hm hle => ?_⟩
      obtain ⟨h1, h2⟩ := maxI_spec i is
      have : m = maxI i is := Int.le_antisymm (h2 _ hm) (hle _ h1)
      rw [this]
      exact q _ _ (Same.refl _) (.int _)
  · -- min2
    rcases as with _ | ⟨a0, as1⟩
    · exact nomatch (show (none : Option D) = some z from hf)
    cases a0 <;> try (exact nomatch (show (none : Option D) = some z from hf))
    rcases as1 with _ | ⟨a1, as1⟩
    · exact nomatch (show (none : Option D) = some z from hf)
    cases a1 <;> try (exact nomatch (show (none : Option D) = some z from hf))
    rcases as1 with _ | ⟨a2, as1⟩
    rotate_left
    · exact nomatch (show (none : Option D) = some z from hf)
    rename_i i j
    obtain ⟨x, y, rfl, w1, w2⟩ := ra.two
    obtain rfl := w1.intI
    obtain rfl := w2.intI
    cases hf
    exact call_min2 hc pins s σ H _ _ Q I r ⟨i, j, rfl, q _ _ (Same.refl _) (.int _)⟩
  · -- max2
    rcases as with _ | ⟨a0, as1⟩
    · exact nomatch (show (none : Option D) = some z from hf)
    cases a0 <;> try (exact nomatch (show (none : Option D) = some z from hf))
    rcases as1 with _ | ⟨a1, as1⟩
    · exact nomatch (show (none : Option D) = some z from hf)
    cases a1 <;> try (exact nomatch (show (none : Option D) = some z from hf))
    rcases as1 with _ | ⟨a2, as1⟩
    rotate_left
    · exact nomatch (show (none : Option D) = some z from hf)
    rename_i i j
    obtain ⟨x, y, rfl, w1, w2⟩ := ra.two
    obtain rfl := w1.intI
    obtain rfl := w2.intI
    cases hf
    exact call_max2 hc pins s σ H _ _ Q I r ⟨i, j, rfl, q _ _ (Same.refl _) (.int _)⟩
  · -- all
    rcases as with _ | ⟨a0, as1⟩
    · exact nomatch (show (none : Option D) = some z from hf)
    rcases as1 with _ | ⟨a1, as1⟩
    rotate_left
    · cases a0 <;> first | exact nomatch (show (none : Option D) = some z from hf) | (simp [biF] at hf; done)
    cases a0 <;> try (exact nomatch (show (none : Option D) = some z from hf))
    rename_i ds
    obtain ⟨_, u, rfl, rfl, ru, w⟩ := fin1 _ rfl
    obtain ⟨a, ys, rfl, sa, da⟩ := w.lstI
    simp only [biF] at hf
    cases e : D.bls ds with
    | none => rw [e] at hf; cases hf
    | some is =>
      rw [e] at hf; cases hf
      rw [← hK, da.blsV e] at sa
      exact cr_all hc pins s σ H _ _ Q I r ⟨a, is, rfl, sa, q _ _ (Same.refl _) (.bl _)⟩
  · -- any
    rcases as with _ | ⟨a0, as1⟩
    · exact nomatch (show (none : Option D) = some z from hf)
    rcases as1 with _ | ⟨a1, as1⟩
    rotate_left
    · cases a0 <;> first | exact nomatch (show (none : Option D) = some z from hf) | (simp [biF] at hf; done)
    cases a0 <;> try (exact nomatch (show (none : Option D) = some z from hf))
    rename_i ds
    obtain ⟨_, u, rfl, rfl, ru, w⟩ := fin1 _ rfl
    obtain ⟨a, ys, rfl, sa, da⟩ := w.lstI
    simp only [biF] at hf
    cases e : D.bls ds with
    | none => rw [e] at hf; cases hf
    | some is =>
      rw [e] at hf; cases hf
      rw [← hK, da.blsV e] at sa
      exact cr_any hc pins s σ H _ _ Q I r ⟨a, is, rfl, sa, q _ _ (Same.refl _) (.bl _)⟩
  · -- sorted
    rcases as with _ | ⟨a0, as1⟩
    · exact nomatch (show (none : Option D) = some z from hf)
    rcases as1 with _ | ⟨a1, as1⟩
    rotate_left
    · cases a0 <;> first | exact nomatch (show (none : Option D) = some z from hf) | (simp [biF] at hf; done)
    cases a0 <;> try (exact nomatch (show (none : Option D) = some z from hf))
    rename_i ds
    obtain ⟨_, u, rfl, rfl, ru, w⟩ := fin1 _ rfl
    have hf : (if _ then _ else _) = _ := hf
    split at hf
    · rename_i hh
      simp only [Bool.and_eq_true, decide_eq_true_eq] at hh
      cases hf
      exact sorted_ok hK hu I hM ru w hh.1.1.1 hh.1.1.2 hh.1.2 hh.2 q
    · cases hf
end
end Ev

set_option autoImplicit false
set_option linter.all false
set_option maxRecDepth 100000
/-! The syntax that the core tells, and what its expressions do. -/
namespace Ev
open PySem L2 PyProof.Rows
/-- names: the module's defs, classes, constants -/
structure Nam where
  fn : List Str
  cls : List Str
  con : List Str
  par : Nat → List Str
/-- a scope: the slots' names, whether it is an except suite -/
structure Sx where
  N : List Str
  sc : Scope
  ow : Scope
  hot : Bool
/-- a comprehension's block within -/
def Sx.blk (c : Sx) (s : Scope) : Sx := { c with sc := relS s c.sc, ow := s }
def celB (sc : Scope) (x : Str) : Bool := match sc.names.lookup x with
  | some .cell => true
  | _ => false
def visB (sc : Scope) (x : Str) : Bool := match sc.names.lookup x with
  | some .local | some .cell | some .free => true
  | _ => false
def locB (sc : Scope) (x : Str) : Bool := match sc.names.lookup x with
  | some .local => true
  | _ => false
def glB (sc : Scope) (x : Str) : Bool := match sc.names.lookup x with
  | some .globalImplicit => true
  | _ => false
def dbgB (x : Str) : Bool := !(x == ("__debug__" : Str)) && !(x == ("__classdict__" : Str)) && !(x == ("__name__" : Str))
def noSlice : Expr → Bool
  | .Slice _ _ _ _ => false
  | _ => true
def noCall : Expr → Bool
  | .Call _ _ _ _ => false
  | _ => true
def noSet : Expr → Bool
  | .Set _ _ _ => false
  | _ => true
def okPart (f : Expr → Bool) (n : Bool) : Option Expr → Bool
  | none => n
  | some e => f e && !n
def plainE : Expr → Bool
  | .Starred _ _ => false
  | _ => true
def tyName : Ty → Option Str
  | .int => some "int" | .bool => some "bool" | .str => some "str" | .tuple => some "tuple" | .list => some "list" | .dict => some "dict" | .cls _ => none
def biName : Bi → Str
  | .len => "len" | .abs => "abs" | .int => "int" | .tuple => "tuple" | .list => "list" | .sum => "sum" | .all => "all" | .any => "any"
  | .min1 | .min2 => "min" | .max1 | .max2 => "max" | .sorted => "sorted" | .set => "set" | .str => "str" | .divmod => "divmod" | .sset => "sorted"
/-- the names that must be built-in ones -/
def bltNames : List Str := ["len", "abs", "int", "tuple", "list", "sum", "all", "any", "min", "max", "sorted", "set", "str", "divmod", "isinstance", "bool", "dict", "range", "enumerate", "zip", "reversed"]
mutual
def tgSl : Tg → List Nat
  | .v i => [i]
  | .tup ts => tgSls ts
def tgSls : Tgs → List Nat
  | .nil => []
  | .cons t ts => tgSl t ++ tgSls ts
end
section
variable (T : Nam) (N : Nms) (c : Sx)
def okTy (t : Ty) (e : Expr) : Bool := match t, e with
  | .cls k, .Name x _ => decide (T.cls[k]? = some x) && glB c.sc x && dbgB x
  | t, .Name x _ => decide (tyName t = some x) && glB c.sc x
  | _, _ => false
def okTys : List Ty → List Expr → Bool
  | [], [] => true
  | t :: ts, e :: es => okTy T c t e && okTys ts es
  | _, _ => false
def okTysE (ts : List Ty) : Expr → Bool
  | .Tuple l _ _ => okTys T c ts l && decide (ts.length ≤ 100)
  | _ => false
def okIsi : List Ty → Expr → Bool
  | [t], z => okTy T c t z
  | ts, z => okTysE T c ts z
/-- what range(..) is given -/
def rgArgs : Expr → List Expr
  | .Call (.Name r _) l [] _ => if decide (r = "range") && glB c.sc r then l else []
  | _ => []
def okRg (fa fb : Expr → Bool) (z : Bool) : List Expr → Bool
  | [y] => z && fb y && plainE y
  | [x, y] => fa x && plainE x && fb y && plainE y
  | _ => false
def okRg3 (fa fb fc : Expr → Bool) : List Expr → Bool
  | [x, y, z] => fa x && plainE x && fb y && plainE y && fc z && plainE z
  | _ => false
mutual
def okTg : Tg → Expr → Bool
  | .v i, e => match e with
    | .Name x _ => decide (c.N[i]? = some x) && (locB c.sc x || celB c.sc x && celB c.ow x)
    | _ => false
  | .tup ts, e => match e with
    | .Tuple es _ _ => okTgs ts es && !c.hot
    | _ => false
def okTgs : Tgs → List Expr → Bool
  | .nil, es => match es with
    | [] => true
    | _ => false
  | .cons t ts, es => match es with
    | e :: es => okTg t e && okTgs ts es
    | _ => false
end
end
def mmName : Mm → Str
  | .append => "append" | .extend => "extend" | .pop | .popAt => "pop" | .reverse => "reverse" | .clear => "clear" | .insert => "insert" | .remove => "remove"
def mmOk : Mm → Bool
  | .append | .pop | .popAt | .reverse | .clear => true
  | _ => false
/-- a comprehension's own slots -/
def ownOf (N : List Str) (own : List Nat) : List (Str × Nat) := own.filterMap fun i => (N[i]?).map fun x => (x, i)
def isZero : Ex → Bool
  | .int i => decide (i = 0)
  | _ => false
mutual
def okX (T : Nam) (N : Nms) (c : Sx) : Ex → Expr → Bool
  | .v i, e => match e with
    | .Name x _ => decide (c.N[i]? = some x) && visB c.sc x && dbgB x
    | _ => false
  | .con g, e => match e with
    | .Name x _ => decide (T.con[g]? = some x) && glB c.sc x && dbgB x
    | _ => false
  | .int i, e => match e with
    | .Constant (.int j) _ _ => decide (i = j)
    | _ => false
  | .str i, e => match e with
    | .Constant (.str j) _ _ => decide (i = j)
    | _ => false
  | .bl i, e => match e with
    | .Constant (.bool j) _ _ => i == j
    | _ => false
  | .non, e => match e with
    | .Constant .none _ _ => true
    | _ => false
  | .bin op a b, e => match e with
    | .BinOp x o y _ => decide (o = opS op) && okX T N c a x && okX T N c b y
    | _ => false
  | .neg a, e => match e with
    | .UnaryOp .USub x _ => okX T N c a x
    | _ => false
  | .not a, e => match e with
    | .UnaryOp .Not x _ => okX T N c a x
    | _ => false
  | .and es, e => match e with
    | .BoolOp .And l _ => okBs T N c es l
    | _ => false
  | .or es, e => match e with
    | .BoolOp .Or l _ => okBs T N c es l
    | _ => false
  | .ife t a b, e => match e with
    | .IfExp z x y _ => okX T N c t z && okX T N c a x && okX T N c b y
    | _ => false
  | .cmp o a b, e => match e with
    | .Compare x [o'] [y] _ => decide (o' = cmS o) && okX T N c a x && okX T N c b y && !behindInMarks o' y
    | _ => false
  | .chain o o2 a b d, e => match e with
    | .Compare x [o', o2'] [y, z] _ => decide (o' = cmS o) && decide (o2' = cmS o2) && okX T N c a x && okX T N c b y && okX T N c d z && !lastMarks [o', o2'] [y, z]
    | _ => false
  | .tup es, e => match e with
    | .Tuple l _ _ => okXs T N c es l
    | _ => false
  | .lst es, e => match e with
    | .List l _ => okXs T N c es l
    | _ => false
  | .dct _ _, _ => false
  | .new e, x => okN T N c e x
  | .bad, _ => true
  | .idx a i, e => match e with
    | .Subscript x y _ => okX T N c a x && okX T N c i y && noSlice y
    | _ => false
  | .sl a lo hi, e => match e with
    | .Subscript x (.Slice l h none _) _ => okX T N c a x && okPart (okX T N c lo) lo.isNon l && okPart (okX T N c hi) hi.isNon h
    | _ => false
  | .rev _, _ => false
  | .attr a f, e => match e with
    | .Attribute x y _ => okX T N c a x && decide (y = N.nm f) && noCall x
    | _ => false
  | .call q f es, e => match e with
    | .Call (.Name x _) (y :: l) [] _ => decide (T.fn[f]? = some x) && glB c.sc x && dbgB x && okXs T N c es (y :: l) && !c.hot
    | .Call (.Name x _) [] [] _ => decide (T.fn[f]? = some x) && glB c.sc x && dbgB x && okXs T N c es [] && !c.hot
    | _ => false
  | .mk _ _, _ => false
  | .mkN _ _, _ => false
  | .meth _ _ _ _, _ => false
  | .bi b es, e => match e with
    | .Call (.Name x _) (y :: l) [] _ => decide (x = biName b) && biOk b && glB c.sc x && okXs T N c es (y :: l) && !c.hot
    | _ => false
  | .bm _ _ _, _ => false
  | .mm m o es, e => match e with
    | .Call (.Attribute x n ap) l [] cp => decide (n = mmName m) && mmOk m && noCall x && (ap.endLine == cp.line) && decide (l.length < 28) && okX T N c o x && okXs T N c es l
    | _ => false
  | .ext _ _, _ => false
  | .sdef _ _, _ => false
  | .rg t a b, e => match e with
    | .Call (.Name x _) [z] [] _ => decide (x = if t then "tuple" else "list") && glB c.sc x && !c.hot && okRg (okX T N c a) (okX T N c b) (isZero a) (rgArgs c z)
    | _ => false
  | .rg3 a b d, e => match e with
    | .Call (.Name x _) [z] [] _ => decide (x = "tuple") && glB c.sc x && !c.hot && okRg3 (okX T N c a) (okX T N c b) (okX T N c d) (rgArgs c z)
    | _ => false
  | .isi a ts, e => match e with
    | .Call (.Name x _) [y, z] [] _ => decide (x = "isinstance") && glB c.sc x && okX T N c a y && plainE y && okIsi T c ts z
    | _ => false
  | .lc elt tg it ifs own, e => match e with
    | .ListComp x [⟨t, i, l, k⟩] sc _ => decide (k = 0) && blkC c.N c.sc sc (ownOf c.N own) && decide ((ownOf c.N own).map (·.2) = own) && okIt T N c it t i && okTg (c.blk sc) tg t && (tgSl tg).all (fun i => own.contains i) && okQs T N (c.blk sc) ifs l && okX T N (c.blk sc) elt x && !c.hot && noSet i
    | _ => false
/-- a new list -/
def okN (T : Nam) (N : Nms) (c : Sx) : Ex → Expr → Bool
  | .lst es, e => match e with
    | .List l _ => okXs T N c es l
    | _ => false
  | .lc elt tg it ifs own, e => match e with
    | .ListComp x [⟨t, i, l, k⟩] sc _ => decide (k = 0) && blkC c.N c.sc sc (ownOf c.N own) && decide ((ownOf c.N own).map (·.2) = own) && okIt T N c it t i && okTg (c.blk sc) tg t && (tgSl tg).all (fun i => own.contains i) && okQs T N (c.blk sc) ifs l && okX T N (c.blk sc) elt x && !c.hot && noSet i
    | _ => false
  | _, _ => false
def okBs (T : Nam) (N : Nms) (c : Sx) : Exs → List Expr → Bool
  | .nil, l => match l with
    | [] => true
    | _ => false
  | .cons e es, l => match l with
    | x :: l => okX T N c e x && okBs T N c es l
    | _ => false
def okXs (T : Nam) (N : Nms) (c : Sx) : Exs → List Expr → Bool
  | .nil, l => match l with
    | [] => true
    | _ => false
  | .cons e es, l => match l with
    | x :: l => okX T N c e x && plainE x && okXs T N c es l
    | _ => false
def okQs (T : Nam) (N : Nms) (c : Sx) : Exs → List Expr → Bool
  | .nil, l => match l with
    | [] => true
    | _ => false
  | .cons e es, l => match es, l with
    | .nil, [x] => okX T N c e x
    | _, _ => false
def okIt (T : Nam) (N : Nms) (c : Sx) : It → Expr → Expr → Bool
  | .val e, _, x => okX T N c e x && noSet x
  | .rng1 e, _, x => match x with
    | .Call (.Name r _) [y] [] _ => decide (r = "range") && glB c.sc r && okX T N c e y && plainE y
    | _ => false
  | .rng2 a b, _, x => match x with
    | .Call (.Name r _) [y, z] [] _ => decide (r = "range") && glB c.sc r && okX T N c a y && plainE y && okX T N c b z && plainE z
    | _ => false
  | .enum e n, t, x => match t with
    | .Tuple _ _ _ => (match x with
      | .Call (.Name r _) [y] [] _ => decide (n = 0) && decide (r = "enumerate") && glB c.sc r && okX T N c e y && plainE y
      | .Call (.Name r _) [y, .Constant (.int k) _ _] [] _ => decide (n = k) && decide (0 ≤ n) && decide (n < 1000) && decide (r = "enumerate") && glB c.sc r && okX T N c e y && plainE y
      | _ => false)
    | _ => false
  | _, _, _ => false
end
end Ev

set_option autoImplicit false
set_option linter.all false
set_option maxRecDepth 100000
/-! Contexts; the readings of small expressions. -/
namespace Ev
open PySem L2 PyProof.Rows
/-- what isinstance looks at -/
inductive Tag where | non | bl | int | str | tup | lst | dct | obj (c : Nat)
def tagV (N : Nms) : Tag → Value
  | .non => .type "NoneType" | .bl => .type "bool" | .int => .type "int" | .str => .type "str" | .tup => .type "tuple" | .lst => .type "list" | .dct => .type "dict" | .obj c => .ref (N.cl c)
def tyV1 (N : Nms) : Ty → Value
  | .int => .type "int" | .bool => .type "bool" | .str => .type "str" | .tuple => .type "tuple" | .list => .type "list" | .dict => .type "dict" | .cls c => .ref (N.cl c)
def tyVV (N : Nms) : Ty → V
  | .int => .ty "int" | .bool => .ty "bool" | .str => .ty "str" | .tuple => .ty "tuple" | .list => .ty "list" | .dict => .ty "dict" | .cls c => .ref (N.cl c)
def tagOf : D → Option Tag
  | .non => some .non | .bl _ => some .bl | .int _ => some .int | .str _ => some .str | .tup _ => some .tup | .lst _ => some .lst | .dct _ => some .dct | .obj c _ => some (.obj c) | .ref _ => none
def isTag (sub : Nat → Nat → Bool) : Tag → Ty → Bool
  | .int, .int | .bl, .int | .bl, .bool | .str, .str | .tup, .tuple | .lst, .list | .dct, .dict => true
  | .obj c, .cls c' => sub c c'
  | _, _ => false
theorem isTy_tag (sub : Nat → Nat → Bool) (x : D) (t : Tag) (ty : Ty) (h : tagOf x = some t) : isTy sub x ty = isTag sub t ty := by
  cases x <;> simp only [tagOf] at h <;> cases h <;> cases ty <;> rfl
/-- the text's facts of a context: W: what is wanted of an exception -/
structure XOk (T : Nam) (N : Nms) (G : Tab) (c : Sx) (X : Cx) (W : WX) : Prop where
  hK : X.K = N.K
  hN : X.N = c.N
  nd : c.N.Nodup
  sc : X.env.scope = c.sc
  un : X.A.units + 200 < cLine
  calm : c.hot = false → X.calm = true
  fnc : ∀ x, c.ow.names.lookup x = some .cell → X.fn x = true
  tk : Takes X W
  blt : ∀ x ∈ bltNames, X.mg x = none
  con : ∀ (g : Nat) (x : Str), T.con[g]? = some x → ∃ d v u, G.con[g]? = some d ∧ X.mg x = some u ∧ RelV v u ∧ (match d with | .ref _ => False | _ => True) ∧ ∀ n ad B, RepD N n ad B v d
  cls : ∀ (k : Nat) (x : Str), T.cls[k]? = some x → X.mg x = some (.ref (N.cl k))
  ncl : T.cls.length = G.ncls
  nm : ∀ f g, N.nm f = N.nm g → f = g
  kit : ∀ tg ty, (match tg with | .obj c => c < T.cls.length | _ => True) → (match ty with | .cls c => c < T.cls.length | _ => True) → PySem.W.kitOne N.K (tagV N tg) (tyV1 N ty) = some (isTag G.sub tg ty)
  fld : ∀ k < T.cls.length, Cls N.K (N.cl k) ∧ (∀ f, NoAttr N.K (N.cl k) (N.nm f)) ∧ PySem.W.findIn N.K (.ref (N.cl k)) "__class__" = some (some (.builtin "object.__class__")) ∧
    PySem.W.specialIn N.K (.builtin "object.__class__") "__get__" = some (some (.builtin "getset_descriptor.__get__")) ∧ PySem.W.takesIn N.K (.builtin "object.__class__") = some true ∧ PySem.W.mroIn N.K (N.cl k) (.type "object") = some true
variable {T : Nam} {N : Nms} {G : Tab} {c : Sx} {X : Cx} {W : WX}
theorem vis_of (h : X.env.scope = c.sc) {x : Str} (v : visB c.sc x = true) : Vis X.env.scope x := by
  rw [h]
  unfold visB at v
  unfold Vis
  split at v <;> simp_all
theorem gl_of (h : X.env.scope = c.sc) {x : Str} (v : glB c.sc x = true) : Gl X x := by
  show X.env.scope.names.lookup x = some .globalImplicit
  rw [h]
  unfold glB at v
  split at v
  · assumption
  · cases v
theorem dbg_of {x : Str} (v : dbgB x = true) : (x == ("__debug__" : Str)) = false ∧ (x == ("__classdict__" : Str)) = false ∧ (x == ("__name__" : Str)) = false := by
  unfold dbgB at v
  simp only [Bool.and_eq_true, Bool.not_eq_true'] at v
  exact ⟨v.1.1, v.1.2, v.2⟩
/-- an expression's two readings -/
structure Good (N : Nms) (W : WX) (X : Cx) (e : Expr) (m : M PV) : Prop where
  pe : PE X e (tX N W m)
  pt : PT X e (tT N W (M.bind m toB))
theorem toB_inv {ad : Nat → Addr} {σ : L2.St} {H : Hp} {s : S} {F : Addr → Prop} {pv : PV} {K : Bool → S → (Nat → Addr) → Hp → Prop} (h : Gar N W ad σ H s F (toB pv s) K) (R : Rel N ad σ H s F) : ∃ b, pv = .d (.bl b) ∧ K b s ad H := by
  unfold toB at h
  split at h
  · exact ⟨_, rfl, h ad H R Post.refl⟩
  · exact h.elim
theorem tX_tB {m : M PV} : ∀ σ H Q, tT N W (M.bind m toB) σ H Q → tB (tX N W m) σ H Q := by
  rintro σ H Q ⟨ad, s, F, R, h⟩
  refine ⟨ad, s, F, R, (Gar.bind h).mono fun pv s1 ad1 H1 R1 P1 h1 v rv => ?_⟩
  obtain ⟨b, rfl, k⟩ := toB_inv h1 R1
  cases rv
  exact ⟨b, rfl, k⟩
theorem Good.val {e : Expr} {m : M PV} (h : PE X e (tX N W m)) (he : ∀ whole, isTrue e X.env whole = (do let v ← whole; standAt e.pos; holding [v] (truthy v))) : Good N W X e m :=
  ⟨h, pt_imp (pt_val h he) tX_tB⟩
theorem Gar.pure {α : Type} {ad : Nat → Addr} {σ : L2.St} {H : Hp} {s : S} {F : Addr → Prop} {a : α} {K : α → S → (Nat → Addr) → Hp → Prop} (R : Rel N ad σ H s F) (h : Gar N W ad σ H s F (.ok a s) K) : K a s ad H := h ad H R Post.refl
/-- data that is there without a step -/
theorem tX_pure {d : D} {v : V} (hd : ∀ n ad B, RepD N n ad B v d) : ∀ σ H Q, tX N W (M.pure (.d d)) σ H Q → tC v σ H Q := by
  rintro σ H Q ⟨ad, s, F, R, h⟩
  exact Gar.pure R h v (hd _ _ _)
theorem tX_var {i : Nat} : ∀ σ H Q, tX N W (varM i) σ H Q → tVar i σ H Q := by
  rintro σ H Q ⟨ad, s, F, R, h⟩
  unfold varM at h
  cases hl : s.loc1 i with
  | none => rw [hl] at h; exact h.elim
  | some lv =>
    rw [hl] at h
    cases lv with
    | d x =>
      obtain ⟨v, e, r⟩ := R.dat i x (loc1_some.mp hl)
      exact ⟨v, e, Gar.pure R h v r⟩
    | own ce =>
      obtain ⟨a, e, _⟩ := R.own (.sl i) ce (get_sl.mpr (loc1_some.mp hl))
      rw [adr_sl] at e
      exact ⟨_, e, Gar.pure R h _ e⟩
example (f : FT) (i : Nat) : evX G f (.v i) = varM i := by rfl
example (f : FT) (a b : Ex) (op : Op) : evX G f (.bin op a b) = two (evX G f a) (evX G f b) (binF op) := by rfl
/-- storing: no step of the model -/
theorem store_ok {ad : Nat → Addr} {σ : L2.St} {H : Hp} {s : S} {F : Addr → Prop} {pv : PV} {v : V} {K : D → S → (Nat → Addr) → Hp → Prop} (R : Rel N ad σ H s F) (r : RepPV N ad σ H s F v pv) (h : Gar N W ad σ H s F (pv.store s) K) :
    ∃ d s', Rel N ad σ H s' F ∧ Post ad σ H s ad σ H s' F ∧ RepD N s'.cel.length ad (msk H (Mk ad σ s' F)) v d ∧ K d s' ad H := by
  cases pv with
  | d x => exact ⟨x, s, R, Post.refl, r, h ad H R Post.refl⟩
  | own i =>
    have r : σ[i]? = some (some v) := r
    have h : Gar N W ad σ H s F (match s.loc1 i with
      | some (LV.own c) => Res.ok c.toD { s with loc := s.loc.set i (some (LV.d c.toD)) }
      | some (LV.d x) => Res.ok x s
      | none => Res.stk) K := h
    cases hl : s.loc1 i with
    | none => rw [hl] at h; exact h.elim
    | some lv =>
      rw [hl] at h
      cases lv with
      | d x =>
        obtain ⟨w, e, rd⟩ := R.dat i x (loc1_some.mp hl)
        rw [r] at e; cases e
        exact ⟨x, s, R, Post.refl, rd, h ad H R Post.refl⟩
      | own ce =>
        obtain ⟨a, e, rd, R', P'⟩ := R.freeze (get_sl.mpr (loc1_some.mp hl))
        rw [r] at e; cases e
        exact ⟨_, _, R', P', rd, h ad H R' P'⟩
theorem tD_store {m : M PV} : ∀ σ H Q, tD N W (M.bind m fun x => x.store) σ H Q → tX N W m σ H Q := by
  rintro σ H Q ⟨ad, s, F, R, h⟩
  refine ⟨ad, s, F, R, (Gar.bind h).mono fun pv s1 ad1 H1 R1 P1 h1 v rv => ?_⟩
  obtain ⟨d, s', R', P', rd, k⟩ := store_ok R1 rv h1
  exact k v rd
/-- lists of values -/
theorem tAs_nil : ∀ σ H Q, tAs N W (M.pure []) σ H Q → tNil σ H Q := by
  rintro σ H Q ⟨ad, s, F, R, h⟩
  exact Gar.pure R h [] .nil
theorem tAs_cons {m : M PV} {mr : M (List D)} : ∀ σ H Q, tAs N W (M.bind m fun x => M.bind x.store fun d => M.bind mr fun r => M.pure (d :: r)) σ H Q → tCons (tX N W m) (tAs N W mr) σ H Q := by
  rintro σ H Q ⟨ad, s, F, R, h⟩
  refine ⟨ad, s, F, R, (Gar.bind h).mono fun pv s1 ad1 H1 R1 P1 h1 v rv => ?_⟩
  obtain ⟨d, s', R', P', rd, k⟩ := store_ok R1 rv (Gar.bind h1)
  refine ⟨ad1, s', F, R', (Gar.bind k).mono fun r s2 ad2 H2 R2 P2 h2 vs rvs => ?_⟩
  exact Gar.pure R2 h2 (v :: vs) (.cons (P2.rep rd) rvs)
theorem tPs_nil : ∀ σ H Q, tPs N W (M.pure []) σ H Q → tNil σ H Q := by
  rintro σ H Q ⟨ad, s, F, R, h⟩
  exact Gar.pure R h [] .nil
theorem tPs_cons {m : M PV} {mr : M (List PV)} : ∀ σ H Q, tPs N W (M.bind m fun x => M.bind mr fun r => M.pure (x :: r)) σ H Q → tCons (tX N W m) (tPs N W mr) σ H Q := by
  rintro σ H Q ⟨ad, s, F, R, h⟩
  refine ⟨ad, s, F, R, (Gar.bind h).mono fun pv s1 ad1 H1 R1 P1 h1 v rv => ?_⟩
  refine ⟨ad1, s1, F, R1, (Gar.bind h1).mono fun r s2 ad2 H2 R2 P2 h2 vs rvs => ?_⟩
  exact Gar.pure R2 h2 (v :: vs) (.cons (rv.post P2) rvs)
/-- a new tuple, a new list -/
theorem tX_tup {m : M (List D)} : ∀ σ H Q, tX N W (M.bind m fun xs => if xs.length ≤ line then M.pure (.d (.tup xs)) else stk) σ H Q → tTup (tAs N W m) σ H Q := by
  rintro σ H Q ⟨ad, s, F, R, h⟩
  refine ⟨ad, s, F, R, (Gar.bind h).mono fun xs s1 ad1 H1 R1 P1 h1 vs rv => ?_⟩
  split at h1
  · rename_i hl
    refine ⟨by rw [rv.length, sizeLine_line]; exact hl, fun p hp => ?_⟩
    exact h1 ad1 _ (R1.grow (new_same hp)) (.grow R1 (new_same hp)) _ (new_tup (fun p m => R1.masked m) hp rv)
  · exact h1.elim
theorem tX_lst {m : M (List D)} : ∀ σ H Q, tX N W (M.bind m fun xs => if xs.length ≤ line then M.pure (.d (.lst xs)) else stk) σ H Q → tLst (tAs N W m) σ H Q := by
  rintro σ H Q ⟨ad, s, F, R, h⟩
  refine ⟨ad, s, F, R, (Gar.bind h).mono fun xs s1 ad1 H1 R1 P1 h1 vs rv => ?_⟩
  split at h1
  · rename_i hl
    refine ⟨by rw [rv.length, sizeLine_line]; exact hl, fun p hp => ?_⟩
    exact h1 ad1 _ (R1.grow (new_same hp)) (.grow R1 (new_same hp)) _ (new_lst (fun p m => R1.masked m) hp rv)
  · exact h1.elim
/-- if t then a else b -/
theorem tX_ife {mt ma mb : M PV} : ∀ σ H Q, tX N W (M.bind mt fun x => M.bind (toB x) fun c => if c then ma else mb) σ H Q → tIf (tT N W (M.bind mt toB)) (tX N W ma) (tX N W mb) σ H Q := by
  rintro σ H Q ⟨ad, s, F, R, h⟩
  refine ⟨ad, s, F, R, ?_⟩
  have e : M.bind mt (fun x => M.bind (toB x) fun c => if c then ma else mb) = M.bind (M.bind mt toB) (fun c => if c then ma else mb) := by
    funext s; unfold M.bind; cases mt s <;> rfl
  rw [e] at h
  refine (Gar.bind h).mono fun b s1 ad1 H1 R1 P1 h1 => ?_
  cases b with
  | true => exact ⟨ad1, s1, F, R1, h1⟩
  | false => exact ⟨ad1, s1, F, R1, h1⟩
theorem bind_assoc {α β γ : Type} (m : M α) (f : α → M β) (g : β → M γ) : M.bind (M.bind m f) g = M.bind m fun x => M.bind (f x) g := by
  funext s; unfold M.bind; cases m s <;> rfl
theorem tX_not {m : M PV} : ∀ σ H Q, tX N W (M.bind m fun x => M.bind (toB x) fun b => M.pure (.d (.bl !b))) σ H Q → tNotV (tX N W m) σ H Q := by
  rintro σ H Q ⟨ad, s, F, R, h⟩
  refine ⟨ad, s, F, R, (Gar.bind h).mono fun pv s1 ad1 H1 R1 P1 h1 v rv => ?_⟩
  obtain ⟨b, rfl, k⟩ := toB_inv (Gar.bind h1) R1
  cases rv
  exact ⟨b, rfl, Gar.pure R1 k _ (.bl _)⟩
theorem tT_not {m : M PV} : ∀ σ H Q, tT N W (M.bind (M.bind m fun x => M.bind (toB x) fun b => M.pure (.d (.bl !b))) toB) σ H Q → tNot (tT N W (M.bind m toB)) σ H Q := by
  rintro σ H Q ⟨ad, s, F, R, h⟩
  refine ⟨ad, s, F, R, ?_⟩
  have e : M.bind (M.bind m fun x => M.bind (toB x) fun b => M.pure (.d (.bl !b))) toB = M.bind (M.bind m toB) fun b => M.pure !b := by
    rw [bind_assoc, bind_assoc]
    congr; funext x; rw [bind_assoc]; rfl
  rw [e] at h
  exact (Gar.bind h).mono fun b s1 ad1 H1 R1 P1 h1 => Gar.pure R1 h1
theorem tX_and {ma mb : M PV} : ∀ σ H Q, tX N W (M.bind ma fun x => M.bind (toB x) fun c => if c then mb else M.pure (.d (.bl false))) σ H Q → tAndV (tX N W ma) (tX N W mb) σ H Q := by
  rintro σ H Q ⟨ad, s, F, R, h⟩
  refine ⟨ad, s, F, R, (Gar.bind h).mono fun pv s1 ad1 H1 R1 P1 h1 v rv => ?_⟩
  obtain ⟨b, rfl, k⟩ := toB_inv (Gar.bind h1) R1
  cases rv
  cases b with
  | true => exact ⟨true, rfl, ad1, s1, F, R1, k⟩
  | false => exact ⟨false, rfl, Gar.pure R1 k _ (.bl _)⟩
theorem tX_or {ma mb : M PV} : ∀ σ H Q, tX N W (M.bind ma fun x => M.bind (toB x) fun c => if c then M.pure (.d (.bl true)) else mb) σ H Q → tOrV (tX N W ma) (tX N W mb) σ H Q := by
  rintro σ H Q ⟨ad, s, F, R, h⟩
  refine ⟨ad, s, F, R, (Gar.bind h).mono fun pv s1 ad1 H1 R1 P1 h1 v rv => ?_⟩
  obtain ⟨b, rfl, k⟩ := toB_inv (Gar.bind h1) R1
  cases rv
  cases b with
  | true => exact ⟨true, rfl, Gar.pure R1 k _ (.bl _)⟩
  | false => exact ⟨false, rfl, ad1, s1, F, R1, k⟩
theorem tT_and {ma mb : M PV} : ∀ σ H Q, tT N W (M.bind (M.bind ma fun x => M.bind (toB x) fun c => if c then mb else M.pure (.d (.bl false))) toB) σ H Q → tAnd (tT N W (M.bind ma toB)) (tT N W (M.bind mb toB)) σ H Q := by
  rintro σ H Q ⟨ad, s, F, R, h⟩
  refine ⟨ad, s, F, R, ?_⟩
  have e : M.bind (M.bind ma fun x => M.bind (toB x) fun c => if c then mb else M.pure (.d (.bl false))) toB = M.bind (M.bind ma toB) fun c => if c then M.bind mb toB else M.pure false := by
    rw [bind_assoc, bind_assoc]
    congr; funext x; rw [bind_assoc]; congr; funext c; cases c <;> rfl
  rw [e] at h
  refine (Gar.bind h).mono fun b s1 ad1 H1 R1 P1 h1 => ?_
  cases b with
  | true => exact ⟨ad1, s1, F, R1, h1⟩
  | false => exact Gar.pure R1 h1
theorem tT_or {ma mb : M PV} : ∀ σ H Q, tT N W (M.bind (M.bind ma fun x => M.bind (toB x) fun c => if c then M.pure (.d (.bl true)) else mb) toB) σ H Q → tOr (tT N W (M.bind ma toB)) (tT N W (M.bind mb toB)) σ H Q := by
  rintro σ H Q ⟨ad, s, F, R, h⟩
  refine ⟨ad, s, F, R, ?_⟩
  have e : M.bind (M.bind ma fun x => M.bind (toB x) fun c => if c then M.pure (.d (.bl true)) else mb) toB = M.bind (M.bind ma toB) fun c => if c then M.pure true else M.bind mb toB := by
    rw [bind_assoc, bind_assoc]
    congr; funext x; rw [bind_assoc]; congr; funext c; cases c <;> rfl
  rw [e] at h
  refine (Gar.bind h).mono fun b s1 ad1 H1 R1 P1 h1 => ?_
  cases b with
  | true => exact Gar.pure R1 h1
  | false => exact ⟨ad1, s1, F, R1, h1⟩
/-- a comparison as a test -/
theorem tT_two {r : R2} {f : D → D → Option D} {ma mb : M PV} (hr : ∀ x y H Q, rD2 N f x y H Q → r x y H Q) : ∀ σ H Q, tT N W (M.bind (two ma mb f) toB) σ H Q → tTest (tOp r (tX N W ma) (tX N W mb)) σ H Q := by
  rintro σ H Q h
  exact tX_two hr σ H _ (tX_tB σ H Q h)
theorem tX_chain {ma mb md : M PV} {o o2 : Cm} : ∀ σ H Q, tX N W (M.bind ma fun x => M.bind mb fun y => chainM o o2 x y md) σ H Q →
    tChain (rD2 N fun x y => (cmpF o x y).map .bl) (rD2 N fun x y => (cmpF o2 x y).map .bl) (tX N W ma) (tX N W mb) (tX N W md) σ H Q := by
  rintro σ H Q ⟨ad, s, F, R, h⟩
  refine ⟨ad, s, F, R, (Gar.bind h).mono fun a s1 ad1 H1 R1 P1 h1 x rx => ?_⟩
  refine ⟨ad1, s1, F, R1, (Gar.bind h1).mono fun b s2 ad2 H2 R2 P2 h2 y ry => ?_⟩
  have rx2 := rx.post P2
  unfold chainM at h2
  cases hx : a.val s2 with
  | none => simp only [hx] at h2; exact h2.elim
  | some dx =>
    cases hy : b.val s2 with
    | none => simp only [hx, hy] at h2; exact h2.elim
    | some dy =>
      simp only [hx, hy] at h2
      cases hf : cmpF o dx dy with
      | none => rw [hf] at h2; exact h2.elim
      | some k =>
        rw [hf] at h2
        refine ⟨_, _, Mk ad2 σ s2 F, dx, dy, .bl k, fun p m => R2.masked m, rx2.val R2 hx, ry.val R2 hy, by simp [hf], fun v H3 sm r3 => ?_⟩
        cases r3
        refine ⟨k, rfl, ?_⟩
        cases k with
        | false => exact h2 ad2 H3 (R2.grow sm) (.grow R2 sm) _ (.bl _)
        | true =>
          simp only [if_true]
          unfold chain2 at h2
          have h3 := h2.from (.grow R2 sm)
          refine ⟨ad2, s2, F, R2.grow sm, (Gar.bind h3).mono fun z s4 ad4 H4 R4 P4 h4 w rw' => ?_⟩
          have ry4 := (ry.post (.grow R2 sm)).post P4
          cases hy4 : b.val s4 with
          | none => simp only [hy4] at h4; exact h4.elim
          | some dy4 =>
            cases hz4 : z.val s4 with
            | none => simp only [hy4, hz4] at h4; exact h4.elim
            | some dz4 =>
              simp only [hy4, hz4] at h4
              cases hf4 : cmpF o2 dy4 dz4 with
              | none => rw [hf4] at h4; exact h4.elim
              | some k4 =>
                rw [hf4] at h4
                exact ⟨_, _, Mk ad4 σ s4 F, dy4, dz4, .bl k4, fun p m => R4.masked m, ry4.val R4 hy4, rw'.val R4 hz4, by simp [hf4], fun v H5 sm5 r5 => h4 ad4 H5 (R4.grow sm5) (.grow R4 sm5) v r5⟩
end Ev

set_option autoImplicit false
set_option linter.all false
set_option maxRecDepth 100000
/-! Calls. -/
namespace Ev
open PySem L2 PyProof.Rows
variable {T : Nam} {N : Nms} {G : Tab} {c : Sx} {X : Cx} {W : WX}
/-- a def's promise, by what the core says it gives -/
def spF (N : Nms) (np : Nat) (r : List D → List Cell → FRes) : Sp := fun vs H Q E => vs.length = np ∧ ∃ (ad : Nat → Addr) (cel : List Cell) (F : Addr → Prop) (as : List D), Rel N ad [] H ⟨[], cel⟩ F ∧ RepDs N cel.length ad (msk H (Mk ad [] ⟨[], cel⟩ F)) vs as ∧
  match r as cel with
  | .ok x c' => ∀ ad' H' v, Rel N ad' [] H' ⟨[], c'⟩ F → Post ad [] H ⟨[], cel⟩ ad' [] H' ⟨[], c'⟩ F → RepD N c'.length ad' (msk H' (Mk ad' [] ⟨[], c'⟩ F)) v x → Q v H'
  | .exc e c' => ∀ ad' H' cls d, Rel N ad' [] H' ⟨[], c'⟩ F → Post ad [] H ⟨[], cel⟩ ad' [] H' ⟨[], c'⟩ F → RepE N c'.length ad' (msk H' (Mk ad' [] ⟨[], c'⟩ F)) H' e cls d → E cls d H'
  | .stk => False
section
variable {ad ad' : Nat → Addr} {σ : L2.St} {H H' : Hp} {s : S} {F : Addr → Prop} {c' : List Cell}
/-- what a callee must leave: the caller's own things -/
def Hid (ad : Nat → Addr) (σ : L2.St) (s : S) (F : Addr → Prop) : Addr → Prop := fun a => F a ∨ ∃ i c, s.get (.sl i) = some c ∧ adr ad σ (.sl i) = some a
theorem noSl {i : Nat} {cc : Cell} {cel : List Cell} : ¬ (⟨[], cel⟩ : S).get (.sl i) = some cc := by
  rw [get_sl]; simp
theorem Mk_hid (a : Addr) : Mk ad [] ⟨[], s.cel⟩ (Hid ad σ s F) a ↔ Mk ad σ s F a := by
  constructor
  · rintro ((h | ⟨i, cc, h1, h2⟩) | ⟨l, cc, h1, h2⟩)
    · exact .inl h
    · exact .inr ⟨_, cc, h1, h2⟩
    · cases l with
      | sl i => exact absurd h1 noSl
      | id k => exact .inr ⟨.id k, cc, h1, h2⟩
  · rintro (h | ⟨l, cc, h1, h2⟩)
    · exact .inl (.inl h)
    · cases l with
      | sl i => exact .inl (.inr ⟨i, cc, h1, h2⟩)
      | id k => exact .inr ⟨.id k, cc, h1, h2⟩
theorem msk_congr {M M' : Addr → Prop} (h : ∀ a, M a ↔ M' a) : msk H M = msk H M' := by
  funext a
  unfold msk
  by_cases m : M a
  · rw [if_pos m, if_pos ((h a).mp m)]
  · rw [if_neg m, if_neg fun q => m ((h a).mpr q)]
theorem Rel.toStore (R : Rel N ad σ H s F) : Rel N ad [] H ⟨[], s.cel⟩ (Hid ad σ s F) where
  len := rfl
  dat := fun i x h => by simp at h
  own := fun l cc h => by
    cases l with
    | sl i => exact absurd h noSl
    | id k =>
      obtain ⟨a, e, ok⟩ := R.own (.id k) cc h
      refine ⟨a, e, ?_⟩
      rw [msk_congr (Mk_hid (ad := ad) (σ := σ) (s := s) (F := F))]
      exact ok
  inj := fun l l' cc cc' a h h' e e' => by
    cases l with
    | sl i => exact absurd h noSl
    | id k =>
      cases l' with
      | sl i => exact absurd h' noSl
      | id k' => exact R.inj (.id k) (.id k') cc cc' a h h' e e'
  frn := fun a h => by
    refine ⟨R.masked ((Mk_hid a).mp (.inl h)), fun l cc h' e => ?_⟩
    cases l with
    | sl i => exact absurd h' noSl
    | id k =>
      rcases h with h | ⟨i, c2, h1, h2⟩
      · exact (R.frn a h).2 (.id k) cc h' e
      · have := R.inj (.sl i) (.id k) c2 cc a h1 h' h2 e
        cases this
/-- behind a call: m things of the store are kept -/
theorem Rel.back (R : Rel N ad σ H s F) (R' : Rel N ad' [] H' ⟨[], c'⟩ (Hid ad σ s F)) (P : Post ad [] H ⟨[], s.cel⟩ ad' [] H' ⟨[], c'⟩ (Hid ad σ s F)) (m : Nat) (h1 : s.cel.length ≤ m) (h2 : m ≤ c'.length)
    (hc : ∀ k cc, k < m → c'[k]? = some cc → CelOk N m ad' (msk H' (Mk ad' [] ⟨[], c'⟩ (Hid ad σ s F))) H' (ad' k) cc) :
    Rel N ad' σ H' { s with cel := c'.take m } F ∧ Post ad σ H s ad' σ H' { s with cel := c'.take m } F ∧ Sm (msk H' (Mk ad' [] ⟨[], c'⟩ (Hid ad σ s F))) (msk H' (Mk ad' σ { s with cel := c'.take m } F)) := by
  have hl : (c'.take m).length = m := by rw [List.length_take]; omega
  have gid : ∀ k cc, ({ s with cel := c'.take m } : S).get (.id k) = some cc → k < m ∧ c'[k]? = some cc := fun k cc h => by
    have h : (c'.take m)[k]? = some cc := h
    have hk : k < m := by
      have := (List.getElem?_eq_some_iff.mp h).1
      rw [hl] at this; exact this
    rw [List.getElem?_take, if_pos hk] at h
    exact ⟨hk, h⟩
  have gsl : ∀ i cc, ({ s with cel := c'.take m } : S).get (.sl i) = some cc ↔ s.get (.sl i) = some cc := fun i cc => Iff.rfl
  have asl : ∀ i, adr ad' σ (.sl i) = adr ad σ (.sl i) := fun i => rfl
  have sub : ∀ a, Mk ad' σ { s with cel := c'.take m } F a → Mk ad' [] ⟨[], c'⟩ (Hid ad σ s F) a := by
    rintro a (h | ⟨l, cc, q1, q2⟩)
    · exact .inl (.inl h)
    · cases l with
      | sl i => exact .inl (.inr ⟨i, cc, q1, q2⟩)
      | id k => exact .inr ⟨.id k, cc, (gid k cc q1).2, q2⟩
  have sm2 := sm_sub (H := H') sub
  have sm : Sm (msk H (Mk ad σ s F)) (msk H' (Mk ad' σ { s with cel := c'.take m } F)) := by
    rw [← msk_congr (Mk_hid (ad := ad) (σ := σ) (s := s) (F := F))]
    exact P.sm.trans sm2
  have agr : ∀ k, k < s.cel.length → ad' k = ad k := P.agr
  have ln : s.cel.length ≤ ({ s with cel := c'.take m } : S).cel.length := by show _ ≤ (c'.take m).length; rw [hl]; exact h1
  refine ⟨⟨R.len, ?_, ?_, ?_, ?_⟩, ⟨agr, ln, rfl, sm, fun a h => P.frn a (.inl h)⟩, sm2⟩
  · intro i x h
    obtain ⟨v, e, r⟩ := R.dat i x h
    exact ⟨v, e, r.mono ln agr sm⟩
  · intro l cc h
    cases l with
    | sl i =>
      obtain ⟨a, e, ok⟩ := R.own (.sl i) cc h
      exact ⟨a, e, ok.mono ln agr sm (P.frn a (.inr ⟨i, cc, h, e⟩))⟩
    | id k =>
      obtain ⟨hk, h⟩ := gid k cc h
      refine ⟨ad' k, rfl, (hc k cc hk h).mono (Nat.le_of_eq hl.symm) (fun _ _ => rfl) sm2 rfl⟩
  · intro l l' cc cc' a h h' e e'
    cases l with
    | sl i =>
      cases l' with
      | sl j => exact R.inj _ _ cc cc' a h h' e e'
      | id k =>
        obtain ⟨hk, h'⟩ := gid k cc' h'
        exact absurd e' ((R'.frn a (.inr ⟨i, cc, h, e⟩)).2 (.id k) cc' h')
    | id k =>
      obtain ⟨hk, h⟩ := gid k cc h
      cases l' with
      | sl j => exact absurd e ((R'.frn a (.inr ⟨j, cc', h', e'⟩)).2 (.id k) cc h)
      | id k' =>
        obtain ⟨hk', h'⟩ := gid k' cc' h'
        exact R'.inj _ _ cc cc' a h h' e e'
  · intro a h
    obtain ⟨q1, q2⟩ := R'.frn a (.inl h)
    refine ⟨q1, fun l cc h' e => ?_⟩
    cases l with
    | sl i => exact (R.frn a h).2 (.sl i) cc h' e
    | id k => exact q2 (.id k) cc (gid k cc h').2 e
/-- a store of its own -/
theorem Rel.fresh (R : Rel N ad σ H s F) : Rel N ad [] H ⟨[], []⟩ (Mk ad σ s F) where
  len := rfl
  dat := fun i x h => by simp at h
  own := fun l cc h => by
    cases l with
    | sl i => exact absurd h noSl
    | id k => have h : ([] : List Cell)[k]? = some cc := h; simp at h
  inj := fun l l' cc cc' a h h' e e' => by
    cases l with
    | sl i => exact absurd h noSl
    | id k => have h : ([] : List Cell)[k]? = some cc := h; simp at h
  frn := fun a h => ⟨R.masked h, fun l cc h' e => by
    cases l with
    | sl i => exact absurd h' noSl
    | id k => have h' : ([] : List Cell)[k]? = some cc := h'; simp at h'⟩
theorem Mk_fresh (a : Addr) {M : Addr → Prop} : Mk ad [] ⟨[], []⟩ M a ↔ M a := by
  constructor
  · rintro (h | ⟨l, cc, h1, h2⟩)
    · exact h
    · cases l with
      | sl i => exact absurd h1 noSl
      | id k => have h1 : ([] : List Cell)[k]? = some cc := h1; simp at h1
  · exact .inl
/-- behind a call in a store of its own (cel: what it began with) -/
theorem Rel.backP {H0 : Hp} {ad0 : Nat → Addr} {cel : List Cell} (R : Rel N ad σ H s F) (k0 : Same H H0) (P : Post ad0 [] H0 ⟨[], cel⟩ ad' [] H' ⟨[], c'⟩ (Mk ad σ s F)) (hcel : Sm (msk H (Mk ad σ s F)) (msk H0 (Mk ad0 [] ⟨[], cel⟩ (Mk ad σ s F)))) :
    Rel N ad σ H' s F ∧ Post ad σ H s ad σ H' s F ∧ Sm (msk H' (Mk ad' [] ⟨[], c'⟩ (Mk ad σ s F))) (msk H' (Mk ad σ s F)) := by
  have sm2 : Sm (msk H' (Mk ad' [] ⟨[], c'⟩ (Mk ad σ s F))) (msk H' (Mk ad σ s F)) := sm_sub fun a h => .inl h
  have sm : Sm (msk H (Mk ad σ s F)) (msk H' (Mk ad σ s F)) := (hcel.trans P.sm).trans sm2
  have hk : ∀ a, Mk ad σ s F a → H' a = H a := fun a h => by
    rw [P.frn a h]
    obtain ⟨o, ho⟩ := R.masked h
    rw [ho]; exact k0 a o ho
  refine ⟨⟨R.len, ?_, ?_, R.inj, ?_⟩, ⟨fun _ _ => rfl, Nat.le_refl _, rfl, sm, fun a h => hk a (.inl h)⟩, sm2⟩
  · intro i x h
    obtain ⟨v, e, r⟩ := R.dat i x h
    exact ⟨v, e, r.mono (Nat.le_refl _) (fun _ _ => rfl) sm⟩
  · intro l cc h
    obtain ⟨a, e, ok⟩ := R.own l cc h
    exact ⟨a, e, ok.mono (Nat.le_refl _) (fun _ _ => rfl) sm (hk a (.inr ⟨l, cc, h, e⟩))⟩
  · intro a h
    obtain ⟨⟨o, ho⟩, h2⟩ := R.frn a h
    exact ⟨⟨o, (hk a (.inl h)).trans ho⟩, h2⟩
theorem blw_of {n : Nat} {cc : Cell} (h : cc.blw n = true) {ad : Nat → Addr} {B H : Hp} {a : Addr} {m : Nat} (ok : CelOk N m ad B H a cc) : CelOk N n ad B H a cc := ok.blw _ h
theorem Cell.toD_blw {n : Nat} : ∀ (cc : Cell), cc.toD.blw n = cc.blw n
  | .lst _ => by simp [Cell.toD, Cell.blw, D.blw]
  | .dct _ => by simp [Cell.toD, Cell.blw, D.blw]
  | .obj _ _ => by simp [Cell.toD, Cell.blw, D.blw]
/-- a thing that is given back, read as data -/
theorem snap_rep {n : Nat} {B' : Hp} (R' : Rel N ad' [] H' ⟨[], c'⟩ F) (sm : Sm (msk H' (Mk ad' [] ⟨[], c'⟩ F)) B') (hn : n ≤ c'.length) (free : ∀ k cc, n ≤ k → c'[k]? = some cc → B' (ad' k) = H' (ad' k)) {v : V} {x : D}
    (r : RepD N c'.length ad' (msk H' (Mk ad' [] ⟨[], c'⟩ F)) v x) (hb : (snap n c' x).blw n = true) : RepD N n ad' B' v (snap n c' x) := by
  cases x with
  | ref k =>
    cases r with
    | ref hk =>
    simp only [snap] at hb ⊢
    by_cases h : k < n
    · rw [if_pos h]; exact .ref h
    · rw [if_neg h] at hb ⊢
      cases hc : c'[k]? with
      | none =>
        have := List.getElem?_eq_none_iff.mp hc
        omega
      | some cc =>
        rw [hc] at hb
        simp only at hb ⊢
        obtain ⟨a, e, ok⟩ := R'.own (.id k) cc hc
        have e : some (ad' k) = some a := e
        cases e
        rw [Cell.toD_blw] at hb
        exact (blw_of hb ok).toD sm (free k cc (by omega) hc) _
  | _ => exact (r.mono (Nat.le_refl _) (fun _ _ => rfl) sm).blw _ hb
theorem RepE.mono {n n' : Nat} {ad ad' : Nat → Addr} {B B' H : Hp} {e : Exc} {cls : Value} {d : Option Addr} (hn : n ≤ n') (ha : ∀ k, k < n → ad' k = ad k) (k : Sm B B') (r : RepE N n ad B H e cls d) : RepE N n' ad' B' H e cls d :=
  ⟨r.1, r.2.imp id fun ⟨dd, fv, e1, e2, e3⟩ => ⟨dd, fv, e1, e2, e3.mono hn ha k⟩⟩
theorem RepE.blw {n m : Nat} {ad : Nat → Addr} {B H : Hp} {e : Exc} {cls : Value} {d : Option Addr} (h : e.blw m = true) (r : RepE N n ad B H e cls d) : RepE N m ad B H e cls d :=
  ⟨r.1, r.2.imp id fun ⟨dd, fv, e1, e2, e3⟩ => ⟨dd, fv, e1, e2, e3.blw _ h⟩⟩
theorem RepE.pure {n m : Nat} {ad ad' : Nat → Addr} {B H : Hp} {e : Exc} {cls : Value} {d : Option Addr} (h : e.blw 0 = true) (r : RepE N n ad B H e cls d) : RepE N m ad' B H e cls d :=
  ⟨r.1, r.2.imp id fun ⟨dd, fv, e1, e2, e3⟩ => ⟨dd, fv, e1, e2, e3.pure _ h⟩⟩
/-- a call keeps what the core says -/
theorem call_sp {q : Ck} {np : Nat} {r : List D → List Cell → FRes} {as : List D} {vs : List V} {Q : VK} (R : Rel N ad σ H s F) (rv : RepDs N s.cel.length ad (msk H (Mk ad σ s F)) vs as) (hn : vs.length = np)
    (h : Gar N W ad σ H s F (doCall q r as s) fun x s' ad' H' => ∀ v, RepD N s'.cel.length ad' (msk H' (Mk ad' σ s' F)) v x → Q v H') : spF N np r vs H Q (WE W σ) := by
  refine ⟨hn, ?_⟩
  have shared : q ≠ .pure → ∃ (ad : Nat → Addr) (cel : List Cell) (F : Addr → Prop) (as : List D), Rel N ad [] H ⟨[], cel⟩ F ∧ RepDs N cel.length ad (msk H (Mk ad [] ⟨[], cel⟩ F)) vs as ∧
      match r as cel with
      | .ok x c' => ∀ ad' H' v, Rel N ad' [] H' ⟨[], c'⟩ F → Post ad [] H ⟨[], cel⟩ ad' [] H' ⟨[], c'⟩ F → RepD N c'.length ad' (msk H' (Mk ad' [] ⟨[], c'⟩ F)) v x → Q v H'
      | .exc e c' => ∀ ad' H' cls d, Rel N ad' [] H' ⟨[], c'⟩ F → Post ad [] H ⟨[], cel⟩ ad' [] H' ⟨[], c'⟩ F → RepE N c'.length ad' (msk H' (Mk ad' [] ⟨[], c'⟩ F)) H' e cls d → WE W σ cls d H'
      | .stk => False := fun hq => by
    refine ⟨ad, s.cel, Hid ad σ s F, as, R.toStore, by rw [msk_congr (Mk_hid (ad := ad) (σ := σ) (s := s) (F := F))]; exact rv, ?_⟩
    have plainC : ∀ (c' : List Cell) (ad' : Nat → Addr) (H' : Hp), Rel N ad' [] H' ⟨[], c'⟩ (Hid ad σ s F) → ∀ k cc, k < c'.length → c'[k]? = some cc → CelOk N c'.length ad' (msk H' (Mk ad' [] ⟨[], c'⟩ (Hid ad σ s F))) H' (ad' k) cc := fun c' ad' H' R' k cc _ hc => by
      obtain ⟨a, e, ok⟩ := R'.own (.id k) cc hc
      have e : some (ad' k) = some a := e
      cases e
      exact ok
    have truncC : ∀ (c' : List Cell) (ad' : Nat → Addr) (H' : Hp), (c'.take s.cel.length).all (Cell.blw s.cel.length) = true → Rel N ad' [] H' ⟨[], c'⟩ (Hid ad σ s F) →
        ∀ k cc, k < s.cel.length → c'[k]? = some cc → CelOk N s.cel.length ad' (msk H' (Mk ad' [] ⟨[], c'⟩ (Hid ad σ s F))) H' (ad' k) cc := fun c' ad' H' hb R' k cc hk hc => by
      obtain ⟨a, e, ok⟩ := R'.own (.id k) cc hc
      have e : some (ad' k) = some a := e
      cases e
      refine blw_of (List.all_eq_true.mp hb cc ?_) ok
      exact List.mem_of_getElem? (i := k) (by rw [List.getElem?_take, if_pos hk]; exact hc)
    cases q with
    | pure => exact absurd rfl hq
    | plain =>
      have h : Gar N W ad σ H s F (endC .plain s.cel (r as s.cel) s) _ := h
      cases hr : r as s.cel with
      | ok x c' =>
        rw [hr] at h
        intro ad' H' v R' P' rx
        obtain ⟨R2, P2, sm⟩ := R.back R' P' c'.length P'.len (Nat.le_refl _) (plainC c' ad' H' R')
        rw [List.take_length] at R2 P2 sm
        exact h ad' H' R2 P2 v (rx.mono (Nat.le_refl _) (fun _ _ => rfl) sm)
      | exc e c' =>
        rw [hr] at h
        intro ad' H' cls d R' P' rx
        obtain ⟨R2, P2, sm⟩ := R.back R' P' c'.length P'.len (Nat.le_refl _) (plainC c' ad' H' R')
        rw [List.take_length] at R2 P2 sm
        exact h cls d ad' H' R2 P2 (rx.mono (Nat.le_refl _) (fun _ _ => rfl) sm)
      | stk => rw [hr] at h; exact h
    | trunc =>
      have h : Gar N W ad σ H s F (endC .trunc s.cel (r as s.cel) s) _ := h
      cases hr : r as s.cel with
      | ok x c' =>
        rw [hr] at h
        intro ad' H' v R' P' rx
        unfold endC at h
        simp only at h
        split at h
        · rename_i hb
          simp only [Bool.and_eq_true] at hb
          obtain ⟨R2, P2, sm⟩ := R.back R' P' s.cel.length (Nat.le_refl _) P'.len (truncC c' ad' H' hb.2 R')
          have hl : (c'.take s.cel.length).length = s.cel.length := by rw [List.length_take]; have : s.cel.length ≤ c'.length := P'.len; omega
          refine h ad' H' R2 P2 v ?_
          show RepD N (c'.take s.cel.length).length _ _ _ _
          rw [hl]
          refine snap_rep R' sm P'.len (fun k cc hk hc => ?_) rx hb.1
          refine msk_of fun m => ?_
          rcases m with m | ⟨l, c2, q1, q2⟩
          · exact (R'.frn _ (.inl m)).2 (.id k) cc hc rfl
          · cases l with
            | sl i => exact (R'.frn _ (.inr ⟨i, c2, q1, q2⟩)).2 (.id k) cc hc rfl
            | id j =>
              have q1 : (c'.take s.cel.length)[j]? = some c2 := q1
              have hj := (List.getElem?_eq_some_iff.mp q1).1
              rw [hl] at hj
              rw [List.getElem?_take, if_pos hj] at q1
              have := R'.inj (.id j) (.id k) c2 cc _ q1 hc q2 rfl
              cases this
              have hk : s.cel.length ≤ k := hk
              omega
        · exact h.elim
      | exc e c' =>
        rw [hr] at h
        intro ad' H' cls d R' P' rx
        unfold endC at h
        simp only at h
        split at h
        · rename_i hb
          simp only [Bool.and_eq_true] at hb
          obtain ⟨R2, P2, sm⟩ := R.back R' P' s.cel.length (Nat.le_refl _) P'.len (truncC c' ad' H' hb.2 R')
          have hl : (c'.take s.cel.length).length = s.cel.length := by rw [List.length_take]; have : s.cel.length ≤ c'.length := P'.len; omega
          refine h cls d ad' H' R2 P2 ?_
          show RepE N (c'.take s.cel.length).length _ _ _ _ _ _
          rw [hl]
          exact (rx.blw hb.1).mono (Nat.le_refl _) (fun _ _ => rfl) sm
        · exact h.elim
      | stk => rw [hr] at h; exact h
  cases q with
  | plain => exact shared (by intro z; cases z)
  | trunc => exact shared (by intro z; cases z)
  | pure =>
    have h : Gar N W ad σ H s F (if D.blws 0 as then endC .pure [] (r as []) s else .stk) _ := h
    split at h
    · rename_i hb
      have mf : msk H (Mk ad [] ⟨[], []⟩ (Mk ad σ s F)) = msk H (Mk ad σ s F) := msk_congr fun a => Mk_fresh a
      refine ⟨ad, [], Mk ad σ s F, as, R.fresh, ?_, ?_⟩
      · rw [mf]
        exact RepDs.pure _ hb rv
      · have hcel : Sm (msk H (Mk ad σ s F)) (msk H (Mk ad [] ⟨[], []⟩ (Mk ad σ s F))) := by rw [mf]; exact Sm.refl _
        cases hr : r as [] with
        | ok x c' =>
          rw [hr] at h
          intro ad' H' v R' P' rx
          unfold endC at h
          simp only at h
          split at h
          · rename_i hb2
            obtain ⟨R2, P2, sm⟩ := R.backP (Same.refl _) P' hcel
            refine h ad H' R2 P2 v ?_
            have := snap_rep (n := 0) R' sm (Nat.zero_le _) (fun k cc hk hc => ?_) rx hb2
            · exact RepD.pure _ hb2 this
            · exact msk_of fun m => (R'.frn _ m).2 (.id k) cc hc rfl
          · exact h.elim
        | exc e c' =>
          rw [hr] at h
          intro ad' H' cls d R' P' rx
          unfold endC at h
          simp only at h
          split at h
          · rename_i hb2
            obtain ⟨R2, P2, sm⟩ := R.backP (Same.refl _) P' hcel
            exact h cls d ad H' R2 P2 ((rx.mono (Nat.le_refl _) (fun _ _ => rfl) sm).pure hb2)
          · exact h.elim
        | stk => rw [hr] at h; exact h
    · exact h.elim
end
/-- the defs that may be called -/
structure Fns (T : Nam) (N : Nms) (X : Cx) (F : FT) : Prop where
  fn : ∀ (f : Nat) (x : Str), T.fn[f]? = some x → ∃ (fa : Addr) (fd : FuncData) (ps : List Str) (k : Nat), X.mg x = some (.ref fa) ∧ PySem.W.keepIn X.K (.ref fa) = true ∧ Binds X.K fd ps [] ∧ Room k X.A ∧
    FnOk X.prog X.w X.K X.mg X.base (L2.CX X.prog X.w) k fa fd ps (spF N ps.length (F f)) ∧ ∀ as c, F f as c ≠ .stk → as.length = ps.length
theorem endC_stk {q : Ck} {c0 : List Cell} {s : S} : endC q c0 .stk s = .stk := by cases q <;> rfl
theorem tX_call {q : Ck} {np : Nat} {r : List D → List Cell → FRes} {m : M (List D)} (hl : ∀ as c, r as c ≠ .stk → as.length = np) : ∀ σ H Q, tX N W (M.bind m fun as => M.bind (doCall q r as) fun x => M.pure (.d x)) σ H Q → tCallS (spF N np r) (WE W) (tAs N W m) σ H Q := by
  rintro σ H Q ⟨ad, s, F, R, h⟩
  refine ⟨ad, s, F, R, (Gar.bind h).mono fun as s1 ad1 H1 R1 P1 h1 vs rv => ?_⟩
  have h2 := Gar.bind h1
  refine call_sp (q := q) R1 rv ?_ (h2.mono fun x s2 ad2 H2 R2 P2 k v rx => Gar.pure R2 k v rx)
  rw [rv.length]
  cases q with
  | pure =>
    have h3 : Gar N W ad1 σ H1 s1 F (if D.blws 0 as then endC .pure [] (r as []) s1 else .stk) _ := h2
    by_cases hb : D.blws 0 as = true
    · rw [if_pos hb] at h3
      by_cases e : r as [] = .stk
      · rw [e, endC_stk] at h3; exact h3.elim
      · exact hl _ _ e
    · rw [if_neg hb] at h3; exact h3.elim
  | plain =>
    have h3 : Gar N W ad1 σ H1 s1 F (endC .plain s1.cel (r as s1.cel) s1) _ := h2
    by_cases e : r as s1.cel = .stk
    · rw [e, endC_stk] at h3; exact h3.elim
    · exact hl _ _ e
  | trunc =>
    have h3 : Gar N W ad1 σ H1 s1 F (endC .trunc s1.cel (r as s1.cel) s1) _ := h2
    by_cases e : r as s1.cel = .stk
    · rw [e, endC_stk] at h3; exact h3.elim
    · exact hl _ _ e
end Ev

set_option autoImplicit false
set_option linter.all false
set_option maxRecDepth 100000
/-! enumerate of lists and of tuples, from any count. -/
namespace Ev
open PySem L2 PyProof.Rows
def IteL (K : PySem.W.Frag) (a : Addr) (k0 : Int) : L2.It :=
  ⟨fun i H => ∃ (xs : List V) (x : V), SqL K H a xs ∧ xs[i]? = some x, fun i H v H' => ∃ T x, v = .ref T ∧ H T = none ∧ H' = upd H T (.tup [.int (k0 + (i : Nat)), x]) ∧ ∀ xs, SqL K H a xs → xs[i]? = some x, fun i H => ∃ xs : List V, SqL K H a xs ∧ xs.length = i⟩
theorem turn_enumL {P : Program} {w : World} {K : PySem.W.Frag} {elts : List Expr} {kk : Nat} {tpos : Pos} (a e it : Addr) (k0 : Int) :
    Turn P w K (.Tuple elts kk tpos) (IteL K a k0) [e, it] e (fun i h => (∃ old, IsEnum h e it (k0 + (i : Nat)) old) ∧ h.IsListIter it a i ∧ e ≠ it) where
  mem := by simp
  obj := fun i h st b hb => by
    obtain ⟨⟨old, he⟩, ⟨o, ho, hc, hd⟩, _⟩ := st
    have e' : b = e ∨ b = it := by simpa using hb
    rcases e' with z | z
    · rw [z]; exact ⟨_, he, fun v q => nomatch q⟩
    · rw [z]; exact ⟨o, ho, fun v q => by rw [hd] at q; cases q⟩
  keep := fun i h h' st k => let ⟨⟨old, he⟩, hi, hne⟩ := st; ⟨⟨old, k e (by simp) _ he⟩, hi.at fun o q => k it (by simp) o q, hne⟩
  item := by
    intro X hP hw hK hc i pins s σ H E I hf st hg
    subst hP hw hK
    obtain ⟨⟨old, he⟩, hit, hne⟩ := st
    obtain ⟨xs, x, hq, hx⟩ := hg
    obtain ⟨its, rv, p, hz⟩ := I.list hq
    obtain ⟨u, hu, ru⟩ := rv.get hx
    have hel : e < s.heap.objs.size := Heap.lt_size he
    have hil : it < s.heap.objs.size := by obtain ⟨_, q, _⟩ := hit; exact Heap.lt_size q
    have hlt : i < its.toArray.size := by
      have := (List.getElem?_eq_some_iff.mp hu).1
      simpa using this
    have hal : a ≠ it := fun z => by
      obtain ⟨o1, q1, q2, _⟩ := hit
      obtain ⟨o2, q3, q4, _⟩ := p.isList
      rw [z, q1] at q3; cases q3
      rw [q2] at q4; exact absurd q4 (by simp)
    have hae : e ≠ a := fun z => by
      obtain ⟨o2, q3, q4, _⟩ := p.isList
      rw [← z, he] at q3; cases q3
      exact absurd q4 (by simp)
    have D := Draws.list (prog := X.prog) (w := X.w) (A := X.A.in1) (I.ok.hd hc) it a hal its.toArray
    refine wpAny_pyNext_enum_itemC D he ⟨hit, p.isList⟩ hlt hne (by simp [hne, hae]) fun y h' tk hP ho hit' hT hsz hk => ?_
    have ey : y = u := by
      have q : its.toArray[i]? = some y := hP
      have q2 : its.toArray[i]? = some u := by simpa using hu
      rw [q2] at q; exact (Option.some.inj q).symm
    subst ey
    refine ⟨_, rfl, wpAny_letOwnedTupleGo_enum (s := { s with heap := h', toks := tk + 1 }) ho fun h'' he' sb => ?_⟩
    have hT2 : h''.get? s.heap.objs.size = some { cls := .type "tuple", data := .seq #[.int (k0 + (i : Nat)) tk, y] } := (sb.2 _ (Nat.ne_of_gt hel)).trans hT
    have new : ObjOk X.prog X.w (upd H s.heap.objs.size (.tup [.int (k0 + (i : Nat)), x])) h'' s.heap.objs.size (.tup [.int (k0 + (i : Nat)), x]) :=
      ⟨by show 2 ≤ sizeLine; decide, [.int (k0 + (i : Nat)) tk, y], .cons ⟨_, rfl⟩ (.cons ru .nil), ⟨_, hT2, rfl, _, rfl⟩⟩
    have I1 : Inv X pins σ (upd H s.heap.objs.size (.tup [.int (k0 + (i : Nat)), x])) { s with heap := h'', toks := tk + 1 } :=
      I.turnedNew (ch := [e, it]) (fun b ob hb q => (sb.2 b (fun z => hb (by simp [z]))).trans (hk b ob (fun z => hb (by simp [z])) (fun z => hb (by simp [z])) q)) hf (Nat.le_refl _) new
    refine ⟨.ref s.heap.objs.size, _, I1, rfl, ⟨_, x, rfl, I.hok.fresh (Nat.le_refl _), rfl, fun ys hy => by rw [I.list_inj hy hq]; exact hx⟩, ⟨⟨y, ?_⟩, hit'.1.at fun o q => (sb.2 it (Ne.symm hne)).trans q, hne⟩, fun b hb => ?_⟩
    · have e1 : k0 + ((i + 1 : Nat) : Int) = k0 + (i : Nat) + 1 := by omega
      rw [e1]; exact he'
    · have hb' : b < s.heap.objs.size := by
        have e' : b = e ∨ b = it := by simpa using hb
        rcases e' with z | z
        · rw [z]; exact hel
        · rw [z]; exact hil
      rw [upd_ne (Nat.ne_of_lt hb')]
      exact (hf b hb).1
  done := by
    intro X hP hw hK hc i pins s σ H E I hf st hg
    subst hP hw hK
    obtain ⟨⟨old, he⟩, hit, hne⟩ := st
    obtain ⟨xs, hq, hx⟩ := hg
    obtain ⟨its, rv, p, hz⟩ := I.list hq
    obtain ⟨f0, f1, f2, f3, f4, f5⟩ := hf it (by simp)
    have hl := rv.length
    have hal : a ≠ it := fun z => by
      obtain ⟨o1, q1, q2, _⟩ := hit
      obtain ⟨o2, q3, q4, _⟩ := p.isList
      rw [z, q1] at q3; cases q3
      rw [q2] at q4; exact absurd q4 (by simp)
    have D := Draws.list (prog := X.prog) (w := X.w) (A := X.A.in1) (I.ok.hd hc) it a hal its.toArray
    have hi : its.toArray.size = i := by simp; omega
    exact wpAny_pyNext_enum_endD D he ⟨by rw [hi]; exact hit, p.isList⟩ fun h' eb => ⟨rfl, I.turned (t' := s.toks) (fun b o hb q => eb b o hb q) f0 f1 f3 f4 f5⟩
  self := fun A i s Q E st h => let ⟨⟨_, he⟩, _⟩ := st; wpAny_pyIter_enum he h
def IteT (K : PySem.W.Frag) (a : Addr) (k0 : Int) : L2.It :=
  ⟨fun i H => ∃ (xs : List V) (x : V), SqT K H a xs ∧ xs[i]? = some x, fun i H v H' => ∃ T x, v = .ref T ∧ H T = none ∧ H' = upd H T (.tup [.int (k0 + (i : Nat)), x]) ∧ ∀ xs, SqT K H a xs → xs[i]? = some x, fun i H => ∃ xs : List V, SqT K H a xs ∧ xs.length = i⟩
theorem turn_enumT {P : Program} {w : World} {K : PySem.W.Frag} {elts : List Expr} {kk : Nat} {tpos : Pos} (a e it : Addr) (k0 : Int) :
    Turn P w K (.Tuple elts kk tpos) (IteT K a k0) [e, it] e (fun i h => (∃ old, IsEnum h e it (k0 + (i : Nat)) old) ∧ h.IsTupleIter it a i ∧ e ≠ it) where
  mem := by simp
  obj := fun i h st b hb => by
    obtain ⟨⟨old, he⟩, ⟨o, ho, hc, hd⟩, _⟩ := st
    have e' : b = e ∨ b = it := by simpa using hb
    rcases e' with z | z
    · rw [z]; exact ⟨_, he, fun v q => nomatch q⟩
    · rw [z]; exact ⟨o, ho, fun v q => by rw [hd] at q; cases q⟩
  keep := fun i h h' st k => let ⟨⟨old, he⟩, hi, hne⟩ := st; ⟨⟨old, k e (by simp) _ he⟩, hi.at fun o q => k it (by simp) o q, hne⟩
  item := by
    intro X hP hw hK hc i pins s σ H E I hf st hg
    subst hP hw hK
    obtain ⟨⟨old, he⟩, hit, hne⟩ := st
    obtain ⟨xs, x, hq, hx⟩ := hg
    obtain ⟨its, rv, p, hz⟩ := I.tuple hq
    obtain ⟨u, hu, ru⟩ := rv.get hx
    have hel : e < s.heap.objs.size := Heap.lt_size he
    have hil : it < s.heap.objs.size := by obtain ⟨_, q, _⟩ := hit; exact Heap.lt_size q
    have hlt : i < its.toArray.size := by
      have := (List.getElem?_eq_some_iff.mp hu).1
      simpa using this
    have hal : a ≠ it := fun z => by
      obtain ⟨o1, q1, q2, _⟩ := hit
      obtain ⟨o2, q3, q4, _⟩ := p
      rw [z, q1] at q3; cases q3
      rw [q2] at q4; exact absurd q4 (by simp)
    have hae : e ≠ a := fun z => by
      obtain ⟨o2, q3, q4, _⟩ := p
      rw [← z, he] at q3; cases q3
      exact absurd q4 (by simp)
    have D := Draws.tuple (prog := X.prog) (w := X.w) (A := X.A.in1) (I.ok.hd hc) it a hal its.toArray
    refine wpAny_pyNext_enum_itemC D he ⟨hit, p⟩ hlt hne (by simp [hne, hae]) fun y h' tk hP ho hit' hT hsz hk => ?_
    have ey : y = u := by
      have q : its.toArray[i]? = some y := hP
      have q2 : its.toArray[i]? = some u := by simpa using hu
      rw [q2] at q; exact (Option.some.inj q).symm
    subst ey
    refine ⟨_, rfl, wpAny_letOwnedTupleGo_enum (s := { s with heap := h', toks := tk + 1 }) ho fun h'' he' sb => ?_⟩
    have hT2 : h''.get? s.heap.objs.size = some { cls := .type "tuple", data := .seq #[.int (k0 + (i : Nat)) tk, y] } := (sb.2 _ (Nat.ne_of_gt hel)).trans hT
    have new : ObjOk X.prog X.w (upd H s.heap.objs.size (.tup [.int (k0 + (i : Nat)), x])) h'' s.heap.objs.size (.tup [.int (k0 + (i : Nat)), x]) :=
      ⟨by show 2 ≤ sizeLine; decide, [.int (k0 + (i : Nat)) tk, y], .cons ⟨_, rfl⟩ (.cons ru .nil), ⟨_, hT2, rfl, _, rfl⟩⟩
    have I1 : Inv X pins σ (upd H s.heap.objs.size (.tup [.int (k0 + (i : Nat)), x])) { s with heap := h'', toks := tk + 1 } :=
      I.turnedNew (ch := [e, it]) (fun b ob hb q => (sb.2 b (fun z => hb (by simp [z]))).trans (hk b ob (fun z => hb (by simp [z])) (fun z => hb (by simp [z])) q)) hf (Nat.le_refl _) new
    refine ⟨.ref s.heap.objs.size, _, I1, rfl, ⟨_, x, rfl, I.hok.fresh (Nat.le_refl _), rfl, fun ys hy => by rw [I.tuple_inj hy hq]; exact hx⟩, ⟨⟨y, ?_⟩, hit'.1.at fun o q => (sb.2 it (Ne.symm hne)).trans q, hne⟩, fun b hb => ?_⟩
    · have e1 : k0 + ((i + 1 : Nat) : Int) = k0 + (i : Nat) + 1 := by omega
      rw [e1]; exact he'
    · have hb' : b < s.heap.objs.size := by
        have e' : b = e ∨ b = it := by simpa using hb
        rcases e' with z | z
        · rw [z]; exact hel
        · rw [z]; exact hil
      rw [upd_ne (Nat.ne_of_lt hb')]
      exact (hf b hb).1
  done := by
    intro X hP hw hK hc i pins s σ H E I hf st hg
    subst hP hw hK
    obtain ⟨⟨old, he⟩, hit, hne⟩ := st
    obtain ⟨xs, hq, hx⟩ := hg
    obtain ⟨its, rv, p, hz⟩ := I.tuple hq
    obtain ⟨f0, f1, f2, f3, f4, f5⟩ := hf it (by simp)
    have hl := rv.length
    have hal : a ≠ it := fun z => by
      obtain ⟨o1, q1, q2, _⟩ := hit
      obtain ⟨o2, q3, q4, _⟩ := p
      rw [z, q1] at q3; cases q3
      rw [q2] at q4; exact absurd q4 (by simp)
    have D := Draws.tuple (prog := X.prog) (w := X.w) (A := X.A.in1) (I.ok.hd hc) it a hal its.toArray
    have hi : its.toArray.size = i := by simp; omega
    exact wpAny_pyNext_enum_endD D he ⟨by rw [hi]; exact hit, p⟩ fun h' eb => ⟨rfl, I.turned (t' := s.toks) (fun b o hb q => eb b o hb q) f0 f1 f3 f4 f5⟩
  self := fun A i s Q E st h => let ⟨⟨_, he⟩, _⟩ := st; wpAny_pyIter_enum he h
end Ev

set_option autoImplicit false
set_option linter.all false
set_option maxRecDepth 100000
/-! What is walked. -/
namespace PySem
set_option maxHeartbeats 1000000 in
theorem evl_enumerate_new1 {v : Value} {o : Obj} {H : Heap → Prop} (B : Begins v o H) :
    Meets (Builtin.«enumerate.__new__» ⟨[.type "enumerate", v], []⟩) (fun _ R s => H s.heap ∧
      R (.ok (.ret (.ref (s.heap.push o).objs.size))) { s with heap := (s.heap.push o).push { cls := .type "enumerate", data := .fields #[.none, .bool false, .ref s.heap.objs.size, rawInt 0, .none, .none] } }) :=
  .of_wp fun prog w A R s h => by
    obtain ⟨hp, g, d, tk, os⟩ := s; obtain ⟨h1, h⟩ := h
    have hsub := sub_enumerate
    have q1 : ∀ {A' : Around} {E : Value → Shared → Prop} {Q : Value → Shared → Prop}, Q (.ref hp.objs.size) ⟨hp.push o, g, d, tk, os⟩ → wpAny (model prog w) A' (pyIter v) Q E ⟨hp, g, d, tk, os⟩ :=
      fun q => B.iter prog w _ _ ⟨hp, g, d, tk, os⟩ _ h1 q
    wp_walk using q1
    refine wpAny_stack_any fun st => wpAny_pure ?_
    split
    · rename_i c _ _ _ _ _
      cases (c == Value.type "enumerate")
      · wp_walk using q1
        exact ⟨_, rfl, h⟩
      · wp_walk using q1
        exact ⟨_, rfl, h⟩
    · wp_walk using q1
      exact ⟨_, rfl, h⟩
theorem evl_enum_begins1 {prog : Program} {w : World} {A : Around} {E : Value → Shared → Prop} {s : Shared} {v : Value} {o : Obj} {H : Heap → Prop} {Q : Value → Shared → Prop} (B : Begins v o H) (h1 : H s.heap)
    (h : ∀ h', IsEnum h' (s.heap.objs.size + 1) s.heap.objs.size 0 .none → h'.get? s.heap.objs.size = some o → h'.objs.size = s.heap.objs.size + 2 →
      (∀ b o, s.heap.get? b = some o → h'.get? b = some o) → Q (.ref (s.heap.objs.size + 1)) { s with heap := h' }) :
    wpAny (model prog w) A (call (.type "enumerate") [v]) Q E s := by
  refine callType_new F.called_enumerate (by decide) (F.typeCall_enumerate_1 _) (F.newCall_enumerate_1 _) (fun obj => F.args_object_init_2 obj _) F.entry_enumerate_new
    (evl_enumerate_new1 B) ⟨h1, ?_⟩
  have hz : (s.heap.push o).objs.size = s.heap.objs.size + 1 := Heap.size_push ..
  show _ ∧ _
  rw [hz]
  have he : IsEnum ((s.heap.push o).push { cls := .type "enumerate", data := .fields #[.none, .bool false, .ref s.heap.objs.size, rawInt 0, .none, .none] }) (s.heap.objs.size + 1) s.heap.objs.size 0 .none := by
    have := Heap.get?_push_size (s.heap.push o) (o := { cls := .type "enumerate", data := .fields #[.none, .bool false, .ref s.heap.objs.size, rawInt 0, .none, .none] }) rfl
    rw [hz] at this; exact this
  refine ⟨⟨_, he, rfl⟩, h _ he (Heap.get?_push_of_some _ (Heap.get?_push_size _ B.free)) (by rw [Heap.size_push, hz]) fun b o x => Heap.get?_push_of_some _ (Heap.get?_push_of_some _ x)⟩
end PySem
namespace Ev
open PySem L2 PyProof.Rows
variable {T : Nam} {N : Nms} {G : Tab} {c : Sx} {X : Cx} {W : WX}
/-- enumerate's reading, from the count k0 -/
def rEnum (K : PySem.W.Frag) (k0 : Int) (x : V) (H : Hp) (R : L2.It → Hp → Prop) : Prop := ∃ a xs, x = .ref a ∧ ((SqL K H a xs ∧ R (IteL K a k0) H) ∨ (SqT K H a xs ∧ R (IteT K a k0) H))
theorem enum_pie {pins : List (Addr × Obj)} {σ : L2.St} {H1 : Hp} {s1 : Shared} {x : V} {v : Value} {R : L2.It → Hp → Prop} {elts : List Expr} {kk : Nat} {tpos : Pos} {k0 : Int} {us : List Value}
    (mk : ∀ {v : Value} {o : Obj} {Hq : Heap → Prop} {Q : Value → Shared → Prop}, Begins v o Hq → Hq s1.heap →
      (∀ h', IsEnum h' (s1.heap.objs.size + 1) s1.heap.objs.size k0 .none → h'.get? s1.heap.objs.size = some o → h'.objs.size = s1.heap.objs.size + 2 →
      (∀ b o, s1.heap.get? b = some o → h'.get? b = some o) → Q (.ref (s1.heap.objs.size + 1)) { s1 with heap := h' }) → wpAny (model X.prog X.w) X.A (call (.type "enumerate") (v :: us)) Q X.xe s1)
    (I1 : Inv X pins σ H1 s1) (rx : RelV x v) (h : rEnum X.K k0 x H1 R) :
    wpAny (model X.prog X.w) X.A (call (.type "enumerate") (v :: us)) (fun it s2 => wpAny (model X.prog X.w) X.A (pyIter it) (PIE X pins σ (.Tuple elts kk tpos) R) X.xe s2) X.xe s1 := by
  obtain ⟨a, xs, rfl, h⟩ := h
  cases rx
  have fpk : ∀ {h' : Heap} (b : Addr), b ∈ [s1.heap.objs.size + 1, s1.heap.objs.size] → FpOk X pins H1 b := fun {h'} b hb => by
    have e' : b = s1.heap.objs.size + 1 ∨ b = s1.heap.objs.size := by simpa using hb
    have hle : s1.heap.objs.size ≤ b := by
      rcases e' with z | z
      · rw [z]; exact Nat.le_add_right _ _
      · rw [z]; exact Nat.le_refl _
    exact I1.fpOk hle (I1.hok.fresh hle)
  rcases h with ⟨hq, q⟩ | ⟨hq, q⟩
  · obtain ⟨its, rv, p', hz⟩ := I1.list hq
    refine mk (begins_list a its.toArray) p'.isList fun h' he hit hsz hk => wpAny_pyIter_enum he ?_
    have I2 : Inv X pins σ H1 { s1 with heap := h' } := I1.kept (t' := s1.toks) hk
    exact ⟨s1.heap.objs.size + 1, [s1.heap.objs.size + 1, s1.heap.objs.size], _, _, H1, rfl, I2, turn_enumL a (s1.heap.objs.size + 1) s1.heap.objs.size k0, ⟨⟨.none, by simpa using he⟩, ⟨_, hit, rfl, rfl⟩, Nat.succ_ne_self _⟩, fun b hb => fpk (h' := h') b hb, q⟩
  · obtain ⟨its, rv, p', hz⟩ := I1.tuple hq
    refine mk (begins_tuple a its.toArray) p' fun h' he hit hsz hk => wpAny_pyIter_enum he ?_
    have I2 : Inv X pins σ H1 { s1 with heap := h' } := I1.kept (t' := s1.toks) hk
    exact ⟨s1.heap.objs.size + 1, [s1.heap.objs.size + 1, s1.heap.objs.size], _, _, H1, rfl, I2, turn_enumT a (s1.heap.objs.size + 1) s1.heap.objs.size k0, ⟨⟨.none, by simpa using he⟩, ⟨_, hit, rfl, rfl⟩, Nat.succ_ne_self _⟩, fun b hb => fpk (h' := h') b hb, q⟩
theorem pi_enum1 {e : Expr} {te : TE} {p pos tpos : Pos} {elts : List Expr} {kk : Nat} (hg : Gl X "enumerate") (hm : X.mg "enumerate" = none) (he : PE X e te) (hs : starEach [e] X.env = (false, eval e X.env) :: starEach [] X.env) :
    PI X (.Tuple elts kk tpos) (.Call (.Name "enumerate" p) [e] [] pos) (fun σ H R => te σ H fun x H1 => rEnum X.K 0 x H1 R) := by
  refine ⟨fun pins s σ H R I h => ?_⟩
  refine Call_ (ld_blt I hg hm boot_enumerate (PyProof.Rows.callWith_type1 (one_arg he I h (fun v s2 x H2 I2 r q => ?_) hs) hs))
  exact enum_pie (us := []) (fun B h1 h => evl_enum_begins1 B h1 h) I2 r q
theorem pi_enum2 {e : Expr} {te : TE} {p pos tpos cp : Pos} {elts : List Expr} {kk cj : Nat} {k0 : Int} (hg : Gl X "enumerate") (hm : X.mg "enumerate" = none) (he : PE X e te) (hk : 0 ≤ k0 ∧ k0 < 1000) (hs : starEach [e, .Constant (.int k0) cj cp] X.env = (false, eval e X.env) :: starEach [.Constant (.int k0) cj cp] X.env) :
    PI X (.Tuple elts kk tpos) (.Call (.Name "enumerate" p) [e, .Constant (.int k0) cj cp] [] pos) (fun σ H R => te σ H fun x H1 => rEnum X.K k0 x H1 R) := by
  refine ⟨fun pins s σ H R I h => ?_⟩
  have hs2 : starEach [.Constant (.int k0) cj cp] X.env = (false, eval (.Constant (.int k0) cj cp) X.env) :: starEach [] X.env := by rfl
  refine Call_ (ld_blt I hg hm boot_enumerate (PyProof.Rows.callWith_type1 (args_cons (thn (he.run pins s σ H _ I h) fun v s1 ⟨x, H1, I1, r1, q1⟩ => one_arg (ta := tC (.int k0)) pe_int I1 (R := fun y H2 => y = .int k0 ∧ rEnum X.K k0 x H2 R) ⟨rfl, q1⟩ (fun u s2 y H2 I2 r2 q => ?_) hs2) hs) hs (by rw [hs2]; rfl)))
  obtain ⟨rfl, q⟩ := q
  obtain ⟨t, rfl⟩ := r2
  exact enum_pie (us := [.int k0 t]) (fun B h1 h => enum_begins B h1 (by omega) (by omega) h) I2 r1 q
end Ev

set_option autoImplicit false
set_option linter.all false
set_option maxRecDepth 100000
/-! Walks over data; comprehensions. -/
namespace Ev
open PySem L2 PyProof.Rows
variable {T : Nam} {N : Nms} {G : Tab} {c : Sx} {X : Cx} {W : WX}
/-- J gives the data ds, whatever happens to things that may change -/
def Wlk (N : Nms) (n0 : Nat) (ad0 : Nat → Addr) (B0 : Hp) (J : L2.It) (ds : List D) : Prop := ∃ (g : Hp → Prop) (Y : Nat → Hp → V → Hp → Prop), Walk J ds.length g Y ∧ (∀ H, Sm B0 H → g H) ∧
  ∀ i H x H', Y i H x H' → ∀ n ad M, n0 ≤ n → (∀ k, k < n0 → ad k = ad0 k) → Sm B0 (msk H M) → (∀ p, M p → ∃ o, H p = some o) → ∃ d, ds[i]? = some d ∧ Same H H' ∧ RepD N n ad (msk H' M) x d
def tI (N : Nms) (W : WX) (m : M (List D)) : TI := fun σ H R => ∃ ad s F, Rel N ad σ H s F ∧ Gar N W ad σ H s F (m s) fun ds s' ad' H' => ∀ J, Wlk N s'.cel.length ad' (msk H' (Mk ad' σ s' F)) J ds → R J H'
theorem pi_imp {tg it : Expr} {t t' : TI} (h : PI X tg it t) (i : ∀ σ H Q, t' σ H Q → t σ H Q) : PI X tg it t' := ⟨fun pins s σ H Q I hw => h.run pins s σ H Q I (i _ _ _ hw)⟩
section
variable {n0 : Nat} {ad0 : Nat → Addr} {B0 : Hp} {a : Addr} {xs : List V} {ds : List D}
theorem wlk_list (s : SqL N.K B0 a xs) (r : RepDs N n0 ad0 B0 xs ds) : Wlk N n0 ad0 B0 (Itl N.K a) ds := by
  refine ⟨fun H => SqL N.K H a xs, YAt xs, ?_, fun H k => SqL.sm k s, ?_⟩
  · have := walk_list (K := N.K) (a := a) (xs := xs)
    rw [r.length] at this; exact this
  · rintro i H x H' ⟨rfl, e⟩ n ad M hn ha k hM
    obtain ⟨d, h1, h2⟩ := r.getV e
    exact ⟨d, h1, Same.refl _, h2.mono hn ha k⟩
theorem wlk_tup (s : SqT N.K B0 a xs) (r : RepDs N n0 ad0 B0 xs ds) : Wlk N n0 ad0 B0 (Itt N.K a) ds := by
  refine ⟨fun H => SqT N.K H a xs, YAt xs, ?_, fun H k => SqT.sm k s, ?_⟩
  · have := walk_tup (K := N.K) (a := a) (xs := xs)
    rw [r.length] at this; exact this
  · rintro i H x H' ⟨rfl, e⟩ n ad M hn ha k hM
    obtain ⟨d, h1, h2⟩ := r.getV e
    exact ⟨d, h1, Same.refl _, h2.mono hn ha k⟩
theorem enumFrom_len (k0 : Int) : ∀ (ds : List D) , (enumFrom k0 ds).length = ds.length := fun ds => by
  induction ds generalizing k0 with
  | nil => rfl
  | cons d ds ih => simp [enumFrom, ih]
theorem enumFrom_get : ∀ (ds : List D) (k0 : Int) (i : Nat) (d : D), ds[i]? = some d → (enumFrom k0 ds)[i]? = some (.tup [.int (k0 + i), d])
  | [], _, _, _, h => by simp at h
  | x :: xs, k0, 0, d, h => by
    have h : x = d := by simpa using h
    subst h
    simp [enumFrom]
  | x :: xs, k0, i + 1, d, h => by
    have := enumFrom_get xs (k0 + 1) i d (by simpa using h)
    simp only [enumFrom, List.getElem?_cons_succ, this]
    congr 3
    have : k0 + 1 + (i : Int) = k0 + ((i + 1 : Nat) : Int) := by omega
    rw [this]
theorem yld_pair {i : Nat} {k0 : Int} {H : Hp} {x : V} {H' : Hp} {f : Nat → Option V} (r : RepDs N n0 ad0 B0 xs ds) (hf : ∀ i x, f i = some x → xs[i]? = some x) (y : YPair (fun i => some (.int (k0 + (i : Nat)))) f i H x H') (n : Nat) (ad : Nat → Addr) (M : Addr → Prop)
    (hn : n0 ≤ n) (ha : ∀ k, k < n0 → ad k = ad0 k) (k : Sm B0 (msk H M)) (hM : ∀ p, M p → ∃ o, H p = some o) : ∃ d, (enumFrom k0 ds)[i]? = some d ∧ Same H H' ∧ RepD N n ad (msk H' M) x d := by
  obtain ⟨T, u, w, rfl, hT, rfl, e1, e2⟩ := y
  cases e1
  obtain ⟨d, h1, h2⟩ := r.getV (hf i w e2)
  exact ⟨_, enumFrom_get ds k0 i d h1, new_same hT, new_tup hM hT (.cons (.int _) (.cons (h2.mono hn ha k) .nil))⟩
theorem wlk_enumL (k0 : Int) (s : SqL N.K B0 a xs) (r : RepDs N n0 ad0 B0 xs ds) : Wlk N n0 ad0 B0 (IteL N.K a k0) (enumFrom k0 ds) := by
  refine ⟨fun H => SqL N.K H a xs, YPair (fun i => some (.int (k0 + (i : Nat)))) (fun i => xs[i]?), ?_, fun H k => SqL.sm k s, fun i H x H' y n ad M => yld_pair r (fun i x h => h) y n ad M⟩
  rw [enumFrom_len, ← r.length]
  refine ⟨fun i H hi h => ?_, fun H h => ⟨xs, h, rfl⟩, fun i H x H' hi h y => ?_⟩
  · exact ⟨xs, xs[i], h, List.getElem?_eq_getElem hi⟩
  · obtain ⟨T, u, e1, e2, e3, e4⟩ := y
    exact ⟨T, _, u, e1, e2, e3, rfl, e4 xs h⟩
theorem wlk_enumT (k0 : Int) (s : SqT N.K B0 a xs) (r : RepDs N n0 ad0 B0 xs ds) : Wlk N n0 ad0 B0 (IteT N.K a k0) (enumFrom k0 ds) := by
  refine ⟨fun H => SqT N.K H a xs, YPair (fun i => some (.int (k0 + (i : Nat)))) (fun i => xs[i]?), ?_, fun H k => SqT.sm k s, fun i H x H' y n ad M => yld_pair r (fun i x h => h) y n ad M⟩
  rw [enumFrom_len, ← r.length]
  refine ⟨fun i H hi h => ?_, fun H h => ⟨xs, h, rfl⟩, fun i H x H' hi h y => ?_⟩
  · exact ⟨xs, xs[i], h, List.getElem?_eq_getElem hi⟩
  · obtain ⟨T, u, e1, e2, e3, e4⟩ := y
    exact ⟨T, _, u, e1, e2, e3, rfl, e4 xs h⟩
theorem wlk_range (lo hi : Int) : Wlk N n0 ad0 B0 (Itr lo (hi - lo).toNat) ((rangeL lo hi).map .int) := by
  have hl : ((rangeL lo hi).map D.int).length = (hi - lo).toNat := by simp [rangeL]
  refine ⟨fun _ => True, fun i H x H' => i < (hi - lo).toNat ∧ YFn (fun i => .int (lo + (i : Nat))) i H x H', ?_, fun _ _ => trivial, ?_⟩
  · have := walk_range (lo := lo) (n := (hi - lo).toNat)
    rw [hl]
    exact this.mono (fun _ h => h) (fun i H x H' hi _ y => ⟨hi, y⟩)
  · rintro i H x H' ⟨hi, rfl, rfl⟩ n ad M hn ha k hM
    refine ⟨.int (lo + (i : Nat)), ?_, Same.refl _, .int _⟩
    simp [rangeL, hi]
end
/-! ### what the core's walks read -/
theorem walkD_inv {ad : Nat → Addr} {σ : L2.St} {H : Hp} {s : S} {F : Addr → Prop} {pv : PV} {v : V} {K : List D → S → (Nat → Addr) → Hp → Prop} (R : Rel N ad σ H s F) (r : RepPV N ad σ H s F v pv) (h : Gar N W ad σ H s F (walkD pv s) K) :
    ∃ a xs ds s', v = .ref a ∧ Rel N ad σ H s' F ∧ Post ad σ H s ad σ H s' F ∧ (SqL N.K (msk H (Mk ad σ s' F)) a xs ∨ SqT N.K (msk H (Mk ad σ s' F)) a xs) ∧ RepDs N s'.cel.length ad (msk H (Mk ad σ s' F)) xs ds ∧ K ds s' ad H := by
  have go : ∀ {pv : PV}, RepPV N ad σ H s F v pv → Gar N W ad σ H s F (M.bind pv.store (fun x => M.of x.items) s) K →
      ∃ a xs ds s', v = .ref a ∧ Rel N ad σ H s' F ∧ Post ad σ H s ad σ H s' F ∧ (SqL N.K (msk H (Mk ad σ s' F)) a xs ∨ SqT N.K (msk H (Mk ad σ s' F)) a xs) ∧ RepDs N s'.cel.length ad (msk H (Mk ad σ s' F)) xs ds ∧ K ds s' ad H := fun {pv} r h => by
    obtain ⟨d, s', R', P', rd, k⟩ := store_ok R r (Gar.bind h)
    cases d with
    | lst ds =>
      cases rd with
      | lst q1 q2 => exact ⟨_, _, _, s', rfl, R', P', .inl q1, q2, Gar.pure R' k⟩
    | tup ds =>
      cases rd with
      | tup q1 q2 => exact ⟨_, _, _, s', rfl, R', P', .inr q1, q2, Gar.pure R' k⟩
    | _ => exact k.elim
  cases pv with
  | d x =>
    cases x with
    | ref k => exact h.elim
    | _ => exact go r h
  | own i => exact go r h
/-- a list or a tuple -/
theorem pi_seq {tg l : Expr} {tl : TE} (hl : PE X l tl) : PI X tg l (fun σ H R => tl σ H fun x H1 => ∃ a xs, x = .ref a ∧ ((SqL X.K H1 a xs ∧ R (Itl X.K a) H1) ∨ (SqT X.K H1 a xs ∧ R (Itt X.K a) H1))) := by
  refine ⟨fun pins s σ H R I h => ?_⟩
  refine thn (hl.run pins s σ H _ I h) fun v s1 ⟨x, H1, I1, r1, a, xs, e, q1⟩ => ?_
  subst e
  cases r1
  rcases q1 with ⟨hq, q⟩ | ⟨hq, q⟩
  · obtain ⟨its, rv, p, hz⟩ := I1.list hq
    refine wpAny_pyIter_list p.isList ?_
    refine ⟨s1.heap.objs.size, [s1.heap.objs.size], _, _, H1, rfl, I1.kept (t' := s1.toks) fun b o e => Heap.get?_push_of_some _ e, turn_list a _, ⟨_, Heap.get?_push_size _ rfl, rfl, rfl⟩, fun b hb => ?_, q⟩
    have e : b = s1.heap.objs.size := by simpa using hb
    subst e
    exact I1.fpOk (Nat.le_refl _) (I1.hok.fresh (Nat.le_refl _))
  · obtain ⟨its, rv, p, hz⟩ := I1.tuple hq
    refine wpAny_pyIter_tuple (show s1.heap.IsTuple a its.toArray from p) ?_
    refine ⟨s1.heap.objs.size, [s1.heap.objs.size], _, _, H1, rfl, I1.kept (t' := s1.toks) fun b o e => Heap.get?_push_of_some _ e, turn_tuple a _, ⟨_, Heap.get?_push_size _ rfl, rfl, rfl⟩, fun b hb => ?_, q⟩
    have e : b = s1.heap.objs.size := by simpa using hb
    subst e
    exact I1.fpOk (Nat.le_refl _) (I1.hok.fresh (Nat.le_refl _))
theorem tI_val {m : M PV} : ∀ σ H R, tI N W (M.bind m walkD) σ H R → (tX N W m) σ H fun x H1 => ∃ a xs, x = .ref a ∧ ((SqL N.K H1 a xs ∧ R (Itl N.K a) H1) ∨ (SqT N.K H1 a xs ∧ R (Itt N.K a) H1)) := by
  rintro σ H Q ⟨ad, s, F, R, h⟩
  refine ⟨ad, s, F, R, (Gar.bind h).mono fun pv s1 ad1 H1 R1 P1 h1 v rv => ?_⟩
  obtain ⟨a, xs, ds, s', rfl, R', P', q, rd, k⟩ := walkD_inv R1 rv h1
  refine ⟨a, xs, rfl, ?_⟩
  rcases q with q | q
  · exact .inl ⟨SqL.sm sm_le q, k _ (wlk_list q rd)⟩
  · exact .inr ⟨SqT.sm sm_le q, k _ (wlk_tup q rd)⟩
theorem tI_enum {m : M PV} {k0 : Int} : ∀ σ H R, tI N W (M.bind m fun x => M.bind (walkD x) fun xs => M.pure (enumFrom k0 xs)) σ H R → (tX N W m) σ H fun x H1 => rEnum N.K k0 x H1 R := by
  rintro σ H Q ⟨ad, s, F, R, h⟩
  refine ⟨ad, s, F, R, (Gar.bind h).mono fun pv s1 ad1 H1 R1 P1 h1 v rv => ?_⟩
  obtain ⟨a, xs, ds, s', rfl, R', P', q, rd, k⟩ := walkD_inv R1 rv (Gar.bind h1)
  have k := Gar.pure R' k
  refine ⟨a, xs, rfl, ?_⟩
  rcases q with q | q
  · exact .inl ⟨SqL.sm sm_le q, k _ (wlk_enumL k0 q rd)⟩
  · exact .inr ⟨SqT.sm sm_le q, k _ (wlk_enumT k0 q rd)⟩
theorem sml_of {i : Int} (h : sml i = true) : -(2 ^ 62) ≤ i ∧ i < 2 ^ 62 := by
  unfold sml big at h
  simpa using h
theorem rngF_inv {x y : PV} {q : Int × Int} (h : rngF x y = some q) : x = .d (.int q.1) ∧ y = .d (.int q.2) ∧ sml q.1 = true ∧ sml q.2 = true := by
  unfold rngF at h
  split at h
  · split at h
    · rename_i hc
      simp only [Bool.and_eq_true] at hc
      cases h
      exact ⟨rfl, rfl, hc.1, hc.2⟩
    · cases h
  · cases h
theorem of_inv {α : Type} {ad : Nat → Addr} {σ : L2.St} {H : Hp} {s : S} {F : Addr → Prop} {o : Option α} {K : α → S → (Nat → Addr) → Hp → Prop} (R : Rel N ad σ H s F) (h : Gar N W ad σ H s F (M.of o s) K) : ∃ a, o = some a ∧ K a s ad H := by
  cases o with
  | none => exact h.elim
  | some a => exact ⟨a, rfl, Gar.pure R h⟩
theorem tI_rng1 {m : M PV} : ∀ σ H R, tI N W (M.bind m fun x => M.of ((rngF (.d (.int 0)) x).map fun q => (rangeL q.1 q.2).map .int)) σ H R → iRng1 (tCons (tX N W m) tNil) σ H R := by
  rintro σ H Q ⟨ad, s, F, R, h⟩
  refine ⟨ad, s, F, R, (Gar.bind h).mono fun pv s1 ad1 H1 R1 P1 h1 v rv => ?_⟩
  obtain ⟨ds, e, k⟩ := of_inv R1 h1
  cases hr : rngF (.d (.int 0)) pv with
  | none => rw [hr] at e; cases e
  | some q =>
    rw [hr] at e; cases e
    obtain ⟨e1, rfl, s1, s2⟩ := rngF_inv hr
    have e1 : (0 : Int) = q.1 := by injection e1 with e1; injection e1
    cases rv
    have b := sml_of s2
    refine ⟨q.2, rfl, b.1, b.2, ?_⟩
    have := k _ (wlk_range q.1 q.2)
    rw [← e1] at this
    have e : (q.2 - 0).toNat = q.2.toNat := by rw [Int.sub_zero]
    rwa [e] at this
theorem tI_rng2 {m m2 : M PV} : ∀ σ H R, tI N W (M.bind m fun x => M.bind m2 fun y => M.of ((rngF x y).map fun q => (rangeL q.1 q.2).map .int)) σ H R → iRng2 (tCons (tX N W m) (tCons (tX N W m2) tNil)) σ H R := by
  rintro σ H Q ⟨ad, s, F, R, h⟩
  refine ⟨ad, s, F, R, (Gar.bind h).mono fun pv s1 ad1 H1 R1 P1 h1 v rv => ?_⟩
  refine ⟨ad1, s1, F, R1, (Gar.bind h1).mono fun pv2 s2 ad2 H2 R2 P2 h2 v2 rv2 => ?_⟩
  obtain ⟨ds, e, k⟩ := of_inv R2 h2
  cases hr : rngF pv pv2 with
  | none => rw [hr] at e; cases e
  | some q =>
    rw [hr] at e; cases e
    obtain ⟨rfl, rfl, s1, s2⟩ := rngF_inv hr
    cases rv
    cases rv2
    have b := sml_of s1
    have b2 := sml_of s2
    exact ⟨q.1, q.2, rfl, ⟨b.1, b.2, b2.1, b2.2⟩, k _ (wlk_range q.1 q.2)⟩
end Ev

set_option autoImplicit false
set_option linter.all false
set_option maxRecDepth 100000
/-! Targets; comprehensions. -/
namespace Ev
open PySem L2 PyProof.Rows
variable {T : Nam} {N : Nms} {G : Tab} {c : Sx} {X : Cx} {W : WX}
def Tgs.len : Tgs → Nat
  | .nil => 0
  | .cons _ ts => ts.len + 1
mutual
def gTg (K : PySem.W.Frag) : Tg → TG
  | .v i => gName i
  | .tup ts => gTup K ts.len (gTgs K ts)
def gTgs (K : PySem.W.Frag) : Tgs → TGs
  | .nil => gNil
  | .cons t ts => gCons (gTg K t) (gTgs K ts)
end
/-- sets of slots among vs -/
inductive SetIn (vs : List Nat) : L2.St → L2.St → Prop
  | refl (σ : L2.St) : SetIn vs σ σ
  | step {σ σ' : L2.St} {i : Nat} {v : Option V} : SetIn vs (σ.set i v) σ' → i ∈ vs → SetIn vs σ σ'
theorem SetIn.trans {vs : List Nat} {σ σ' σ2 : L2.St} (h : SetIn vs σ σ') : SetIn vs σ' σ2 → SetIn vs σ σ2 := by
  induction h with
  | refl => exact id
  | step _ hi ih => exact fun k => .step (ih k) hi
theorem wipe_set (vs : List Nat) : ∀ (σ : L2.St) (i : Nat) (v : Option V), i ∈ vs → L2.wipe (σ.set i v) vs = L2.wipe σ vs := by
  induction vs with
  | nil => intro σ i v h; simp at h
  | cons j vs ih =>
    intro σ i v h
    unfold L2.wipe
    by_cases hij : i ∈ vs
    · rw [ih σ i v hij]
    · have e : i = j := by
        rcases List.mem_cons.mp h with h | h
        · exact h
        · exact absurd h hij
      subst e
      have comm : ∀ (ws : List Nat) (σ : L2.St), i ∉ ws → L2.wipe (σ.set i v) ws = (L2.wipe σ ws).set i v := by
        intro ws
        induction ws with
        | nil => intro σ _; rfl
        | cons k ws ih2 =>
          intro σ hn
          unfold L2.wipe
          rw [ih2 σ fun z => hn (List.mem_cons_of_mem _ z)]
          exact List.set_comm _ _ (fun z => hn (by rw [z]; exact List.mem_cons_self ..))
      rw [comm vs σ hij, List.set_set]
theorem SetIn.wipe {vs : List Nat} {σ σ' : L2.St} (h : SetIn vs σ σ') : L2.wipe σ' vs = L2.wipe σ vs := by
  induction h with
  | refl => rfl
  | step _ hi ih => rw [ih, wipe_set vs _ _ _ hi]
section
variable {ad : Nat → Addr} {H : Hp} {F : Addr → Prop}
mutual
theorem bind_ok {vs : List Nat} : ∀ (t : Tg) (x : D) (v : V) {σ : L2.St} {s s1 : S} {Q : L2.St → Hp → Prop}, (∀ i ∈ tgSl t, i ∈ vs) → bindT t x s = some s1 → Rel N ad σ H s F → RepD N s.cel.length ad (msk H (Mk ad σ s F)) v x →
    (∀ σ1, Rel N ad σ1 H s1 F → Post ad σ H s ad σ1 H s1 F → SetIn vs σ σ1 → Q σ1 H) → gTg N.K t v σ H Q
  | .v i, x, v, σ, s, s1, Q, hv, e, R, r, k => by
    have e : some ({ s with loc := s.loc.set i (some (.d x)) } : S) = some s1 := e
    cases e
    obtain ⟨R1, P1⟩ := R.setD i r
    exact k _ R1 P1 (.step (.refl _) (hv i (by simp [tgSl])))
  | .tup ts, x, v, σ, s, s1, Q, hv, e, R, r, k => by
    cases x with
    | tup xs =>
      have e : bindTs ts xs s = some s1 := e
      cases r with
      | tup sq rs =>
        refine ⟨_, _, rfl, SqT.sm sm_le sq, ?_, binds_ok (vs := vs) ts xs _ (fun i hi => hv i hi) e R rs k⟩
        rw [rs.length]
        exact bindTs_len ts xs e
    | _ => exact nomatch (show (none : Option S) = some s1 from e)
theorem binds_ok {vs : List Nat} : ∀ (ts : Tgs) (xs : List D) (ws : List V) {σ : L2.St} {s s1 : S} {Q : L2.St → Hp → Prop}, (∀ i ∈ tgSls ts, i ∈ vs) → bindTs ts xs s = some s1 → Rel N ad σ H s F → RepDs N s.cel.length ad (msk H (Mk ad σ s F)) ws xs →
    (∀ σ1, Rel N ad σ1 H s1 F → Post ad σ H s ad σ1 H s1 F → SetIn vs σ σ1 → Q σ1 H) → gTgs N.K ts ws σ H Q
  | .nil, [], ws, σ, s, s1, Q, hv, e, R, r, k => by
    have e : some s = some s1 := e
    cases e
    cases r
    exact ⟨rfl, k σ R Post.refl (.refl _)⟩
  | .nil, _ :: _, ws, σ, s, s1, Q, hv, e, R, r, k => nomatch (show (none : Option S) = some s1 from e)
  | .cons _ _, [], ws, σ, s, s1, Q, hv, e, R, r, k => nomatch (show (none : Option S) = some s1 from e)
  | .cons t ts, x :: xs, ws, σ, s, s1, Q, hv, e, R, r, k => by
    have e : (bindT t x s).bind (bindTs ts xs) = some s1 := e
    cases hb : bindT t x s with
    | none => rw [hb] at e; cases e
    | some s' =>
      rw [hb] at e
      cases r with
      | cons r1 r2 =>
        refine ⟨_, _, rfl, bind_ok (vs := vs) t x _ (fun i hi => hv i (by simp [tgSls, hi])) hb R r1 fun σ1 R1 P1 S1 => ?_⟩
        exact binds_ok (vs := vs) ts xs _ (fun i hi => hv i (by simp [tgSls, hi])) e R1 (P1.reps r2) fun σ2 R2 P2 S2 => k σ2 R2 (P1.trans P2) (S1.trans S2)
theorem bindTs_len : ∀ (ts : Tgs) (xs : List D) {s s1 : S}, bindTs ts xs s = some s1 → xs.length = ts.len
  | .nil, [], s, s1, e => rfl
  | .nil, _ :: _, s, s1, e => nomatch (show (none : Option S) = some s1 from e)
  | .cons _ _, [], s, s1, e => nomatch (show (none : Option S) = some s1 from e)
  | .cons t ts, x :: xs, s, s1, e => by
    have e : (bindT t x s).bind (bindTs ts xs) = some s1 := e
    cases hb : bindT t x s with
    | none => rw [hb] at e; cases e
    | some s' =>
      rw [hb] at e
      have := bindTs_len ts xs e
      simp [Tgs.len, this]
end
end
/-- what a context says of names that are stored -/
structure TOk (c : Sx) (X : Cx) : Prop where
  hN : X.N = c.N
  nd : c.N.Nodup
  sc : X.env.scope = c.sc
  calm : c.hot = false → X.calm = true
  fnc : ∀ x, c.ow.names.lookup x = some .cell → X.fn x = true
theorem starE {e : Expr} {es : List Expr} {env : Env} (h : plainE e = true) : starEach (e :: es) env = (false, eval e env) :: starEach es env := by
  cases e <;> first | rfl | (simp [plainE] at h)
mutual
theorem pg_core (o : TOk c X) (hK : X.K = N.K) : ∀ (t : Tg) (e : Expr), okTg c t e = true → PG X e (gTg N.K t)
  | .v i, e, h => by
    cases e <;> try (exact nomatch (show false = true from h))
    rename_i x p
    have h : (decide (c.N[i]? = some x) && (locB c.sc x || celB c.sc x && celB c.ow x)) = true := h
    simp only [Bool.and_eq_true, decide_eq_true_eq, Bool.or_eq_true] at h
    obtain ⟨h1, h2⟩ := h
    have cl : ∀ {sc : Scope}, celB sc x = true → sc.names.lookup x = some .cell := fun {sc} h => by
      unfold celB at h
      split at h
      · assumption
      · cases h
    have lk : c.sc.names.lookup x = some .local ∨ (c.sc.names.lookup x = some .cell ∧ c.ow.names.lookup x = some .cell) := by
      rcases h2 with h2 | h2
      · unfold locB at h2
        split at h2
        · exact .inl ‹_›
        · cases h2
      · exact .inr ⟨cl h2.1, cl h2.2⟩
    refine pg_name (by rw [o.hN]; exact o.nd) (by rw [o.hN]; exact h1) ?_ ?_
    · unfold L2.Loc; rw [o.sc]; exact lk.imp id And.left
    · rw [o.sc]
      rcases lk with lk | lk
      · exact .inr lk
      · exact .inl (o.fnc x lk.2)
  | .tup ts, e, h => by
    cases e <;> try (exact nomatch (show false = true from h))
    rename_i es k p
    have h : (okTgs c ts es && !c.hot) = true := h
    simp only [Bool.and_eq_true, Bool.not_eq_true'] at h
    obtain ⟨h1, h2⟩ := h
    obtain ⟨q1, q2, q3⟩ := pgs_core o hK ts es h1
    show PG X _ (gTup N.K ts.len (gTgs N.K ts))
    rw [← hK]
    exact pg_tup (o.calm h2) (by rw [hK]; exact q1) q2 q3
theorem pgs_core (o : TOk c X) (hK : X.K = N.K) : ∀ (ts : Tgs) (es : List Expr), okTgs c ts es = true → PGs X es (gTgs N.K ts) ∧ (assignEach es X.env).length = ts.len ∧ (assignEach es X.env).findIdx? (·.1) = none
  | .nil, es, h => by
    cases es with
    | nil => exact ⟨pgs_nil, rfl, rfl⟩
    | cons => exact nomatch (show false = true from h)
  | .cons t ts, es, h => by
    cases es with
    | nil => exact nomatch (show false = true from h)
    | cons e es =>
      have h : (okTg c t e && okTgs c ts es) = true := h
      simp only [Bool.and_eq_true] at h
      obtain ⟨q1, q2, q3⟩ := pgs_core o hK ts es h.2
      have pe : plainE e = true := by
        cases e <;> first | rfl | (cases t <;> exact nomatch (show false = true from h.1))
      have ae : assignEach (e :: es) X.env = (false, assign e X.env) :: assignEach es X.env := by
        cases e <;> first | rfl | (simp [plainE] at pe)
      refine ⟨pgs_cons (pg_core o hK t e h.1) q1 (by rw [ae]; rfl), by rw [ae, List.length_cons, q2]; rfl, ?_⟩
      rw [ae, List.findIdx?_cons]
      simp [q3]
end
end Ev

set_option autoImplicit false
set_option linter.all false
set_option maxRecDepth 100000
/-! Comprehensions. -/
namespace Ev
open PySem L2 PyProof.Rows
variable {T : Nam} {N : Nms} {G : Tab} {c : Sx} {X : Cx} {W : WX}
theorem foldl_set_len {α : Type} (f : Nat → α) : ∀ (own : List Nat) (l : List α), (own.foldl (fun l i => l.set i (f i)) l).length = l.length
  | [], l => rfl
  | j :: own, l => by rw [List.foldl_cons, foldl_set_len f own, List.length_set]
theorem foldl_set_get {α : Type} (f : Nat → α) : ∀ (own : List Nat) (l : List α) (i : Nat), (own.foldl (fun l i => l.set i (f i)) l)[i]? = if i ∈ own ∧ i < l.length then some (f i) else l[i]?
  | [], l, i => by simp
  | j :: own, l, i => by
    rw [List.foldl_cons, foldl_set_get f own (l.set j (f j)) i, List.length_set]
    by_cases h : i ∈ own ∧ i < l.length
    · rw [if_pos h, if_pos ⟨List.mem_cons_of_mem _ h.1, h.2⟩]
    · rw [if_neg h, List.getElem?_set]
      by_cases e : j = i
      · subst e
        by_cases hl : j < l.length
        · simp [hl]
        · simp [hl]
      · rw [if_neg e]
        have : ¬ (i ∈ j :: own ∧ i < l.length) := fun ⟨a, b⟩ => h ⟨(List.mem_cons.mp a).resolve_left fun z => e z.symm, b⟩
        rw [if_neg this]
theorem l2wipe_get (σ : L2.St) : ∀ (own : List Nat) (i : Nat), (L2.wipe σ own)[i]? = if i ∈ own ∧ i < σ.length then some none else σ[i]?
  | [], i => by simp [L2.wipe]
  | j :: own, i => by
    unfold L2.wipe
    rw [List.getElem?_set, L2.wipe_length, l2wipe_get σ own i]
    by_cases e : j = i
    · subst e
      by_cases hl : j < σ.length
      · simp [hl]
      · simp [hl]
    · rw [if_neg e]
      by_cases h : i ∈ own ∧ i < σ.length
      · rw [if_pos h, if_pos ⟨List.mem_cons_of_mem _ h.1, h.2⟩]
      · rw [if_neg h, if_neg fun ⟨a, b⟩ => h ⟨(List.mem_cons.mp a).resolve_left fun z => e z.symm, b⟩]
theorem wipe_get (own : List Nat) (s : S) (i : Nat) : (wipe own s).loc[i]? = if i ∈ own ∧ i < s.loc.length then some none else s.loc[i]? := foldl_set_get (fun _ => none) own s.loc i
theorem wipe_cel (own : List Nat) (s : S) : (wipe own s).cel = s.cel := rfl
theorem wipe_llen (own : List Nat) (s : S) : (wipe own s).loc.length = s.loc.length := foldl_set_len (fun _ => none) own s.loc
section
variable {ad ad' ad1 : Nat → Addr} {σ : L2.St} {H H1 : Hp} {s s1 : S} {F : Addr → Prop}
theorem wipe_sl {own : List Nat} {i : Nat} {cc : Cell} (h : (wipe own s).get (.sl i) = some cc) : s.get (.sl i) = some cc ∧ i ∉ own := by
  rw [get_sl, wipe_get] at h
  split at h
  · cases h
  · rename_i hn
    refine ⟨get_sl.mpr h, fun hi => hn ⟨hi, ?_⟩⟩
    exact (List.getElem?_eq_some_iff.mp h).1
/-- the own slots are forgotten on both sides -/
theorem Rel.wipeBoth (own : List Nat) (R : Rel N ad σ H s F) : Rel N ad (L2.wipe σ own) H (Ev.wipe own s) F ∧ Post ad σ H s ad (L2.wipe σ own) H (Ev.wipe own s) F := by
  have ag : ∀ l cc, (Ev.wipe own s).get l = some cc → s.get l = some cc ∧ adr ad (L2.wipe σ own) l = adr ad σ l := fun l cc h => by
    cases l with
    | sl i =>
      obtain ⟨h1, h2⟩ := wipe_sl h
      refine ⟨h1, ?_⟩
      simp only [adr, l2wipe_get, h2, false_and, if_false]
    | id k => exact ⟨h, rfl⟩
  have sm : Sm (msk H (Mk ad σ s F)) (msk H (Mk ad (L2.wipe σ own) (Ev.wipe own s) F)) := sm_sub fun a => Mk.sub fun l cc h => let ⟨h1, h2⟩ := ag l cc h; ⟨cc, h1, h2⟩
  refine ⟨⟨?_, ?_, ?_, ?_, ?_⟩, ⟨fun _ _ => rfl, Nat.le_refl _, wipe_llen own s, sm, fun _ _ => rfl⟩⟩
  · rw [L2.wipe_length, wipe_llen, R.len]
  · intro i x h
    rw [wipe_get] at h
    split at h
    · cases h
    · rename_i hn
      obtain ⟨v, e, r⟩ := R.dat i x h
      refine ⟨v, ?_, r.mono (Nat.le_refl _) (fun _ _ => rfl) sm⟩
      rw [l2wipe_get, if_neg (by rw [R.len]; exact hn)]
      exact e
  · intro l cc h
    obtain ⟨h1, h2⟩ := ag l cc h
    obtain ⟨a, e, ok⟩ := R.own l cc h1
    exact ⟨a, h2.trans e, ok.mono (Nat.le_refl _) (fun _ _ => rfl) sm rfl⟩
  · intro l l' c1 c2 a h h' e e'
    obtain ⟨h1, h2⟩ := ag l c1 h
    obtain ⟨h1', h2'⟩ := ag l' c2 h'
    exact R.inj l l' c1 c2 a h1 h1' (h2.symm.trans e) (h2'.symm.trans e')
  · intro a h
    refine ⟨(R.frn a h).1, fun l cc h' e => ?_⟩
    obtain ⟨h1, h2⟩ := ag l cc h'
    exact (R.frn a h).2 l cc h1 (h2.symm.trans e)
/-- a comprehension's own names are as they were -/
theorem Rel.unown {F' : Addr → Prop} (own : List Nat) (R1 : Rel N ad1 σ H1 s1 F) (R : Rel N ad (L2.wipe σ own) H (Ev.wipe own s) F') (agr : ∀ k, k < s1.cel.length → ad k = ad1 k) (len : s1.cel.length ≤ s.cel.length)
    (sm1 : Sm (msk H1 (Mk ad1 σ s1 F)) (msk H (Mk ad (L2.wipe σ own) (Ev.wipe own s) F'))) (hl : s.loc.length = s1.loc.length) :
    Rel N ad σ H (Ev.unown own s1.loc s) F' ∧ Sm (msk H (Mk ad (L2.wipe σ own) (Ev.wipe own s) F')) (msk H (Mk ad σ (Ev.unown own s1.loc s) F')) := by
  have gl : ∀ i, (Ev.unown own s1.loc s).loc[i]? = if i ∈ own ∧ i < s.loc.length then some (LV.dat ((s1.loc[i]?).getD none)) else s.loc[i]? := fun i => foldl_set_get (fun i => LV.dat ((s1.loc[i]?).getD none)) own s.loc i
  have ll : (Ev.unown own s1.loc s).loc.length = s.loc.length := foldl_set_len (fun i => LV.dat ((s1.loc[i]?).getD none)) own s.loc
  have nd : ∀ (o : Option LV) cc, LV.dat o ≠ some (.own cc) := fun o cc e => by
    unfold LV.dat at e
    split at e
    · cases e
    · cases e
  have ag : ∀ l cc, (Ev.unown own s1.loc s).get l = some cc → (Ev.wipe own s).get l = some cc ∧ adr ad σ l = adr ad (L2.wipe σ own) l := fun l cc h => by
    cases l with
    | sl i =>
      rw [get_sl, gl] at h
      split at h
      · exact absurd (Option.some.inj h) (nd _ _)
      · rename_i hn
        have hi : i < s.loc.length := (List.getElem?_eq_some_iff.mp h).1
        have ho : i ∉ own := fun z => hn ⟨z, hi⟩
        refine ⟨?_, ?_⟩
        · rw [get_sl, wipe_get, if_neg fun z => ho z.1]; exact h
        · simp only [adr, l2wipe_get, ho, false_and, if_false]
    | id k => exact ⟨h, rfl⟩
  have sm : Sm (msk H (Mk ad (L2.wipe σ own) (Ev.wipe own s) F')) (msk H (Mk ad σ (Ev.unown own s1.loc s) F')) := sm_sub fun a => Mk.sub fun l cc h => let ⟨h1, h2⟩ := ag l cc h; ⟨cc, h1, h2⟩
  have cl : (Ev.unown own s1.loc s).cel = s.cel := rfl
  refine ⟨⟨?_, ?_, ?_, ?_, ?_⟩, sm⟩
  · rw [ll, hl]; exact R1.len
  · intro i x h
    rw [gl] at h
    split at h
    · rename_i hn
      have h := Option.some.inj h
      have e1 : s1.loc[i]? = some (some (LV.d x)) := by
        cases q : s1.loc[i]? with
        | none => rw [q] at h; cases h
        | some o =>
          rw [q] at h
          cases o with
          | none => cases h
          | some lv => cases lv <;> cases h; rfl
      obtain ⟨v, e, r⟩ := R1.dat i x e1
      exact ⟨v, e, r.mono len agr (sm1.trans sm)⟩
    · rename_i hn
      have hi : i < s.loc.length := (List.getElem?_eq_some_iff.mp h).1
      have ho : i ∉ own := fun z => hn ⟨z, hi⟩
      obtain ⟨v, e, r⟩ := R.dat i x (by rw [wipe_get, if_neg fun z => ho z.1]; exact h)
      rw [l2wipe_get, if_neg fun z => ho z.1] at e
      exact ⟨v, e, r.mono (Nat.le_refl _) (fun _ _ => rfl) sm⟩
  · intro l cc h
    obtain ⟨h1, h2⟩ := ag l cc h
    obtain ⟨a, e, ok⟩ := R.own l cc h1
    exact ⟨a, h2.trans e, ok.mono (Nat.le_refl _) (fun _ _ => rfl) sm rfl⟩
  · intro l l' c1 c2 a h h' e e'
    obtain ⟨h1, h2⟩ := ag l c1 h
    obtain ⟨h1', h2'⟩ := ag l' c2 h'
    exact R.inj l l' c1 c2 a h1 h1' (h2.symm.trans e) (h2'.symm.trans e')
  · intro a h
    refine ⟨(R.frn a h).1, fun l cc h' e => ?_⟩
    obtain ⟨h1, h2⟩ := ag l cc h'
    exact (R.frn a h).2 l cc h1 (h2.symm.trans e)
end
/-- Same under the mask, one object set apart -/
theorem PostN.grow {ad ad' : Nat → Addr} {σ σ' : L2.St} {H H' H2 : Hp} {s s' : S} {F : Addr → Prop} {p : Addr} (P : PostN ad σ H s ad' σ' H' s' F p) {ad2 : Nat → Addr} {σ2 : L2.St} {s2 : S} (Q : Post ad' σ' H' s' ad2 σ2 H2 s2 (FAdd F p)) : PostN ad σ H s ad2 σ2 H2 s2 F p :=
  ⟨fun k h => (Q.agr k (Nat.lt_of_lt_of_le h P.len)).trans (P.agr k h), Nat.le_trans P.len Q.len, Q.ll.trans P.ll, P.sm.trans Q.sm, fun a h => (Q.frn a (.inl h)).trans (P.frn a h), P.new⟩
/-- the object that is held aside is written -/
theorem Rel.putF {ad : Nat → Addr} {σ : L2.St} {H : Hp} {s : S} {F : Addr → Prop} {p : Addr} {o : HO} (R : Rel N ad σ H s (FAdd F p)) : Rel N ad σ (upd H p o) s (FAdd F p) ∧ Sm (msk H (Mk ad σ s (FAdd F p))) (msk (upd H p o) (Mk ad σ s (FAdd F p))) := by
  have hm : Mk ad σ s (FAdd F p) p := .inl (.inr rfl)
  have e : msk (upd H p o) (Mk ad σ s (FAdd F p)) = msk H (Mk ad σ s (FAdd F p)) := by
    funext a
    unfold msk
    by_cases h : Mk ad σ s (FAdd F p) a
    · rw [if_pos h, if_pos h]
    · rw [if_neg h, if_neg h, upd_ne fun z => h (by rw [z]; exact hm)]
  refine ⟨⟨R.len, fun i x h => ?_, fun l cc h => ?_, R.inj, fun a h => ?_⟩, by rw [e]; exact Sm.refl _⟩
  · rw [e]; exact R.dat i x h
  · obtain ⟨a, h1, h2⟩ := R.own l cc h
    refine ⟨a, h1, ?_⟩
    rw [e]
    have hne : a ≠ p := fun z => (R.frn p (.inr rfl)).2 l cc h (by rw [← z]; exact h1)
    exact h2.mono (Nat.le_refl _) (fun _ _ => rfl) (Sm.refl _) (upd_ne hne)
  · obtain ⟨⟨u, hu⟩, h2⟩ := R.frn a h
    refine ⟨?_, h2⟩
    by_cases hp : a = p
    · rw [hp]; exact ⟨o, upd_same⟩
    · exact ⟨u, by rw [upd_ne hp]; exact hu⟩
theorem wipe_idem (σ : L2.St) (own : List Nat) : L2.wipe (L2.wipe σ own) own = L2.wipe σ own := by
  refine List.ext_getElem? fun i => ?_
  rw [l2wipe_get, L2.wipe_length, l2wipe_get]
  by_cases h : i ∈ own ∧ i < σ.length
  · rw [if_pos h, if_pos h]
  · rw [if_neg h, if_neg h]
abbrev Wf : WX := fun _ _ _ _ => False
/-- a list that a comprehension makes: its reading, before it is taken as data -/
theorem lc_core {mi : M (List D)} {tg : Tg} {mt : M Bool} {me : M PV} {own : List Nat} (htg : ∀ i ∈ tgSl tg, i ∈ own) {σ : L2.St} {H : Hp} {ad : Nat → Addr} {s : S} {F : Addr → Prop} (R : Rel N ad σ H s F)
    {Q : VK} {Gd : (Nat → Addr) → Hp → S → Res (List D) → Prop} (hst : ∀ ad H s, ¬ Gd ad H s .stk) (h : Gar N W ad σ H s F (mi s) fun xs s1 ad1 H1 => Gd ad1 H1 s1 (lcM own (loopC tg mt (M.bind me PV.store) own [] xs) s1))
    (hQ : ∀ ts s' ad' H' D vacc ad1 H1 s1, Rel N ad' σ H' s' (FAdd F D) → PostN ad1 σ H1 s1 ad' σ H' s' F D → H' D = some (.lst vacc) → RepDs N s'.cel.length ad' (msk H' (Mk ad' σ s' (FAdd F D))) vacc ts → Gd ad1 H1 s1 (.ok ts s') → ts.length ≤ line → Q (.ref D) H') :
    tLc (tI N W mi) (gTg N.K tg) (tT N Wf mt) (tX N Wf me) own σ H Q := by
  refine ⟨ad, s, F, R, h.mono fun ds s1 ad1 H1 R1 P1 h1 J wk D hD => ?_⟩
  unfold lcM at h1
  cases hl : loopC tg mt (M.bind me PV.store) own [] ds s1 with
  | exc e s' => rw [hl] at h1; exact (hst _ _ _ h1).elim
  | stk => rw [hl] at h1; exact (hst _ _ _ h1).elim
  | ok ts sE =>
    rw [hl] at h1
    obtain ⟨g, Y, w, wG, wY⟩ := wk
    obtain ⟨R2, P2⟩ := R1.wipeBoth own
    obtain ⟨R3, sm3⟩ := R2.addF (o := .lst []) hD
    have N3 : PostN ad1 σ H1 s1 ad1 (L2.wipe σ own) (upd H1 D (.lst [])) (Ev.wipe own s1) F D := (P2.newP R2 hD)
    have base : Sm (msk H1 (Mk ad1 σ s1 F)) (msk (upd H1 D (.lst [])) (Mk ad1 (L2.wipe σ own) (Ev.wipe own s1) (FAdd F D))) := N3.sm
    refine lc_it w (fun i H => ∃ ad' s' acc vacc, Rel N ad' (L2.wipe σ own) H (Ev.wipe own s') (FAdd F D) ∧ PostN ad1 σ H1 s1 ad' (L2.wipe σ own) H (Ev.wipe own s') F D ∧ H D = some (.lst vacc) ∧
      RepDs N s'.cel.length ad' (msk H (Mk ad' (L2.wipe σ own) (Ev.wipe own s') (FAdd F D))) vacc acc ∧ loopC tg mt (M.bind me PV.store) own acc (ds.drop i) s' = .ok ts sE ∧ acc.length ≤ line) ?_ ?_ ?_ ?_
    · exact ⟨ad1, s1, [], [], R3, N3, upd_same, .nil, hl, Nat.zero_le _⟩
    · rintro i H hi ⟨ad', s', acc, vacc, R', P', _, _, _⟩
      exact wG H (P'.sm.trans sm_le)
    · rintro i x H H' hi ⟨ad', s', acc, vacc, R', P', hA, ra, hlp, hal⟩ y
      obtain ⟨d, hd, sH, rd⟩ := wY i H x H' y _ ad' _ P'.len P'.agr P'.sm (fun p m => R'.masked m)
      have hdrop : ds.drop i = d :: ds.drop (i + 1) := by
        have hi' := (List.getElem?_eq_some_iff.mp hd).1
        rw [List.drop_eq_getElem_cons hi']
        have := (List.getElem?_eq_some_iff.mp hd).2
        rw [this]
      rw [hdrop] at hlp
      unfold loopC at hlp
      cases hb : bindT tg d (Ev.wipe own s') with
      | none => simp only [hb] at hlp; cases hlp
      | some sb =>
        simp only [hb] at hlp
        have Rg := R'.grow sH
        have Pg := Post.grow R' sH
        refine bind_ok (N := N) (vs := own) tg d x htg hb Rg rd fun σ1 Rb Pb Sb => ⟨by rw [Sb.wipe, wipe_idem], ad', sb, FAdd F D, Rb, ?_⟩
        have hDb : H' D = some (.lst vacc) := sH _ _ hA
        have w1 : L2.wipe σ1 own = L2.wipe σ own := by rw [Sb.wipe, wipe_idem]
        cases hm : mt sb with
        | exc e s2 => simp only [hm] at hlp; cases hlp
        | stk => simp only [hm] at hlp; cases hlp
        | ok b s2 =>
          simp only [hm] at hlp
          intro ad2 H2 R2' P2'
          have P0 := (Pg.trans Pb).trans P2'
          have hD2 : H2 D = some (.lst vacc) := (P2'.frn D (.inr rfl)).trans hDb
          cases b with
          | false =>
            simp only at hlp
            simp only [Bool.false_eq_true, if_false]
            obtain ⟨Rw, Pw⟩ := R2'.wipeBoth own
            rw [w1] at Rw Pw
            have P3 := P0.trans Pw
            exact ⟨ad2, s2, acc, vacc, Rw, P'.grow P3, hD2, P3.reps ra, hlp, hal⟩
          | true =>
            simp only at hlp
            simp only [if_true]
            refine ⟨ad2, s2, FAdd F D, R2', ?_⟩
            have hbm : M.bind me PV.store s2 = (match me s2 with
              | .ok a s' => PV.store a s'
              | .exc e s' => .exc e s'
              | .stk => .stk) := by unfold M.bind; cases me s2 <;> rfl
            rw [hbm] at hlp
            cases he : me s2 with
            | exc e s3 => rw [he] at hlp; cases hlp
            | stk => rw [he] at hlp; cases hlp
            | ok pv s3 =>
              rw [he] at hlp
              simp only at hlp
              intro ad3 H3 R3' P3' v rv
              have hst : Gar N Wf ad3 σ1 H3 s3 (FAdd F D) (pv.store s3) (fun t s4 ad H => pv.store s3 = .ok t s4) := by
                cases hps : pv.store s3 with
                | ok t s4 => exact fun _ _ _ _ => rfl
                | exc e s4 => rw [hps] at hlp; cases hlp
                | stk => rw [hps] at hlp; cases hlp
              obtain ⟨t, s4, R4, P4, rt, e4⟩ := store_ok R3' rv hst
              rw [e4] at hlp
              simp only at hlp
              split at hlp
              · rename_i hlen
                have hD3 : H3 D = some (.lst vacc) := (P3'.frn D (.inr rfl)).trans hD2
                have P5 := (P0.trans P3').trans P4
                obtain ⟨Rw, Pw⟩ := R4.wipeBoth own
                rw [w1] at Rw Pw
                obtain ⟨Rq, smq⟩ := Rw.putF (o := .lst (vacc ++ [v]))
                have P6 := P5.trans Pw
                have vl : vacc.length < sizeLine := by rw [ra.length, sizeLine_line]; exact hlen
                have racc := (P6.reps ra).append (.cons (Pw.rep rt) .nil)
                refine ⟨vacc, hD3, vl, ad3, s4, acc ++ [t], vacc ++ [v], Rq, ?_, upd_same, racc.mono (Nat.le_refl _) (fun _ _ => rfl) smq, hlp, by simp; omega⟩
                have P7 := P'.grow P6
                exact ⟨P7.agr, P7.len, P7.ll, P7.sm.trans smq, fun a ha => by
                  rw [upd_ne fun z => P7.new (by rw [← z]; exact ha)]; exact P7.frn a ha, P7.new⟩
              · cases hlp
    · rintro H ⟨ad', s', acc, vacc, R', P', hA, ra, hlp, hal⟩
      rw [List.drop_length] at hlp
      have hlp : (Res.ok acc s' : Res (List Ev.D)) = .ok ts sE := hlp
      obtain ⟨rfl, rfl⟩ : acc = ts ∧ s' = sE := by
        injection hlp with e1 e2
        exact ⟨e1, e2⟩
      have hll : s'.loc.length = s1.loc.length := by
        have := P'.ll
        rw [wipe_llen] at this
        exact this
      obtain ⟨Ru, smu⟩ := Rel.unown own R1 R' P'.agr P'.len P'.sm hll
      have Nu : PostN ad1 σ H1 s1 ad' σ H (unown own s1.loc s') F D := ⟨P'.agr, P'.len, (foldl_set_len _ _ _).trans hll, P'.sm.trans smu, P'.frn, P'.new⟩
      exact hQ acc (unown own s1.loc s') ad' H D vacc ad1 H1 s1 Ru Nu hA (ra.mono (Nat.le_refl _) (fun _ _ => rfl) smu) h1 hal
def lcR : Res (List D) → Res PV
  | .ok ts s' => .ok (PV.d (.lst ts)) s'
  | .exc e s' => .exc e s'
  | .stk => .stk
theorem lcR_eq (m : M (List D)) : (M.bind m fun ts => M.pure (PV.d (.lst ts))) = fun s => lcR (m s) := by
  funext s; unfold M.bind; cases m s <;> rfl
/-- as data -/
theorem tX_lc {mi : M (List D)} {tg : Tg} {mt : M Bool} {me : M PV} {own : List Nat} (htg : ∀ i ∈ tgSl tg, i ∈ own) : ∀ σ H Q, tX N W (M.bind mi fun xs => M.bind (lcM own (loopC tg mt (M.bind me PV.store) own [] xs)) fun ts => M.pure (.d (.lst ts))) σ H Q →
    tLc (tI N W mi) (gTg N.K tg) (tT N Wf mt) (tX N Wf me) own σ H Q := by
  rintro σ H Q ⟨ad, s, F, R, h⟩
  simp only [lcR_eq] at h
  refine lc_core (Gd := fun ad1 H1 s1 r => Gar N W ad1 σ H1 s1 F (lcR r) fun pv s' ad' H' => ∀ v, RepPV N ad' σ H' s' F v pv → Q v H') htg R (fun _ _ _ h => h) (Gar.bind h) fun ts s' ad' H' Da vacc ad1 H1 s1 R' P' hA ra hg hl => ?_
  obtain ⟨Rt, Pt, smt, nm⟩ := Rel.take P' R'
  refine hg ad' H' Rt Pt _ (RepD.lst (SqL.of ?_) (ra.mono (Nat.le_refl _) (fun _ _ => rfl) smt))
  rw [msk_of nm]; exact hA
end Ev

set_option autoImplicit false
set_option linter.all false
set_option maxRecDepth 100000
set_option maxHeartbeats 1000000
/-! What the core says of an expression is so. -/
namespace Ev
open PySem L2 PyProof.Rows
variable {T : Nam} {N : Nms} {G : Tab} {W : WX} {F : FT}
theorem XOk.tok {c : Sx} {X : Cx} (o : XOk T N G c X W) : TOk c X := ⟨o.hN, o.nd, o.sc, o.calm, o.fnc⟩
theorem XOk.blk {c : Sx} {X : Cx} (o : XOk T N G c X W) (s : Shared) (H : Hp) (C : Addr) (cl : List (Str × Addr)) (fp : List Addr) (sc : Scope) : XOk T N G (c.blk sc) (X.blk s H sc (compEnvC sc cl C X.env) fp) Wf where
  hK := o.hK
  hN := o.hN
  nd := o.nd
  sc := by
    show relS sc X.env.scope = relS sc c.sc
    rw [o.sc]
  un := o.un
  calm := o.calm
  fnc := fun x h => by
    show (sc.names.lookup x == some .cell) = true
    have h : sc.names.lookup x = some .cell := h
    rw [h]; rfl
  tk := fun u s' x => by
    obtain ⟨_, _, _, _, _, _, _, _, _, _, _, _, _, _, _, _, z⟩ := x
    exact z.elim
  blt := o.blt
  con := o.con
  cls := o.cls
  ncl := o.ncl
  nm := o.nm
  kit := o.kit
  fld := o.fld
theorem Fns.blk {X : Cx} (f : Fns T N X F) (s : Shared) (H : Hp) (sc : Scope) (e : Env) (fp : List Addr) : Fns T N (X.blk s H sc e fp) F := ⟨f.fn⟩
theorem mem_blt {b : Bi} : biName b ∈ bltNames := by cases b <;> decide
theorem biName_val {b : Bi} (h : biOk b = true) : bootBuiltins (biName b) = some (biV b) := by
  cases b <;> first | (simp [biOk] at h; done) | decide +kernel
section
variable {c : Sx} {X : Cx}
/-- where isinstance is asked -/
theorem tyx_of (o : XOk T N G c X W) {n : Nat} {ad : Nat → Addr} {M : Addr → Prop} {H : Hp} {v : V} {x : D} {t : Tag} (r : RepW N n ad (msk H M) H v x) (ht : tagOf x = some t) (hc : ∀ k, t = .obj k → k < T.cls.length) : TyX N.K H v (tagV N t) := by
  cases x <;> simp only [tagOf] at ht <;> cases ht
  · obtain rfl := r.nonI; exact .base .non
  · obtain rfl := r.blI; exact .base (.bl _)
  · obtain rfl := r.intI; exact .base (.int _)
  · obtain rfl := r.strI; exact .base (.str _)
  · obtain ⟨a, xs, rfl, _, s, _⟩ := r.tupI
    rcases s with (s | ⟨ob, s⟩) | ⟨ob, its, m, k, cl, _⟩
    · exact .base (.tup s)
    · exact .fTuple s
    · exact .kTuple k cl
  · obtain ⟨a, xs, rfl, s, _⟩ := r.lstI
    rcases s with (s | ⟨ob, s⟩) | ⟨ob, its, m, k, cl, _⟩
    · exact .base (.lst s)
    · exact .base (.frz s)
    · exact .kList k cl
  · obtain ⟨a, xs, rfl, s, _⟩ := r.dctI
    rcases s with s | ⟨ob, s⟩
    · exact .base (.dK s)
    · exact .fDict s
  · rename_i k fs
    obtain ⟨a, dx, fv, rfl, s, _⟩ := r.objI
    obtain ⟨h1, h2, h3, h4, h5, h6⟩ := o.fld k (hc k rfl)
    exact .base (.ins s h1 h3 h4 h5 h6)
theorem kit_all (o : XOk T N G c X W) (tg : Tag) (hg : ∀ k, tg = .obj k → k < T.cls.length) : ∀ ts : List Ty, (∀ k, Ty.cls k ∈ ts → k < T.cls.length) → PySem.W.kitAny N.K (tagV N tg) (ts.map (tyV1 N)) = some (ts.any (isTag G.sub tg))
  | [], _ => rfl
  | t :: ts, h => by
    have e := o.kit tg t (by cases tg <;> first | trivial | exact hg _ rfl) (by cases t <;> first | trivial | exact h _ (by simp))
    show (match PySem.W.kitOne N.K (tagV N tg) (tyV1 N t) with
      | some true => some true
      | some false => PySem.W.kitAny N.K (tagV N tg) (ts.map (tyV1 N))
      | none => none) = _
    rw [e, List.any_cons]
    cases isTag G.sub tg t with
    | true => rfl
    | false => exact kit_all o tg hg ts fun k hk => h k (List.mem_cons_of_mem _ hk)
theorem isiF_inv {ts : List Ty} {x z : D} (h : isiF G ts x = some z) : ∃ tg, tagOf x = some tg ∧ (∀ k, tg = .obj k → k < G.ncls) ∧ z = .bl (ts.any (isTag G.sub tg)) := by
  have any_eq : ∀ (tg : Tag), tagOf x = some tg → ts.any (isTy G.sub x) = ts.any (isTag G.sub tg) := fun tg e => by
    congr 1; funext t; exact isTy_tag _ _ _ _ e
  cases x with
  | ref k => cases h
  | obj k fs =>
    simp only [isiF] at h
    split at h
    · rename_i hk
      cases h
      exact ⟨.obj k, rfl, fun j e => by cases e; exact hk, by rw [any_eq _ rfl]⟩
    · cases h
  | non => cases h; exact ⟨_, rfl, (fun j e => by cases e), by rw [any_eq _ rfl]⟩
  | bl b => cases h; exact ⟨_, rfl, (fun j e => by cases e), by rw [any_eq _ rfl]⟩
  | int i => cases h; exact ⟨_, rfl, (fun j e => by cases e), by rw [any_eq _ rfl]⟩
  | str i => cases h; exact ⟨_, rfl, (fun j e => by cases e), by rw [any_eq _ rfl]⟩
  | tup i => cases h; exact ⟨_, rfl, (fun j e => by cases e), by rw [any_eq _ rfl]⟩
  | lst i => cases h; exact ⟨_, rfl, (fun j e => by cases e), by rw [any_eq _ rfl]⟩
  | dct i => cases h; exact ⟨_, rfl, (fun j e => by cases e), by rw [any_eq _ rfl]⟩
theorem clsV_ty (t : Ty) : ClsV (tyVV N t) (tyV1 N t) := by cases t <;> first | exact .ty _ | exact .own _
theorem tX_isi1 (o : XOk T N G c X W) {t : Ty} (ht : ∀ k, t = .cls k → k < T.cls.length) {m : M PV} : ∀ σ H Q, tX N W (one m (isiF G [t])) σ H Q → tCB (rIsi N.K) (tCons (tX N W m) (tCons (tC (tyVV N t)) tNil)) σ H Q := by
  intro σ H Q h
  refine tX_one (r := fun x H Q => rIsi N.K [x, tyVV N t] H Q) (fun x H Q ⟨n, ad, M, a, z, hM, ra, hf, q⟩ => ?_) σ H Q h
  obtain ⟨tg, e1, e2, rfl⟩ := isiF_inv hf
  have e2' : ∀ k, tg = .obj k → k < T.cls.length := fun k e => by rw [o.ncl]; exact e2 k e
  refine ⟨x, tyVV N t, tagV N tg, tyV1 N t, isTag G.sub tg t, rfl, clsV_ty t, tyx_of o ra e1 e2', ?_, ?_⟩
  · exact o.kit tg t (by cases tg <;> first | trivial | exact e2' _ rfl) (by cases t <;> first | trivial | exact ht _ rfl)
  · have : ([t].any (isTag G.sub tg)) = isTag G.sub tg t := by simp
    rw [this] at q
    exact q _ _ (Same.refl _) (.bl _)
def tTys (N : Nms) : List Ty → TA
  | [] => tNil
  | t :: ts => tCons (tC (tyVV N t)) (tTys N ts)
theorem tTys_ok : ∀ (ts : List Ty) (σ : L2.St) (H : Hp) (Q : List V → Hp → Prop), Q (ts.map (tyVV N)) H → tTys N ts σ H Q
  | [], _, _, _, h => h
  | t :: ts, σ, H, Q, h => tTys_ok ts σ H (fun xs H2 => Q (tyVV N t :: xs) H2) h
theorem paired_ty : ∀ ts : List Ty, Paired ClsV (ts.map (tyVV N)) (ts.map (tyV1 N))
  | [] => .nil
  | t :: ts => .cons (clsV_ty t) (paired_ty ts)
theorem RepW.grow {n : Nat} {ad : Nat → Addr} {M : Addr → Prop} {H H' : Hp} {v : V} {x : D} (r : RepW N n ad (msk H M) H v x) (sm : Same H H') : RepW N n ad (msk H' M) H' v x := by
  cases r with
  | d r => exact .d (RepD.mono (Nat.le_refl _) (fun _ _ => rfl) (.of (msk_same sm)) _ r)
  | c ok =>
    obtain ⟨o, ho⟩ := ok.some
    exact .c (ok.mono (Nat.le_refl _) (fun _ _ => rfl) (.of (msk_same sm)) ((sm _ _ ho).trans ho.symm))
theorem tX_isiT (o : XOk T N G c X W) {ts : List Ty} (ht : ∀ k, Ty.cls k ∈ ts → k < T.cls.length) (hl : ts.length ≤ 100) {m : M PV} : ∀ σ H Q, tX N W (one m (isiF G ts)) σ H Q → tCB (rIsiT N.K) (tCons (tX N W m) (tCons (tTup (tTys N ts)) tNil)) σ H Q := by
  intro σ H Q h
  refine tX_one (r := fun x H Q => tTup (tTys N ts) σ H fun y H2 => rIsiT N.K [x, y] H2 Q) (fun x H Q ⟨n, ad, M, a, z, hM, ra, hf, q⟩ => ?_) σ H Q h
  obtain ⟨tg, e1, e2, rfl⟩ := isiF_inv hf
  have e2' : ∀ k, tg = .obj k → k < T.cls.length := fun k e => by rw [o.ncl]; exact e2 k e
  refine tTys_ok ts σ H _ ⟨by rw [List.length_map, sizeLine_line]; unfold line; omega, fun p hp => ?_⟩
  exact ⟨x, p, _, tagV N tg, _, ts.any (isTag G.sub tg), rfl, upd_same, paired_ty ts, tyx_of o (ra.grow (new_same hp)) e1 e2', kit_all o tg e2' ts ht, q _ _ (new_same hp) (.bl _)⟩
/-- e.f -/
theorem tX_fld (o : XOk T N G c X W) {f : Nat} {m : M PV} : ∀ σ H Q, tX N W (one m (fldF G.ncls f)) σ H Q → tFld N.K (tX N W m) (N.nm f) σ H Q := by
  intro σ H Q h
  refine tX_one (r := fun x H1 Q => ∃ a C dx fs v, x = .ref a ∧ H1 a = some (.ins C dx fs) ∧ Cls N.K C ∧ NoAttr N.K C (N.nm f) ∧ fs.lookup (N.nm f) = some v ∧ Q v H1) (fun x H Q ⟨n, ad, M, a, z, hM, ra, hf, q⟩ => ?_) σ H Q h
  cases a with
  | obj k fs =>
    simp only [fldF] at hf
    split at hf
    · rename_i hk
      obtain ⟨a, dx, fv, rfl, s, rf⟩ := ra.objI
      obtain ⟨h1, h2, _⟩ := o.fld k (by rw [o.ncl]; exact hk)
      obtain ⟨v, e, rv⟩ := rf.lookup o.nm hf
      exact ⟨a, _, dx, fv, v, rfl, s, h1, h2 f, e, q _ _ (Same.refl _) rv⟩
    · cases hf
  | _ => cases hf
/-- a slice -/
def PartV (n : Bool) (v : V) (a : Option Int) : Prop := if n = true then a = none else ∃ i, v = .int i ∧ a = some i
theorem part_v {n : Bool} {pv : PV} {v : V} {ad : Nat → Addr} {σ : L2.St} {H : Hp} {s : S} {F : Addr → Prop} {K : Option Int → S → (Nat → Addr) → Hp → Prop} (R : Rel N ad σ H s F) (r : RepPV N ad σ H s F v pv) (h : Gar N W ad σ H s F (partM n pv s) K) : ∃ a, PartV n v a ∧ K a s ad H := by
  cases pv with
  | own i => exact h.elim
  | d y =>
    have h : Gar N W ad σ H s F (M.of (partF n y) s) K := h
    obtain ⟨a, e, k⟩ := of_inv R h
    refine ⟨a, ?_, k⟩
    unfold PartV
    cases n <;> cases y <;> simp only [partF] at e <;> cases e
    · cases r; exact ⟨_, rfl, rfl⟩
    · rfl
theorem tX_sl {n1 n2 : Bool} {m ml mh : M PV} : ∀ σ H Q, tX N W (M.bind m fun x => M.bind ml fun l => M.bind (partM n1 l) fun i => M.bind mh fun h => M.bind (partM n2 h) fun j => slM x i j) σ H Q →
    (tX N W m) σ H fun x H1 => tX N W ml σ H1 fun l H2 => ∃ a, PartV n1 l a ∧ tX N W mh σ H2 fun h H3 => ∃ b, PartV n2 h b ∧ rSl N x a b H3 Q := by
  rintro σ H Q ⟨ad, s, F, R, h⟩
  refine ⟨ad, s, F, R, (Gar.bind h).mono fun a s1 ad1 H1 R1 P1 h1 x rx => ?_⟩
  refine ⟨ad1, s1, F, R1, (Gar.bind h1).mono fun b s2 ad2 H2 R2 P2 h2 l rl => ?_⟩
  obtain ⟨lo, hlo, h2⟩ := part_v R2 rl (Gar.bind h2)
  refine ⟨lo, hlo, ad2, s2, F, R2, (Gar.bind h2).mono fun d s3 ad3 H3 R3 P3 h3 u ru => ?_⟩
  obtain ⟨hi, hhi, h3⟩ := part_v R3 ru (Gar.bind h3)
  refine ⟨hi, hhi, ?_⟩
  have rx3 := (rx.post P2).post P3
  unfold slM at h3
  cases hv : a.val s3 with
  | none => rw [hv] at h3; exact h3.elim
  | some z0 =>
    rw [hv] at h3
    simp only at h3
    cases hs : slF lo hi z0 with
    | none => rw [hs] at h3; exact h3.elim
    | some z =>
      rw [hs] at h3
      refine ⟨_, _, Mk ad3 σ s3 F, z0, z, fun p m => R3.masked m, rx3.val R3 hv, ?_, fun v H4 sm r4 => h3 ad3 H4 (R3.grow sm) (.grow R3 sm) v r4⟩
      cases z0 <;> exact hs
end
end Ev

set_option autoImplicit false
set_option linter.all false
set_option maxRecDepth 100000
set_option maxHeartbeats 1000000
/-! Ranges as tuples and lists; f(); tests by if-expressions. -/
namespace Ev
open PySem L2 PyProof.Rows
variable {T : Nam} {N : Nms} {G : Tab} {W : WX} {F : FT}
section
variable {X : Cx}
theorem pt_ifExp {c a b : Expr} {pos : Pos} {t u v : TT} (hc : PT X c t) (ha : PT X a u) (hb : PT X b v) : PT X (.IfExp c a b pos) (fun σ H Q => t σ H fun d H1 => if d = true then u σ H1 Q else v σ H1 Q) := by
  refine ⟨fun pins s σ H Q I h => ?_⟩
  refine isTrue_IfExp (thn (hc.run pins s σ H _ I h) fun d s1 ⟨H1, I1, q1⟩ => ?_)
  cases d with
  | true => exact ha.run pins s1 σ H1 Q I1 q1
  | false => exact hb.run pins s1 σ H1 Q I1 q1
theorem tT_ife {mt ma mb : M PV} : ∀ σ H Q, tT N W (M.bind (M.bind mt fun x => M.bind (toB x) fun c => if c then ma else mb) toB) σ H Q → (tT N W (M.bind mt toB)) σ H fun d H1 => if d = true then tT N W (M.bind ma toB) σ H1 Q else tT N W (M.bind mb toB) σ H1 Q := by
  rintro σ H Q ⟨ad, s, F, R, h⟩
  refine ⟨ad, s, F, R, ?_⟩
  have e : M.bind (M.bind mt fun x => M.bind (toB x) fun c => if c then ma else mb) toB = M.bind (M.bind mt toB) (fun c => if c then M.bind ma toB else M.bind mb toB) := by
    rw [bind_assoc, bind_assoc]
    congr; funext x; rw [bind_assoc]; congr; funext c; cases c <;> rfl
  rw [e] at h
  refine (Gar.bind h).mono fun b s1 ad1 H1 R1 P1 h1 => ?_
  cases b with
  | true => exact ⟨ad1, s1, F, R1, h1⟩
  | false => exact ⟨ad1, s1, F, R1, h1⟩
section
variable {f : Addr} {fd : FuncData} {ps : List Str} {sp : Sp} {k : Nat} {E : L2.St → XK} {x : Str} {p pos : Pos}
theorem pe_callS0 (Fo : FnOk X.prog X.w X.K X.mg X.base (L2.CX X.prog X.w) k f fd ps sp) (hr : Room k X.A) (hg : Gl X x) (hm : X.mg x = some (.ref f)) (hk : PySem.W.keepIn X.K (.ref f) = true) (hb : Binds X.K fd ps []) (hx : ∀ σ, PassesAt (L2.CX X.prog X.w) X σ (E σ))
    (hdb : (x == ("__debug__" : Str)) = false) : PE X (.Call (.Name x p) [] [] pos) (tCallS sp E tNil) := by
  refine ⟨fun pins s σ H Q I h => ?_⟩
  refine wpAny_Call_Name_kw (ld_glob I hg hm ?_ hdb)
  exact PySem.W.callWith_K0 I.kIn hk (run_fnS (us := []) Fo hr hb (hx σ) I .nil h)
end
/-- tuple(range(a, b, c)) -/
def rgC (a c : Int) (n : Nat) : List V := (List.range n).map fun i => V.int (a + (i : Nat) * c)
theorem vals_rgC {a c : Int} {n : Nat} {acc : Array Value} (h : ItemsOf (fun i v => ∃ t, v = .int (a + i * c) t) acc n) : Vals (rgC a c n) acc.toList := by
  have e : acc.toList.length = n := by rw [Array.length_toList]; exact h.1
  unfold rgC
  rw [← e]
  refine vals_of_get acc.toList _ fun j u hj => ?_
  obtain ⟨t, rfl⟩ := h.2 j u (by rw [← hj, Array.getElem?_toList])
  exact ⟨t, rfl⟩
def tTupRg3 (ta : TA) : TE := fun σ H Q => ta σ H fun vs H1 => ∃ (i j c : Int) (n : Nat), vs = [.int i, .int j, .int c] ∧ RgC i j c n ∧ n ≤ 2 ^ 24 ∧ ∀ q, H1 q = none → Q (.ref q) (upd H1 q (.tup (rgC i c n)))
theorem pe_tupRg3 {a b c : Expr} {ta : TA} {p pos p2 pos2 : Pos} (hcm : X.calm = true) (hg : Gl X "tuple") (hm : X.mg "tuple" = none) (hg2 : Gl X "range") (hm2 : X.mg "range" = none) (ha : PA X [a, b, c] ta)
    (hs : starEach [a, b, c] X.env = (false, eval a X.env) :: starEach [b, c] X.env) (hpl : ∀ pos : Pos, (backTo pos (starEach [b, c] X.env)).any (·.1) = false) :
    PE X (.Call (.Name "tuple" p) [.Call (.Name "range" p2) [a, b, c] [] pos2] [] pos) (tTupRg3 ta) := by
  refine ⟨fun pins s σ H Q I h => ?_⟩
  have na : starEach [Expr.Call (.Name "range" p2) [a, b, c] [] pos2] X.env = (false, eval (.Call (.Name "range" p2) [a, b, c] [] pos2) X.env) :: starEach [] X.env := by rfl
  refine Call_ (ld_blt I hg hm boot_tuple (PyProof.Rows.callWith_type1 (args_cons (Call_ (ld_blt I hg2 hm2 boot_range (PyProof.Rows.callWith_type1 (thn (ha.run pos2 pins s σ H _ I h) fun us s1 ⟨vs, H1, I1, r1, q1⟩ => ?_) hs (hpl pos2)))) na) na))
  obtain ⟨i, j, k, n, e, ⟨c0, c1, c2, c3⟩, hn, q⟩ := q1
  subst e
  cases r1 with
  | cons r rr =>
    cases rr with
    | cons r' rr =>
      cases rr with
      | cons r'' rr =>
        cases rr
        obtain ⟨t, rfl⟩ := r
        obtain ⟨t', rfl⟩ := r'
        obtain ⟨t'', rfl⟩ := r''
        refine call_range_3 c0 ?_ (.inl (PyProof.noPylong_small c1))
        refine args_nil ?_
        have I1' : Inv X pins σ H1 { s1 with heap := s1.heap.push { cls := .type "range", data := .fields #[.int i t, .int j t', .int k t''] } } := I1.kept (t' := s1.toks) fun b o e => Heap.get?_push_of_some _ e
        refine call_tuple_range (n := n) (I1'.ok.hd hcm) (IsRange.new _ _ _ _ _ _ _) c2 c3 hn fun h' tk acc hk hi => ?_
        have I2 : Inv X pins σ H1 { s1 with heap := h', toks := tk } := I1'.kept hk
        refine ⟨.ref h'.objs.size, upd H1 h'.objs.size (.tup (rgC i k n)), I2.laid (t' := tk) (fun c o e => Heap.get?_push_of_some _ e) (Nat.le_refl _) (show ObjOk X.prog X.w _ _ _ (.tup (rgC i k n)) from ⟨?_, acc.toList, vals_rgC hi, ?_⟩), rfl, q _ (I2.hok.fresh (Nat.le_refl _))⟩
        · unfold rgC; rw [List.length_map, List.length_range, sizeLine_eq]; omega
        · rw [Array.toArray_toList]; exact IsTup.new _ _
end
/-! ### the core's ranges -/
section
variable {ad : Nat → Addr} {σ : L2.St} {H : Hp} {s : S} {F : Addr → Prop}
theorem reps_rgV {n : Nat} {B : Hp} (lo hi : Int) : RepDs N n ad B (rgV lo hi) ((rangeL lo hi).map .int) := by
  have e : rgV lo hi = (rangeL lo hi).map .int := by unfold rgV rangeL; rw [List.map_map]; rfl
  rw [e]
  exact RepDs.ints _
theorem rgOk_of {q : Int × Int} (h1 : sml q.1 = true) (h2 : sml q.2 = true) (h3 : q.2 - q.1 ≤ line) : RgOk q.1 q.2 := by
  have b := sml_of h1
  have b2 := sml_of h2
  refine ⟨b.1, b.2, b2.1, b2.2, ?_⟩
  unfold line at h3
  omega
/-- how a new tuple or list of ints is read -/
theorem rg_fin {t : Bool} {q : Int × Int} {K : PV → S → (Nat → Addr) → Hp → Prop} {z : D} (R : Rel N ad σ H s F) (hz : rgF t q = some z) (k : Gar N W ad σ H s F (.ok (.d z) s) K) {p : Addr} (hp : H p = none) :
    ∃ ad' s' H', H' = upd H p (if t = true then .tup (rgV q.1 q.2) else .lst (rgV q.1 q.2)) ∧ RepPV N ad' σ H' s' F (.ref p) (.d z) ∧ K (.d z) s' ad' H' := by
  unfold rgF at hz
  split at hz
  · cases hz
    refine ⟨ad, s, _, rfl, ?_, ?_⟩
    · cases t with
      | true => exact new_tup (fun p m => R.masked m) hp (reps_rgV _ _)
      | false => exact new_lst (fun p m => R.masked m) hp (reps_rgV _ _)
    · exact k ad _ (R.grow (new_same hp)) (.grow R (new_same hp))
  · cases hz
end
theorem rgF_le {t : Bool} {q : Int × Int} {z : D} (h : rgF t q = some z) : q.2 - q.1 ≤ line := by
  unfold rgF at h
  split at h
  · assumption
  · cases h
theorem tX_rg {t : Bool} {ma mb : M PV} : ∀ σ H Q, tX N W (M.bind ma fun x => M.bind mb fun y => M.of (((rngF x y).bind (rgF t)).map .d)) σ H Q → (if t = true then tTupRg (tRg2 (tX N W ma) (tX N W mb)) else tLstRg (tRg2 (tX N W ma) (tX N W mb))) σ H Q := by
  rintro σ H Q ⟨ad, s, F, R, h⟩
  have core : tRg2 (tX N W ma) (tX N W mb) σ H fun a b H1 => RgOk a b ∧ ∀ q, H1 q = none → Q (.ref q) (upd H1 q (if t = true then .tup (rgV a b) else .lst (rgV a b))) := by
    refine ⟨ad, s, F, R, (Gar.bind h).mono fun pv s1 ad1 H1 R1 P1 h1 v rv => ?_⟩
    refine ⟨ad1, s1, F, R1, (Gar.bind h1).mono fun pv2 s2 ad2 H2 R2 P2 h2 v2 rv2 => ?_⟩
    cases hr : rngF pv pv2 with
    | none => rw [hr] at h2; exact h2.elim
    | some q =>
      rw [hr] at h2
      have h2 : Gar N W ad2 σ H2 s2 F (M.of ((rgF t q).map PV.d) s2) _ := h2
      cases hz : rgF t q with
      | none => rw [hz] at h2; exact h2.elim
      | some z =>
        rw [hz] at h2
        obtain ⟨rfl, rfl, b1, b2⟩ := rngF_inv hr
        cases rv
        cases rv2
        refine ⟨q.1, q.2, rfl, rfl, rgOk_of b1 b2 (rgF_le hz), fun p hp => ?_⟩
        obtain ⟨ad', s', H', e, r, k⟩ := rg_fin R2 hz h2 hp
        rw [← e]
        exact k _ r
  cases t with
  | true => exact core
  | false => exact core
theorem tX_rg0 {t : Bool} {mb : M PV} : ∀ σ H Q, tX N W (M.bind (M.pure (.d (.int 0))) fun x => M.bind mb fun y => M.of (((rngF x y).bind (rgF t)).map .d)) σ H Q → (if t = true then tTupRg (tRg1 (tX N W mb)) else tLstRg (tRg1 (tX N W mb))) σ H Q := by
  intro σ H Q h
  have h1 := tX_rg (t := t) σ H Q h
  have z : ∀ (Q : Int → Int → Hp → Prop), tRg2 (tX N W (M.pure (.d (.int 0)))) (tX N W mb) σ H Q → tRg1 (tX N W mb) σ H Q := by
    intro Q ⟨ad, s, F, R, h⟩
    have h := Gar.pure R h (.int 0) (.int 0)
    obtain ⟨ad1, s1, F1, R1, h⟩ := h
    refine ⟨ad1, s1, F1, R1, h.mono fun pv s2 ad2 H2 R2 P2 k v rv => ?_⟩
    obtain ⟨i, j, e1, e2, q⟩ := k v rv
    injection e1 with e1
    subst e1
    exact ⟨j, e2, q⟩
  cases t with
  | true => exact z _ h1
  | false => exact z _ h1
theorem rg3_ok {a b c : Int} (ha : 0 ≤ a) (ha' : a ≤ 1000) (hb : 0 ≤ b) (hb' : b ≤ 1000) (hc : 0 < c) (hc' : c ≤ 1000) : RgC a b c ((b - a + c - 1) / c).toNat ∧ ((b - a + c - 1) / c).toNat ≤ 2 ^ 24 := by
  have e : Builtin.Range.rangeSize a b c = (((b - a + c - 1) / c).toNat : Nat) := by
    unfold Builtin.Range.rangeSize
    rw [if_pos (show c > 0 from hc)]
    have q : (b - a + c - 1) / c = (b - a - 1) / c + 1 := by
      rw [show b - a + c - 1 = (b - a - 1) + c by omega, Int.add_ediv_of_dvd_right (Int.dvd_refl c), Int.ediv_self (by omega)]
    split
    · rename_i h
      have : 0 ≤ (b - a - 1) / c := Int.ediv_nonneg (by omega) (by omega)
      rw [q]; omega
    · rename_i h
      have : (b - a - 1) / c < 0 := Int.ediv_neg_of_neg_of_pos (by omega) hc
      rw [q]; omega
  have le : ((b - a + c - 1) / c).toNat ≤ 2 ^ 24 := by
    have : (b - a + c - 1) / c ≤ b - a + c - 1 ∨ b - a + c - 1 < 0 := by
      by_cases h : 0 ≤ b - a + c - 1
      · exact .inl (Int.ediv_le_self _ h)
      · exact .inr (by omega)
    rcases this with h | h
    · omega
    · have := Int.ediv_neg_of_neg_of_pos h hc
      omega
  refine ⟨⟨by omega, by omega, ?_, e⟩, le⟩
  unfold Builtin.Range.small
  rw [e]
  simp only [Builtin.Range.rangeFitsLong, Bool.and_eq_true, Bool.or_eq_true, decide_eq_true_eq, beq_iff_eq, show c > 0 from hc, if_true]
  have : (((b - a + c - 1) / c).toNat : Int) ≤ 2 ^ 24 := by exact_mod_cast le
  omega
theorem reps_rgC {n : Nat} {ad : Nat → Addr} {B : Hp} (a b c : Int) : RepDs N n ad B (rgC a c ((b - a + c - 1) / c).toNat) ((rangeS a b c).map .int) := by
  have e : rgC a c ((b - a + c - 1) / c).toNat = (rangeS a b c).map .int := by unfold rgC rangeS; rw [List.map_map]; rfl
  rw [e]
  exact RepDs.ints _
theorem tX_rg3 {ma mb mc : M PV} : ∀ σ H Q, tX N W (M.bind ma fun x => M.bind mb fun y => M.bind mc fun z => M.of ((rg3F x y z).map .d)) σ H Q → tTupRg3 (tCons (tX N W ma) (tCons (tX N W mb) (tCons (tX N W mc) tNil))) σ H Q := by
  rintro σ H Q ⟨ad, s, F, R, h⟩
  refine ⟨ad, s, F, R, (Gar.bind h).mono fun pv s1 ad1 H1 R1 P1 h1 v rv => ?_⟩
  refine ⟨ad1, s1, F, R1, (Gar.bind h1).mono fun pv2 s2 ad2 H2 R2 P2 h2 v2 rv2 => ?_⟩
  refine ⟨ad2, s2, F, R2, (Gar.bind h2).mono fun pv3 s3 ad3 H3 R3 P3 h3 v3 rv3 => ?_⟩
  cases hr : rg3F pv pv2 pv3 with
  | none => rw [hr] at h3; exact h3.elim
  | some z =>
    rw [hr] at h3
    unfold rg3F at hr
    split at hr
    · rename_i a b c
      split at hr
      · rename_i hb
        obtain ⟨b1, b2, b3, b4, b5, b6⟩ := hb
        cases hr
        cases rv
        cases rv2
        cases rv3
        obtain ⟨q1, q2⟩ := rg3_ok b1 b2 b3 b4 b5 b6
        refine ⟨a, b, c, _, rfl, q1, q2, fun p hp => ?_⟩
        exact h3 ad3 _ (R3.grow (new_same hp)) (.grow R3 (new_same hp)) _ (new_tup (fun p m => R3.masked m) hp (reps_rgC a b c))
      · cases hr
    · cases hr
end Ev

set_option autoImplicit false
set_option linter.all false
set_option maxRecDepth 100000
set_option maxHeartbeats 1000000
/-! New lists; methods that change a list. -/
namespace Ev
open PySem L2 PyProof.Rows
variable {T : Nam} {N : Nms} {G : Tab} {W : WX} {F : FT}
section
variable {ad : Nat → Addr} {σ : L2.St} {H : Hp} {s : S} {F : Addr → Prop} {α : Type}
/-- a run whose answer is a new object -/
def GarN (N : Nms) (W : WX) (ad : Nat → Addr) (σ : L2.St) (H : Hp) (s : S) (F : Addr → Prop) (r : Res α) (K : α → S → (Nat → Addr) → Hp → Addr → Prop) : Prop := match r with
  | .ok a s' => ∀ ad' H' p, Rel N ad' σ H' s' (FAdd F p) → PostN ad σ H s ad' σ H' s' F p → K a s' ad' H' p
  | .exc e s' => ∀ cls d ad' H', Rel N ad' σ H' s' F → Post ad σ H s ad' σ H' s' F → RepE N s'.cel.length ad' (msk H' (Mk ad' σ s' F)) H' e cls d → W cls d σ H'
  | .stk => False
end
theorem GarN.bind {α β : Type} {ad : Nat → Addr} {σ : L2.St} {H : Hp} {s : S} {F : Addr → Prop} {m : M α} {f : α → M β} {K : β → S → (Nat → Addr) → Hp → Addr → Prop} (h : GarN N W ad σ H s F (M.bind m f s) K) :
    Gar N W ad σ H s F (m s) fun a s' ad' H' => GarN N W ad' σ H' s' F (f a s') K := by
  unfold M.bind at h
  cases hm : m s with
  | ok a s' =>
    rw [hm] at h
    have h : GarN N W ad σ H s F (f a s') K := h
    intro ad' H' R' P'
    show GarN N W ad' σ H' s' F (f a s') K
    cases hf : f a s' with
    | ok b s2 => rw [hf] at h; exact fun ad2 H2 p R2 P2 => h ad2 H2 p R2 (P'.toN P2)
    | exc e s2 => rw [hf] at h; exact fun cls d ad2 H2 R2 P2 => h cls d ad2 H2 R2 (P'.trans P2)
    | stk => rw [hf] at h; exact h
  | exc e s' => rw [hm] at h; exact h
  | stk => rw [hm] at h; exact h
def KN (N : Nms) (σ : L2.St) (F : Addr → Prop) (Q : VK) : PV → S → (Nat → Addr) → Hp → Addr → Prop := fun pv s' ad' H' p => ∀ c, thaw pv = some c → CelOk N s'.cel.length ad' (msk H' (Mk ad' σ s' (FAdd F p))) H' p c → Q (.ref p) H'
def tN (N : Nms) (W : WX) (m : M PV) : TE := fun σ H Q => ∃ ad s F, Rel N ad σ H s F ∧ GarN N W ad σ H s F (m s) (KN N σ F Q)
theorem tN_lst {m : M (List D)} : ∀ σ H Q, tN N W (M.bind m fun xs => if xs.length ≤ line then M.pure (.d (.lst xs)) else stk) σ H Q → tLst (tAs N W m) σ H Q := by
  rintro σ H Q ⟨ad, s, F, R, h⟩
  refine ⟨ad, s, F, R, (GarN.bind h).mono fun xs s1 ad1 H1 R1 P1 h1 vs rv => ?_⟩
  split at h1
  · rename_i hl
    refine ⟨by rw [rv.length, sizeLine_line]; exact hl, fun p hp => ?_⟩
    obtain ⟨R2, sm⟩ := R1.addF (o := .lst vs) hp
    exact h1 ad1 _ p R2 (Post.newP .refl R1 hp) (.lst xs) rfl ⟨vs, upd_same, rv.mono (Nat.le_refl _) (fun _ _ => rfl) sm⟩
  · exact h1.elim
theorem tN_lc {mi : M (List D)} {tg : Tg} {mt : M Bool} {me : M PV} {own : List Nat} (htg : ∀ i ∈ tgSl tg, i ∈ own) : ∀ σ H Q, tN N W (M.bind mi fun xs => M.bind (lcM own (loopC tg mt (M.bind me PV.store) own [] xs)) fun ts => M.pure (.d (.lst ts))) σ H Q →
    tLc (tI N W mi) (gTg N.K tg) (tT N Wf mt) (tX N Wf me) own σ H Q := by
  rintro σ H Q ⟨ad, s, F, R, h⟩
  simp only [lcR_eq] at h
  refine lc_core (Gd := fun ad1 H1 s1 r => GarN N W ad1 σ H1 s1 F (lcR r) (KN N σ F Q)) htg R (fun _ _ _ h => h) (GarN.bind h) fun ts s' ad' H' Da vacc ad1 H1 s1 R' P' hA ra hg hl => ?_
  exact hg ad' H' Da R' P' (.lst ts) rfl ⟨vacc, hA, ra⟩
/-- a new thing of the store -/
theorem tX_new {m : M PV} : ∀ σ H Q, tX N W (M.bind m newM) σ H Q → tN N W m σ H Q := by
  rintro σ H Q ⟨ad, s, F, R, h⟩
  refine ⟨ad, s, F, R, ?_⟩
  unfold M.bind at h
  cases hm : m s with
  | stk => rw [hm] at h; exact h
  | exc e s' => rw [hm] at h; exact h
  | ok pv s' =>
    rw [hm] at h
    intro ad' H' p R' P' c hc ok
    have h : Gar N W ad σ H s F (newM pv s') _ := h
    unfold newM at h
    rw [hc] at h
    obtain ⟨ad2, e2, R2, P2, a2, sm2⟩ := Rel.alloc P' R' ok
    refine h ad2 H' R2 P2 _ ?_
    rw [← e2]
    exact RepD.ref (by show s'.cel.length < (s'.cel ++ [c]).length; simp)
/-! ### methods -/
def mmRule : Mm → V → List V → Hp → VK → Prop
  | .append => rAppend | .pop => rPop | .popAt => rPopAt | .reverse => rReverse | .clear => rClear
  | _ => fun _ _ _ _ => False
theorem lo_ref {ad : Nat → Addr} {σ : L2.St} {H : Hp} {s : S} {F : Addr → Prop} {pv : PV} {v : V} {l : Lo} {a : Addr} (hl : pv.lo = some l) (r : RepPV N ad σ H s F v pv) (e : adr ad σ l = some a) : v = .ref a := by
  cases pv with
  | own i =>
    cases hl
    have r : σ[i]? = some (some v) := r
    have e := adr_sl.mp e
    rw [r] at e; cases e; rfl
  | d x =>
    cases x <;> cases hl
    have r : RepD N s.cel.length ad (msk H (Mk ad σ s F)) v (.ref _) := r
    cases r
    have e : some (ad _) = some a := e
    cases e; rfl
theorem lstM_inv {ad : Nat → Addr} {σ : L2.St} {H : Hp} {s : S} {F : Addr → Prop} {pv : PV} {v : V} {K : Unit → S → (Nat → Addr) → Hp → Prop} (R : Rel N ad σ H s F) (r : RepPV N ad σ H s F v pv) (h : Gar N W ad σ H s F (lstM pv s) K) :
    ∃ a xs, v = .ref a ∧ H a = some (.lst xs) ∧ K () s ad H := by
  unfold lstM at h
  cases hl : pv.lo with
  | none => rw [hl] at h; exact h.elim
  | some l =>
    rw [hl] at h
    simp only at h
    split at h
    · rename_i ts hg
      obtain ⟨a, e, ok⟩ := R.own l _ hg
      obtain ⟨xs, hx, rx⟩ := ok
      refine ⟨a, xs, ?_, hx, h ad H R Post.refl⟩
      exact lo_ref hl r e
    · exact h.elim
/-- a list at hand -/
theorem lst_at {ad : Nat → Addr} {σ : L2.St} {H : Hp} {s : S} {F : Addr → Prop} {pv : PV} {v : V} {l : Lo} {c : Cell} (R : Rel N ad σ H s F) (r : RepPV N ad σ H s F v pv) (hl : pv.lo = some l) (hg : s.get l = some c) :
    ∃ a, v = .ref a ∧ adr ad σ l = some a ∧ CelOk N s.cel.length ad (msk H (Mk ad σ s F)) H a c := by
  obtain ⟨a, e, ok⟩ := R.own l _ hg
  exact ⟨a, lo_ref hl r e, e, ok⟩
theorem doMm_ok {mm : Mm} (hm : mmOk mm = true) {ad : Nat → Addr} {σ : L2.St} {H : Hp} {s : S} {F : Addr → Prop} {pv : PV} {v : V} {as : List D} {vs : List V} {Q : VK} (R : Rel N ad σ H s F) (r : RepPV N ad σ H s F v pv)
    (ra : RepDs N s.cel.length ad (msk H (Mk ad σ s F)) vs as) (h : Gar N W ad σ H s F (doMm mm pv as s) fun x s' ad' H' => ∀ v, RepD N s'.cel.length ad' (msk H' (Mk ad' σ s' F)) v x → Q v H') : mmRule mm v vs H Q := by
  unfold doMm at h
  cases hl : pv.lo with
  | none => rw [hl] at h; exact h.elim
  | some l =>
    rw [hl] at h
    simp only at h
    cases hg : s.get l with
    | none => rw [hg] at h; exact h.elim
    | some c =>
      rw [hg] at h
      simp only at h
      obtain ⟨a, rfl, e, ok⟩ := lst_at R r hl hg
      cases hf : mmF mm c as with
      | none => rw [hf] at h; exact h.elim
      | some q =>
        obtain ⟨x, c'⟩ := q
        rw [hf] at h
        -- the change
        have fin : ∀ {xs' : List V} {ts' : List D} {w : V}, c' = .lst ts' → RepDs N s.cel.length ad (msk H (Mk ad σ s F)) xs' ts' → RepD N s.cel.length ad (msk H (Mk ad σ s F)) w x → Q w (upd H a (.lst xs')) := fun {xs' ts' w} e1 rx rw' => by
          subst e1
          obtain ⟨R', P'⟩ := R.put (o := .lst xs') hg e (c := .lst ts') ⟨xs', upd_same, rx⟩
          exact h ad _ R' P' w (P'.rep rw')
        cases c with
        | lst ts =>
          obtain ⟨xs, hx, rx⟩ := ok
          cases mm <;> try (exact nomatch (show false = true from hm))
          · -- append
            rcases as with _ | ⟨y, _ | ⟨y2, as⟩⟩ <;> simp only [mmF] at hf <;> try (cases hf; done)
            split at hf
            · rename_i hlen
              cases hf
              cases ra with | cons ry rn => cases rn; exact ⟨a, xs, _, rfl, rfl, hx, by rw [rx.length, sizeLine_line]; exact hlen, fin rfl (rx.append (.cons ry .nil)) .non⟩
            · cases hf
          · -- pop
            rcases as with _ | ⟨y, as⟩ <;> simp only [mmF] at hf <;> try (cases hf; done)
            cases hla : ts.getLast? with
            | none => rw [hla] at hf; cases hf
            | some t =>
              rw [hla] at hf; cases hf
              cases ra
              rw [List.getLast?_eq_getElem?] at hla
              obtain ⟨w, e2, rw'⟩ := rx.get hla
              refine ⟨a, xs, w, rfl, rfl, hx, by rw [rx.length]; exact e2, fin rfl ?_ rw'⟩
              rw [List.dropLast_eq_take, List.dropLast_eq_take, rx.length]
              exact rx.take _
          · -- popAt
            rcases as with _ | ⟨y, _ | ⟨y2, as⟩⟩ <;> try (cases y <;> simp only [mmF] at hf <;> cases hf; done)
            · simp only [mmF] at hf; cases hf
            · cases y <;> simp only [mmF] at hf <;> try (cases hf; done)
              rename_i i
              split at hf
              · rename_i hs
                cases hn : Ev.ixN ts.length i with
                | none => rw [hn] at hf; cases hf
                | some j =>
                  rw [hn] at hf
                  have hf : (ts[j]?).map (fun t => (t, Cell.lst (ts.eraseIdx j))) = some (x, c') := hf
                  cases hj : ts[j]? with
                  | none => rw [hj] at hf; cases hf
                  | some t =>
                    rw [hj] at hf; cases hf
                    cases ra with | cons ry rn =>
                    cases rn
                    cases ry
                    obtain ⟨w, e2, rw'⟩ := rx.get hj
                    have b := sml_of hs
                    refine ⟨a, xs, i, j, w, rfl, rfl, hx, by omega, by omega, ?_, e2, fin rfl ?_ rw'⟩
                    · rw [ixN_L2] at hn
                      rw [rx.length]
                      exact (ixN_seq hn).1
                    · rw [List.eraseIdx_eq_take_drop_succ, List.eraseIdx_eq_take_drop_succ]
                      exact (rx.take _).append (rx.drop _)
              · cases hf
          · -- reverse
            rcases as with _ | ⟨y, as⟩ <;> simp only [mmF] at hf <;> try (cases hf; done)
            cases hf
            cases ra
            exact ⟨a, xs, rfl, rfl, hx, fin rfl rx.rev .non⟩
          · -- clear
            rcases as with _ | ⟨y, as⟩ <;> simp only [mmF] at hf <;> try (cases hf; done)
            cases hf
            cases ra
            exact ⟨a, xs, rfl, rfl, hx, fin rfl .nil .non⟩
        | dct _ => cases mm <;> simp only [mmF] at hf <;> cases hf
        | obj _ _ => cases mm <;> simp only [mmF] at hf <;> cases hf
theorem tX_mm {K : PySem.W.Frag} {mm : Mm} (hm : mmOk mm = true) {m : M PV} {ma : M (List D)} : ∀ σ H Q, tX N W (M.bind m fun x => M.bind (lstM x) fun _ => M.bind ma fun as => M.bind (doMm mm x as) fun y => M.pure (.d y)) σ H Q →
    tBM K "list" (mmRule mm) (tX N W m) (tAs N W ma) σ H Q := by
  rintro σ H Q ⟨ad, s, F, R, h⟩
  refine ⟨ad, s, F, R, (Gar.bind h).mono fun pv s1 ad1 H1 R1 P1 h1 v rv => ?_⟩
  obtain ⟨a, xs, rfl, hx, h1⟩ := lstM_inv R1 rv (Gar.bind h1)
  refine ⟨.inl ⟨rfl, xs, SqL.of hx⟩, ad1, s1, F, R1, (Gar.bind h1).mono fun as s2 ad2 H2 R2 P2 h2 vs rvs => ?_⟩
  exact doMm_ok hm R2 (rv.post P2) rvs ((Gar.bind h2).mono fun x s3 ad3 H3 R3 P3 k w rw' => Gar.pure R3 k w rw')
theorem tX_mm0 {K : PySem.W.Frag} {mm : Mm} (hm : mmOk mm = true) {m : M PV} : ∀ σ H Q, tX N W (M.bind m fun x => M.bind (lstM x) fun _ => M.bind (M.pure []) fun as => M.bind (doMm mm x as) fun y => M.pure (.d y)) σ H Q →
    tBM0 K "list" (mmRule mm) (tX N W m) σ H Q := by
  rintro σ H Q ⟨ad, s, F, R, h⟩
  refine ⟨ad, s, F, R, (Gar.bind h).mono fun pv s1 ad1 H1 R1 P1 h1 v rv => ?_⟩
  obtain ⟨a, xs, rfl, hx, h1⟩ := lstM_inv R1 rv (Gar.bind h1)
  refine ⟨.inl ⟨rfl, xs, SqL.of hx⟩, ?_⟩
  have h2 := Gar.pure R1 (Gar.bind h1)
  exact doMm_ok hm R1 rv .nil ((Gar.bind h2).mono fun x s3 ad3 H3 R3 P3 k w rw' => Gar.pure R3 k w rw')
end Ev

set_option autoImplicit false
set_option linter.all false
set_option maxRecDepth 100000
set_option maxHeartbeats 2000000
/-! What the core says of an expression is so. -/
namespace Ev
open PySem L2 PyProof.Rows
variable {T : Nam} {N : Nms} {G : Tab} {F : FT}
theorem starAll {env : Env} {T : Nam} {N : Nms} {c : Sx} {pos : Pos} : ∀ (es : Exs) (l : List Expr), okXs T N c es l = true → (backTo pos (starEach l env)).any (·.1) = false
  | .nil, l, h => by
    cases l with
    | nil => rfl
    | cons => exact nomatch (show false = true from h)
  | .cons e es, l, h => by
    cases l with
    | nil => exact nomatch (show false = true from h)
    | cons x l =>
      have h : (okX T N c e x && plainE x && okXs T N c es l) = true := h
      simp only [Bool.and_eq_true] at h
      rw [starE h.1.2]
      show (false || (backTo pos (starEach l env)).any (·.1)) = false
      rw [starAll es l h.2]
      rfl
theorem okTy_pe {c : Sx} {X : Cx} {W : WX} (o : XOk T N G c X W) {t : Ty} {e : Expr} (h : okTy T c t e = true) : PE X e (tC (tyVV N t)) ∧ ∀ k, t = .cls k → k < T.cls.length := by
  cases e <;> try (cases t <;> exact nomatch (show false = true from h))
  rename_i x p
  have blt : ∀ {n : String} {y : Str}, y ∈ bltNames → bootBuiltins y = some (.type n) → y ≠ "__name__" → (y == ("__debug__" : Str)) = false → x = y → glB c.sc x = true → PE X (.Name x p) (tC (.ty n)) := fun {n y} h1 h2 h3 h4 e hg => by
    subst e
    exact pe_bltn (gl_of o.sc hg) (o.blt _ h1) h2 rfl h3 h4
  cases t with
  | cls k =>
    have h : (decide (T.cls[k]? = some x) && glB c.sc x && dbgB x) = true := h
    simp only [Bool.and_eq_true, decide_eq_true_eq] at h
    refine ⟨pe_glob (gl_of o.sc h.1.2) (o.cls k x h.1.1) rfl (dbg_of h.2).1, fun j e => ?_⟩
    cases e
    exact (List.getElem?_eq_some_iff.mp h.1.1).1
  | _ =>
    refine ⟨?_, fun j e => by cases e⟩
    have h := h
    simp only [okTy, tyName, Bool.and_eq_true, decide_eq_true_eq, Option.some.injEq] at h
    exact blt (by decide) (by decide +kernel) (by decide) (by decide) h.1.symm h.2
theorem okTys_pa {c : Sx} {X : Cx} {W : WX} (o : XOk T N G c X W) : ∀ (ts : List Ty) (es : List Expr), okTys T c ts es = true → PA X es (tTys N ts) ∧ (∀ k, Ty.cls k ∈ ts → k < T.cls.length)
  | [], [], _ => ⟨pa_nil, fun k h => by simp at h⟩
  | [], _ :: _, h => nomatch (show false = true from h)
  | _ :: _, [], h => nomatch (show false = true from h)
  | t :: ts, e :: es, h => by
    have h : (okTy T c t e && okTys T c ts es) = true := h
    simp only [Bool.and_eq_true] at h
    obtain ⟨h1, h2⟩ := okTy_pe o h.1
    obtain ⟨h3, h4⟩ := okTys_pa o ts es h.2
    refine ⟨pa_cons h1 h3 (starE ?_), fun k hk => ?_⟩
    · have := h.1
      cases e <;> first | rfl | (cases t <;> exact nomatch (show false = true from this))
    · rcases List.mem_cons.mp hk with e | hk
      · exact h2 k e.symm
      · exact h4 k hk
theorem tX_mono {W : WX} {m : M PV} {σ : L2.St} {H : Hp} {Q Q' : VK} (h : tX N W m σ H Q) (i : ∀ v H, Q v H → Q' v H) : tX N W m σ H Q' := by
  obtain ⟨ad, s, F, R, hg⟩ := h
  exact ⟨ad, s, F, R, hg.mono fun pv s' ad' H' _ _ k v rv => i v H' (k v rv)⟩
theorem part_ok {W : WX} {c : Sx} {X : Cx} (q : Ex) (l : Option Expr) (g : ∀ e, l = some e → okX T N c q e = true → Good N W X e (evX G F q)) (h : okPart (okX T N c q) q.isNon l = true) :
    ∃ tl : TO, PO X l tl ∧ ∀ σ H (R : Option Int → Hp → Prop), (tX N W (evX G F q) σ H fun v H2 => ∃ a, PartV q.isNon v a ∧ R a H2) → tl σ H R := by
  cases l with
  | none =>
    have h : q.isNon = true := h
    refine ⟨tNoPart, po_none, fun σ H R hq => ?_⟩
    cases q <;> simp [Ex.isNon] at h
    obtain ⟨a, ea, r⟩ := tX_pure (fun _ _ _ => .non) σ H _ hq
    have ea : a = none := ea
    subst ea
    exact r
  | some e =>
    have h : (okX T N c q e && !q.isNon) = true := h
    simp only [Bool.and_eq_true, Bool.not_eq_true'] at h
    refine ⟨tPart (tX N W (evX G F q)), po_some (g e rfl h.1).pe, fun σ H R hq => ?_⟩
    refine tX_mono hq fun v H' ⟨a, ea, r⟩ => ?_
    unfold PartV at ea
    rw [h.2] at ea
    simp only [Bool.false_eq_true, if_false] at ea
    obtain ⟨i, rfl, rfl⟩ := ea
    exact ⟨i, rfl, r⟩
theorem starFew {env : Env} {T : Nam} {N : Nms} {c : Sx} {pos : Pos} (es : Exs) (l : List Expr) (h : okXs T N c es l = true) (hl : l.length < 28) :
    ((backTo pos (starEach l env)).all (fun x => !x.1) && (backToKw pos (keywordEach [] env)).all (fun x => x.1.isSome) && decide (l.length + ([] : List Keyword).length + (if ([] : List Keyword).isEmpty then 0 else 1) < 30)) = true := by
  have := starAll (env := env) (pos := pos) es l h
  have h1 : (backTo pos (starEach l env)).all (fun x => !x.1) = true := by
    rw [List.all_eq_true]
    intro x hx
    rw [List.any_eq_false] at this
    simpa using this x hx
  rw [h1]
  show (true && true && decide (l.length + 0 + 0 < 30)) = true
  simp
  omega
theorem pe_mm {X : Cx} {mm : Mm} (hm : mmOk mm = true) {o y : Expr} {l : List Expr} {apos cpos : Pos} {to : TE} {t : TA} (ho : PE X o to) (ha : PA X (y :: l) t) (hb : attributeBase o (mmName mm) X.env (eval o X.env) = eval o X.env) (hl : (apos.endLine == cpos.line) = true)
    (hfew : ((backTo cpos (starEach (y :: l) X.env)).all (fun x => !x.1) && (backToKw cpos (keywordEach [] X.env)).all (fun x => x.1.isSome) && decide ((y :: l).length + ([] : List Keyword).length + (if ([] : List Keyword).isEmpty then 0 else 1) < 30)) = true)
    (hs : starEach (y :: l) X.env = (false, eval y X.env) :: starEach l X.env) (hp : (backTo cpos (starEach l X.env)).any (·.1) = false) : PE X (.Call (.Attribute o (mmName mm) apos) (y :: l) [] cpos) (tBM X.K "list" (mmRule mm) to t) := by
  cases mm <;> first | (exact nomatch (show false = true from hm)) | skip
  · exact pe_bm F.plainAttrs_list F.slot_list_append rfl mt_append ho ha hb hfew hl hs hp
  · exact pe_bm F.plainAttrs_list F.slot_list_pop rfl mt_pop ho ha hb hfew hl hs hp
  · exact pe_bm F.plainAttrs_list F.slot_list_pop rfl mt_popAt ho ha hb hfew hl hs hp
  · exact pe_bm F.plainAttrs_list F.slot_list_reverse rfl mt_reverse ho ha hb hfew hl hs hp
  · exact pe_bm F.plainAttrs_list F.slot_list_clear rfl mt_clear ho ha hb hfew hl hs hp
theorem pe_mm0 {X : Cx} {W : WX} {mm : Mm} (hm : mmOk mm = true) {o : Expr} {apos cpos : Pos} {m : M PV} (ho : PE X o (tX N W m)) (hb : attributeBase o (mmName mm) X.env (eval o X.env) = eval o X.env) (hl : (apos.endLine == cpos.line) = true) :
    PE X (.Call (.Attribute o (mmName mm) apos) [] [] cpos) (tX N W (M.bind m fun x => M.bind (lstM x) fun _ => M.bind (M.pure []) fun as => M.bind (doMm mm x as) fun y => M.pure (.d y))) := by
  refine pe_imp (t := tBM0 X.K "list" (mmRule mm) (tX N W m)) ?_ (tX_mm0 hm)
  cases mm <;> first | (exact nomatch (show false = true from hm)) | skip
  · exact pe_bm0 F.plainAttrs_list F.slot_list_append rfl mt_append ho hb hl
  · exact pe_bm0 F.plainAttrs_list F.slot_list_pop rfl mt_pop ho hb hl
  · exact pe_bm0 F.plainAttrs_list F.slot_list_pop rfl mt_popAt ho hb hl
  · exact pe_bm0 F.plainAttrs_list F.slot_list_reverse rfl mt_reverse ho hb hl
  · exact pe_bm0 F.plainAttrs_list F.slot_list_clear rfl mt_clear ho hb hl
theorem pe_bi {X : Cx} {b : Bi} {y : Expr} {l : List Expr} {p pos : Pos} {t : TA} {r : List V → Hp → VK → Prop} (hb : biOk b = true) (hc : CallR X (biV b) r) (hg : Gl X (biName b)) (hm : X.mg (biName b) = none) (ha : PA X (y :: l) t)
    (he : starEach (y :: l) X.env = (false, eval y X.env) :: starEach l X.env) (hpl : (backTo pos (starEach l X.env)).any (·.1) = false) : PE X (.Call (.Name (biName b) p) (y :: l) [] pos) (tCB r t) := by
  cases b <;> first | (simp [biOk] at hb; done) | exact pe_callB hc hg hm (by decide +kernel) ha (by decide) (by decide) he hpl | exact pe_callTy hc hg hm (by decide +kernel) ha (by decide) (by decide) he hpl
theorem rgArgs_inv {c : Sx} {z y : Expr} {l : List Expr} (h : rgArgs c z = y :: l) : ∃ p p3, z = .Call (.Name "range" p) (y :: l) [] p3 ∧ glB c.sc "range" = true := by
  unfold rgArgs at h
  split at h
  · split at h
    · rename_i hc
      simp only [Bool.and_eq_true, decide_eq_true_eq] at hc
      obtain ⟨rfl, h2⟩ := hc
      subst h
      exact ⟨_, _, rfl, h2⟩
    · cases h
  · cases h
mutual
theorem sndX : ∀ (x : Ex) {c : Sx} {X : Cx} {W : WX} (e : Expr), XOk T N G c X W → Fns T N X F → okX T N c x e = true → Good N W X e (evX G F x)
  | .v i, c, X, W, e, o, f, h => by
    cases e <;> try (exact nomatch (show false = true from h))
    rename_i x p
    have h : (decide (c.N[i]? = some x) && visB c.sc x && dbgB x) = true := h
    simp only [Bool.and_eq_true, decide_eq_true_eq] at h
    obtain ⟨d1, d2, _⟩ := dbg_of h.2
    exact .val (pe_imp (pe_var (by rw [o.hN]; exact h.1.1) (vis_of o.sc h.1.2) d1 d2) tX_var) (fun _ => rfl)
  | .con g, c, X, W, e, o, f, h => by
    cases e <;> try (exact nomatch (show false = true from h))
    rename_i x p
    have h : (decide (T.con[g]? = some x) && glB c.sc x && dbgB x) = true := h
    simp only [Bool.and_eq_true, decide_eq_true_eq] at h
    obtain ⟨d, v, u, e1, e2, e3, _, e4⟩ := o.con g x h.1.1
    refine .val (pe_imp (pe_glob (gl_of o.sc h.1.2) e2 e3 (dbg_of h.2).1) (t := tC v) fun σ H Q hq => ?_) (fun _ => rfl)
    have : evX G F (.con g) = M.pure (PV.d d) := by
      show M.of ((G.con[g]?).map PV.d) = _
      rw [e1]; rfl
    rw [this] at hq
    exact tX_pure e4 σ H Q hq
  | .int i, c, X, W, e, o, f, h => by
    cases e <;> try (exact nomatch (show false = true from h))
    rename_i k j p
    cases k <;> try (exact nomatch (show false = true from h))
    rename_i j
    have h : decide (i = j) = true := h
    obtain rfl := of_decide_eq_true h
    exact .val (pe_imp pe_int (tX_pure fun _ _ _ => .int _)) (fun _ => rfl)
  | .str i, c, X, W, e, o, f, h => by
    cases e <;> try (exact nomatch (show false = true from h))
    rename_i k j p
    cases k <;> try (exact nomatch (show false = true from h))
    rename_i j
    have h : decide (i = j) = true := h
    obtain rfl := of_decide_eq_true h
    exact .val (pe_imp pe_str (tX_pure fun _ _ _ => .str _)) (fun _ => rfl)
  | .bl i, c, X, W, e, o, f, h => by
    cases e <;> try (exact nomatch (show false = true from h))
    rename_i k j p
    cases k <;> try (exact nomatch (show false = true from h))
    rename_i j
    have h : (i == j) = true := h
    obtain rfl : i = j := by simpa using h
    exact .val (pe_imp pe_bl (tX_pure fun _ _ _ => .bl _)) (fun _ => rfl)
  | .non, c, X, W, e, o, f, h => by
    cases e <;> try (exact nomatch (show false = true from h))
    rename_i k j p
    cases k <;> try (exact nomatch (show false = true from h))
    exact .val (pe_imp pe_non (tX_pure fun _ _ _ => .non)) (fun _ => rfl)
  | .bin op a b, c, X, W, e, o, f, h => by
    cases e <;> try (exact nomatch (show false = true from h))
    rename_i x op' y p
    have h : (decide (op' = opS op) && okX T N c a x && okX T N c b y) = true := h
    simp only [Bool.and_eq_true, decide_eq_true_eq] at h
    obtain ⟨⟨rfl, h1⟩, h2⟩ := h
    exact .val (pe_imp (pe_op (op_bin o.hK op) (sndX a x o f h1).pe (sndX b y o f h2).pe) (tX_two fun _ _ _ _ r => r)) (fun _ => rfl)
  | .neg a, c, X, W, e, o, f, h => by
    cases e <;> try (exact nomatch (show false = true from h))
    rename_i u x p
    cases u <;> try (exact nomatch (show false = true from h))
    have h : okX T N c a x = true := h
    refine .val (pe_imp (pe_un un_neg (sndX a x o f h).pe) (tX_one fun x H Q ⟨n, ad, M, y, z, hM, ra, hf, q⟩ => ?_)) (fun _ => rfl)
    cases y <;> simp only [negF] at hf <;> cases hf
    obtain rfl := ra.intI
    exact ⟨_, rfl, q _ _ (Same.refl _) (.int _)⟩
  | .not a, c, X, W, e, o, f, h => by
    cases e <;> try (exact nomatch (show false = true from h))
    rename_i u x p
    cases u <;> try (exact nomatch (show false = true from h))
    have h : okX T N c a x = true := h
    have g := sndX a x o f h
    exact ⟨pe_imp (pe_not g.pe) tX_not, pt_imp (pt_not g.pt) tT_not⟩
  | .and es, c, X, W, e, o, f, h => by
    cases e <;> try (exact nomatch (show false = true from h))
    rename_i u l p
    cases u <;> try (exact nomatch (show false = true from h))
    have h : okBs T N c es l = true := h
    obtain ⟨h1, h2⟩ := sndAnd es l p o f h
    exact ⟨h1, h2.pt⟩
  | .or es, c, X, W, e, o, f, h => by
    cases e <;> try (exact nomatch (show false = true from h))
    rename_i u l p
    cases u <;> try (exact nomatch (show false = true from h))
    have h : okBs T N c es l = true := h
    obtain ⟨h1, h2⟩ := sndOr es l p o f h
    exact ⟨h1, h2.pt⟩
  | .ife t a b, c, X, W, e, o, f, h => by
    cases e <;> try (exact nomatch (show false = true from h))
    rename_i z x y p
    have h : (okX T N c t z && okX T N c a x && okX T N c b y) = true := h
    simp only [Bool.and_eq_true] at h
    have g1 := sndX t z o f h.1.1
    have g2 := sndX a x o f h.1.2
    have g3 := sndX b y o f h.2
    exact ⟨pe_imp (pe_ifExp g1.pt g2.pe g3.pe) tX_ife, pt_imp (pt_ifExp g1.pt g2.pt g3.pt) tT_ife⟩
  | .cmp q a b, c, X, W, e, o, f, h => by
    cases e <;> try (exact nomatch (show false = true from h))
    rename_i x ops l p
    rcases ops with _ | ⟨o', _ | ⟨o2, ops⟩⟩ <;> try (exact nomatch (show false = true from h))
    rcases l with _ | ⟨y, _ | ⟨y2, l⟩⟩ <;> try (exact nomatch (show false = true from h))
    have h : (decide (o' = cmS q) && okX T N c a x && okX T N c b y && !behindInMarks o' y) = true := h
    simp only [Bool.and_eq_true, decide_eq_true_eq, Bool.not_eq_true'] at h
    obtain ⟨⟨⟨rfl, h1⟩, h2⟩, h3⟩ := h
    exact ⟨pe_imp (pe_cmpR (op_cmp o.hK o.un q) (sndX a x o f h1).pe (sndX b y o f h2).pe h3) (tX_two fun _ _ _ _ r => r), pt_imp (pt_cmpR (op_cmp o.hK o.un q) (sndX a x o f h1).pe (sndX b y o f h2).pe h3) (tT_two fun _ _ _ _ r => r)⟩
  | .chain q q2 a b d, c, X, W, e, o, f, h => by
    cases e <;> try (exact nomatch (show false = true from h))
    rename_i x ops l p
    rcases ops with _ | ⟨o', _ | ⟨o2, _ | ⟨o3, ops⟩⟩⟩ <;> try (exact nomatch (show false = true from h))
    rcases l with _ | ⟨y, _ | ⟨z, _ | ⟨z2, l⟩⟩⟩ <;> try (exact nomatch (show false = true from h))
    have h : (decide (o' = cmS q) && decide (o2 = cmS q2) && okX T N c a x && okX T N c b y && okX T N c d z && !lastMarks [o', o2] [y, z]) = true := h
    simp only [Bool.and_eq_true, decide_eq_true_eq, Bool.not_eq_true'] at h
    obtain ⟨⟨⟨⟨⟨rfl, rfl⟩, h1⟩, h2⟩, h3⟩, h4⟩ := h
    exact ⟨pe_imp (pe_chain (op_cmp o.hK o.un q) (op_cmp o.hK o.un q2) (sndX a x o f h1).pe (sndX b y o f h2).pe (sndX d z o f h3).pe h4) tX_chain,
      pt_imp (pt_chain (op_cmp o.hK o.un q) (op_cmp o.hK o.un q2) (sndX a x o f h1).pe (sndX b y o f h2).pe (sndX d z o f h3).pe h4) fun σ H Q hq => tX_chain σ H _ (tX_tB σ H Q hq)⟩
  | .tup es, c, X, W, e, o, f, h => by
    cases e <;> try (exact nomatch (show false = true from h))
    rename_i l k p
    have h : okXs T N c es l = true := h
    exact .val (pe_imp (pe_tup (sndXs es l o f h)) tX_tup) (fun _ => rfl)
  | .lst es, c, X, W, e, o, f, h => by
    cases e <;> try (exact nomatch (show false = true from h))
    rename_i l p
    have h : okXs T N c es l = true := h
    exact .val (pe_imp (pe_lst (sndXs es l o f h)) tX_lst) (fun _ => rfl)
  | .idx a i, c, X, W, e, o, f, h => by
    cases e <;> try (exact nomatch (show false = true from h))
    rename_i x y p
    have h : (okX T N c a x && okX T N c i y && noSlice y) = true := h
    simp only [Bool.and_eq_true] at h
    have pl : PlainIx y := fun _ _ => by
      have := h.2
      cases y <;> first | rfl | (exact nomatch (show false = true from this))
    exact .val (pe_imp (pe_ix (ix_all o.hK) (sndX a x o f h.1.1).pe (sndX i y o f h.1.2).pe pl) (tX_two fun _ _ _ _ r => r)) (fun _ => rfl)
  | .sl a lo hi, c, X, W, e, o, f, h => by
    cases e <;> try (exact nomatch (show false = true from h))
    rename_i x y p
    cases y <;> try (exact nomatch (show false = true from h))
    rename_i l u st p2
    cases st <;> try (exact nomatch (show false = true from h))
    have h : (okX T N c a x && okPart (okX T N c lo) lo.isNon l && okPart (okX T N c hi) hi.isNon u) = true := h
    simp only [Bool.and_eq_true] at h
    obtain ⟨⟨h1, h2⟩, h3⟩ := h
    obtain ⟨tl, pl, il⟩ := part_ok lo l (fun e _ he => sndX lo e o f he) h2
    obtain ⟨th, ph, ih⟩ := part_ok hi u (fun e _ he => sndX hi e o f he) h3
    refine .val (pe_imp (pe_slice (sl_all (X := X)) (sndX a x o f h1).pe pl ph) fun σ H Q hq => ?_) (fun _ => rfl)
    exact tX_mono (tX_sl (N := N) (W := W) σ H Q hq) fun v H1 h1 => il σ H1 _ (tX_mono h1 fun l H2 ⟨a, e1, h2⟩ => ⟨a, e1, ih σ H2 _ (tX_mono h2 fun u H3 ⟨b, e2, h3⟩ => ⟨b, e2, rSl_all o.hK h3⟩)⟩)
  | .rev _, c, X, W, e, o, f, h => nomatch (show false = true from h)
  | .attr a g, c, X, W, e, o, f, h => by
    cases e <;> try (exact nomatch (show false = true from h))
    rename_i x y p
    have h : (okX T N c a x && decide (y = N.nm g) && noCall x) = true := h
    simp only [Bool.and_eq_true, decide_eq_true_eq] at h
    obtain ⟨⟨h1, rfl⟩, h2⟩ := h
    refine .val (pe_imp (pe_fld (sndX a x o f h1).pe ?_) fun σ H Q hq => by rw [o.hK]; exact tX_fld o σ H Q hq) (fun _ => rfl)
    cases x <;> first | rfl | (exact nomatch (show false = true from h2))
  | .dct _ _, c, X, W, e, o, f, h => nomatch (show false = true from h)
  | .new x, c, X, W, e, o, f, h => by
    have h : okN T N c x e = true := h
    obtain ⟨g1, g2⟩ := sndN x e o f h
    exact .val (pe_imp g1 tX_new) g2
  | .bad, c, X, W, e, o, f, h => ⟨⟨fun _ _ σ H Q _ h => by obtain ⟨_, _, _, _, z⟩ := h; exact z.elim⟩, ⟨fun _ _ σ H Q _ h => by obtain ⟨_, _, _, _, z⟩ := h; exact z.elim⟩⟩
  | .mk _ _, c, X, W, e, o, f, h => nomatch (show false = true from h)
  | .mkN _ _, c, X, W, e, o, f, h => nomatch (show false = true from h)
  | .meth _ _ _ _, c, X, W, e, o, f, h => nomatch (show false = true from h)
  | .bm _ _ _, c, X, W, e, o, f, h => nomatch (show false = true from h)
  | .mm m a es, c, X, W, e, o, f, h => by
    cases e <;> try (exact nomatch (show false = true from h))
    rename_i fn l kw cp
    cases fn <;> try (exact nomatch (show false = true from h))
    rename_i x n ap
    cases kw with
    | cons => exact nomatch (show false = true from h)
    | nil =>
      have h' : (decide (n = mmName m) && mmOk m && noCall x && (ap.endLine == cp.line) && decide (l.length < 28) && okX T N c a x && okXs T N c es l) = true := h
      simp only [Bool.and_eq_true, decide_eq_true_eq] at h'
      obtain ⟨⟨⟨⟨⟨⟨rfl, h2⟩, h3⟩, h4⟩, h5⟩, h6⟩, h7⟩ := h'
      have g := sndX a x o f h6
      have as := sndXs es l o f h7
      have hb : attributeBase x (mmName m) X.env (eval x X.env) = eval x X.env := by cases x <;> first | rfl | (exact nomatch (show false = true from h3))
      refine .val ?_ (fun _ => rfl)
      cases l with
      | nil =>
        cases es with
        | cons => exact nomatch (show false = true from h7)
        | nil => exact pe_mm0 h2 g.pe hb h4
      | cons y l =>
        cases es with
        | nil => exact nomatch (show false = true from h7)
        | cons e es =>
          have h8 : (okX T N c e y && plainE y && okXs T N c es l) = true := h7
          simp only [Bool.and_eq_true] at h8
          exact pe_imp (pe_mm h2 g.pe as hb h4 (starFew _ _ h7 h5) (starE h8.1.2) (starAll es l h8.2)) (tX_mm h2)
  | .ext _ _, c, X, W, e, o, f, h => nomatch (show false = true from h)
  | .sdef _ _, c, X, W, e, o, f, h => nomatch (show false = true from h)
  | .call q g es, c, X, W, e, o, f, h => by
    cases e <;> try (exact nomatch (show false = true from h))
    rename_i fn l kw p
    cases fn <;> try (exact nomatch (show false = true from h))
    rename_i x p2
    cases kw with
    | cons => cases l <;> exact nomatch (show false = true from h)
    | nil =>
      have h' : (decide (T.fn[g]? = some x) && glB c.sc x && dbgB x && okXs T N c es l && !c.hot) = true := by cases l <;> exact h
      simp only [Bool.and_eq_true, decide_eq_true_eq, Bool.not_eq_true'] at h'
      obtain ⟨⟨⟨⟨h1, h2⟩, h3⟩, h4⟩, h5⟩ := h'
      obtain ⟨fa, fd, ps, k, m1, m2, m3, m4, m5, m6⟩ := f.fn g x h1
      have a := sndXs es l o f h4
      refine .val (pe_imp (t := tCallS (spF N ps.length (F g)) (WE W) (tAs N W (evDs G F es))) ?_ (tX_call m6)) (fun _ => rfl)
      cases l with
      | nil =>
        cases es with
        | cons => exact nomatch (show false = true from h4)
        | nil =>
          refine pe_imp (pe_callS0 m5 m4 (gl_of o.sc h2) m1 m2 m3 (passAt o.tk) (dbg_of h3).1) fun σ H Q hq => ?_
          exact tAs_nil σ H _ hq
      | cons y l =>
        cases es with
        | nil => exact nomatch (show false = true from h4)
        | cons e es =>
          have h6 : (okX T N c e y && plainE y && okXs T N c es l) = true := h4
          simp only [Bool.and_eq_true] at h6
          exact pe_callS m5 m4 (gl_of o.sc h2) m1 m2 m3 (passAt o.tk) a (dbg_of h3).1 (starE h6.1.2) (starAll es l h6.2)
  | .bi b es, c, X, W, e, o, f, h => by
    cases e <;> try (exact nomatch (show false = true from h))
    rename_i fn l kw p
    cases fn <;> try (exact nomatch (show false = true from h))
    rename_i x p2
    cases kw with
    | cons => cases l <;> exact nomatch (show false = true from h)
    | nil =>
      cases l with
      | nil => exact nomatch (show false = true from h)
      | cons y l =>
        have h' : (decide (x = biName b) && biOk b && glB c.sc x && okXs T N c es (y :: l) && !c.hot) = true := h
        simp only [Bool.and_eq_true, decide_eq_true_eq, Bool.not_eq_true'] at h'
        obtain ⟨⟨⟨⟨rfl, h2⟩, h3⟩, h4⟩, h5⟩ := h'
        have a := sndPs es (y :: l) o f h4
        cases es with
        | nil => exact nomatch (show false = true from h4)
        | cons e es =>
          have h6 : (okX T N c e y && plainE y && okXs T N c es l) = true := h4
          simp only [Bool.and_eq_true] at h6
          exact .val (pe_imp (pe_bi h2 (call_bi o.hK o.un (o.calm h5) b h2) (gl_of o.sc h3) (o.blt _ mem_blt) a (starE h6.1.2) (starAll es l h6.2)) (tX_bi fun _ _ _ r => r)) (fun _ => rfl)
  | .rg t a b, c, X, W, e, o, f, h => by
    cases e <;> try (exact nomatch (show false = true from h))
    rename_i fn l kw p
    cases fn <;> try (exact nomatch (show false = true from h))
    rename_i x p2
    rcases l with _ | ⟨z, _ | ⟨z2, l⟩⟩ <;> try (cases kw <;> exact nomatch (show false = true from h))
    cases kw with
    | cons => exact nomatch (show false = true from h)
    | nil =>
      have h' : (decide (x = if t = true then "tuple" else "list") && glB c.sc x && !c.hot && okRg (okX T N c a) (okX T N c b) (isZero a) (rgArgs c z)) = true := h
      simp only [Bool.and_eq_true, decide_eq_true_eq, Bool.not_eq_true'] at h'
      obtain ⟨⟨⟨rfl, h3⟩, h8⟩, hr⟩ := h'
      rcases hl : rgArgs c z with _ | ⟨y, _ | ⟨y2, _ | ⟨y3, l⟩⟩⟩ <;> rw [hl] at hr <;> try (exact nomatch (show false = true from hr))
      · obtain ⟨p4, p3, rfl, h4⟩ := rgArgs_inv hl
        have hr : (isZero a && okX T N c b y && plainE y) = true := hr
        simp only [Bool.and_eq_true] at hr
        obtain ⟨⟨h5, h6⟩, h7⟩ := hr
        have ea : evX G F a = M.pure (PV.d (.int 0)) := by
          cases a <;> try (exact nomatch (show false = true from h5))
          rename_i i
          have h5 : decide (i = 0) = true := h5
          obtain rfl := of_decide_eq_true h5
          rfl
        have g := prg_1 (p := p4) (pos := p3) (gl_of o.sc h4) (o.blt _ (by decide)) (sndX b y o f h6).pe (starE h7)
        have key : ∀ σ H Q, tX N W (evX G F (.rg t a b)) σ H Q → (if t = true then tTupRg (tRg1 (tX N W (evX G F b))) else tLstRg (tRg1 (tX N W (evX G F b)))) σ H Q := fun σ H Q hq => by
          have hq : tX N W (M.bind (evX G F a) fun x => M.bind (evX G F b) fun y => M.of (((rngF x y).bind (rgF t)).map PV.d)) σ H Q := hq
          rw [ea] at hq
          exact tX_rg0 σ H Q hq
        cases t with
        | true => exact .val (pe_imp (pe_tupRg (o.calm h8) (gl_of o.sc h3) (o.blt _ (by decide)) g) key) (fun _ => rfl)
        | false => exact .val (pe_imp (pe_listRg (o.calm h8) (gl_of o.sc h3) (o.blt _ (by decide)) g) key) (fun _ => rfl)
      · obtain ⟨p4, p3, rfl, h4⟩ := rgArgs_inv hl
        have hr : (okX T N c a y && plainE y && okX T N c b y2 && plainE y2) = true := hr
        simp only [Bool.and_eq_true] at hr
        obtain ⟨⟨⟨h5, h7⟩, h6⟩, h7'⟩ := hr
        have g := prg_2 (p := p4) (pos := p3) (gl_of o.sc h4) (o.blt _ (by decide)) (sndX a y o f h5).pe (sndX b y2 o f h6).pe (starE h7) (starE h7') (by rw [starE h7']; rfl)
        have key := tX_rg (N := N) (W := W) (t := t) (ma := evX G F a) (mb := evX G F b)
        cases t with
        | true => exact .val (pe_imp (pe_tupRg (o.calm h8) (gl_of o.sc h3) (o.blt _ (by decide)) g) key) (fun _ => rfl)
        | false => exact .val (pe_imp (pe_listRg (o.calm h8) (gl_of o.sc h3) (o.blt _ (by decide)) g) key) (fun _ => rfl)
  | .rg3 a b d, c, X, W, e, o, f, h => by
    cases e <;> try (exact nomatch (show false = true from h))
    rename_i fn l kw p
    cases fn <;> try (exact nomatch (show false = true from h))
    rename_i x p2
    rcases l with _ | ⟨z, _ | ⟨z2, l⟩⟩ <;> try (cases kw <;> exact nomatch (show false = true from h))
    cases kw with
    | cons => exact nomatch (show false = true from h)
    | nil =>
      have h' : (decide (x = "tuple") && glB c.sc x && !c.hot && okRg3 (okX T N c a) (okX T N c b) (okX T N c d) (rgArgs c z)) = true := h
      simp only [Bool.and_eq_true, decide_eq_true_eq, Bool.not_eq_true'] at h'
      obtain ⟨⟨⟨rfl, h3⟩, h8⟩, hr⟩ := h'
      rcases hl : rgArgs c z with _ | ⟨y1, _ | ⟨y2, _ | ⟨y3, _ | ⟨y4, l⟩⟩⟩⟩ <;> rw [hl] at hr <;> try (exact nomatch (show false = true from hr))
      obtain ⟨p4, p3, rfl, h4⟩ := rgArgs_inv hl
      have hr : (okX T N c a y1 && plainE y1 && okX T N c b y2 && plainE y2 && okX T N c d y3 && plainE y3) = true := hr
      simp only [Bool.and_eq_true] at hr
      obtain ⟨⟨⟨⟨⟨h5, q1⟩, h6⟩, q2⟩, h7⟩, q3⟩ := hr
      have pa := pa_cons (sndX a y1 o f h5).pe (pa_cons (sndX b y2 o f h6).pe (pa_cons (sndX d y3 o f h7).pe (pa_nil (X := X)) (starE q3)) (starE q2)) (starE q1)
      exact .val (pe_imp (pe_tupRg3 (o.calm h8) (gl_of o.sc h3) (o.blt _ (by decide)) (gl_of o.sc h4) (o.blt _ (by decide)) pa (starE q1) (fun pos => by rw [starE q2, starE q3]; rfl)) tX_rg3) (fun _ => rfl)
  | .isi a ts, c, X, W, e, o, f, h => by
    cases e <;> try (exact nomatch (show false = true from h))
    rename_i fn l kw p
    cases fn <;> try (exact nomatch (show false = true from h))
    rename_i x p2
    rcases l with _ | ⟨y, _ | ⟨z, _ | ⟨z2, l⟩⟩⟩ <;> try (cases kw <;> exact nomatch (show false = true from h))
    cases kw with
    | cons => exact nomatch (show false = true from h)
    | nil =>
      have h' : (decide (x = "isinstance") && glB c.sc x && okX T N c a y && plainE y && okIsi T c ts z) = true := h
      simp only [Bool.and_eq_true, decide_eq_true_eq] at h'
      obtain ⟨⟨⟨⟨rfl, h2⟩, h3⟩, h4⟩, h5⟩ := h'
      have g := sndX a y o f h3
      have two : (∀ t, ts ≠ [t]) → ∃ l k p, z = .Tuple l k p ∧ okTys T c ts l = true ∧ ts.length ≤ 100 := fun hne => by
        have h6 : okTysE T c ts z = true := by
          rcases ts with _ | ⟨t, _ | ⟨t2, ts⟩⟩
          · exact h5
          · exact absurd rfl (hne t)
          · exact h5
        cases z <;> try (exact nomatch (show false = true from h6))
        rename_i l k p
        have h6 : (okTys T c ts l && decide (ts.length ≤ 100)) = true := h6
        simp only [Bool.and_eq_true, decide_eq_true_eq] at h6
        exact ⟨l, k, p, rfl, h6.1, h6.2⟩
      have many : (∀ t, ts ≠ [t]) → Good N W X (.Call (.Name "isinstance" p2) [y, z] [] p) (evX G F (.isi a ts)) := fun hne => by
        obtain ⟨l, k, p, rfl, h6, h7⟩ := two hne
        obtain ⟨q1, q2⟩ := okTys_pa o ts l h6
        have pa := pa_cons g.pe (pa_cons (pe_tup (x1 := k) (pos := p) q1) (pa_nil (X := X)) (starE (e := .Tuple l k p) rfl)) (starE h4)
        exact .val (pe_imp (pe_callB (call_isiT (X := X)) (gl_of o.sc h2) (o.blt _ (by decide)) (by decide +kernel) pa (by decide) (by decide) (starE h4) (by rw [starE (e := .Tuple l k p) rfl]; rfl)) (by rw [o.hK]; exact tX_isiT o q2 h7)) (fun _ => rfl)
      rcases ts with _ | ⟨t, _ | ⟨t2, ts⟩⟩
      · exact many (fun t e => by cases e)
      · have h5 : okTy T c t z = true := h5
        obtain ⟨q1, q2⟩ := okTy_pe o h5
        have pz : plainE z = true := by cases z <;> first | rfl | (cases t <;> exact nomatch (show false = true from h5))
        have pa := pa_cons g.pe (pa_cons q1 (pa_nil (X := X)) (starE pz)) (starE h4)
        exact .val (pe_imp (pe_callB (call_isi (X := X)) (gl_of o.sc h2) (o.blt _ (by decide)) (by decide +kernel) pa (by decide) (by decide) (starE h4) (by rw [starE pz]; rfl)) (by rw [o.hK]; exact tX_isi1 o q2)) (fun _ => rfl)
      · exact many (fun t e => by cases e)
  | .lc elt tg it ifs own, c, X, W, e, o, f, h => by
    cases e <;> try (exact nomatch (show false = true from h))
    rename_i x gs sc p
    rcases gs with _ | ⟨⟨t, i, l, k⟩, _ | ⟨g2, gs⟩⟩ <;> try (exact nomatch (show false = true from h))
    · have h' : (decide (k = 0) && blkC c.N c.sc sc (ownOf c.N own) && decide ((ownOf c.N own).map (·.2) = own) && okIt T N c it t i && okTg (c.blk sc) tg t && (tgSl tg).all (fun i => own.contains i) && okQs T N (c.blk sc) ifs l && okX T N (c.blk sc) elt x && !c.hot && noSet i) = true := h
      simp only [Bool.and_eq_true, decide_eq_true_eq, Bool.not_eq_true'] at h'
      obtain ⟨⟨⟨⟨⟨⟨⟨⟨⟨rfl, h1⟩, h2⟩, h3⟩, h4⟩, h5⟩, h6⟩, h7⟩, h8⟩, h9⟩ := h'
      have pl : PE X (.ListComp x [⟨t, i, l, 0⟩] sc p) (tLc (tI N W (evIt G F it)) (gTg N.K tg) (tT N Wf (evQs G F ifs)) (tX N Wf (evX G F elt)) own) := by
        have := pe_lc (X := X) (own := ownOf c.N own) (pos := p) (o.calm h8) (by rw [o.hN]; exact o.nd) (sndIt it t i o f h3) (blkOk_by (by rw [o.hN, o.sc]; exact h1))
          (fun s H C cl fp => pg_core (o.blk s H C cl fp sc).tok o.hK tg t h4)
          (fun s H C cl fp => sndQs ifs l (o.blk s H C cl fp sc) (f.blk s H sc _ fp) h6)
          (fun s H C cl fp => (sndX elt x (o.blk s H C cl fp sc) (f.blk s H sc _ fp) h7).pe)
          (fun y => by cases i <;> first | rfl | (exact nomatch (show false = true from h9)))
        rw [h2] at this
        exact this
      refine .val (pe_imp pl (tX_lc fun j hj => ?_)) (fun _ => rfl)
      have := List.all_eq_true.mp h5 j hj
      simpa using this
theorem sndN : ∀ (x : Ex) {c : Sx} {X : Cx} {W : WX} (e : Expr), XOk T N G c X W → Fns T N X F → okN T N c x e = true → PE X e (tN N W (evX G F x)) ∧ ∀ whole, isTrue e X.env whole = (do let v ← whole; standAt e.pos; holding [v] (truthy v))
  | .lst es, c, X, W, e, o, f, h => by
    cases e <;> try (exact nomatch (show false = true from h))
    rename_i l p
    have h : okXs T N c es l = true := h
    exact ⟨pe_imp (pe_lst (sndXs es l o f h)) tN_lst, fun _ => rfl⟩
  | .lc elt tg it ifs own, c, X, W, e, o, f, h => by
    cases e <;> try (exact nomatch (show false = true from h))
    rename_i x gs sc p
    rcases gs with _ | ⟨⟨t, i, l, k⟩, _ | ⟨g2, gs⟩⟩ <;> try (exact nomatch (show false = true from h))
    · have h' : (decide (k = 0) && blkC c.N c.sc sc (ownOf c.N own) && decide ((ownOf c.N own).map (·.2) = own) && okIt T N c it t i && okTg (c.blk sc) tg t && (tgSl tg).all (fun i => own.contains i) && okQs T N (c.blk sc) ifs l && okX T N (c.blk sc) elt x && !c.hot && noSet i) = true := h
      simp only [Bool.and_eq_true, decide_eq_true_eq, Bool.not_eq_true'] at h'
      obtain ⟨⟨⟨⟨⟨⟨⟨⟨⟨rfl, h1⟩, h2⟩, h3⟩, h4⟩, h5⟩, h6⟩, h7⟩, h8⟩, h9⟩ := h'
      have pl : PE X (.ListComp x [⟨t, i, l, 0⟩] sc p) (tLc (tI N W (evIt G F it)) (gTg N.K tg) (tT N Wf (evQs G F ifs)) (tX N Wf (evX G F elt)) own) := by
        have := pe_lc (X := X) (own := ownOf c.N own) (pos := p) (o.calm h8) (by rw [o.hN]; exact o.nd) (sndIt it t i o f h3) (blkOk_by (by rw [o.hN, o.sc]; exact h1))
          (fun s H C cl fp => pg_core (o.blk s H C cl fp sc).tok o.hK tg t h4)
          (fun s H C cl fp => sndQs ifs l (o.blk s H C cl fp sc) (f.blk s H sc _ fp) h6)
          (fun s H C cl fp => (sndX elt x (o.blk s H C cl fp sc) (f.blk s H sc _ fp) h7).pe)
          (fun y => by cases i <;> first | rfl | (exact nomatch (show false = true from h9)))
        rw [h2] at this
        exact this
      refine ⟨pe_imp pl (tN_lc fun j hj => ?_), fun _ => rfl⟩
      have := List.all_eq_true.mp h5 j hj
      simpa using this
  | .v _, c, X, W, e, o, f, h => nomatch (show false = true from h)
  | .con _, c, X, W, e, o, f, h => nomatch (show false = true from h)
  | .int _, c, X, W, e, o, f, h => nomatch (show false = true from h)
  | .str _, c, X, W, e, o, f, h => nomatch (show false = true from h)
  | .bl _, c, X, W, e, o, f, h => nomatch (show false = true from h)
  | .non, c, X, W, e, o, f, h => nomatch (show false = true from h)
  | .bin _ _ _, c, X, W, e, o, f, h => nomatch (show false = true from h)
  | .neg _, c, X, W, e, o, f, h => nomatch (show false = true from h)
  | .not _, c, X, W, e, o, f, h => nomatch (show false = true from h)
  | .and _, c, X, W, e, o, f, h => nomatch (show false = true from h)
  | .or _, c, X, W, e, o, f, h => nomatch (show false = true from h)
  | .ife _ _ _, c, X, W, e, o, f, h => nomatch (show false = true from h)
  | .cmp _ _ _, c, X, W, e, o, f, h => nomatch (show false = true from h)
  | .chain _ _ _ _ _, c, X, W, e, o, f, h => nomatch (show false = true from h)
  | .tup _, c, X, W, e, o, f, h => nomatch (show false = true from h)
  | .dct _ _, c, X, W, e, o, f, h => nomatch (show false = true from h)
  | .new _, c, X, W, e, o, f, h => nomatch (show false = true from h)
  | .idx _ _, c, X, W, e, o, f, h => nomatch (show false = true from h)
  | .sl _ _ _, c, X, W, e, o, f, h => nomatch (show false = true from h)
  | .rev _, c, X, W, e, o, f, h => nomatch (show false = true from h)
  | .attr _ _, c, X, W, e, o, f, h => nomatch (show false = true from h)
  | .call _ _ _, c, X, W, e, o, f, h => nomatch (show false = true from h)
  | .mk _ _, c, X, W, e, o, f, h => nomatch (show false = true from h)
  | .mkN _ _, c, X, W, e, o, f, h => nomatch (show false = true from h)
  | .meth _ _ _ _, c, X, W, e, o, f, h => nomatch (show false = true from h)
  | .bi _ _, c, X, W, e, o, f, h => nomatch (show false = true from h)
  | .bm _ _ _, c, X, W, e, o, f, h => nomatch (show false = true from h)
  | .mm _ _ _, c, X, W, e, o, f, h => nomatch (show false = true from h)
  | .ext _ _, c, X, W, e, o, f, h => nomatch (show false = true from h)
  | .sdef _ _, c, X, W, e, o, f, h => nomatch (show false = true from h)
  | .rg _ _ _, c, X, W, e, o, f, h => nomatch (show false = true from h)
  | .rg3 _ _ _, c, X, W, e, o, f, h => nomatch (show false = true from h)
  | .isi _ _, c, X, W, e, o, f, h => nomatch (show false = true from h)
  | .bad, c, X, W, e, o, f, h => nomatch (show false = true from h)
theorem sndXs : ∀ (es : Exs) {c : Sx} {X : Cx} {W : WX} (l : List Expr), XOk T N G c X W → Fns T N X F → okXs T N c es l = true → PA X l (tAs N W (evDs G F es))
  | .nil, c, X, W, l, o, f, h => by
    cases l with
    | nil => exact pa_imp pa_nil tAs_nil
    | cons => exact nomatch (show false = true from h)
  | .cons e es, c, X, W, l, o, f, h => by
    cases l with
    | nil => exact nomatch (show false = true from h)
    | cons x l =>
      have h : (okX T N c e x && plainE x && okXs T N c es l) = true := h
      simp only [Bool.and_eq_true] at h
      exact pa_imp (pa_cons (sndX e x o f h.1.1).pe (sndXs es l o f h.2) (starE h.1.2)) tAs_cons
theorem sndPs : ∀ (es : Exs) {c : Sx} {X : Cx} {W : WX} (l : List Expr), XOk T N G c X W → Fns T N X F → okXs T N c es l = true → PA X l (tPs N W (evPs G F es))
  | .nil, c, X, W, l, o, f, h => by
    cases l with
    | nil => exact pa_imp pa_nil tPs_nil
    | cons => exact nomatch (show false = true from h)
  | .cons e es, c, X, W, l, o, f, h => by
    cases l with
    | nil => exact nomatch (show false = true from h)
    | cons x l =>
      have h : (okX T N c e x && plainE x && okXs T N c es l) = true := h
      simp only [Bool.and_eq_true] at h
      exact pa_imp (pa_cons (sndX e x o f h.1.1).pe (sndPs es l o f h.2) (starE h.1.2)) tPs_cons
theorem sndAnd : ∀ (es : Exs) {c : Sx} {X : Cx} {W : WX} (l : List Expr) (p : Pos), XOk T N G c X W → Fns T N X F → okBs T N c es l = true → PE X (.BoolOp .And l p) (tX N W (evAnd G F es)) ∧ PW X (.BoolOp .And l p) (tT N W (M.bind (evAnd G F es) toB))
  | .nil, c, X, W, l, p, o, f, h => by
    refine ⟨⟨fun _ _ σ H Q _ h => ?_⟩, ⟨fun _ _ _ σ H Q _ h => ?_⟩⟩
    · obtain ⟨_, _, _, _, z⟩ := h; exact z.elim
    · obtain ⟨_, _, _, _, z⟩ := h; exact z.elim
  | .cons e es, c, X, W, l, p, o, f, h => by
    cases l with
    | nil => exact nomatch (show false = true from h)
    | cons x l =>
      have h : (okX T N c e x && okBs T N c es l) = true := h
      simp only [Bool.and_eq_true] at h
      have g := sndX e x o f h.1
      cases es with
      | nil =>
        cases l with
        | nil => exact ⟨pe_one g.pe, pw_and1 g.pt⟩
        | cons => exact nomatch (show false = true from h.2)
      | cons e2 es =>
        cases l with
        | nil => exact nomatch (show false = true from h.2)
        | cons y l =>
          obtain ⟨r1, r2⟩ := sndAnd (.cons e2 es) (y :: l) p o f h.2
          refine ⟨pe_imp (pe_and g.pe r1) tX_and, ⟨fun wh pins s σ H Q I hw => ?_⟩⟩
          exact (pw_and g.pt r2).run wh pins s σ H Q I (tT_and σ H Q hw)
theorem sndOr : ∀ (es : Exs) {c : Sx} {X : Cx} {W : WX} (l : List Expr) (p : Pos), XOk T N G c X W → Fns T N X F → okBs T N c es l = true → PE X (.BoolOp .Or l p) (tX N W (evOr G F es)) ∧ PW X (.BoolOp .Or l p) (tT N W (M.bind (evOr G F es) toB))
  | .nil, c, X, W, l, p, o, f, h => by
    refine ⟨⟨fun _ _ σ H Q _ h => ?_⟩, ⟨fun _ _ _ σ H Q _ h => ?_⟩⟩
    · obtain ⟨_, _, _, _, z⟩ := h; exact z.elim
    · obtain ⟨_, _, _, _, z⟩ := h; exact z.elim
  | .cons e es, c, X, W, l, p, o, f, h => by
    cases l with
    | nil => exact nomatch (show false = true from h)
    | cons x l =>
      have h : (okX T N c e x && okBs T N c es l) = true := h
      simp only [Bool.and_eq_true] at h
      have g := sndX e x o f h.1
      cases es with
      | nil =>
        cases l with
        | nil => exact ⟨pe_one g.pe, pw_or1 g.pt⟩
        | cons => exact nomatch (show false = true from h.2)
      | cons e2 es =>
        cases l with
        | nil => exact nomatch (show false = true from h.2)
        | cons y l =>
          obtain ⟨r1, r2⟩ := sndOr (.cons e2 es) (y :: l) p o f h.2
          refine ⟨pe_imp (pe_or g.pe r1) tX_or, ⟨fun wh pins s σ H Q I hw => ?_⟩⟩
          exact (pw_or g.pt r2).run wh pins s σ H Q I (tT_or σ H Q hw)
theorem sndQs : ∀ (es : Exs) {c : Sx} {X : Cx} {W : WX} (l : List Expr), XOk T N G c X W → Fns T N X F → okQs T N c es l = true → PTs X l (tT N W (evQs G F es))
  | .nil, c, X, W, l, o, f, h => by
    cases l with
    | nil => exact ⟨fun pins s σ H Q I hw => pts_nil.run pins s σ H Q I (by obtain ⟨ad, st, FF, R, hg⟩ := hw; exact Gar.pure R hg)⟩
    | cons => exact nomatch (show false = true from h)
  | .cons e es, c, X, W, l, o, f, h => by
    cases es with
    | cons => exact nomatch (show false = true from h)
    | nil =>
      rcases l with _ | ⟨x, _ | ⟨x2, l⟩⟩ <;> try (exact nomatch (show false = true from h))
      have h : okX T N c e x = true := h
      have g := (sndX e x o f h).pt
      have : evQs G F (.cons e .nil) = M.bind (evX G F e) toB := by
        show M.bind (evX G F e) (fun x => M.bind (toB x) fun b => if b then M.pure true else M.pure false) = _
        congr
        funext x
        unfold toB
        split
        · rename_i b; cases b <;> rfl
        · rfl
      rw [this]
      exact pts_one g
theorem sndIt : ∀ (it : Ev.It) {c : Sx} {X : Cx} {W : WX} (t x : Expr), XOk T N G c X W → Fns T N X F → okIt T N c it t x = true → PI X t x (tI N W (evIt G F it))
  | .val e, c, X, W, t, x, o, f, h => by
    have h : (okX T N c e x && noSet x) = true := h
    simp only [Bool.and_eq_true] at h
    exact pi_imp (pi_seq (sndX e x o f h.1).pe) fun σ H R hq => by rw [o.hK]; exact tI_val σ H R hq
  | .rng1 e, c, X, W, t, x, o, f, h => by
    cases x <;> try (exact nomatch (show false = true from h))
    rename_i fn l kw p
    cases fn <;> try (exact nomatch (show false = true from h))
    rename_i r p2
    rcases l with _ | ⟨y, _ | ⟨y2, l⟩⟩ <;> try (cases kw <;> exact nomatch (show false = true from h))
    cases kw with
    | cons => exact nomatch (show false = true from h)
    | nil =>
      have h : (decide (r = "range") && glB c.sc r && okX T N c e y && plainE y) = true := h
      simp only [Bool.and_eq_true, decide_eq_true_eq] at h
      obtain ⟨⟨⟨rfl, h1⟩, h2⟩, h3⟩ := h
      exact pi_imp (pi_range1 (gl_of o.sc h1) (o.blt _ (by decide)) (pa_cons (sndX e y o f h2).pe (pa_nil (X := X)) (starE h3)) (starE h3)) tI_rng1
  | .rng2 a b, c, X, W, t, x, o, f, h => by
    cases x <;> try (exact nomatch (show false = true from h))
    rename_i fn l kw p
    cases fn <;> try (exact nomatch (show false = true from h))
    rename_i r p2
    rcases l with _ | ⟨y, _ | ⟨y2, _ | ⟨y3, l⟩⟩⟩ <;> try (cases kw <;> exact nomatch (show false = true from h))
    cases kw with
    | cons => exact nomatch (show false = true from h)
    | nil =>
      have h : (decide (r = "range") && glB c.sc r && okX T N c a y && plainE y && okX T N c b y2 && plainE y2) = true := h
      simp only [Bool.and_eq_true, decide_eq_true_eq] at h
      obtain ⟨⟨⟨⟨⟨rfl, h1⟩, h2⟩, h3⟩, h4⟩, h5⟩ := h
      exact pi_imp (pi_range2 (gl_of o.sc h1) (o.blt _ (by decide)) (pa_cons (sndX a y o f h2).pe (pa_cons (sndX b y2 o f h4).pe (pa_nil (X := X)) (starE h5)) (starE h3)) (by rw [starE h3, starE h5]; rfl) (starE h5)) tI_rng2
  | .enum e n, c, X, W, t, x, o, f, h => by
    cases t <;> try (exact nomatch (show false = true from h))
    rename_i es kk tp
    cases x <;> try (exact nomatch (show false = true from h))
    rename_i fn l kw p
    cases fn <;> try (exact nomatch (show false = true from h))
    rename_i r p2
    rcases l with _ | ⟨y, _ | ⟨y2, _ | ⟨y3, l⟩⟩⟩ <;> try (cases kw <;> exact nomatch (show false = true from h))
    rotate_right
    · cases y2 <;> try (exact nomatch (show false = true from h))
      rename_i k j cp
      cases k <;> exact nomatch (show false = true from h)
    · cases kw with
      | cons => exact nomatch (show false = true from h)
      | nil =>
        have h : (decide (n = 0) && decide (r = "enumerate") && glB c.sc r && okX T N c e y && plainE y) = true := h
        simp only [Bool.and_eq_true, decide_eq_true_eq] at h
        obtain ⟨⟨⟨⟨rfl, rfl⟩, h1⟩, h2⟩, h3⟩ := h
        exact pi_imp (pi_enum1 (gl_of o.sc h1) (o.blt _ (by decide)) (sndX e y o f h2).pe (starE h3)) fun σ H R hq => by rw [o.hK]; exact tI_enum σ H R hq
    · cases y2 <;> try (cases kw <;> exact nomatch (show false = true from h))
      rename_i k j cp
      cases k <;> try (cases kw <;> exact nomatch (show false = true from h))
      rename_i k
      cases kw with
      | cons => exact nomatch (show false = true from h)
      | nil =>
        have h : (decide (n = k) && decide (0 ≤ n) && decide (n < 1000) && decide (r = "enumerate") && glB c.sc r && okX T N c e y && plainE y) = true := h
        simp only [Bool.and_eq_true, decide_eq_true_eq] at h
        obtain ⟨⟨⟨⟨⟨⟨rfl, q1⟩, q2⟩, rfl⟩, h1⟩, h2⟩, h3⟩ := h
        exact pi_imp (pi_enum2 (gl_of o.sc h1) (o.blt _ (by decide)) (sndX e y o f h2).pe ⟨q1, q2⟩ (starE h3)) fun σ H R hq => by rw [o.hK]; exact tI_enum σ H R hq
  | .zip _ _, c, X, W, t, x, o, f, h => nomatch (show false = true from h)
  | .rev _, c, X, W, t, x, o, f, h => nomatch (show false = true from h)
  | .revr _, c, X, W, t, x, o, f, h => nomatch (show false = true from h)
  | .items _, c, X, W, t, x, o, f, h => nomatch (show false = true from h)
  | .vals _, c, X, W, t, x, o, f, h => nomatch (show false = true from h)
end
end Ev

set_option autoImplicit false
set_option linter.all false
set_option maxRecDepth 100000
set_option maxHeartbeats 1000000
/-! What the core's statements do. -/
namespace Ev
open PySem L2 PyProof.Rows
variable {T : Nam} {N : Nms} {G : Tab} {W : WX} {F : FT}
def GarS (N : Nms) (W : WX) (ad : Nat → Addr) (σ : L2.St) (H : Hp) (s : S) (F : Addr → Prop) (r : Res Ev.Flow) (K : Ev.Flow → S → (Nat → Addr) → L2.St → Hp → Prop) : Prop := match r with
  | .ok a s' => ∀ ad' σ' H', Rel N ad' σ' H' s' F → Post ad σ H s ad' σ' H' s' F → K a s' ad' σ' H'
  | .exc e s' => ∀ cls d ad' σ' H', Rel N ad' σ' H' s' F → Post ad σ H s ad' σ' H' s' F → RepE N s'.cel.length ad' (msk H' (Mk ad' σ' s' F)) H' e cls d → W cls d σ' H'
  | .stk => False
/-- what a flow is to reach -/
def KS (N : Nms) (F : Addr → Prop) (D : Ends) : Ev.Flow → S → (Nat → Addr) → L2.St → Hp → Prop := fun fl s' ad' σ' H' => match fl with
  | .next => D.nx σ' H'
  | .brk => D.bk σ' H'
  | .cont => D.ct σ' H'
  | .ret x => ∀ v, RepD N s'.cel.length ad' (msk H' (Mk ad' σ' s' F)) v x → D.rt v H'
def tS (N : Nms) (W : WX) (m : M Ev.Flow) : TS := fun D σ H => ∃ ad s F, Rel N ad σ H s F ∧ GarS N W ad σ H s F (m s) (KS N F D)
section
variable {ad ad' ad0 : Nat → Addr} {σ σ' σ0 : L2.St} {H H' H0 : Hp} {s s' s0 : S} {F : Addr → Prop} {α β : Type} {K : Ev.Flow → S → (Nat → Addr) → L2.St → Hp → Prop}
theorem GarS.from {r : Res Ev.Flow} (P : Post ad0 σ0 H0 s0 ad σ H s F) (h : GarS N W ad0 σ0 H0 s0 F r K) : GarS N W ad σ H s F r K := by
  cases r with
  | ok a s' => exact fun ad' σ' H' R' P' => h ad' σ' H' R' (P.trans P')
  | exc e s' => exact fun cls d ad' σ' H' R' P' => h cls d ad' σ' H' R' (P.trans P')
  | stk => exact h
theorem GarS.bind {m : M α} {f : α → M Ev.Flow} (h : GarS N W ad σ H s F (M.bind m f s) K) :
    Gar N W ad σ H s F (m s) fun a s' ad' H' => GarS N W ad' σ H' s' F (f a s') K := by
  unfold M.bind at h
  cases hm : m s with
  | ok a s' => rw [hm] at h; exact fun ad' H' R' P' => h.from P'
  | exc e s' => rw [hm] at h; exact fun cls d ad' H' R' P' r => h cls d ad' σ H' R' P' r
  | stk => rw [hm] at h; exact h
theorem GarS.pure {fl : Ev.Flow} (R : Rel N ad σ H s F) (h : GarS N W ad σ H s F (.ok fl s) K) : K fl s ad σ H := h ad σ H R Post.refl
end
/-! ### small statements -/
theorem tS_next {m : M Ev.Flow} (hm : m = M.pure .next) : ∀ D σ H, tS N W m D σ H → tNext D σ H := by
  rintro D σ H ⟨ad, s, F, R, h⟩
  subst hm
  exact GarS.pure R h
theorem tS_brk : ∀ D σ H, tS N W (M.pure .brk) D σ H → tBreak D σ H := by
  rintro D σ H ⟨ad, s, F, R, h⟩
  exact GarS.pure R h
theorem tS_cnt : ∀ D σ H, tS N W (M.pure .cont) D σ H → tCont D σ H := by
  rintro D σ H ⟨ad, s, F, R, h⟩
  exact GarS.pure R h
theorem tS_retN : ∀ D σ H, tS N W (M.pure (.ret .non)) D σ H → tRetN D σ H := by
  rintro D σ H ⟨ad, s, F, R, h⟩
  exact GarS.pure R h _ .non
theorem tS_ret {m : M PV} : ∀ D σ H, tS N W (M.bind m fun x => M.bind x.store fun y => M.pure (.ret y)) D σ H → tRet (tX N W m) D σ H := by
  rintro D σ H ⟨ad, s, F, R, h⟩
  refine ⟨ad, s, F, R, (GarS.bind h).mono fun pv s1 ad1 H1 R1 P1 h1 v rv => ?_⟩
  obtain ⟨d, s', R', P', rd, k⟩ := store_ok R1 rv (GarS.bind h1)
  exact GarS.pure R' k v rd
theorem tS_ex {m : M PV} : ∀ D σ H, tS N W (M.bind m fun _ => M.pure .next) D σ H → tDrop (tX N W m) D σ H := by
  rintro D σ H ⟨ad, s, F, R, h⟩
  exact ⟨ad, s, F, R, (GarS.bind h).mono fun pv s1 ad1 H1 R1 P1 h1 v rv => GarS.pure R1 h1⟩
theorem tS_seq {m1 m2 : M Ev.Flow} : ∀ D σ H, tS N W (fun st => match m1 st with | .ok .next st' => m2 st' | r => r) D σ H → tSeq (tS N W m1) (tS N W m2) D σ H := by
  rintro D σ H ⟨ad, s, F, R, h⟩
  refine ⟨ad, s, F, R, ?_⟩
  have h : GarS N W ad σ H s F (match m1 s with | .ok .next st' => m2 st' | r => r) (KS N F D) := h
  cases hm : m1 s with
  | ok a s' =>
    rw [hm] at h
    cases a with
    | next => exact fun ad' σ' H' R' P' => ⟨ad', s', F, R', h.from P'⟩
    | brk => exact h
    | cont => exact h
    | ret t => exact h
  | exc e s' => rw [hm] at h; exact h
  | stk => rw [hm] at h; exact h
theorem tS_ife {mc : M PV} {ma mb : M Ev.Flow} : ∀ D σ H, tS N W (M.bind mc fun x => M.bind (toB x) fun k => if k then ma else mb) D σ H → tIfS (tT N W (M.bind mc toB)) (tS N W ma) (tS N W mb) D σ H := by
  rintro D σ H ⟨ad, s, F, R, h⟩
  refine ⟨ad, s, F, R, ?_⟩
  have e : (M.bind mc fun x => M.bind (toB x) fun k => if k then ma else mb) = M.bind (M.bind mc toB) fun k => if k then ma else mb := (bind_assoc _ _ _).symm
  rw [e] at h
  refine (GarS.bind h).mono fun b s1 ad1 H1 R1 P1 h1 => ?_
  cases b with
  | true => exact ⟨ad1, s1, F, R1, h1⟩
  | false => exact ⟨ad1, s1, F, R1, h1⟩
theorem tS_asg {m : M PV} {t : Tg} : ∀ D σ H, tS N W (M.bind m fun x => M.bind x.store fun y => bindM t y) D σ H → tAsg (tX N W m) (gTg N.K t) D σ H := by
  rintro D σ H ⟨ad, s, F, R, h⟩
  refine ⟨ad, s, F, R, (GarS.bind h).mono fun pv s1 ad1 H1 R1 P1 h1 v rv => ?_⟩
  obtain ⟨d, s', R', P', rd, k⟩ := store_ok R1 rv (GarS.bind h1)
  have k : GarS N W ad1 σ H1 s' F (bindM t d s') (KS N F D) := k
  unfold bindM at k
  cases hb : bindT t d s' with
  | none => rw [hb] at k; exact k.elim
  | some s2 =>
    rw [hb] at k
    exact bind_ok t d v (vs := tgSl t) (fun _ h => h) hb R' rd fun σ1 R2 P2 _ => k ad1 σ1 H1 R2 P2
theorem tS_asgO {m : M PV} {i : Nat} : ∀ D σ H, tS N W (M.bind m fun x => asgOM i x) D σ H → tAsg (tN N W m) (gName i) D σ H := by
  rintro D σ H ⟨ad, s, F, R, h⟩
  refine ⟨ad, s, F, R, ?_⟩
  have h : GarS N W ad σ H s F (M.bind m (fun x => asgOM i x) s) (KS N F D) := h
  unfold M.bind at h
  cases hm : m s with
  | stk => rw [hm] at h; exact h
  | exc e s' => rw [hm] at h; exact fun cls d ad' H' R' P' r => h cls d ad' σ H' R' P' r
  | ok pv s' =>
    rw [hm] at h
    intro ad' H' p R' P' c hc ok
    have h : GarS N W ad σ H s F (asgOM i pv s') (KS N F D) := h
    unfold asgOM at h
    rw [hc] at h
    simp only at h
    split at h
    · rename_i hi
      obtain ⟨R2, P2⟩ := Rel.setOwn P' R' hi ok
      exact h ad' _ H' R2 P2
    · exact h.elim
theorem tS_asgI {m mo mi : M PV} : ∀ D σ H, tS N W (M.bind m fun t => M.bind t.store fun t => M.bind mo fun x => M.bind mi fun y => asgIM x y t) D σ H → tAsg (tX N W m) (gSub (tX N W mo) (tX N W mi) rSetL) D σ H := by
  rintro D σ H ⟨ad, s, F, R, h⟩
  refine ⟨ad, s, F, R, (GarS.bind h).mono fun pv s1 ad1 H1 R1 P1 h1 v rv => ?_⟩
  obtain ⟨d, s', R', P', rd, k⟩ := store_ok R1 rv (GarS.bind h1)
  refine ⟨ad1, s', F, R', (GarS.bind k).mono fun po s2 ad2 H2 R2 P2 h2 o ro => ?_⟩
  refine ⟨ad2, s2, F, R2, (GarS.bind h2).mono fun pi s3 ad3 H3 R3 P3 h3 i ri => ?_⟩
  have h3 : GarS N W ad3 σ H3 s3 F (asgIM po pi d s3) (KS N F D) := h3
  have ro3 := ro.post P3
  have rd3 := P3.rep (P2.rep rd)
  unfold asgIM at h3
  cases hl : po.lo with
  | none => rw [hl] at h3; exact h3.elim
  | some l =>
    rw [hl] at h3
    cases hv : pi.val s3 with
    | none => rw [hv] at h3; exact h3.elim
    | some y =>
      rw [hv] at h3
      simp only at h3
      split at h3
      · rename_i ts j hg
        have hg : s3.get l = some (.lst ts) := hg
        cases hn : Ev.ixN ts.length j with
        | none => rw [hn] at h3; exact h3.elim
        | some n =>
          rw [hn] at h3
          obtain ⟨a, rfl, e, xs, hx, rx⟩ := lst_at R3 ro3 hl hg
          have rj := (ri.val R3 hv).intI
          subst rj
          obtain ⟨R4, P4⟩ := R3.put (o := .lst (xs.set n v)) (c := .lst (ts.set n d)) hg e ⟨_, upd_same, rx.set rd3 n⟩
          refine ⟨a, xs, j, n, rfl, rfl, hx, ?_, h3 ad3 σ _ R4 P4⟩
          rw [← ixN_L2, rx.length]; exact hn
      · exact h3.elim
theorem tS_aug {m : M PV} {i : Nat} {op : Op} {f : Int → Int → Int} (hf : ∀ x y z, augI op x y = some z → ∃ a b, x = .int a ∧ y = .d (.int b) ∧ z = .int (f a b)) : ∀ D σ H, tS N W (M.bind (augV i) fun x => M.bind m fun y => augB i op x y) D σ H → tAug i (tX N W m) (ipI f) D σ H := by
  rintro D σ H ⟨ad, s, F, R, h⟩
  have h0 := GarS.bind h
  unfold augV at h0
  cases hl : s.loc1 i with
  | none => rw [hl] at h0; exact h0.elim
  | some lv =>
    rw [hl] at h0
    cases lv with
    | own c => exact h0.elim
    | d x =>
      obtain ⟨v, e, r⟩ := R.dat i x (loc1_some.mp hl)
      refine ⟨v, e, ad, s, F, R, ?_⟩
      have h1 : GarS N W ad σ H s F (M.bind m (fun y => augB i op x y) s) (KS N F D) := by
        cases x <;> first | exact h0.elim | exact Gar.pure R h0
      refine (GarS.bind h1).mono fun pv s1 ad1 H1 R1 P1 h1 w rw' => ?_
      have h1 : GarS N W ad1 σ H1 s1 F (augB i op x pv s1) (KS N F D) := h1
      unfold augB at h1
      cases ha : augI op x pv with
      | none => rw [ha] at h1; exact h1.elim
      | some z =>
        rw [ha] at h1
        obtain ⟨a, b, rfl, rfl, rfl⟩ := hf _ _ _ ha
        cases r
        cases rw'
        obtain ⟨R2, P2⟩ := R1.setD i (v := .int (f a b)) (d := .int (f a b)) (.int _)
        exact ⟨a, b, rfl, rfl, h1 ad1 _ H1 R2 P2⟩
theorem aug_add : ∀ x y z, augI .add x y = some z → ∃ a b, x = .int a ∧ y = .d (.int b) ∧ z = .int (a + b) := fun x y z h => by
  unfold augI at h
  split at h <;> cases h
  · exact ⟨_, _, rfl, rfl, rfl⟩
  · rename_i h; cases h
theorem aug_sub : ∀ x y z, augI .sub x y = some z → ∃ a b, x = .int a ∧ y = .d (.int b) ∧ z = .int (a - b) := fun x y z h => by
  unfold augI at h
  split at h <;> cases h
  · rename_i h; cases h
  · exact ⟨_, _, rfl, rfl, rfl⟩
/-! ### loops -/
section
variable {tg : Tg} {bd : M Ev.Flow} {kl : List Nat} {ad : Nat → Addr} {σ : L2.St} {H : Hp} {s : S} {F : Addr → Prop} {D : Ends}
/-- one turn -/
theorem turn_ok {x : Ev.D} {v : V} {k : S → Res Ev.Flow} {Pv : L2.St → Hp → Prop} (R : Rel N ad σ H s F) (r : RepD N s.cel.length ad (msk H (Mk ad σ s F)) v x)
    (h : GarS N W ad σ H s F (match turnM tg bd x s with
      | .ok .next s' | .ok .cont s' => k (wipe kl s')
      | .ok .brk s' => .ok .next (wipe kl s')
      | .ok (.ret t) s' => .ok (.ret t) s'
      | .exc e s' => .exc e s'
      | .stk => .stk) (KS N F D))
    (hk : ∀ ad' σ' H' s', Rel N ad' σ' H' s' F → Post ad σ H s ad' σ' H' s' F → GarS N W ad' σ' H' s' F (k s') (KS N F D) → Pv σ' H') :
    gTg N.K tg v σ H fun σ2 H2 => tS N W bd { D with nx := Pv, ct := Pv, bk := D.nx } σ2 H2 := by
  unfold turnM at h
  cases hb : bindT tg x s with
  | none => rw [hb] at h; exact h.elim
  | some s1 =>
    rw [hb] at h
    simp only at h
    refine bind_ok tg x v (vs := tgSl tg) (fun _ h => h) hb R r fun σ1 R1 P1 _ => ⟨ad, s1, F, R1, ?_⟩
    cases hm : bd s1 with
    | stk => rw [hm] at h; exact h
    | exc e s2 => rw [hm] at h; exact fun cls d ad' σ' H' R' P' => h cls d ad' σ' H' R' (P1.trans P')
    | ok fl s2 =>
      rw [hm] at h
      intro ad' σ' H' R' P'
      cases fl with
      | next =>
        obtain ⟨R2, P2⟩ := R'.wipe kl
        exact hk ad' σ' H' _ R2 ((P1.trans P').trans P2) (h.from ((P1.trans P').trans P2))
      | cont =>
        obtain ⟨R2, P2⟩ := R'.wipe kl
        exact hk ad' σ' H' _ R2 ((P1.trans P').trans P2) (h.from ((P1.trans P').trans P2))
      | brk =>
        obtain ⟨R2, P2⟩ := R'.wipe kl
        exact h ad' σ' H' R2 ((P1.trans P').trans P2)
      | ret t => exact h ad' σ' H' R' (P1.trans P')
theorem for_core {J : L2.It} {ds : List Ev.D} (R : Rel N ad σ H s F) (wk : Wlk N s.cel.length ad (msk H (Mk ad σ s F)) J ds) (h : GarS N W ad σ H s F (loopF (turnM tg bd) kl ds s) (KS N F D)) :
    ∃ Wm : Nat → Nat → L2.St → Hp → Prop, (∃ m, Wm 0 m σ H) ∧ ∀ i m σ H, Wm i m σ H →
      (J.stop i H ∧ D.nx σ H) ∨ (J.go i H ∧ ∃ Nx : L2.St → Hp → Prop, (∀ σ' H', Nx σ' H' → ∃ m', m' < m ∧ Wm (i + 1) m' σ' H') ∧ ∀ x H', J.yld i H x H' → gTg N.K tg x σ H' fun σ2 H2 => tS N W bd { D with nx := Nx, ct := Nx, bk := D.nx } σ2 H2) := by
  obtain ⟨g, Y, w, hg, hY⟩ := wk
  refine for_it w (fun i σ' H' => ∃ ad' s', Rel N ad' σ' H' s' F ∧ Post ad σ H s ad' σ' H' s' F ∧ GarS N W ad' σ' H' s' F (loopF (turnM tg bd) kl (ds.drop i) s') (KS N F D))
    ⟨ad, s, R, Post.refl, h⟩ (fun i σ' H' _ ⟨ad', s', R', P', _⟩ => hg _ (P'.sm.trans sm_le)) ?_ ?_
  · rintro i x σ1 H1 H2 hi ⟨ad1, s1, R1, P1, h1⟩ y
    obtain ⟨d, hd, sm, rd⟩ := hY i H1 x H2 y _ _ _ P1.len P1.agr P1.sm fun p m => R1.masked m
    have e : ds.drop i = d :: ds.drop (i + 1) := by
      have hlt := (List.getElem?_eq_some_iff.mp hd).1
      rw [List.drop_eq_getElem_cons hlt]
      congr 1
      have := List.getElem?_eq_getElem hlt
      rw [hd] at this; cases this; rfl
    rw [e] at h1
    exact turn_ok (R1.grow sm) rd (h1.from (.grow R1 sm)) fun ad' σ' H' s' R' P' k => ⟨ad', s', R', (P1.trans (.grow R1 sm)).trans P', k⟩
  · rintro σ' H' ⟨ad', s', R', P', h'⟩
    rw [List.drop_length] at h'
    obtain ⟨R2, P2⟩ := R'.wipe kl
    exact h' ad' σ' H' R2 P2
/-- over a list of the store -/
theorem forR_core {k n : Nat} {a : Addr} (R : Rel N ad σ H s F) (hk : k < s.cel.length) (ha : ad k = a) (h : GarS N W ad σ H s F (loopR (turnM tg bd) kl k n 0 n s) (KS N F D)) :
    ∃ Wm : Nat → Nat → L2.St → Hp → Prop, (∃ m, Wm 0 m σ H) ∧ ∀ i m σ H, Wm i m σ H →
      ((Itl N.K a).stop i H ∧ D.nx σ H) ∨ ((Itl N.K a).go i H ∧ ∃ Nx : L2.St → Hp → Prop, (∀ σ' H', Nx σ' H' → ∃ m', m' < m ∧ Wm (i + 1) m' σ' H') ∧ ∀ x H', (Itl N.K a).yld i H x H' → gTg N.K tg x σ H' fun σ2 H2 => tS N W bd { D with nx := Nx, ct := Nx, bk := D.nx } σ2 H2) := by
  refine ⟨fun i m σ' H' => i + m = n ∧ ∃ ad' s', Rel N ad' σ' H' s' F ∧ Post ad σ H s ad' σ' H' s' F ∧ GarS N W ad' σ' H' s' F (loopR (turnM tg bd) kl k n i m s') (KS N F D), ⟨n, by simp, ad, s, R, Post.refl, h⟩, ?_⟩
  rintro i m σ1 H1 ⟨him, ad1, s1, R1, P1, h1⟩
  have at1 : ad1 k = a := (P1.agr k hk).trans ha
  have lst : ∀ xs, s1.cel[k]? = some (.lst xs) → ∃ vs, H1 a = some (.lst vs) ∧ RepDs N s1.cel.length ad1 (msk H1 (Mk ad1 σ1 s1 F)) vs xs := fun xs hc => by
    obtain ⟨a', e, vs, e2, r⟩ := R1.own (.id k) _ hc
    have e : some (ad1 k) = some a' := e
    rw [at1] at e; cases e
    exact ⟨vs, e2, r⟩
  cases m with
  | zero =>
    unfold loopR at h1
    split at h1
    · rename_i xs hc
      split at h1
      · rename_i hn
        obtain ⟨vs, e2, r⟩ := lst xs hc
        obtain ⟨R2, P2⟩ := R1.wipe kl
        exact .inl ⟨⟨vs, SqL.of e2, by rw [r.length, hn.1, hn.2]; exact Nat.le_refl _⟩, h1 ad1 σ1 H1 R2 P2⟩
      · exact h1.elim
    · exact h1.elim
  | succ m =>
    unfold loopR at h1
    split at h1
    · rename_i xs hc
      split at h1
      · rename_i hn
        obtain ⟨vs, e2, r⟩ := lst xs hc
        cases hx : xs[i]? with
        | none => rw [hx] at h1; exact h1.elim
        | some x =>
          rw [hx] at h1
          simp only at h1
          obtain ⟨v, ev, rv⟩ := r.get hx
          refine .inr ⟨⟨vs, v, SqL.of e2, ev⟩, fun σ' H' => i + 1 + m = n ∧ ∃ ad' s', Rel N ad' σ' H' s' F ∧ Post ad σ H s ad' σ' H' s' F ∧ GarS N W ad' σ' H' s' F (loopR (turnM tg bd) kl k n (i + 1) m s') (KS N F D), fun σ' H' q => ⟨m, Nat.lt_succ_self m, q⟩, fun x2 H2 y => ?_⟩
          obtain ⟨rfl, y⟩ := y
          have e3 := y vs (SqL.of e2)
          rw [ev] at e3; cases e3
          exact turn_ok R1 rv h1 fun ad' σ' H' s' R' P' k => ⟨by omega, ad', s', R', P1.trans P', k⟩
      · exact h1.elim
    · exact h1.elim
end
theorem tS_for {mi : M (List Ev.D)} {tg : Tg} {bd : M Ev.Flow} {kl : List Nat} : ∀ D σ H, tS N W (M.bind mi fun l => loopF (turnM tg bd) kl l) D σ H → tFor (tI N W mi) (gTg N.K tg) (tS N W bd) D σ H := by
  rintro D σ H ⟨ad, s, F, R, h⟩
  exact ⟨ad, s, F, R, (GarS.bind h).mono fun ds s1 ad1 H1 R1 P1 h1 J wk => for_core R1 wk h1⟩
theorem tS_forV {m : M PV} {tg : Tg} {bd : M Ev.Flow} {kl : List Nat} : ∀ D σ H, tS N W (M.bind m fun x => M.bind (walk x) fun wk => loopA (turnM tg bd) kl wk) D σ H →
    tFor (fun σ H R => (tX N W m) σ H fun x H1 => ∃ a xs, x = .ref a ∧ ((SqL N.K H1 a xs ∧ R (Itl N.K a) H1) ∨ (SqT N.K H1 a xs ∧ R (Itt N.K a) H1))) (gTg N.K tg) (tS N W bd) D σ H := by
  rintro D σ H ⟨ad, s, F, R, h⟩
  refine ⟨ad, s, F, R, (GarS.bind h).mono fun pv s1 ad1 H1 R1 P1 h1 v rv => ?_⟩
  by_cases hne : ∃ k, pv = .d (.ref k)
  · obtain ⟨k, rfl⟩ := hne
    have hw := GarS.bind h1
    unfold walk at hw
    simp only at hw
    split at hw
    · rename_i xs hc
      have k2 := Gar.pure R1 hw
      have rv : RepD N s1.cel.length ad1 (msk H1 (Mk ad1 σ s1 F)) v (.ref k) := rv
      cases rv with
      | ref hk =>
        obtain ⟨a', e, vs, e2, r⟩ := R1.own (.id k) _ hc
        have e : some (ad1 k) = some a' := e
        cases e
        exact ⟨_, vs, rfl, .inl ⟨SqL.of e2, forR_core R1 hk rfl k2⟩⟩
    · exact hw.elim
  · have e : walk pv = M.bind pv.store fun x => M.of (x.items.map .xs) := by
      unfold walk
      split
      · rename_i k; exact absurd ⟨k, rfl⟩ hne
      · rfl
    rw [e] at h1
    obtain ⟨d, s', R', P', rd, k⟩ := store_ok R1 rv (Gar.bind (GarS.bind h1))
    obtain ⟨wk, ew, k⟩ := of_inv R' k
    cases d with
    | lst ds =>
      cases ew
      cases rd with
      | lst q1 q2 => exact ⟨_, _, rfl, .inl ⟨SqL.sm sm_le q1, for_core R' (wlk_list q1 q2) k⟩⟩
    | tup ds =>
      cases ew
      cases rd with
      | tup q1 q2 => exact ⟨_, _, rfl, .inr ⟨SqT.sm sm_le q1, for_core R' (wlk_tup q1 q2) k⟩⟩
    | _ => cases ew
theorem tS_whl {mc : M Bool} {bd : M Ev.Flow} {kl : List Nat} {n : Nat} : ∀ D σ H, tS N W (loopW mc bd kl n) D σ H → tWhile (tT N W mc) (tS N W bd) D σ H := by
  rintro D σ H ⟨ad, s, F, R, h⟩
  refine ⟨fun m σ' H' => ∃ ad' s', Rel N ad' σ' H' s' F ∧ GarS N W ad' σ' H' s' F (loopW mc bd kl m s') (KS N F D), ⟨n, ad, s, R, h⟩, ?_⟩
  rintro m σ1 H1 ⟨ad1, s1, R1, h1⟩
  refine ⟨ad1, s1, F, R1, ?_⟩
  cases m with
  | zero => exact h1.elim
  | succ m =>
    unfold loopW at h1
    cases hc : mc s1 with
    | stk => rw [hc] at h1; exact h1
    | exc e s2 => rw [hc] at h1; exact fun cls d ad' H' R' P' r => h1 cls d ad' σ1 H' R' P' r
    | ok b s2 =>
      rw [hc] at h1
      intro ad2 H2 R2 P2
      cases b with
      | false => exact h1 ad2 σ1 H2 R2 P2
      | true =>
        rw [if_pos rfl]
        refine ⟨fun σ' H' => ∃ ad' s', Rel N ad' σ' H' s' F ∧ GarS N W ad' σ' H' s' F (loopW mc bd kl m s') (KS N F D), fun σ' H' q => ⟨m, Nat.lt_succ_self m, q⟩, ad2, s2, F, R2, ?_⟩
        simp only at h1
        cases hm : bd s2 with
        | stk => rw [hm] at h1; exact h1
        | exc e s3 => rw [hm] at h1; exact fun cls d ad' σ' H' R' P' => h1 cls d ad' σ' H' R' (P2.trans P')
        | ok fl s3 =>
          rw [hm] at h1
          intro ad' σ' H' R' P'
          cases fl with
          | next =>
            obtain ⟨R3, P3⟩ := R'.wipe kl
            exact ⟨ad', _, R3, h1.from ((P2.trans P').trans P3)⟩
          | cont =>
            obtain ⟨R3, P3⟩ := R'.wipe kl
            exact ⟨ad', _, R3, h1.from ((P2.trans P').trans P3)⟩
          | brk =>
            obtain ⟨R3, P3⟩ := R'.wipe kl
            exact h1 ad' σ' H' R3 ((P2.trans P').trans P3)
          | ret t => exact h1 ad' σ' H' R' (P2.trans P')
end Ev

set_option autoImplicit false
set_option linter.all false
set_option maxRecDepth 100000
set_option maxHeartbeats 2000000
/-! What the core says of a def's body is so. -/
namespace Ev
open PySem L2 PyProof.Rows
def isCp : Expr → Bool
  | .ListComp _ _ _ _ | .SetComp _ _ _ _ | .DictComp _ _ _ _ _ => true
  | _ => false
/-- name = [..] on one line -/
def swapB (sc scope : Scope) (t : Str) (p vp : Pos) : Bool :=
  (if sc.kind.isAnnotationScope then ScopeKind.function else sc.kind) == .function && sc.names.lookup t == some .local && p.line == vp.line && !(scope.names.any fun (n, k) => n == t && (k == .local || k == .cell))
def isLcE : Ex → Bool
  | .lc _ _ _ _ _ => true
  | _ => false
def isNm (sc : Scope) : Expr → Bool
  | .Name y _ => locB sc y
  | _ => false
def noTup : Expr → Bool
  | .Tuple _ _ _ | .List _ _ => false
  | _ => true
/-- how the value is stored -/
def okStore (c : Sx) (e : Ex) (tg : Expr) : Expr → Bool
  | .ListComp _ _ _ _ => isNm c.sc tg && isLcE e
  | .SetComp _ _ _ _ | .DictComp _ _ _ _ _ => false
  | .Tuple _ _ _ => noTup tg
  | _ => true
mutual
def okS (T : Nam) (N : Nms) (c : Sx) : Ev.St → Stmt → Bool
  | .asg t e, st => match st with
    | .Assign [tg] v _ => okTg c t tg && okX T N c e v && okStore c e tg v
    | _ => false
  | .asgO i e, st => match st with
    | .Assign [tg] v _ => okTg c (.v i) tg && okN T N c e v && okStore c e tg v
    | _ => false
  | .asgI o i e, st => match st with
    | .Assign [.Subscript a b _] v _ => okX T N c o a && okX T N c i b && noSlice b && okX T N c e v && !isCp v
    | _ => false
  | .asgF _ _ _, _ => false
  | .aug i op e, st => match st with
    | .AugAssign (.Name x _) o v _ => decide (c.N[i]? = some x) && (locB c.sc x || celB c.sc x && celB c.ow x) && decide (o = opS op) && (decide (op = .add) || decide (op = .sub)) && okX T N c e v
    | _ => false
  | .augF _ _ _ _, _ => false
  | .augI _ _ _ _, _ => false
  | .ex e, st => match st with
    | .Expr v _ => okX T N c e v && !isCp v
    | _ => false
  | .ife q a b, st => match st with
    | .If z x y _ => okX T N c q z && okSs T N c a x && okSs T N c b y
    | _ => false
  | .whl _ q a _, st => match st with
    | .While z x [] _ => okX T N c q z && okSs T N c a x
    | _ => false
  | .for tg it a _, st => match st with
    | .For t x b [] _ => okTg c tg t && okIt T N c it t x && okSs T N c a b && !c.hot && noSet x
    | _ => false
  | .ret e, st => match st with
    | .Return (some v) _ => okX T N c e v
    | _ => false
  | .retN, st => match st with
    | .Return none _ => true
    | _ => false
  | .brk, st => match st with
    | .Break _ => true
    | _ => false
  | .cnt, st => match st with
    | .Continue _ => true
    | _ => false
  | .pass, st => match st with
    | .Pass _ => true
    | .Expr (.Constant (.str _) _ _) _ => true
    | _ => false
  | .rais _ _, _ => false
  | .tryx _ _, _ => false
  | .bad, _ => true
def okSs (T : Nam) (N : Nms) (c : Sx) : Sts → List Stmt → Bool
  | .nil, l => match l with
    | [] => true
    | _ => false
  | .cons s ss, l => match l with
    | x :: l => okS T N c s x && okSs T N c ss l
    | _ => false
end
variable {T : Nam} {N : Nms} {G : Tab} {F : FT}
theorem swaps_eq {env : Env} {sc : Scope} (h : env.scope = sc) {x : Expr} {gs : List Comprehension} {s : Scope} {p py : Pos} {y : Str} {line : Nat} : swapsWith (.ListComp x gs s p) (some (.Name y py)) line env = pure (swapB sc s y py p) := by
  subst h; rfl
/-- the parts of a comprehension -/
theorem lc_parts {c : Sx} {X : Cx} {W : WX} {elt : Ex} {tg : Tg} {it : Ev.It} {ifs : Exs} {own : List Nat} {x : Expr} {gs : List Comprehension} {sc : Scope} {p : Pos} (o : XOk T N G c X W) (f : Fns T N X F)
    (h : okN T N c (.lc elt tg it ifs own) (.ListComp x gs sc p) = true) : ∃ t i l, gs = [⟨t, i, l, 0⟩] ∧ (ownOf c.N own).map (·.2) = own ∧ X.calm = true ∧ PI X t i (tI N W (evIt G F it)) ∧ BlkOk X.N X.env.scope sc (ownOf c.N own) ∧ (∀ j ∈ tgSl tg, j ∈ own) ∧
      (∀ (s : Shared) (H : Hp) (C : Addr) (cl : List (Str × Addr)) (fp : List Addr), PG (X.blk s H sc (compEnvC sc cl C X.env) fp) t (gTg N.K tg)) ∧
      (∀ (s : Shared) (H : Hp) (C : Addr) (cl : List (Str × Addr)) (fp : List Addr), PTs (X.blk s H sc (compEnvC sc cl C X.env) fp) l (tT N Wf (evQs G F ifs))) ∧
      (∀ (s : Shared) (H : Hp) (C : Addr) (cl : List (Str × Addr)) (fp : List Addr), PE (X.blk s H sc (compEnvC sc cl C X.env) fp) x (tX N Wf (evX G F elt))) ∧ ∀ y, foldedSetIterable i X.env y = pure y := by
  rcases gs with _ | ⟨⟨t, i, l, k⟩, _ | ⟨g2, gs⟩⟩ <;> try (exact nomatch (show false = true from h))
  have h' : (decide (k = 0) && blkC c.N c.sc sc (ownOf c.N own) && decide ((ownOf c.N own).map (·.2) = own) && okIt T N c it t i && okTg (c.blk sc) tg t && (tgSl tg).all (fun i => own.contains i) && okQs T N (c.blk sc) ifs l && okX T N (c.blk sc) elt x && !c.hot && noSet i) = true := h
  simp only [Bool.and_eq_true, decide_eq_true_eq, Bool.not_eq_true'] at h'
  obtain ⟨⟨⟨⟨⟨⟨⟨⟨⟨rfl, h1⟩, h2⟩, h3⟩, h4⟩, h5⟩, h6⟩, h7⟩, h8⟩, h9⟩ := h'
  refine ⟨t, i, l, rfl, h2, o.calm h8, sndIt it t i o f h3, blkOk_by (by rw [o.hN, o.sc]; exact h1), fun j hj => ?_, fun s H C cl fp => pg_core (o.blk s H C cl fp sc).tok o.hK tg t h4,
    fun s H C cl fp => sndQs ifs l (o.blk s H C cl fp sc) (f.blk s H sc _ fp) h6, fun s H C cl fp => (sndX elt x (o.blk s H C cl fp sc) (f.blk s H sc _ fp) h7).pe, fun y => ?_⟩
  · have := List.all_eq_true.mp h5 j hj
    simpa using this
  · cases i <;> first | rfl | (exact nomatch (show false = true from h9))
/-- name = [..] -/
theorem set_lc {c : Sx} {X : Cx} {W : WX} {elt : Ex} {tg : Tg} {it : Ev.It} {ifs : Exs} {own : List Nat} {x : Expr} {gs : List Comprehension} {sc : Scope} {p py sp : Pos} {y : Str} {i : Nat} (o : XOk T N G c X W) (f : Fns T N X F)
    (h : okN T N c (.lc elt tg it ifs own) (.ListComp x gs sc p) = true) (hi : c.N[i]? = some y) (hl : locB c.sc y = true) :
    PS X (.Assign [.Name y py] (.ListComp x gs sc p) sp) (tAsg (tLc (tI N W (evIt G F it)) (gTg N.K tg) (tT N Wf (evQs G F ifs)) (tX N Wf (evX G F elt)) own) (gName i)) := by
  obtain ⟨t, it', l, rfl, ho, hc, q1, q2, q3, q4, q5, q6, q7⟩ := lc_parts o f h
  have hy : X.env.scope.names.lookup y = some .local := by
    rw [o.sc]
    unfold locB at hl
    split at hl
    · assumption
    · cases hl
  have hN : X.N.Nodup := by rw [o.hN]; exact o.nd
  have hi' : X.N[i]? = some y := by rw [o.hN]; exact hi
  by_cases hs : swapB c.sc sc y py p = true
  · have := ps_setLc (py := py) (pos := p) (spos := sp) hc hN hi' hy (by rw [swaps_eq o.sc, hs]) q1 q2 q4 q5 q6 q7
    rw [ho] at this
    exact this
  · have pe := pe_lc (pos := p) hc hN q1 q2 q4 q5 q6 q7
    rw [ho] at pe
    refine ps_set hN hi' (.inl hy) pe (by rw [swaps_eq o.sc]; simp only [Bool.not_eq_true] at hs; rw [hs]) (.inr hy)
theorem okTg_v {c : Sx} {i : Nat} {tg : Expr} (h : okTg c (.v i) tg = true) : ∃ y py, tg = .Name y py ∧ c.N[i]? = some y := by
  cases tg <;> try (exact nomatch (show false = true from h))
  rename_i x p
  have h : (decide (c.N[i]? = some x) && (locB c.sc x || celB c.sc x && celB c.ow x)) = true := h
  simp only [Bool.and_eq_true, decide_eq_true_eq] at h
  exact ⟨x, p, rfl, h.1⟩
/-- stored the plain way -/
theorem asg_plain {c : Sx} {X : Cx} {W : WX} (o : XOk T N G c X W) {t : Tg} {tg v : Expr} {sp : Pos} {te : TE} {e : Ex} (h1 : okTg c t tg = true) (pe : PE X v te) (h3 : okStore c e tg v = true) (hc : isCp v = false) :
    PS X (.Assign [tg] v sp) (tAsg te (gTg N.K t)) := by
  have pg := pg_core o.tok o.hK t tg h1
  refine ps_asg pe pg ?_ ?_ ?_
  · cases v <;> first | rfl | (exact nomatch (show true = false from hc))
  · have : noTup tg = true ∨ ∀ es k p, v ≠ .Tuple es k p := by
      cases v <;> first | exact .inl h3 | exact .inr (fun es k p z => by cases z)
    rcases this with z | z
    · cases tg <;> first | rfl | (exact nomatch (show false = true from z))
    · cases v <;> first | (cases tg <;> rfl) | exact absurd rfl (z _ _ _)
  · cases t with
    | v i => obtain ⟨y, py, rfl, _⟩ := okTg_v h1; rfl
    | tup ts => cases tg <;> first | rfl | (exact nomatch (show false = true from h1))
mutual
theorem sndS : ∀ (x : Ev.St) {c : Sx} {X : Cx} {W : WX} (st : Stmt), XOk T N G c X W → Fns T N X F → PassesOwn (model X.prog X.w) X.A X.env X.xe → okS T N c x st = true → PS X st (tS N W (evS G F x))
  | .asg t e, c, X, W, st, o, f, hp, h => by
    cases st <;> try (exact nomatch (show false = true from h))
    rename_i tgs v sp
    rcases tgs with _ | ⟨tg, _ | ⟨tg2, tgs⟩⟩ <;> try (exact nomatch (show false = true from h))
    have h' : (okTg c t tg && okX T N c e v && okStore c e tg v) = true := h
    simp only [Bool.and_eq_true] at h'
    obtain ⟨⟨h1, h2⟩, h3⟩ := h'
    refine ps_imp (t := tAsg (tX N W (evX G F e)) (gTg N.K t)) ?_ tS_asg
    by_cases hc : isCp v = true
    · cases v <;> try (exact nomatch (show false = true from hc))
      · rename_i x gs s p
        have h3 : (isNm c.sc tg && isLcE e) = true := h3
        simp only [Bool.and_eq_true] at h3
        cases e <;> try (exact nomatch (show false = true from h3.2))
        rename_i elt tg' it ifs own _
        cases tg <;> try (exact nomatch (show false = true from h3.1))
        rename_i y py
        cases t with
        | tup ts => exact nomatch (show false = true from h1)
        | v i =>
          obtain ⟨_, _, e1, hi⟩ := okTg_v h1
          cases e1
          have h2 : okN T N c (.lc elt tg' it ifs own) (.ListComp x gs s p) = true := h2
          refine ps_imp (set_lc o f h2 hi h3.1) fun D σ H hq => ?_
          obtain ⟨_, _, _, _, _, _, _, _, q, _⟩ := lc_parts o f h2
          exact tX_lc q σ H _ hq
      · exact nomatch (show false = true from h3)
      · exact nomatch (show false = true from h3)
    · exact asg_plain o h1 (sndX e v o f h2).pe h3 (by simpa using hc)
  | .asgO i e, c, X, W, st, o, f, hp, h => by
    cases st <;> try (exact nomatch (show false = true from h))
    rename_i tgs v sp
    rcases tgs with _ | ⟨tg, _ | ⟨tg2, tgs⟩⟩ <;> try (exact nomatch (show false = true from h))
    have h' : (okTg c (.v i) tg && okN T N c e v && okStore c e tg v) = true := h
    simp only [Bool.and_eq_true] at h'
    obtain ⟨⟨h1, h2⟩, h3⟩ := h'
    refine ps_imp (t := tAsg (tN N W (evX G F e)) (gName i)) ?_ tS_asgO
    by_cases hc : isCp v = true
    · cases v <;> try (exact nomatch (show false = true from hc))
      · rename_i x gs s p
        have h3 : (isNm c.sc tg && isLcE e) = true := h3
        simp only [Bool.and_eq_true] at h3
        cases e <;> try (exact nomatch (show false = true from h3.2))
        rename_i elt tg' it ifs own
        obtain ⟨y, py, rfl, hi⟩ := okTg_v h1
        refine ps_imp (set_lc o f h2 hi h3.1) fun D σ H hq => ?_
        obtain ⟨_, _, _, _, _, _, _, _, q, _⟩ := lc_parts o f h2
        exact tN_lc q σ H _ hq
      · exact nomatch (show false = true from h3)
      · exact nomatch (show false = true from h3)
    · exact asg_plain o h1 (sndN e v o f h2).1 h3 (by simpa using hc)
  | .asgI a i e, c, X, W, st, o, f, hp, h => by
    cases st <;> try (exact nomatch (show false = true from h))
    rename_i tgs v sp
    rcases tgs with _ | ⟨tg, _ | ⟨tg2, tgs⟩⟩ <;> try (exact nomatch (show false = true from h))
    · cases tg <;> try (exact nomatch (show false = true from h))
      rename_i x y p
      have h' : (okX T N c a x && okX T N c i y && noSlice y && okX T N c e v && !isCp v) = true := h
      simp only [Bool.and_eq_true, Bool.not_eq_true'] at h'
      obtain ⟨⟨⟨⟨h1, h2⟩, h3⟩, h4⟩, h5⟩ := h'
      refine ps_imp (ps_asg (sndX e v o f h4).pe (pg_sub (sndX a x o f h1).pe (sndX i y o f h2).pe set_list fun v => ?_) ?_ ?_ rfl) tS_asgI
      · cases y <;> first | rfl | (exact nomatch (show false = true from h3))
      · cases v <;> first | rfl | (exact nomatch (show true = false from h5))
      · cases v <;> rfl
    · cases tg <;> exact nomatch (show false = true from h)
  | .asgF _ _ _, c, X, W, st, o, f, hp, h => nomatch (show false = true from h)
  | .aug i op e, c, X, W, st, o, f, hp, h => by
    cases st <;> try (exact nomatch (show false = true from h))
    rename_i tg op' v sp
    cases tg <;> try (exact nomatch (show false = true from h))
    rename_i x p
    have h' : (decide (c.N[i]? = some x) && (locB c.sc x || celB c.sc x && celB c.ow x) && decide (op' = opS op) && (decide (op = .add) || decide (op = .sub)) && okX T N c e v) = true := h
    simp only [Bool.and_eq_true, Bool.or_eq_true, decide_eq_true_eq] at h'
    obtain ⟨⟨⟨⟨h1, h2⟩, rfl⟩, h4⟩, h5⟩ := h'
    have hN : X.N.Nodup := by rw [o.hN]; exact o.nd
    have hi : X.N[i]? = some x := by rw [o.hN]; exact h1
    have lk : ∀ {b : NameKind}, c.sc.names.lookup x = some b → X.env.scope.names.lookup x = some b := fun e => by rw [o.sc]; exact e
    have hx : Loc X.env.scope x ∧ (X.fn x = true ∨ X.env.scope.names.lookup x = some .local) := by
      rcases h2 with h2 | ⟨h2, h3⟩
      · unfold locB at h2
        split at h2
        · rename_i e; exact ⟨.inl (lk e), .inr (lk e)⟩
        · cases h2
      · unfold celB at h2 h3
        split at h2
        · rename_i e
          split at h3
          · rename_i e2; exact ⟨.inr (lk e), .inl (o.fnc x e2)⟩
          · cases h3
        · cases h2
    have pe := (sndX e v o f h5).pe
    rcases h4 with rfl | rfl
    · exact ps_imp (ps_aug hN hi hx.1 pe ip_add hx.2) (tS_aug aug_add)
    · exact ps_imp (ps_aug hN hi hx.1 pe ip_sub hx.2) (tS_aug aug_sub)
  | .augF _ _ _ _, c, X, W, st, o, f, hp, h => nomatch (show false = true from h)
  | .augI _ _ _ _, c, X, W, st, o, f, hp, h => nomatch (show false = true from h)
  | .ex e, c, X, W, st, o, f, hp, h => by
    cases st <;> try (exact nomatch (show false = true from h))
    rename_i v sp
    have h' : (okX T N c e v && !isCp v) = true := h
    simp only [Bool.and_eq_true, Bool.not_eq_true'] at h'
    refine ps_imp (ps_expr (sndX e v o f h'.1).pe ?_) tS_ex
    have := h'.2
    cases v <;> first | rfl | (exact nomatch (show true = false from this))
  | .ife q a b, c, X, W, st, o, f, hp, h => by
    cases st <;> try (exact nomatch (show false = true from h))
    rename_i z x y sp
    have h' : (okX T N c q z && okSs T N c a x && okSs T N c b y) = true := h
    simp only [Bool.and_eq_true] at h'
    exact ps_imp (ps_if (sndX q z o f h'.1.1).pt (sndSs a x o f hp h'.1.2) (sndSs b y o f hp h'.2)) tS_ife
  | .whl n q a kl, c, X, W, st, o, f, hp, h => by
    cases st <;> try (exact nomatch (show false = true from h))
    rename_i z x y sp
    cases y with
    | cons => exact nomatch (show false = true from h)
    | nil =>
      have h' : (okX T N c q z && okSs T N c a x) = true := h
      simp only [Bool.and_eq_true] at h'
      exact ps_imp (ps_while hp (sndX q z o f h'.1).pt (sndSs a x o f hp h'.2)) tS_whl
  | .for tg it a kl, c, X, W, st, o, f, hp, h => by
    cases st <;> try (exact nomatch (show false = true from h))
    rename_i t x b y sp
    cases y with
    | cons => exact nomatch (show false = true from h)
    | nil =>
      have h' : (okTg c tg t && okIt T N c it t x && okSs T N c a b && !c.hot && noSet x) = true := h
      simp only [Bool.and_eq_true, Bool.not_eq_true'] at h'
      obtain ⟨⟨⟨⟨h1, h2⟩, h3⟩, h4⟩, h5⟩ := h'
      have pg := pg_core o.tok o.hK tg t h1
      have hs : ∀ y, foldedSetIterable x X.env y = pure y := fun y => by cases x <;> first | rfl | (exact nomatch (show false = true from h5))
      have pb := sndSs a b o f hp h3
      by_cases hv : ∃ e, it = .val e
      · obtain ⟨e, rfl⟩ := hv
        have h2' : (okX T N c e x && noSet x) = true := h2
        simp only [Bool.and_eq_true] at h2'
        refine ps_imp (ps_for hp (o.calm h4) (pi_seq (sndX e x o f h2'.1).pe) pg pb hs) fun D σ H hq => ?_
        have := tS_forV D σ H hq
        rw [o.hK]; exact this
      · have e : evS G F (.for tg it a kl) = M.bind (evIt G F it) fun l => loopF (turnM tg (evSs G F a)) kl l := by
          cases it <;> first | rfl | exact absurd ⟨_, rfl⟩ hv
        rw [e]
        exact ps_imp (ps_for hp (o.calm h4) (sndIt it t x o f h2) pg pb hs) tS_for
  | .ret e, c, X, W, st, o, f, hp, h => by
    cases st <;> try (exact nomatch (show false = true from h))
    rename_i v sp
    cases v with
    | none => exact nomatch (show false = true from h)
    | some v =>
      have h' : okX T N c e v = true := h
      exact ps_imp (ps_ret (sndX e v o f h').pe) tS_ret
  | .retN, c, X, W, st, o, f, hp, h => by
    cases st <;> try (exact nomatch (show false = true from h))
    rename_i v sp
    cases v with
    | some v => exact nomatch (show false = true from h)
    | none => exact ps_imp ps_retN tS_retN
  | .brk, c, X, W, st, o, f, hp, h => by
    cases st <;> try (exact nomatch (show false = true from h))
    exact ps_imp ps_break tS_brk
  | .cnt, c, X, W, st, o, f, hp, h => by
    cases st <;> try (exact nomatch (show false = true from h))
    exact ps_imp ps_continue tS_cnt
  | .pass, c, X, W, st, o, f, hp, h => by
    cases st <;> try (exact nomatch (show false = true from h))
    · rename_i v sp
      cases v <;> try (exact nomatch (show false = true from h))
      rename_i k j p
      cases k <;> try (exact nomatch (show false = true from h))
      exact ps_imp ps_doc (tS_next rfl)
    · exact ps_imp ps_pass (tS_next rfl)
  | .rais _ _, c, X, W, st, o, f, hp, h => nomatch (show false = true from h)
  | .tryx _ _, c, X, W, st, o, f, hp, h => nomatch (show false = true from h)
  | .bad, c, X, W, st, o, f, hp, h => ⟨fun _ _ σ H D _ h => by obtain ⟨_, _, _, _, z⟩ := h; exact z.elim⟩
theorem sndSs : ∀ (x : Sts) {c : Sx} {X : Cx} {W : WX} (l : List Stmt), XOk T N G c X W → Fns T N X F → PassesOwn (model X.prog X.w) X.A X.env X.xe → okSs T N c x l = true → PSs X l (tS N W (evSs G F x))
  | .nil, c, X, W, l, o, f, hp, h => by
    cases l with
    | nil => exact pss_imp pss_nil (tS_next rfl)
    | cons => exact nomatch (show false = true from h)
  | .cons s ss, c, X, W, l, o, f, hp, h => by
    cases l with
    | nil => exact nomatch (show false = true from h)
    | cons x l =>
      have h' : (okS T N c s x && okSs T N c ss l) = true := h
      simp only [Bool.and_eq_true] at h'
      exact pss_imp (pss_cons (sndS s x o f hp h'.1) (sndSs ss l o f hp h'.2)) tS_seq
end
end Ev

set_option autoImplicit false
set_option linter.all false
set_option maxRecDepth 100000
set_option maxHeartbeats 1000000
/-! Each def keeps what the core gives; the law. -/
namespace Ev
open PySem L2 PyProof.Rows
variable {N : Nms}
section
variable {ad ad' : Nat → Addr} {σ : L2.St} {H : Hp} {s : S} {F : Addr → Prop} {cel : List Cell}
def startS (n : Nat) (as : List Ev.D) (cel : List Cell) : S := { loc := as.map (fun x => some (.d x)) ++ List.replicate n none, cel := cel }
theorem startS_get {n : Nat} {as : List Ev.D} {i : Nat} {lv : LV} (h : (startS n as cel).loc[i]? = some (some lv)) : ∃ x, as[i]? = some x ∧ lv = .d x := by
  unfold startS at h
  simp only at h
  by_cases hi : i < as.length
  · rw [List.getElem?_append_left (by simpa using hi), List.getElem?_map] at h
    cases ha : as[i]? with
    | none => rw [ha] at h; cases h
    | some x => rw [ha] at h; cases h; exact ⟨x, rfl, rfl⟩
  · rw [List.getElem?_append_right (by simpa using hi), List.getElem?_replicate] at h
    split at h <;> cases h
theorem startS_sl {n : Nat} {as : List Ev.D} {i : Nat} {c : Cell} : ¬ (startS n as cel).get (.sl i) = some c := fun h => by
  rw [get_sl] at h
  obtain ⟨x, _, e⟩ := startS_get h
  cases e
theorem Mk_start {n : Nat} {as : List Ev.D} (a : Addr) : Mk ad σ (startS n as cel) F a ↔ Mk ad [] ⟨[], cel⟩ F a := by
  constructor
  · rintro (m | ⟨l, c, h1, h2⟩)
    · exact .inl m
    · cases l with
      | sl i => exact absurd h1 startS_sl
      | id k => exact .inr ⟨.id k, c, h1, h2⟩
  · rintro (m | ⟨l, c, h1, h2⟩)
    · exact .inl m
    · cases l with
      | sl i => exact absurd h1 noSl
      | id k => exact .inr ⟨.id k, c, h1, h2⟩
/-- at a def's entry -/
theorem Rel.enter {Nm : List Str} {vs : List V} {as : List Ev.D} {n : Nat} (R : Rel N ad [] H ⟨[], cel⟩ F) (r : RepDs N cel.length ad (msk H (Mk ad [] ⟨[], cel⟩ F)) vs as) (hn : n = Nm.length - vs.length) :
    Rel N ad (L2.start Nm vs) H (startS n as cel) F := by
  have em : msk H (Mk ad (L2.start Nm vs) (startS n as cel) F) = msk H (Mk ad [] ⟨[], cel⟩ F) := msk_congr fun a => Mk_start a
  refine ⟨?_, ?_, ?_, ?_, ?_⟩
  · unfold L2.start startS
    simp [r.length, hn]
  · intro i x h
    obtain ⟨y, e1, e2⟩ := startS_get h
    cases e2
    obtain ⟨v, e3, rv⟩ := r.get e1
    refine ⟨v, ?_, ?_⟩
    · unfold L2.start
      rw [List.getElem?_append_left (by have := (List.getElem?_eq_some_iff.mp e3).1; simpa using this), List.getElem?_map, e3]
      rfl
    · rw [em]; exact rv
  · intro l c h
    cases l with
    | sl i => exact absurd h startS_sl
    | id k =>
      obtain ⟨a, e, ok⟩ := R.own (.id k) c h
      refine ⟨a, e, ?_⟩
      rw [em]; exact ok
  · intro l l' c c' a h h' e e'
    cases l with
    | sl i => exact absurd h startS_sl
    | id k =>
      cases l' with
      | sl i => exact absurd h' startS_sl
      | id k' => exact R.inj (.id k) (.id k') c c' a h h' e e'
  · intro a h
    obtain ⟨q1, q2⟩ := R.frn a h
    refine ⟨q1, fun l c h' => ?_⟩
    cases l with
    | sl i => exact absurd h' startS_sl
    | id k => exact q2 (.id k) c h'
theorem Mk_leave {a : Addr} (m : Mk ad [] ⟨[], s.cel⟩ F a) : Mk ad σ s F a := by
  rcases m with m | ⟨l, c, h1, h2⟩
  · exact .inl m
  · cases l with
    | sl i => exact absurd h1 noSl
    | id k => exact .inr ⟨.id k, c, h1, h2⟩
/-- at its end: the slots are gone -/
theorem Rel.leave (R : Rel N ad σ H s F) : Rel N ad [] H ⟨[], s.cel⟩ F ∧ Sm (msk H (Mk ad σ s F)) (msk H (Mk ad [] ⟨[], s.cel⟩ F)) := by
  have sm : Sm (msk H (Mk ad σ s F)) (msk H (Mk ad [] ⟨[], s.cel⟩ F)) := sm_sub fun a m => Mk_leave m
  refine ⟨⟨rfl, fun i x h => by simp at h, ?_, ?_, ?_⟩, sm⟩
  · intro l c h
    cases l with
    | sl i => exact absurd h noSl
    | id k =>
      obtain ⟨a, e, ok⟩ := R.own (.id k) c h
      exact ⟨a, e, ok.mono (Nat.le_refl _) (fun _ _ => rfl) sm rfl⟩
  · intro l l' c c' a h h' e e'
    cases l with
    | sl i => exact absurd h noSl
    | id k =>
      cases l' with
      | sl i => exact absurd h' noSl
      | id k' => exact R.inj (.id k) (.id k') c c' a h h' e e'
  · intro a h
    obtain ⟨q1, q2⟩ := R.frn a h
    refine ⟨q1, fun l c h' => ?_⟩
    cases l with
    | sl i => exact absurd h' noSl
    | id k => exact q2 (.id k) c h'
theorem Post.leave {n : Nat} {as : List Ev.D} {σ0 : L2.St} {H' : Hp} {s' : S} {σ' : L2.St} (P : Post ad σ0 H (startS n as cel) ad' σ' H' s' F) (R' : Rel N ad' σ' H' s' F) : Post ad [] H ⟨[], cel⟩ ad' [] H' ⟨[], s'.cel⟩ F :=
  ⟨P.agr, P.len, rfl, by
    rw [← msk_congr (Mk_start (ad := ad) (σ := σ0) (F := F) (cel := cel) (n := n) (as := as))]
    exact P.sm.trans R'.leave.2, P.frn⟩
end
/-! ### the program -/
structure PrF (T : Nam) (N : Nms) (G : Tab) (Pc : List Ev.Def) (K : PySem.W.Frag) (mg : Str → Option Value) : Prop where
  hK : K = N.K
  defs : ∀ (f : Nat) (x : Str), T.fn[f]? = some x → ∃ (d : Ev.Def) (fa : Addr) (fd : FuncData) (nm : List Str) (qual : Str) (args : Arguments) (body : List Stmt) (scope : Scope), Pc[f]? = some d ∧ mg x = some (.ref fa) ∧
    FunD K x qual args body scope [] [] fa fd ∧ FnScope nm (T.par f) scope ∧ (T.par f).length = d.np ∧ nm.length = d.n ∧ okSs T N ⟨nm, scope, scope, false⟩ d.body body = true ∧ Binds K fd (T.par f) []
  blt : ∀ x ∈ bltNames, mg x = none
  con : ∀ (g : Nat) (x : Str), T.con[g]? = some x → ∃ d v u, G.con[g]? = some d ∧ mg x = some u ∧ RelV v u ∧ (match d with | .ref _ => False | _ => True) ∧ ∀ n ad B, RepD N n ad B v d
  cls : ∀ (k : Nat) (x : Str), T.cls[k]? = some x → mg x = some (.ref (N.cl k))
  ncl : T.cls.length = G.ncls
  nm : ∀ f g, N.nm f = N.nm g → f = g
  kit : ∀ tg ty, (match tg with | .obj c => c < T.cls.length | _ => True) → (match ty with | .cls c => c < T.cls.length | _ => True) → PySem.W.kitOne N.K (tagV N tg) (tyV1 N ty) = some (isTag G.sub tg ty)
  fld : ∀ k < T.cls.length, Cls N.K (N.cl k) ∧ (∀ f, NoAttr N.K (N.cl k) (N.nm f)) ∧ PySem.W.findIn N.K (.ref (N.cl k)) "__class__" = some (some (.builtin "object.__class__")) ∧
    PySem.W.specialIn N.K (.builtin "object.__class__") "__get__" = some (some (.builtin "getset_descriptor.__get__")) ∧ PySem.W.takesIn N.K (.builtin "object.__class__") = some true ∧ PySem.W.mroIn N.K (N.cl k) (.type "object") = some true
theorem run_ok {T : Nam} {G : Tab} {Pc : List Ev.Def} {P : Program} {w : World} {K : PySem.W.Frag} {mg : Str → Option Value} {base : Heap} (pf : PrF T N G Pc K mg) : ∀ (n f : Nat) (x : Str), T.fn[f]? = some x →
    ∃ (fa : Addr) (fd : FuncData), mg x = some (.ref fa) ∧ PySem.W.keepIn K (.ref fa) = true ∧ Binds K fd (T.par f) [] ∧ FnOk P w K mg base (L2.CX P w) n fa fd (T.par f) (spF N (T.par f).length (run G Pc n f)) ∧ (∀ as c, run G Pc n f as c ≠ .stk → as.length = (T.par f).length) ∧ ∃ qual args body scope, FunD K x qual args body scope [] [] fa fd
  | 0, f, x, hx => by
    obtain ⟨d, fa, fd, nm, qual, args, body, scope, h1, h2, h3, h4, h5, h6, h7, h8⟩ := pf.defs f x hx
    refine ⟨fa, fd, h2, h3.kp, h8, ⟨fun vs H Q E h => h.1, fun A outer s H a us vs Q E _ _ _ _ h => ?_⟩, fun as c h => absurd rfl h, _, _, _, _, h3⟩
    obtain ⟨_, _, _, _, _, _, _, z⟩ := h
    exact z.elim
  | n + 1, f, x, hx => by
    obtain ⟨d, fa, fd, nm, qual, args, body, scope, h1, h2, h3, h4, h5, h6, h7, h8⟩ := pf.defs f x hx
    have er : run G Pc (n + 1) f = runDef G (run G Pc n) d := by
      funext as c
      show (match Pc[f]? with | some d => runDef G (run G Pc n) d as c | none => .stk) = _
      rw [h1]
    refine ⟨fa, fd, h2, h3.kp, h8, ?_, fun as c h => ?_, _, _, _, _, h3⟩
    · refine h3.ok h4 (fun vs H Q E h => h.1) (fun cdv A outer s H vs Q E hr h => ?_)
      obtain ⟨hl, ad, cel, FF, as, R, rv, h⟩ := h
      rw [er] at h
      unfold runDef at h
      have la : as.length = (T.par f).length := by rw [← rv.length]; exact hl
      rw [if_pos (by rw [la, h5])] at h
      let X := cxOf (L2.CX P w) P w K mg base nm qual scope fa cdv A outer s H E
      let W : WX := fun cls d _ H => E cls d H
      have o : XOk T N G ⟨nm, scope, scope, false⟩ X W := {
        hK := pf.hK
        hN := rfl
        nd := h4.nd
        sc := rfl
        un := by have := hr.un; show (A.deeper (envOfC qual scope s.heap.objs.size fa cdv)).units + 200 < cLine; omega
        calm := fun _ => rfl
        fnc := fun _ _ => rfl
        tk := takes_of rfl rfl rfl rfl
        blt := pf.blt
        con := pf.con
        cls := pf.cls
        ncl := pf.ncl
        nm := pf.nm
        kit := pf.kit
        fld := pf.fld }
      have fs : Fns T N X (run G Pc n) := ⟨fun g y hy => by
        obtain ⟨ga, gd, q1, q2, q3, q4, q5, _⟩ := run_ok (P := P) (w := w) (base := base) pf n g y hy
        exact ⟨ga, gd, _, n, q1, q2, q3, hr, q4, q5⟩⟩
      have hp : PassesOwn (model X.prog X.w) X.A X.env X.xe := passes_of (X := X) (K := fun e s'' => L2.CX P w outer H s E e s'') rfl
      refine ⟨tS N W (evSs G (run G Pc n) d.body), sndSs d.body body o fs hp h7, ad, startS (d.n - d.np) as cel, FF, R.enter rv (by rw [h6, hl, h5]), ?_⟩
      have h : (match finish (evSs G (run G Pc n) d.body (startS (d.n - d.np) as cel)) with
        | .ok x c' => ∀ ad' H' v, Rel N ad' [] H' ⟨[], c'⟩ FF → Post ad [] H ⟨[], cel⟩ ad' [] H' ⟨[], c'⟩ FF → RepD N c'.length ad' (msk H' (Mk ad' [] ⟨[], c'⟩ FF)) v x → Q v H'
        | .exc e c' => ∀ ad' H' cls d, Rel N ad' [] H' ⟨[], c'⟩ FF → Post ad [] H ⟨[], cel⟩ ad' [] H' ⟨[], c'⟩ FF → RepE N c'.length ad' (msk H' (Mk ad' [] ⟨[], c'⟩ FF)) H' e cls d → E cls d H'
        | .stk => False) := h
      cases hm : evSs G (run G Pc n) d.body (startS (d.n - d.np) as cel) with
      | stk => rw [hm] at h; exact h
      | exc e s' =>
        rw [hm] at h
        exact fun cls dd ad' σ' H' R' P' re => h ad' H' cls dd R'.leave.1 (P'.leave R') (re.mono (Nat.le_refl _) (fun _ _ => rfl) R'.leave.2)
      | ok fl s' =>
        rw [hm] at h
        intro ad' σ' H' R' P'
        cases fl with
        | next => exact h ad' H' .non R'.leave.1 (P'.leave R') .non
        | ret t => exact fun v rt => h ad' H' v R'.leave.1 (P'.leave R') (rt.mono (Nat.le_refl _) (fun _ _ => rfl) R'.leave.2)
        | brk => exact h.elim
        | cont => exact h.elim
    · rw [er] at h
      unfold runDef at h
      by_cases hl : as.length = d.np
      · rw [hl, h5]
      · rw [if_neg hl] at h; exact absurd rfl h
theorem fd_same {K : PySem.W.Frag} {x x' q q' : Str} {a a' : Arguments} {b b' : List Stmt} {sc sc' : Scope} {f : Addr} {fd fd' : FuncData} (F1 : FunD K x q a b sc [] [] f fd) (F2 : FunD K x' q' a' b' sc' [] [] f fd') : fd = fd' := by
  obtain ⟨_, _, _, _, _, _, _, _, _, _, _, l1, _⟩ := F1.ex
  obtain ⟨_, _, _, _, _, _, _, _, _, _, _, l2, _⟩ := F2.ex
  rw [l1] at l2
  injection l2 with l2
  injection l2 with _ _ l2 _
  injection l2
/-- a promise that lets nothing out -/
theorem FnOk.calm {P : Program} {w : World} {K : PySem.W.Frag} {mg : Str → Option Value} {base : Heap} {k : Nat} {f : Addr} {fd : FuncData} {ps : List Str} {sp sp' : Sp} (F : FnOk P w K mg base (L2.CX P w) k f fd ps sp)
    (h : ∀ vs H Q E, sp' vs H Q E → sp vs H Q fun _ _ _ => False) : FnOk P w K mg base L2.CX0 k f fd ps sp' :=
  ⟨fun vs H Q E q => F.len vs H Q _ (h _ _ _ _ q), fun A outer s H args us vs Q E hr he hb hv hs => codeAny_mono (F.run A outer s H args us vs Q _ hr he hb hv (h _ _ _ _ hs)) fun r s' hq => by
    cases r with
    | ok fl => cases fl <;> exact hq
    | error e =>
      obtain ⟨_, _, _, _, _, _, _, _, _, _, _, _, z⟩ := hq
      exact z.elim⟩
/-- what a law's def promises -/
def spLaw (K : PySem.W.Frag) (m : Nat) : Sp := fun vs H Q _ => ∃ (a : Addr) (ns : List Int), vs = [.ref a] ∧ ns.length ≤ m ∧ SqL K H a (ns.map V.int) ∧ ∀ H', Q (.bl true) H'
theorem law_ok {m : Nat} {r : List Ev.D → List Cell → FRes} {ps : List Str} (hp : ps.length = 1) (law : ∀ ns : List Int, ns.length ≤ m → ∃ c, r [.lst (ns.map .int)] [] = .ok (.bl true) c) :
    ∀ vs H Q E, spLaw N.K m vs H Q E → spF N ps.length r vs H Q fun _ _ _ => False := by
  rintro vs H Q E ⟨a, ns, rfl, hl, hS, hQ⟩
  obtain ⟨c, e⟩ := law ns hl
  have em : msk H (Mk (fun _ => 0) [] ⟨[], []⟩ fun _ => False) = H := by
    funext a
    exact msk_of fun h => (Mk_fresh a).mp h
  refine ⟨hp.symm, fun _ => 0, [], fun _ => False, [.lst (ns.map .int)], ⟨rfl, fun i x h => by simp at h, fun l c h => ?_, fun l l' c c' a h => ?_, fun a h => h.elim⟩, ?_, ?_⟩
  · cases l with
    | sl i => exact absurd h noSl
    | id k => have h : ([] : List Cell)[k]? = some c := h; simp at h
  · cases l with
    | sl i => exact absurd h noSl
    | id k => have h : ([] : List Cell)[k]? = some c := h; simp at h
  · rw [em]
    exact .cons (.lst hS (RepDs.ints ns)) .nil
  · rw [e]
    intro ad' H' v R' P' rv
    cases rv
    exact hQ H'
end Ev

namespace Pr
open PySem Ev
instance : Coe String Str := ⟨Str.ofString⟩
/-- is_integer: 0 thing -/
def c0 : Sts :=
  (.cons (.ret (.and (.cons (.isi (.v 0) [.int]) (.cons (.not (.isi (.v 0) [.bool])) .nil))))
  .nil)
/-- is_within: 0 thing 1 least 2 most -/
def c1 : Sts :=
  (.cons (.ret (.and (.cons (.call .plain 0 (.cons (.v 0) .nil)) (.cons (.chain .le .le (.v 1) (.v 0) (.v 2)) .nil))))
  .nil)
/-- are_ascending: 0 numbers 1 at -/
def c2 : Sts :=
  (.cons (.for (.v 1) (.rng2 (.int 1) (.bi .len (.cons (.v 0) .nil)))
   (.cons (.ife (.cmp .ge (.idx (.v 0) (.bin .sub (.v 1) (.int 1))) (.idx (.v 0) (.v 1)))
    (.cons (.ret (.bl false))
    .nil)
    .nil)
   .nil) [1])
  (.cons (.ret (.bl true))
  .nil))
/-- are_plan_places: 0 thing 1 length 2 place -/
def c3 : Sts :=
  (.cons (.ife (.or (.cons (.not (.isi (.v 0) [.tuple])) (.cons (.not (.bi .all (.cons (.lc (.call .plain 1 (.cons (.v 2) (.cons (.int 0) (.cons (.bin .sub (.v 1) (.int 1)) .nil)))) (.v 2) (.val (.v 0)) .nil [2]) .nil))) .nil)))
   (.cons (.ret (.bl false))
   .nil)
   .nil)
  (.cons (.ret (.and (.cons (.call .plain 2 (.cons (.v 0) .nil)) (.cons (.cmp .inn (.bin .sub (.v 1) (.int 1)) (.v 0)) .nil))))
  .nil))
/-- is_plan: 0 thing 1 at 2 places -/
def c4 : Sts :=
  (.cons (.ife (.or (.cons (.not (.isi (.v 0) [.tuple])) (.cons (.cmp .ne (.bi .len (.cons (.v 0) .nil)) (.con 0)) .nil)))
   (.cons (.ret (.bl false))
   .nil)
   .nil)
  (.cons (.ret (.bi .all (.cons (.lc (.call .plain 3 (.cons (.v 2) (.cons (.bin .add (.v 1) (.int 1)) .nil))) (.tup (.cons (.v 1) (.cons (.v 2) .nil))) (.enum (.v 0) 0) .nil [1, 2]) .nil)))
  .nil))
/-- check_plan: 0 thing -/
def c5 : Sts :=
  (.cons (.ife (.not (.call .plain 4 (.cons (.v 0) .nil)))
   (.cons .bad
   .nil)
   .nil)
  .nil)
/-- gaps_of: 0 plan 1 found 2 length 3 places 4 place -/
def c6 : Sts :=
  (.cons (.asgO 1 (.lst .nil))
  (.cons (.for (.tup (.cons (.v 2) (.cons (.v 3) .nil))) (.enum (.v 0) 1)
   (.cons (.for (.v 4) (.rng1 (.bin .sub (.v 2) (.int 1)))
    (.cons (.ife (.and (.cons (.cmp .nin (.v 4) (.v 3)) (.cons (.cmp .nin (.bin .add (.v 4) (.int 1)) (.v 3)) .nil)))
     (.cons (.ex (.mm .append (.v 1) (.cons (.tup (.cons (.v 2) (.cons (.v 4) .nil))) .nil)))
     .nil)
     .nil)
    .nil) [4])
   .nil) [2, 3, 4])
  (.cons (.ret (.v 1))
  .nil)))
/-- plan_gaps: 0 plan -/
def c7 : Sts :=
  (.cons (.ex (.call .plain 5 (.cons (.v 0) .nil)))
  (.cons (.ret (.call .plain 6 (.cons (.v 0) .nil)))
  .nil))
/-- least_plan: 0 length -/
def c8 : Sts :=
  (.cons (.ret (.bi .tuple (.cons (.lc (.rg3 (.bin .mod (.bin .add (.v 0) (.int 1)) (.int 2)) (.v 0) (.int 2)) (.v 0) (.rng2 (.int 1) (.bin .add (.con 0) (.int 1))) .nil [0]) .nil)))
  .nil)
/-- _law_hand: 0 _law_script 1 _law_cells 2 _law_cell -/
def c9 : Sts :=
  (.cons (.asg (.v 1) (.lc (.bi .abs (.cons (.bi .int (.cons (.v 2) .nil)) .nil)) (.v 2) (.val (.sl (.v 0) .non (.int 63))) .nil [2]))
  (.cons (.ret (.new (.lst (.cons (.v 1) (.cons (.int 0) (.cons (.int 0) (.cons (.bin .add (.int 1) (.bi .len (.cons (.v 1) .nil))) (.cons (.int 0) .nil))))))))
  .nil))
/-- _law_draw: 0 _law_hand_here 1 _law_many 2 _law_number 3 _law_cell 4 _law_digit -/
def c10 : Sts :=
  (.cons (.ife (.and (.cons (.cmp .eq (.idx (.v 0) (.int 2)) (.int 0)) (.cons (.cmp .lt (.idx (.v 0) (.int 1)) (.bi .len (.cons (.idx (.v 0) (.int 0)) .nil))) .nil)))
   (.cons (.asg (.v 3) (.idx (.idx (.v 0) (.int 0)) (.idx (.v 0) (.int 1))))
   (.cons (.asgI (.v 0) (.int 1) (.bin .add (.idx (.v 0) (.int 1)) (.int 1)))
   (.cons (.asgI (.v 0) (.int 3) (.bin .mod (.bi .int (.cons (.bin .add (.bin .add (.bin .mul (.idx (.v 0) (.int 3)) (.int 69621)) (.v 3)) (.int 11)) .nil)) (.int 2147483629)))
   (.cons (.ife (.cmp .ge (.v 3) (.bin .pow (.int 10) (.int 18)))
    (.cons (.asgI (.v 0) (.int 2) (.v 3))
    .nil)
    .nil)
   .nil))))
   .nil)
  (.cons (.ife (.cmp .gt (.idx (.v 0) (.int 2)) (.int 0))
   (.cons (.asg (.v 4) (.bin .mod (.bi .int (.cons (.idx (.v 0) (.int 2)) .nil)) (.v 1)))
   (.cons (.asgI (.v 0) (.int 2) (.bin .fdiv (.idx (.v 0) (.int 2)) (.v 1)))
   (.cons (.ret (.v 4))
   .nil)))
   .nil)
  (.cons (.asgI (.v 0) (.int 4) (.bin .add (.idx (.v 0) (.int 4)) (.int 1)))
  (.cons (.asg (.v 2) (.bin .mod (.bi .int (.cons (.bin .mul (.bi .int (.cons (.bin .add (.idx (.v 0) (.int 3)) (.bin .mul (.int 7919) (.idx (.v 0) (.int 4)))) .nil)) (.int 48271)) .nil)) (.int 2147483647)))
  (.cons (.asg (.v 2) (.bin .mod (.bi .int (.cons (.bin .mul (.v 2) (.bin .add (.bin .fdiv (.v 2) (.int 1009)) (.int 69621))) .nil)) (.int 2147483647)))
  (.cons (.asg (.v 2) (.bin .mod (.bi .int (.cons (.bin .mul (.v 2) (.bin .add (.bin .fdiv (.v 2) (.int 2003)) (.int 40692))) .nil)) (.int 2147483399)))
  (.cons (.ret (.bin .mod (.bi .int (.cons (.bin .fdiv (.v 2) (.int 16)) .nil)) (.v 1)))
  .nil)))))))
/-- _law_flag: 0 _law_told 1 _law_due -/
def c11 : Sts :=
  (.cons (.ret (.and (.cons (.isi (.v 0) [.bool]) (.cons (.cmp .eq (.v 0) (.v 1)) .nil))))
  .nil)
/-- _law_plan: 0 _law_hand_here 1 _law_gaps_here 2 _law_plan_here 3 _law_length 4 _law_told 5 _law_place 6 _law_needed -/
def c12 : Sts :=
  (.cons (.asgO 2 (.lst .nil))
  (.cons (.for (.v 3) (.rng2 (.int 1) (.int 9))
   (.cons (.asgO 4 (.lst .nil))
   (.cons (.for (.v 5) (.rng1 (.v 3))
    (.cons (.asg (.v 6) (.or (.cons (.cmp .eq (.v 5) (.bin .sub (.v 3) (.int 1))) (.cons (.and (.cons (.not (.v 1)) (.cons (.cmp .gt (.v 5) (.int 0)) (.cons (.cmp .nin (.bin .sub (.v 5) (.int 1)) (.v 4)) .nil)))) .nil))))
    (.cons (.ife (.or (.cons (.v 6) (.cons (.cmp .eq (.call .plain 10 (.cons (.v 0) (.cons (.int 2) .nil))) (.int 0)) .nil)))
     (.cons (.ex (.mm .append (.v 4) (.cons (.v 5) .nil)))
     .nil)
     .nil)
    .nil)) [5, 6])
   (.cons (.ex (.mm .append (.v 2) (.cons (.bi .tuple (.cons (.v 4) .nil)) .nil)))
   .nil))) [3, 4, 5, 6])
  (.cons (.ret (.bi .tuple (.cons (.v 2) .nil)))
  .nil)))
/-- _law_gaps: 0 _law_plan_here 1 _law_found 2 _law_length 3 _law_place -/
def c13 : Sts :=
  (.cons (.asgO 1 (.lst .nil))
  (.cons (.for (.v 2) (.rng2 (.int 1) (.int 9))
   (.cons (.for (.v 3) (.rng1 (.bin .sub (.v 2) (.int 1)))
    (.cons (.ife (.and (.cons (.cmp .nin (.v 3) (.idx (.v 0) (.bin .sub (.v 2) (.int 1)))) (.cons (.cmp .nin (.bin .add (.v 3) (.int 1)) (.idx (.v 0) (.bin .sub (.v 2) (.int 1)))) .nil)))
     (.cons (.ex (.mm .append (.v 1) (.cons (.tup (.cons (.v 2) (.cons (.v 3) .nil))) .nil)))
     .nil)
     .nil)
    .nil) [3])
   .nil) [2, 3])
  (.cons (.ret (.v 1))
  .nil)))
/-- _law_all_places: 0 _law_length 1 _law_found 2 _law_place 3 _law_later 4 _law_told -/
def c14 : Sts :=
  (.cons (.asg (.v 1) (.lst (.cons (.tup .nil) .nil)))
  (.cons (.for (.v 2) (.rng1 (.v 0))
   (.cons (.asgO 3 (.lst .nil))
   (.cons (.for (.v 4) (.val (.v 1))
    (.cons (.ife (.and (.cons (.cmp .lt (.v 2) (.bin .sub (.v 0) (.int 1))) (.cons (.or (.cons (.cmp .eq (.v 2) (.int 0)) (.cons (.cmp .inn (.bin .sub (.v 2) (.int 1)) (.v 4)) .nil))) .nil)))
     (.cons (.ex (.mm .append (.v 3) (.cons (.v 4) .nil)))
     .nil)
     .nil)
    (.cons (.ex (.mm .append (.v 3) (.cons (.bin .add (.v 4) (.tup (.cons (.v 2) .nil))) .nil)))
    .nil)) [4])
   (.cons (.asg (.v 1) (.v 3))
   .nil))) [2, 3, 4])
  (.cons (.ret (.v 1))
  .nil)))
/-- law: 0 _law_script 1 _law_hand_here 2 _law_told 3 _law_turn 4 _law_length 5 _law_rows 6 _law_fewest 7 _law_other 8 _law_k 9 _law_row -/
def c15 : Sts :=
  (.cons (.asg (.v 1) (.call .plain 9 (.cons (.v 0) .nil)))
  (.cons (.asg (.v 2) (.call .plain 8 .nil))
  (.cons (.ife (.or (.cons (.not (.call .plain 11 (.cons (.call .plain 4 (.cons (.v 2) .nil)) (.cons (.bl true) .nil)))) (.cons (.cmp .ne (.call .plain 7 (.cons (.v 2) .nil)) (.lst .nil)) (.cons (.cmp .ne (.call .plain 13 (.cons (.v 2) .nil)) (.lst .nil)) .nil))))
   (.cons (.ret (.bl false))
   .nil)
   .nil)
  (.cons (.for (.v 3) (.rng1 (.int 2))
   (.cons (.asg (.v 4) (.bin .add (.int 1) (.call .plain 10 (.cons (.v 1) (.cons (.int 8) .nil)))))
   (.cons (.asg (.v 5) (.call .plain 14 (.cons (.v 4) .nil)))
   (.cons (.asg (.v 6) (.bi .min1 (.cons (.lc (.bi .len (.cons (.v 9) .nil)) (.v 9) (.val (.v 5)) .nil [9]) .nil)))
   (.cons (.ife (.cmp .ne (.idx (.v 2) (.bin .sub (.v 4) (.int 1))) (.idx (.bi .sorted (.cons (.lc (.v 9) (.v 9) (.val (.v 5)) (.cons (.cmp .eq (.bi .len (.cons (.v 9) .nil)) (.v 6)) .nil) [9]) .nil)) (.int 0)))
    (.cons (.ret (.bl false))
    .nil)
    .nil)
   (.cons (.asg (.v 7) (.call .plain 12 (.cons (.v 1) (.cons (.bl false) .nil))))
   (.cons (.for (.v 8) (.rng1 (.int 8))
    (.cons (.ife (.cmp .lt (.tup (.cons (.bi .len (.cons (.idx (.v 7) (.v 8)) .nil)) (.cons (.idx (.v 7) (.v 8)) .nil))) (.tup (.cons (.bi .len (.cons (.idx (.v 2) (.v 8)) .nil)) (.cons (.idx (.v 2) (.v 8)) .nil))))
     (.cons (.ret (.bl false))
     .nil)
     .nil)
    .nil) [8])
   .nil)))))) [3, 4, 5, 6, 7, 8])
  (.cons (.ret (.cmp .eq (.call .plain 8 .nil) (.v 2)))
  .nil)))))
def P : List Def := [⟨1, 1, c0⟩, ⟨3, 3, c1⟩, ⟨1, 2, c2⟩, ⟨2, 3, c3⟩, ⟨1, 3, c4⟩, ⟨1, 1, c5⟩, ⟨1, 5, c6⟩, ⟨1, 1, c7⟩, ⟨0, 1, c8⟩, ⟨1, 3, c9⟩, ⟨2, 5, c10⟩, ⟨2, 2, c11⟩, ⟨2, 7, c12⟩, ⟨1, 4, c13⟩, ⟨1, 5, c14⟩, ⟨1, 10, c15⟩]
def G : Tab where
  con := [(.int 8)]
  ncls := 0
  meth := fun c m => (([] : List (Nat × Nat × Nat)).find? fun q => q.1 == c && q.2.1 == m).map (·.2.2)
  ini := fun c => ([] : List (Nat × Nat)).lookup c
  sub := fun c d => ([(0, 0), (1, 1), (1, 0)] : List (Nat × Nat)).contains (c, d)
  exf := fun _ => none
def T : Nam where
  fn := (["is_integer", "is_within", "are_ascending", "are_plan_places", "is_plan", "check_plan", "gaps_of", "plan_gaps", "least_plan", "_law_hand", "_law_draw", "_law_flag", "_law_plan", "_law_gaps", "_law_all_places", "law"] : List Str)
  cls := []
  con := (["MOST_WAY"] : List Str)
  par := fun f => (([["thing"], ["thing", "least", "most"], ["numbers"], ["thing", "length"], ["thing"], ["thing"], ["plan"], ["plan"], [], ["_law_script"], ["_law_hand_here", "_law_many"], ["_law_told", "_law_due"], ["_law_hand_here", "_law_gaps_here"], ["_law_plan_here"], ["_law_length"], ["_law_script"]] : List (List Str))[f]?).getD []
end Pr
set_option linter.all false
set_option maxRecDepth 100000
set_option maxHeartbeats 1000000
namespace Pr
open PySem Ev
def hnd (cs : List D) (a b s n : Int) : Cell := .lst [.lst cs, .int a, .int b, .int s, .int n]
theorem nb1 (x : Int) : (x % 2147483647).natAbs < 18446744073709551616 := by omega
theorem lg1 : Nat.log2 1009 < 9000 := by decide +kernel
theorem lg2 : Nat.log2 2003 < 9000 := by decide +kernel
theorem lg3 : Nat.log2 16 < 9000 := by decide +kernel
def num (s n m : Int) : Int := ((s + 7919 * n) * 48271 % 2147483647 * ((s + 7919 * n) * 48271 % 2147483647 / 1009 + 69621) % 2147483647 *
        ((s + 7919 * n) * 48271 % 2147483647 * ((s + 7919 * n) * 48271 % 2147483647 / 1009 + 69621) % 2147483647 / 2003 + 40692) % 2147483399 / 16) % m
theorem draw_ok {F : FT} {cs : List Int} {a b s n m : Int} {r : List Cell} (hm : 2 ≤ m ∧ m ≤ 100) (ha : 0 ≤ a) (hb : 0 ≤ b) (hcs : ∀ x ∈ cs, 0 ≤ x) :
    ∃ d a' b' s' n', runDef G F ⟨2, 5, c10⟩ [.ref 0, .int m] (hnd (cs.map .int) a b s n :: r) = .ok (.int d) (hnd (cs.map .int) a' b' s' n' :: r) ∧ 0 ≤ d ∧ d < m ∧ 0 ≤ a' ∧ 0 ≤ b' := by
  obtain ⟨hm1, hm2⟩ := hm
  have h2 : 0 < m := by omega
  have h3 : m.natAbs.log2 < 9000 := by
    have := Nat.log2_le_self m.natAbs
    omega
  have fin : ∀ y : Int, 0 ≤ y % m ∧ y % m < m := fun y => ⟨Int.emod_nonneg _ (by omega), Int.emod_lt_of_pos _ h2⟩
  have dv : ∀ y : Int, 0 ≤ y → 0 ≤ y / m := fun y hy => Int.ediv_nonneg hy (by omega)
  by_cases hb0 : b = 0
  · subst hb0
    by_cases hl : a < cs.length
    · obtain ⟨x, hx, hx0⟩ : ∃ x, cs[a.toNat]? = some x ∧ 0 ≤ x := by
        have hlt : a.toNat < cs.length := by omega
        exact ⟨cs[a.toNat], List.getElem?_eq_getElem hlt, hcs _ (List.getElem_mem hlt)⟩
      have hx' : ∀ h, cs[a.toNat]'h = x := fun h => by rw [List.getElem?_eq_getElem h] at hx; exact Option.some.inj hx
      by_cases hx1 : x < 1000000000000000000
      · refine ⟨num ((s * 69621 + x + 11) % 2147483629) (n + 1) m, a + 1, 0, (s * 69621 + x + 11) % 2147483629, n + 1, ?_, (fin _).1, (fin _).2, by omega, hb⟩
        have hx3 : ¬ (1000000000000000000 ≤ x) := by omega
        simp [num, runDef, hnd, evSs, evS, evX, evAnd, evOr, evDs, evPs, M.bind, M.pure, varM, S.loc1, two, one, PV.val, Cell.toD, idxF, pickI, ixN, cmpF, eqF, ltF, D.fin, dep, eqB, ltB, alk, nonB, toB, biM, valsOf, biF, D.len, Ev.finish, Exs.isNil, asgIM, S.get, S.put, PV.lo, PV.store, bindM, bindT, M.of, binF, c10, ha, hl, hx, hx', hx1, hx3, h2, h3, lg1, lg2, lg3, nb1]
      · refine ⟨x % m, a + 1, x / m, (s * 69621 + x + 11) % 2147483629, n, ?_, (fin _).1, (fin _).2, by omega, dv x hx0⟩
        have hx2 : 0 < x := by omega
        have hx3 : 1000000000000000000 ≤ x := by omega
        simp [runDef, hnd, evSs, evS, evX, evAnd, evOr, evDs, evPs, M.bind, M.pure, varM, S.loc1, two, one, PV.val, Cell.toD, idxF, pickI, ixN, cmpF, eqF, ltF, D.fin, dep, eqB, ltB, alk, nonB, toB, biM, valsOf, biF, D.len, Ev.finish, Exs.isNil, asgIM, S.get, S.put, PV.lo, PV.store, bindM, bindT, M.of, binF, c10, ha, hl, hx, hx', hx1, hx2, hx3, h2, h3, lg1, lg2, lg3, nb1]
    · refine ⟨num s (n + 1) m, a, 0, s, n + 1, ?_, (fin _).1, (fin _).2, ha, hb⟩
      simp [num, runDef, hnd, evSs, evS, evX, evAnd, evOr, evDs, evPs, M.bind, M.pure, varM, S.loc1, two, one, PV.val, Cell.toD, idxF, pickI, ixN, cmpF, eqF, ltF, D.fin, dep, eqB, ltB, alk, nonB, toB, biM, valsOf, biF, D.len, Ev.finish, Exs.isNil, asgIM, S.get, S.put, PV.lo, PV.store, bindM, bindT, M.of, binF, c10, hl, h2, h3, lg1, lg2, lg3, nb1]
  · have hb1 : 0 < b := by omega
    refine ⟨b % m, a, b / m, s, n, ?_, (fin _).1, (fin _).2, ha, dv b hb⟩
    simp [runDef, hnd, evSs, evS, evX, evAnd, evOr, evDs, evPs, M.bind, M.pure, varM, S.loc1, two, one, PV.val, Cell.toD, idxF, pickI, ixN, cmpF, eqF, ltF, D.fin, dep, eqB, ltB, alk, nonB, toB, biM, valsOf, biF, D.len, Ev.finish, Exs.isNil, asgIM, S.get, S.put, PV.lo, PV.store, bindM, bindT, M.of, binF, c10, hb0, hb1, h2, h3, lg1, lg2, lg3, nb1]
end Pr

set_option linter.all false
set_option maxRecDepth 100000
set_option maxHeartbeats 1000000
namespace Pr
open PySem Ev
theorem line_eq : line = 16777216 := rfl
theorem loopC_cons {tg : Tg} {tt : M Bool} {el : M D} {own : List Nat} {acc : List D} {x : D} {xs : List D} {s s1 s2 s3 : S} {t : D} (h1 : bindT tg x (wipe own s) = some s1) (h2 : tt s1 = .ok true s2) (h3 : el s2 = .ok t s3) (h4 : acc.length < line) :
    loopC tg tt el own acc (x :: xs) s = loopC tg tt el own (acc ++ [t]) xs s3 := by
  conv => lhs; unfold loopC
  simp only [h1, h2, h3, if_pos h4]
theorem loopF_next {bd : D → M Ev.Flow} {kl : List Nat} {x : D} {xs : List D} {s s' : S} (h : bd x s = .ok .next s') : loopF bd kl (x :: xs) s = loopF bd kl xs (wipe kl s') := by
  conv => lhs; unfold loopF
  simp only [h]
theorem lc_eval {G : Tab} {F : FT} {it : It} {tg : Tg} {elt : Ex} {ifs : Exs} {own : List Nat} {s s1 s2 : S} {xs ts : List D} (h1 : evIt G F it s = .ok xs s1) (h2 : loopC tg (evQs G F ifs) (M.bind (evX G F elt) PV.store) own [] xs s1 = .ok ts s2) :
    evX G F (.lc elt tg it ifs own) s = .ok (.d (.lst ts)) (unown own s1.loc s2) := by
  show M.bind (evIt G F it) (fun xs => M.bind (lcM own (loopC tg (evQs G F ifs) (M.bind (evX G F elt) PV.store) own [] xs)) fun ts => M.pure (PV.d (.lst ts))) s = _
  simp only [M.bind, h1, lcM, h2, M.pure]
theorem asg_eval {G : Tab} {F : FT} {t : Tg} {e : Ex} {s s1 s2 : S} {x : D} (h1 : evX G F e s = .ok (.d x) s1) (h2 : bindT t x s1 = some s2) : evS G F (.asg t e) s = .ok .next s2 := by
  show M.bind (evX G F e) (fun x => M.bind x.store fun y => bindM t y) s = _
  simp only [M.bind, h1, PV.store, M.pure, bindM, h2]
theorem sts_next {G : Tab} {F : FT} {st : St} {ss : Sts} {s s1 : S} (h : evS G F st s = .ok .next s1) : evSs G F (.cons st ss) s = evSs G F ss s1 := by
  show (match evS G F st s with | .ok .next st' => evSs G F ss st' | r => r) = _
  rw [h]
def iabs (x : Int) : Int := if x < 0 then -x else x
theorem hand_loop {F : FT} {sc : LV} {c : List Cell} : ∀ (xs : List Int) (acc : List D) (l2 : Option LV), acc.length + xs.length ≤ 63 →
    ∃ l2', loopC (.v 2) (evQs G F .nil) (M.bind (evX G F (.bi .abs (.cons (.bi .int (.cons (.v 2) .nil)) .nil))) PV.store) [2] acc (xs.map .int) ⟨[some sc, none, l2], c⟩ = .ok (acc ++ xs.map fun x => .int (iabs x)) ⟨[some sc, none, l2'], c⟩
  | [], acc, l2, h => ⟨l2, by simp [loopC, M.pure]⟩
  | x :: xs, acc, l2, h => by
    obtain ⟨l2', e⟩ := hand_loop xs (acc ++ [.int (iabs x)]) (some (.d (.int x))) (by simp at h ⊢; omega)
    refine ⟨l2', ?_⟩
    have hl : acc.length < 16777216 := by simp at h; omega
    have e : loopC (.v 2) (evQs G F .nil) (M.bind (evX G F (.bi .abs (.cons (.bi .int (.cons (.v 2) .nil)) .nil))) PV.store) [2] (acc ++ [.int (iabs x)]) (xs.map .int) ⟨[some sc, none, some (.d (.int x))], c⟩ = .ok ((acc ++ [.int (iabs x)]) ++ xs.map fun x => .int (iabs x)) ⟨[some sc, none, l2'], c⟩ := e
    rw [List.append_assoc] at e
    rw [List.map_cons, List.map_cons]
    refine Eq.trans ?_ e
    have el : (M.bind (evX G F (.bi .abs (.cons (.bi .int (.cons (.v 2) .nil)) .nil))) PV.store) ⟨[some sc, none, some (.d (.int x))], c⟩ = .ok (.int (iabs x)) ⟨[some sc, none, some (.d (.int x))], c⟩ := by
      simp [runDef, evSs, evS, evX, evAnd, evOr, evDs, evPs, evQs, evIt, M.bind, M.pure, varM, S.loc1, two, one, PV.val, Cell.toD, idxF, pickI, ixN, cmpF, eqF, ltF, inF, D.fin, D.fins, dep, eqB, ltB, alk, nonB, toB, biM, valsOf, biF, D.len, Ev.finish, Exs.isNil, asgIM, asgOM, thaw, S.get, S.put, PV.lo, PV.store, bindM, bindT, M.of, binF, doCall, endC, lstM, doMm, mmF, turnM, isLoop, rngF, sml, big, iabs]
    exact loopC_cons rfl rfl el (by rw [line_eq]; exact hl)
theorem hand_ok {F : FT} (ns : List Int) (hn : ns.length ≤ 63) (c : List Cell) : ∃ (cs : List Int) (s : Int), (∀ x ∈ cs, 0 ≤ x) ∧ runDef G F ⟨1, 3, c9⟩ [.lst (ns.map .int)] c = .ok (.ref c.length) (c ++ [hnd (cs.map .int) 0 0 s 0]) := by
  obtain ⟨l2', e⟩ := hand_loop (F := F) (sc := .d (.lst (ns.map .int))) (c := c) ns [] none (by simpa using hn)
  refine ⟨ns.map iabs, 1 + (ns.length : Int), fun x hx => ?_, ?_⟩
  · obtain ⟨y, _, rfl⟩ := List.mem_map.mp hx
    unfold iabs
    split <;> omega
  · have h1 : evIt G F (.val (.sl (.v 0) .non (.int 63))) ⟨[some (.d (.lst (ns.map .int))), none, none], c⟩ = .ok (ns.map .int) ⟨[some (.d (.lst (ns.map .int))), none, none], c⟩ := by
      have hc : (ns.map D.int).take (min 63 ns.length) = ns.map D.int := by rw [List.take_of_length_le]; simp; omega
      have hc2 : ns.take 63 = ns := List.take_of_length_le hn
      simp [runDef, evSs, evS, evX, evAnd, evOr, evDs, evPs, evQs, evIt, M.bind, M.pure, varM, S.loc1, two, one, PV.val, Cell.toD, idxF, pickI, ixN, cmpF, eqF, ltF, inF, D.fin, D.fins, dep, eqB, ltB, alk, nonB, toB, biM, valsOf, biF, D.len, Ev.finish, Exs.isNil, asgIM, asgOM, thaw, S.get, S.put, PV.lo, PV.store, bindM, bindT, M.of, binF, doCall, endC, lstM, doMm, mmF, turnM, isLoop, rngF, sml, big, slM, slF, partM, partF, cutI, clipI, Ex.isNon, walkD, D.items, hc, hc2]
    have h2 := lc_eval (tg := .v 2) (own := [2]) h1 e
    have h3 := asg_eval (t := .v 1) h2 rfl
    have er : runDef G F ⟨1, 3, c9⟩ [.lst (ns.map .int)] c = Ev.finish (evSs G F c9 ⟨[some (.d (.lst (ns.map .int))), none, none], c⟩) := rfl
    rw [er]
    unfold c9
    rw [sts_next h3]
    simp [runDef, evSs, evS, evX, evAnd, evOr, evDs, evPs, evQs, evIt, M.bind, M.pure, varM, S.loc1, two, one, PV.val, Cell.toD, idxF, pickI, ixN, cmpF, eqF, ltF, inF, D.fin, D.fins, dep, eqB, ltB, alk, nonB, toB, biM, valsOf, biF, D.len, Ev.finish, Exs.isNil, asgIM, asgOM, thaw, S.get, S.put, PV.lo, PV.store, bindM, bindT, M.of, binF, doCall, endC, lstM, doMm, mmF, turnM, isLoop, rngF, sml, big, unown, LV.dat, newM, hnd, line_eq]
end Pr

set_option linter.all false
set_option maxRecDepth 100000
set_option maxHeartbeats 1000000
namespace Pr
open PySem Ev
def HOK (c : Cell) : Prop := ∃ (cs : List Int) (a b s n : Int), (∀ x ∈ cs, 0 ≤ x) ∧ 0 ≤ a ∧ 0 ≤ b ∧ c = hnd (cs.map .int) a b s n
def DrawOk (F : FT) : Prop := ∀ (c : Cell) (m : Int), 2 ≤ m → m ≤ 100 → HOK c → ∃ (d : Int) (c' : Cell), F 10 [.ref 0, .int m] [c] = .ok (.int d) [c'] ∧ 0 ≤ d ∧ d < m ∧ HOK c'
def nd (l p : Int) (L : List Int) : Bool := (p == l - 1) || (decide (0 < p) && !((L.map D.int).any fun y => eqB y (.int (p - 1))))
def reach (l : Nat) : Nat → List (List Int)
  | 0 => [[]]
  | p + 1 => (reach l p).flatMap fun L => if nd l p L then [L ++ [(p : Int)]] else [L ++ [(p : Int)], L]
theorem fins_ints (n : Nat) : ∀ L : List Int, D.fins n (L.map .int) = true
  | [] => by simp [D.fins]
  | x :: L => by simp [D.fins, D.fin, fins_ints n L]
def c12n : Ex := .or (.cons (.cmp .eq (.v 5) (.bin .sub (.v 3) (.int 1))) (.cons (.and (.cons (.not (.v 1)) (.cons (.cmp .gt (.v 5) (.int 0)) (.cons (.cmp .nin (.bin .sub (.v 5) (.int 1)) (.v 4)) .nil)))) .nil))
def c12f : St := .ife (.or (.cons (.v 6) (.cons (.cmp .eq (.call .plain 10 (.cons (.v 0) (.cons (.int 2) .nil))) (.int 0)) .nil)))
     (.cons (.ex (.mm .append (.v 4) (.cons (.v 5) .nil)))
     .nil)
     .nil
def c12i : Sts := .cons (.asg (.v 6) c12n) (.cons c12f .nil)
def c12o : Sts := (.cons (.asgO 4 (.lst .nil))
   (.cons (.for (.v 5) (.rng1 (.v 3)) c12i [5, 6])
   (.cons (.ex (.mm .append (.v 2) (.cons (.bi .tuple (.cons (.v 4) .nil)) .nil)))
   .nil)))
theorem c12_eq : c12 = (.cons (.asgO 2 (.lst .nil))
  (.cons (.for (.v 3) (.rng2 (.int 1) (.int 9)) c12o [3, 4, 5, 6])
  (.cons (.ret (.bi .tuple (.cons (.v 2) .nil)))
  .nil))) := rfl
section
variable {F : FT}
def st12 (x2 : Option LV) (l : Int) (L : List Int) (x5 x6 : Option LV) (c : Cell) : S := ⟨[some (.d (.ref 0)), some (.d (.bl false)), x2, some (.d (.int l)), some (.own (.lst (L.map .int))), x5, x6], [c]⟩
theorem for_eval {it : It} {tg : Tg} {a : Sts} {kl : List Nat} {s s1 : S} {xs : List D} (hn : isLoop it = none) (hi : evIt G F it s = .ok xs s1) : evS G F (.for tg it a kl) s = loopF (turnM tg (evSs G F a)) kl xs s1 := by
  have e : evS G F (.for tg it a kl) = M.bind (evIt G F it) fun l => loopF (turnM tg (evSs G F a)) kl l := by
    show (match isLoop it with | some e => _ | none => _) = _
    rw [hn]
  rw [e]
  simp only [M.bind, hi]
theorem turn_v {i : Nat} {bd : M Ev.Flow} {x : D} {s : S} : turnM (.v i) bd x s = bd { s with loc := s.loc.set i (some (.d x)) } := rfl
theorem or1 {e : Ex} : evOr G F (.cons e .nil) = evX G F e := rfl
theorem and1 {e : Ex} : evAnd G F (.cons e .nil) = evX G F e := rfl
theorem or_eq {es : Exs} : evX G F (.or es) = evOr G F es := rfl
theorem and_eq {es : Exs} : evX G F (.and es) = evAnd G F es := rfl
theorem or2 {e e2 : Ex} {es : Exs} {s s' : S} {b : Bool} (h : evX G F e s = .ok (.d (.bl b)) s') : evOr G F (.cons e (.cons e2 es)) s = (if b then .ok (.d (.bl true)) s' else evOr G F (.cons e2 es) s') := by
  show M.bind (evX G F e) (fun x => M.bind (toB x) fun c => if c then M.pure (PV.d (.bl true)) else evOr G F (.cons e2 es)) s = _
  simp only [M.bind, h]
  cases b <;> rfl
theorem and2 {e e2 : Ex} {es : Exs} {s s' : S} {b : Bool} (h : evX G F e s = .ok (.d (.bl b)) s') : evAnd G F (.cons e (.cons e2 es)) s = (if b then evAnd G F (.cons e2 es) s' else .ok (.d (.bl false)) s') := by
  show M.bind (evX G F e) (fun x => M.bind (toB x) fun c => if c then evAnd G F (.cons e2 es) else M.pure (PV.d (.bl false))) s = _
  simp only [M.bind, h]
  cases b <;> rfl
theorem need_ok {x2 x6 : Option LV} {l p : Int} {L : List Int} {c : Cell} : evX G F c12n (st12 x2 l L (some (.d (.int p))) x6 c) = .ok (.d (.bl (nd l p L))) (st12 x2 l L (some (.d (.int p))) x6 c) := by
  have a1 : evX G F (.cmp .eq (.v 5) (.bin .sub (.v 3) (.int 1))) (st12 x2 l L (some (.d (.int p))) x6 c) = .ok (.d (.bl (p == l - 1))) (st12 x2 l L (some (.d (.int p))) x6 c) := by kernel_rfl
  have a2 : evX G F (.not (.v 1)) (st12 x2 l L (some (.d (.int p))) x6 c) = .ok (.d (.bl true)) (st12 x2 l L (some (.d (.int p))) x6 c) := by kernel_rfl
  have a3 : evX G F (.cmp .gt (.v 5) (.int 0)) (st12 x2 l L (some (.d (.int p))) x6 c) = .ok (.d (.bl (decide (0 < p)))) (st12 x2 l L (some (.d (.int p))) x6 c) := by kernel_rfl
  have a4 : evX G F (.cmp .nin (.bin .sub (.v 5) (.int 1)) (.v 4)) (st12 x2 l L (some (.d (.int p))) x6 c) = .ok (.d (.bl (!((L.map D.int).any fun y => eqB y (.int (p - 1)))))) (st12 x2 l L (some (.d (.int p))) x6 c) := by
    have i1 : inF (.int (p - 1)) (.lst (L.map .int)) = some ((L.map D.int).any fun y => eqB y (.int (p - 1))) := by
      simp only [inF, D.fin, fins_ints]; rfl
    have i2 : evX G F (.cmp .nin (.bin .sub (.v 5) (.int 1)) (.v 4)) (st12 x2 l L (some (.d (.int p))) x6 c) = (match ((inF (.int (p - 1)) (.lst (L.map .int))).map (!·)).map D.bl with | some z => .ok (.d z) (st12 x2 l L (some (.d (.int p))) x6 c) | none => .stk) := by kernel_rfl
    rw [i2, i1]; rfl
  unfold c12n
  rw [or_eq, or2 a1, or1, and_eq, and2 a2, and2 a3, and1, a4]
  unfold nd
  cases h1 : (p == l - 1) with
  | true => rfl
  | false =>
    cases h2 : decide (0 < p) with
    | false => rfl
    | true => rfl
theorem inn_turn (hD : DrawOk F) {x2 x5 x6 : Option LV} {l p : Int} {L : List Int} {c : Cell} (hc : HOK c) (hL : L.length ≤ 100) :
    ∃ L' c', (L' = L ++ [p] ∨ (nd l p L = false ∧ L' = L)) ∧ HOK c' ∧ turnM (.v 5) (evSs G F c12i) (.int p) (st12 x2 l L x5 x6 c) = .ok .next (st12 x2 l L' (some (.d (.int p))) (some (.d (.bl (nd l p L)))) c') := by
  have e0 : turnM (.v 5) (evSs G F c12i) (.int p) (st12 x2 l L x5 x6 c) = evSs G F c12i (st12 x2 l L (some (.d (.int p))) x6 c) := turn_v.trans (congrArg (evSs G F c12i) rfl)
  have e1 : evSs G F c12i (st12 x2 l L (some (.d (.int p))) x6 c) = evSs G F (.cons c12f .nil) (st12 x2 l L (some (.d (.int p))) (some (.d (.bl (nd l p L)))) c) := sts_next (asg_eval need_ok rfl)
  rw [e0, e1]
  have hl : L.length < 16777216 := by omega
  cases hn : nd l p L with
  | true =>
    refine ⟨L ++ [p], c, .inl rfl, hc, ?_⟩
    simp [c12f, st12, evSs, evS, evX, evAnd, evOr, evDs, evPs, evIt, M.bind, M.pure, varM, S.loc1, two, one, PV.val, Cell.toD, idxF, pickI, ixN, cmpF, eqF, ltF, inF, D.fin, D.fins, dep, eqB, ltB, alk, nonB, toB, biM, valsOf, biF, D.len, Ev.finish, Exs.isNil, asgIM, asgOM, thaw, S.get, S.put, PV.lo, PV.store, bindM, bindT, M.of, binF, doCall, endC, lstM, doMm, mmF, turnM, isLoop, line_eq, hl]
  | false =>
    obtain ⟨d, c', e, h1, h2, hc'⟩ := hD c 2 (by omega) (by omega) hc
    by_cases hd : d = 0
    · refine ⟨L ++ [p], c', .inl rfl, hc', ?_⟩
      simp [c12f, st12, evSs, evS, evX, evAnd, evOr, evDs, evPs, evIt, M.bind, M.pure, varM, S.loc1, two, one, PV.val, Cell.toD, idxF, pickI, ixN, cmpF, eqF, ltF, inF, D.fin, D.fins, dep, eqB, ltB, alk, nonB, toB, biM, valsOf, biF, D.len, Ev.finish, Exs.isNil, asgIM, asgOM, thaw, S.get, S.put, PV.lo, PV.store, bindM, bindT, M.of, binF, doCall, endC, lstM, doMm, mmF, turnM, isLoop, line_eq, hl, e, hd]
    · refine ⟨L, c', .inr ⟨rfl, rfl⟩, hc', ?_⟩
      simp [c12f, st12, evSs, evS, evX, evAnd, evOr, evDs, evPs, evIt, M.bind, M.pure, varM, S.loc1, two, one, PV.val, Cell.toD, idxF, pickI, ixN, cmpF, eqF, ltF, inF, D.fin, D.fins, dep, eqB, ltB, alk, nonB, toB, biM, valsOf, biF, D.len, Ev.finish, Exs.isNil, asgIM, asgOM, thaw, S.get, S.put, PV.lo, PV.store, bindM, bindT, M.of, binF, doCall, endC, lstM, doMm, mmF, turnM, isLoop, line_eq, hl, e, hd]
theorem inn_loop (hD : DrawOk F) {x2 : Option LV} {l : Nat} : ∀ (m p : Nat) (x5 x6 : Option LV) (L : List Int) (c : Cell), p + m = l → p + m ≤ 50 → HOK c → L.length ≤ p → L ∈ reach l p →
    ∃ L' c', L' ∈ reach l l ∧ L'.length ≤ l ∧ HOK c' ∧ loopF (turnM (.v 5) (evSs G F c12i)) [5, 6] ((List.range' p m).map fun (j : Nat) => D.int (j : Int)) (st12 x2 l L x5 x6 c) = .ok .next (st12 x2 l L' none none c')
  | 0, p, x5, x6, L, c, h, _, hc, hl, hr => by
    have h : p = l := by omega
    subst h
    exact ⟨L, c, hr, hl, hc, rfl⟩
  | m + 1, p, x5, x6, L, c, h, hb, hc, hl, hr => by
    obtain ⟨L1, c1, h1, hc1, e1⟩ := inn_turn hD (x2 := x2) (x5 := x5) (x6 := x6) (l := l) (p := p) hc (L := L) (by omega)
    have hr1 : L1 ∈ reach l (p + 1) := by
      show L1 ∈ (reach l p).flatMap _
      rw [List.mem_flatMap]
      refine ⟨L, hr, ?_⟩
      rcases h1 with rfl | ⟨h1, rfl⟩
      · split <;> simp
      · rw [h1]; simp
    have hl1 : L1.length ≤ p + 1 := by
      rcases h1 with rfl | ⟨h1, rfl⟩
      · simp; omega
      · omega
    obtain ⟨L2, c2, r2, l2, hc2, e2⟩ := inn_loop hD (x2 := x2) (l := l) m (p + 1) none none L1 c1 (by omega) (by omega) hc1 hl1 hr1
    refine ⟨L2, c2, r2, l2, hc2, ?_⟩
    rw [List.range'_succ, List.map_cons, loopF_next e1]
    exact e2
def tupD (L : List Int) : D := .tup (L.map .int)
theorem rg0 (k : Nat) : (rangeL 0 k).map D.int = (List.range' 0 k).map fun (j : Nat) => D.int (j : Int) := by
  simp [rangeL, List.range_eq_range']
def stO (pl : List (List Int)) (x3 x4 x5 x6 : Option LV) (c : Cell) : S := ⟨[some (.d (.ref 0)), some (.d (.bl false)), some (.own (.lst (pl.map tupD))), x3, x4, x5, x6], [c]⟩
def GoodPl (pl : List (List Int)) : Prop := ∀ i L, pl[i]? = some L → L ∈ reach (i + 1) (i + 1)
theorem o1 {pl : List (List Int)} {l : Int} {x4 x5 x6 : Option LV} {c : Cell} : evS G F (.asgO 4 (.lst .nil)) (stO pl (some (.d (.int l))) x4 x5 x6 c) = .ok .next (st12 (some (.own (.lst (pl.map tupD)))) l [] x5 x6 c) := by
  rfl
theorem it_rng1 {ex : Ex} {s s1 : S} {l : Nat} {v : Int} (h : evX G F ex s = .ok (.d (.int v)) s1) (hs : sml v = true) (e : rngF (.d (.int 0)) (.d (.int v)) = some (0, (l : Int))) : evIt G F (.rng1 ex) s = .ok ((List.range' 0 l).map fun (j : Nat) => D.int (j : Int)) s1 := by
  show M.bind (evX G F ex) (fun x => M.of ((rngF (.d (.int 0)) x).map fun q => (rangeL q.1 q.2).map D.int)) s = _
  simp only [M.bind, h, e, Option.map, M.of, M.pure]
  rw [rg0]
theorem o2 {x2 x5 x6 : Option LV} {l : Nat} {c : Cell} (hl : l ≤ 50) : evIt G F (.rng1 (.v 3)) (st12 x2 l [] x5 x6 c) = .ok ((List.range' 0 l).map fun (j : Nat) => D.int (j : Int)) (st12 x2 l [] x5 x6 c) := by
  have hs : sml (l : Int) = true := by unfold sml big; rw [Bool.and_eq_true, decide_eq_true_eq, decide_eq_true_eq]; constructor <;> omega
  have h0 : sml 0 = true := by decide +kernel
  have e : rngF (.d (.int 0)) (.d (.int l)) = some (0, (l : Int)) := by
    simp only [rngF, hs, h0, Bool.and_self, if_true]
  exact it_rng1 (v := (l : Int)) rfl hs e
theorem o3 {pl : List (List Int)} {L : List Int} {l : Int} {c : Cell} (hp2 : pl.length < 16777216) : evSs G F (.cons (.ex (.mm .append (.v 2) (.cons (.bi .tuple (.cons (.v 4) .nil)) .nil))) .nil) (st12 (some (.own (.lst (pl.map tupD)))) l L none none c) = .ok .next (stO (pl ++ [L]) (some (.d (.int l))) (some (.own (.lst (L.map .int)))) none none c) := by
  simp [stO, st12, tupD, evSs, evS, evX, evAnd, evOr, evDs, evPs, evIt, M.bind, M.pure, varM, S.loc1, two, one, PV.val, Cell.toD, idxF, pickI, ixN, cmpF, eqF, ltF, inF, D.fin, D.fins, dep, eqB, ltB, alk, nonB, toB, biM, valsOf, biF, D.len, Ev.finish, Exs.isNil, asgIM, asgOM, thaw, S.get, S.put, PV.lo, PV.store, bindM, bindT, M.of, binF, doCall, endC, lstM, doMm, mmF, turnM, isLoop, line_eq, hp2]
theorem out_turn (hD : DrawOk F) {x3 x4 x5 x6 : Option LV} {l : Nat} {pl : List (List Int)} {c : Cell} (hc : HOK c) (hl : l ≤ 50) (hp : pl.length ≤ 50) :
    ∃ L' c', L' ∈ reach l l ∧ HOK c' ∧ turnM (.v 3) (evSs G F c12o) (.int l) (stO pl x3 x4 x5 x6 c) = .ok .next (stO (pl ++ [L']) (some (.d (.int l))) (some (.own (.lst (L'.map .int)))) none none c') := by
  obtain ⟨L', c', r, _, hc', e⟩ := inn_loop hD (x2 := some (.own (.lst (pl.map tupD)))) (l := l) l 0 x5 x6 [] c (by omega) (by omega) hc (Nat.le_refl _) (List.mem_singleton.mpr rfl)
  refine ⟨L', c', r, hc', ?_⟩
  have e0 : turnM (.v 3) (evSs G F c12o) (.int l) (stO pl x3 x4 x5 x6 c) = evSs G F c12o (stO pl (some (.d (.int l))) x4 x5 x6 c) := turn_v
  have e2 : evS G F (.for (.v 5) (.rng1 (.v 3)) c12i [5, 6]) (st12 (some (.own (.lst (pl.map tupD)))) l [] x5 x6 c) = .ok .next (st12 (some (.own (.lst (pl.map tupD)))) l L' none none c') := (for_eval rfl (o2 hl)).trans e
  rw [e0]
  unfold c12o
  rw [sts_next o1, sts_next e2]
  exact o3 (by omega)
theorem out_loop (hD : DrawOk F) : ∀ (m k : Nat) (x3 x4 x5 x6 : Option LV) (pl : List (List Int)) (c : Cell), k + m = 9 → pl.length + 1 = k → HOK c → GoodPl pl →
    ∃ pl' c', pl'.length = 8 ∧ GoodPl pl' ∧ HOK c' ∧ loopF (turnM (.v 3) (evSs G F c12o)) [3, 4, 5, 6] ((List.range' k m).map fun (j : Nat) => D.int (j : Int)) (stO pl x3 x4 x5 x6 c) = .ok .next (stO pl' none none none none c')
  | 0, k, x3, x4, x5, x6, pl, c, h, hk, hc, g => ⟨pl, c, by omega, g, hc, rfl⟩
  | m + 1, k, x3, x4, x5, x6, pl, c, h, hk, hc, g => by
    have hb1 : k ≤ 50 := by omega
    have hb2 : pl.length ≤ 50 := by omega
    obtain ⟨L1, c1, r1, hc1, e1⟩ := out_turn hD (x3 := x3) (x4 := x4) (x5 := x5) (x6 := x6) (l := k) (pl := pl) hc hb1 hb2
    have g1 : GoodPl (pl ++ [L1]) := fun i L hi => by
      by_cases h1 : i < pl.length
      · rw [List.getElem?_append_left h1] at hi; exact g i L hi
      · have hlt := (List.getElem?_eq_some_iff.mp hi).1
        have h2 : i = pl.length := by simp at hlt; omega
        subst h2
        simp at hi
        subst hi
        rw [hk]; exact r1
    obtain ⟨pl2, c2, q1, q2, q3, e2⟩ := out_loop hD m (k + 1) none none none none (pl ++ [L1]) c1 (by omega) (by simp; omega) hc1 g1
    refine ⟨pl2, c2, q1, q2, q3, ?_⟩
    rw [List.range'_succ, List.map_cons, loopF_next e1]
    exact e2
theorem plan_ok (hD : DrawOk F) {c : Cell} (hc : HOK c) : ∃ pl c', pl.length = 8 ∧ GoodPl pl ∧ HOK c' ∧ runDef G F ⟨2, 7, c12⟩ [.ref 0, .bl false] [c] = .ok (.tup (pl.map tupD)) [c'] := by
  obtain ⟨pl, c', q1, q2, q3, e⟩ := out_loop hD 8 1 none none none none [] c rfl rfl hc (fun i L h => by simp at h)
  refine ⟨pl, c', q1, q2, q3, ?_⟩
  have er : runDef G F ⟨2, 7, c12⟩ [.ref 0, .bl false] [c] = Ev.finish (evSs G F c12 ⟨[some (.d (.ref 0)), some (.d (.bl false)), none, none, none, none, none], [c]⟩) := rfl
  have e1 : evS G F (.asgO 2 (.lst .nil)) ⟨[some (.d (.ref 0)), some (.d (.bl false)), none, none, none, none, none], [c]⟩ = .ok .next (stO [] none none none none c) := by
    simp [stO, evSs, evS, evX, evAnd, evOr, evDs, evPs, evIt, M.bind, M.pure, varM, S.loc1, two, one, PV.val, Cell.toD, idxF, pickI, ixN, cmpF, eqF, ltF, inF, D.fin, D.fins, dep, eqB, ltB, alk, nonB, toB, biM, valsOf, biF, D.len, Ev.finish, Exs.isNil, asgIM, asgOM, thaw, S.get, S.put, PV.lo, PV.store, bindM, bindT, M.of, binF, doCall, endC, lstM, doMm, mmF, turnM, isLoop, line_eq]
  have e2 : evS G F (.for (.v 3) (.rng2 (.int 1) (.int 9)) c12o [3, 4, 5, 6]) (stO [] none none none none c) = .ok .next (stO pl none none none none c') := by
    have hi : evIt G F (.rng2 (.int 1) (.int 9)) (stO [] none none none none c) = .ok ((List.range' 1 8).map fun (j : Nat) => D.int (j : Int)) (stO [] none none none none c) := by kernel_rfl
    rw [for_eval rfl hi]
    exact e
  rw [er, c12_eq, sts_next e1, sts_next e2]
  simp [stO, evSs, evS, evX, evAnd, evOr, evDs, evPs, evIt, M.bind, M.pure, varM, S.loc1, two, one, PV.val, Cell.toD, idxF, pickI, ixN, cmpF, eqF, ltF, inF, D.fin, D.fins, dep, eqB, ltB, alk, nonB, toB, biM, valsOf, biF, D.len, Ev.finish, Exs.isNil, asgIM, asgOM, thaw, S.get, S.put, PV.lo, PV.store, bindM, bindT, M.of, binF, doCall, endC, lstM, doMm, mmF, turnM, isLoop, line_eq]
end
end Pr

set_option linter.all false
set_option maxRecDepth 100000
set_option maxHeartbeats 1000000
namespace Pr
open PySem Ev
def LP : D := .tup [.tup [.int 0], .tup [.int 1], .tup [.int 0, .int 2], .tup [.int 1, .int 3], .tup [.int 0, .int 2, .int 4], .tup [.int 1, .int 3, .int 5], .tup [.int 0, .int 2, .int 4, .int 6], .tup [.int 1, .int 3, .int 5, .int 7]]
abbrev F8 : FT := run G P 8
def depth : Nat := 9
theorem draw8 : DrawOk F8 := by
  rintro c m h1 h2 ⟨cs, a, b, s, n, hcs, ha, hb, rfl⟩
  obtain ⟨d, a', b', s', n', e, q1, q2, q3, q4⟩ := draw_ok (F := run G P 7) (cs := cs) (a := a) (b := b) (s := s) (n := n) (m := m) (r := []) ⟨h1, h2⟩ ha hb hcs
  exact ⟨d, _, e, q1, q2, cs, a', b', s', n', hcs, q3, q4, rfl⟩
theorem draw7 : DrawOk (run G P 7) := by
  rintro c m h1 h2 ⟨cs, a, b, s, n, hcs, ha, hb, rfl⟩
  obtain ⟨d, a', b', s', n', e, q1, q2, q3, q4⟩ := draw_ok (F := run G P 6) (cs := cs) (a := a) (b := b) (s := s) (n := n) (m := m) (r := []) ⟨h1, h2⟩ ha hb hcs
  exact ⟨d, _, e, q1, q2, cs, a', b', s', n', hcs, q3, q4, rfl⟩
theorem loopF_inv {bd : D → M Ev.Flow} {kl : List Nat} {Pv : S → Prop} : ∀ (xs : List D), (∀ x ∈ xs, ∀ s, Pv s → ∃ s', bd x s = .ok .next s' ∧ Pv (wipe kl s')) → (∀ s, Pv s → Pv (wipe kl s)) → ∀ s, Pv s → ∃ s', loopF bd kl xs s = .ok .next s' ∧ Pv s'
  | [], _, hw, s, p => ⟨wipe kl s, rfl, hw s p⟩
  | x :: xs, h, hw, s, p => by
    obtain ⟨s1, e1, p1⟩ := h x (by simp) s p
    obtain ⟨s2, e2, p2⟩ := loopF_inv xs (fun y hy => h y (List.mem_cons_of_mem _ hy)) hw _ p1
    exact ⟨s2, (loopF_next e1).trans e2, p2⟩
def stL (sc : D) (x3 x4 x5 x6 x7 x8 : Option LV) (c : Cell) : S := ⟨[some (.d sc), some (.d (.ref 0)), some (.d LP), x3, x4, x5, x6, x7, x8, none], [c]⟩
def b1 : St := .asg (.v 4) (.bin .add (.int 1) (.call .plain 10 (.cons (.v 1) (.cons (.int 8) .nil))))
def b2 : St := .asg (.v 5) (.call .plain 14 (.cons (.v 4) .nil))
def b3 : St := .asg (.v 6) (.bi .min1 (.cons (.lc (.bi .len (.cons (.v 9) .nil)) (.v 9) (.val (.v 5)) .nil [9]) .nil))
def bL : Ex := .lc (.v 9) (.v 9) (.val (.v 5)) (.cons (.cmp .eq (.bi .len (.cons (.v 9) .nil)) (.v 6)) .nil) [9]
def bA : Ex := .idx (.v 2) (.bin .sub (.v 4) (.int 1))
def bB : Ex := .idx (.bi .sorted (.cons bL .nil)) (.int 0)
def b4 : St := .ife (.cmp .ne bA bB) (.cons (.ret (.bl false)) .nil) .nil
def b5 : St := .asg (.v 7) (.call .plain 12 (.cons (.v 1) (.cons (.bl false) .nil)))
def b6c : Ex := .cmp .lt (.tup (.cons (.bi .len (.cons (.idx (.v 7) (.v 8)) .nil)) (.cons (.idx (.v 7) (.v 8)) .nil))) (.tup (.cons (.bi .len (.cons (.idx (.v 2) (.v 8)) .nil)) (.cons (.idx (.v 2) (.v 8)) .nil)))
def b6i : Sts := .cons (.ife b6c (.cons (.ret (.bl false)) .nil) .nil) .nil
def b6 : St := .for (.v 8) (.rng1 (.int 8)) b6i [8]
def bT : Sts := .cons b1 (.cons b2 (.cons b3 (.cons b4 (.cons b5 (.cons b6 .nil)))))
def s1 : St := .asg (.v 1) (.call .plain 9 (.cons (.v 0) .nil))
def s2 : St := .asg (.v 2) (.call .plain 8 .nil)
def s3c : Ex := .or (.cons (.not (.call .plain 11 (.cons (.call .plain 4 (.cons (.v 2) .nil)) (.cons (.bl true) .nil)))) (.cons (.cmp .ne (.call .plain 7 (.cons (.v 2) .nil)) (.lst .nil)) (.cons (.cmp .ne (.call .plain 13 (.cons (.v 2) .nil)) (.lst .nil)) .nil)))
def s3 : St := .ife s3c (.cons (.ret (.bl false)) .nil) .nil
def s4 : St := .for (.v 3) (.rng1 (.int 2)) bT [3, 4, 5, 6, 7, 8]
def s5 : St := .ret (.cmp .eq (.call .plain 8 .nil) (.v 2))
theorem c15_eq : c15 = .cons s1 (.cons s2 (.cons s3 (.cons s4 (.cons s5 .nil)))) := rfl
theorem ife_f {q : Ex} {a : Sts} {s : S} (h : evX G F8 q s = .ok (.d (.bl false)) s) : evS G F8 (.ife q a .nil) s = .ok .next s := by
  show M.bind (evX G F8 q) (fun x => M.bind (toB x) fun k => if k then evSs G F8 a else evSs G F8 .nil) s = _
  simp only [M.bind, h]
  rfl
theorem sorted_eval {e : Ex} {s s' : S} {xs ys : List D} (h1 : evX G F8 e s = .ok (.d (.lst xs)) s') (hc : (D.fins dep xs && allAlk xs && srtOk xs && decide (xs.length ≤ line)) = true) (h2 : sortD xs = ys) : evX G F8 (.bi .sorted (.cons e .nil)) s = .ok (.d (.lst ys)) s' := by
  have hb : biF .sorted [.lst xs] = some (.lst ys) := by
    show (if _ then _ else _) = _
    rw [if_pos hc, h2]
  have e1 : evX G F8 (.bi .sorted (.cons e .nil)) s = biM .sorted [.d (.lst xs)] s' := by
    show M.bind (M.bind (evX G F8 e) fun x => M.bind (M.pure []) fun r => M.pure (x :: r)) (fun xs => biM .sorted xs) s = _
    simp only [M.bind, h1, M.pure]
  rw [e1]
  show (match biF .sorted [.lst xs] with | some z => Res.ok (PV.d z) s' | none => .stk) = _
  rw [hb]
theorem idx_eval {a : Ex} {i : Int} {s s' : S} {x z : D} (h1 : evX G F8 a s = .ok (.d x) s') (h0 : PV.val s' (.d x) = some x) (h2 : idxF x (.int i) = some z) : evX G F8 (.idx a (.int i)) s = .ok (.d z) s' := by
  show M.bind (evX G F8 a) (fun a => M.bind (M.pure (PV.d (.int i))) fun b => fun s => _) s = _
  simp only [M.bind, h1, M.pure]
  show (match PV.val s' (.d x), some (D.int i) with | some x, some y => (match idxF x y with | some z => Res.ok (PV.d z) s' | none => .stk) | _, _ => .stk) = _
  rw [h0]
  simp only [h2]
theorem ne_eval {a b : Ex} {s : S} {x : D} (h1 : evX G F8 a s = .ok (.d x) s) (h2 : evX G F8 b s = .ok (.d x) s) (h0 : PV.val s (.d x) = some x) (hx : eqF x x = some true) : evX G F8 (.cmp .ne a b) s = .ok (.d (.bl false)) s := by
  show M.bind (evX G F8 a) (fun a => M.bind (evX G F8 b) fun b => fun s => _) s = _
  simp only [M.bind, h1, h2]
  show (match PV.val s (.d x), PV.val s (.d x) with | some x, some y => (match ((eqF x y).map (!·)).map D.bl with | some z => Res.ok (PV.d z) s | none => .stk) | _, _ => .stk) = _
  rw [h0]
  simp only [hx]
  rfl
def rows1 : D := match run G P 8 14 [.int 1] [] with | .ok x _ => x | _ => .non
theorem srt1 : sortD [.tup [.int 0]] = [.tup [.int 0]] := by
  simp [sortD, List.mergeSort, List.MergeSort.Internal.splitInTwo, List.merge, ltB, ltBs, eqB]
theorem t1 {sc : D} {x3 x5 x6 x7 x8 : Option LV} {c : Cell} {ss : Sts} : ∃ y5 y6, evSs G F8 (.cons b2 (.cons b3 (.cons b4 ss))) (stL sc x3 (some (.d (.int 1))) x5 x6 x7 x8 c) = evSs G F8 ss (stL sc x3 (some (.d (.int 1))) y5 y6 x7 x8 c) := by
  have e2 : evS G F8 b2 (stL sc x3 (some (.d (.int 1))) x5 x6 x7 x8 c) = .ok .next (stL sc x3 (some (.d (.int 1))) (some (.d rows1)) x6 x7 x8 c) := by kernel_rfl
  have e3 : evS G F8 b3 (stL sc x3 (some (.d (.int 1))) (some (.d rows1)) x6 x7 x8 c) = .ok .next (stL sc x3 (some (.d (.int 1))) (some (.d rows1)) (some (.d (.int 1))) x7 x8 c) := by kernel_rfl
  have eL : evX G F8 bL (stL sc x3 (some (.d (.int 1))) (some (.d rows1)) (some (.d (.int 1))) x7 x8 c) = .ok (.d (.lst [.tup [.int 0]])) (stL sc x3 (some (.d (.int 1))) (some (.d rows1)) (some (.d (.int 1))) x7 x8 c) := by kernel_rfl
  have eA : evX G F8 bA (stL sc x3 (some (.d (.int 1))) (some (.d rows1)) (some (.d (.int 1))) x7 x8 c) = .ok (.d (.tup [.int 0])) (stL sc x3 (some (.d (.int 1))) (some (.d rows1)) (some (.d (.int 1))) x7 x8 c) := by kernel_rfl
  have eB : evX G F8 bB (stL sc x3 (some (.d (.int 1))) (some (.d rows1)) (some (.d (.int 1))) x7 x8 c) = .ok (.d (.tup [.int 0])) (stL sc x3 (some (.d (.int 1))) (some (.d rows1)) (some (.d (.int 1))) x7 x8 c) := idx_eval (sorted_eval eL (by kernel_rfl) srt1) rfl (by kernel_rfl)
  have e4 : evS G F8 b4 (stL sc x3 (some (.d (.int 1))) (some (.d rows1)) (some (.d (.int 1))) x7 x8 c) = .ok .next (stL sc x3 (some (.d (.int 1))) (some (.d rows1)) (some (.d (.int 1))) x7 x8 c) := ife_f (ne_eval eA eB rfl (by kernel_rfl))
  exact ⟨_, _, by rw [sts_next e2, sts_next e3, sts_next e4]⟩
def rows2 : D := match run G P 8 14 [.int 2] [] with | .ok x _ => x | _ => .non
theorem srt2 : sortD [.tup [.int 1]] = [.tup [.int 1]] := by
  simp [sortD, List.mergeSort, List.MergeSort.Internal.splitInTwo, List.merge, ltB, ltBs, eqB]
theorem t2 {sc : D} {x3 x5 x6 x7 x8 : Option LV} {c : Cell} {ss : Sts} : ∃ y5 y6, evSs G F8 (.cons b2 (.cons b3 (.cons b4 ss))) (stL sc x3 (some (.d (.int 2))) x5 x6 x7 x8 c) = evSs G F8 ss (stL sc x3 (some (.d (.int 2))) y5 y6 x7 x8 c) := by
  have e2 : evS G F8 b2 (stL sc x3 (some (.d (.int 2))) x5 x6 x7 x8 c) = .ok .next (stL sc x3 (some (.d (.int 2))) (some (.d rows2)) x6 x7 x8 c) := by kernel_rfl
  have e3 : evS G F8 b3 (stL sc x3 (some (.d (.int 2))) (some (.d rows2)) x6 x7 x8 c) = .ok .next (stL sc x3 (some (.d (.int 2))) (some (.d rows2)) (some (.d (.int 1))) x7 x8 c) := by kernel_rfl
  have eL : evX G F8 bL (stL sc x3 (some (.d (.int 2))) (some (.d rows2)) (some (.d (.int 1))) x7 x8 c) = .ok (.d (.lst [.tup [.int 1]])) (stL sc x3 (some (.d (.int 2))) (some (.d rows2)) (some (.d (.int 1))) x7 x8 c) := by kernel_rfl
  have eA : evX G F8 bA (stL sc x3 (some (.d (.int 2))) (some (.d rows2)) (some (.d (.int 1))) x7 x8 c) = .ok (.d (.tup [.int 1])) (stL sc x3 (some (.d (.int 2))) (some (.d rows2)) (some (.d (.int 1))) x7 x8 c) := by kernel_rfl
  have eB : evX G F8 bB (stL sc x3 (some (.d (.int 2))) (some (.d rows2)) (some (.d (.int 1))) x7 x8 c) = .ok (.d (.tup [.int 1])) (stL sc x3 (some (.d (.int 2))) (some (.d rows2)) (some (.d (.int 1))) x7 x8 c) := idx_eval (sorted_eval eL (by kernel_rfl) srt2) rfl (by kernel_rfl)
  have e4 : evS G F8 b4 (stL sc x3 (some (.d (.int 2))) (some (.d rows2)) (some (.d (.int 1))) x7 x8 c) = .ok .next (stL sc x3 (some (.d (.int 2))) (some (.d rows2)) (some (.d (.int 1))) x7 x8 c) := ife_f (ne_eval eA eB rfl (by kernel_rfl))
  exact ⟨_, _, by rw [sts_next e2, sts_next e3, sts_next e4]⟩
def rows3 : D := match run G P 8 14 [.int 3] [] with | .ok x _ => x | _ => .non
theorem srt3 : sortD [.tup [.int 1, .int 2], .tup [.int 0, .int 2]] = [.tup [.int 0, .int 2], .tup [.int 1, .int 2]] := by
  simp [sortD, List.mergeSort, List.MergeSort.Internal.splitInTwo, List.merge, ltB, ltBs, eqB]
theorem t3 {sc : D} {x3 x5 x6 x7 x8 : Option LV} {c : Cell} {ss : Sts} : ∃ y5 y6, evSs G F8 (.cons b2 (.cons b3 (.cons b4 ss))) (stL sc x3 (some (.d (.int 3))) x5 x6 x7 x8 c) = evSs G F8 ss (stL sc x3 (some (.d (.int 3))) y5 y6 x7 x8 c) := by
  have e2 : evS G F8 b2 (stL sc x3 (some (.d (.int 3))) x5 x6 x7 x8 c) = .ok .next (stL sc x3 (some (.d (.int 3))) (some (.d rows3)) x6 x7 x8 c) := by kernel_rfl
  have e3 : evS G F8 b3 (stL sc x3 (some (.d (.int 3))) (some (.d rows3)) x6 x7 x8 c) = .ok .next (stL sc x3 (some (.d (.int 3))) (some (.d rows3)) (some (.d (.int 2))) x7 x8 c) := by kernel_rfl
  have eL : evX G F8 bL (stL sc x3 (some (.d (.int 3))) (some (.d rows3)) (some (.d (.int 2))) x7 x8 c) = .ok (.d (.lst [.tup [.int 1, .int 2], .tup [.int 0, .int 2]])) (stL sc x3 (some (.d (.int 3))) (some (.d rows3)) (some (.d (.int 2))) x7 x8 c) := by kernel_rfl
  have eA : evX G F8 bA (stL sc x3 (some (.d (.int 3))) (some (.d rows3)) (some (.d (.int 2))) x7 x8 c) = .ok (.d (.tup [.int 0, .int 2])) (stL sc x3 (some (.d (.int 3))) (some (.d rows3)) (some (.d (.int 2))) x7 x8 c) := by kernel_rfl
  have eB : evX G F8 bB (stL sc x3 (some (.d (.int 3))) (some (.d rows3)) (some (.d (.int 2))) x7 x8 c) = .ok (.d (.tup [.int 0, .int 2])) (stL sc x3 (some (.d (.int 3))) (some (.d rows3)) (some (.d (.int 2))) x7 x8 c) := idx_eval (sorted_eval eL (by kernel_rfl) srt3) rfl (by kernel_rfl)
  have e4 : evS G F8 b4 (stL sc x3 (some (.d (.int 3))) (some (.d rows3)) (some (.d (.int 2))) x7 x8 c) = .ok .next (stL sc x3 (some (.d (.int 3))) (some (.d rows3)) (some (.d (.int 2))) x7 x8 c) := ife_f (ne_eval eA eB rfl (by kernel_rfl))
  exact ⟨_, _, by rw [sts_next e2, sts_next e3, sts_next e4]⟩
def rows4 : D := match run G P 8 14 [.int 4] [] with | .ok x _ => x | _ => .non
theorem srt4 : sortD [.tup [.int 1, .int 3]] = [.tup [.int 1, .int 3]] := by
  simp [sortD, List.mergeSort, List.MergeSort.Internal.splitInTwo, List.merge, ltB, ltBs, eqB]
theorem t4 {sc : D} {x3 x5 x6 x7 x8 : Option LV} {c : Cell} {ss : Sts} : ∃ y5 y6, evSs G F8 (.cons b2 (.cons b3 (.cons b4 ss))) (stL sc x3 (some (.d (.int 4))) x5 x6 x7 x8 c) = evSs G F8 ss (stL sc x3 (some (.d (.int 4))) y5 y6 x7 x8 c) := by
  have e2 : evS G F8 b2 (stL sc x3 (some (.d (.int 4))) x5 x6 x7 x8 c) = .ok .next (stL sc x3 (some (.d (.int 4))) (some (.d rows4)) x6 x7 x8 c) := by kernel_rfl
  have e3 : evS G F8 b3 (stL sc x3 (some (.d (.int 4))) (some (.d rows4)) x6 x7 x8 c) = .ok .next (stL sc x3 (some (.d (.int 4))) (some (.d rows4)) (some (.d (.int 2))) x7 x8 c) := by kernel_rfl
  have eL : evX G F8 bL (stL sc x3 (some (.d (.int 4))) (some (.d rows4)) (some (.d (.int 2))) x7 x8 c) = .ok (.d (.lst [.tup [.int 1, .int 3]])) (stL sc x3 (some (.d (.int 4))) (some (.d rows4)) (some (.d (.int 2))) x7 x8 c) := by kernel_rfl
  have eA : evX G F8 bA (stL sc x3 (some (.d (.int 4))) (some (.d rows4)) (some (.d (.int 2))) x7 x8 c) = .ok (.d (.tup [.int 1, .int 3])) (stL sc x3 (some (.d (.int 4))) (some (.d rows4)) (some (.d (.int 2))) x7 x8 c) := by kernel_rfl
  have eB : evX G F8 bB (stL sc x3 (some (.d (.int 4))) (some (.d rows4)) (some (.d (.int 2))) x7 x8 c) = .ok (.d (.tup [.int 1, .int 3])) (stL sc x3 (some (.d (.int 4))) (some (.d rows4)) (some (.d (.int 2))) x7 x8 c) := idx_eval (sorted_eval eL (by kernel_rfl) srt4) rfl (by kernel_rfl)
  have e4 : evS G F8 b4 (stL sc x3 (some (.d (.int 4))) (some (.d rows4)) (some (.d (.int 2))) x7 x8 c) = .ok .next (stL sc x3 (some (.d (.int 4))) (some (.d rows4)) (some (.d (.int 2))) x7 x8 c) := ife_f (ne_eval eA eB rfl (by kernel_rfl))
  exact ⟨_, _, by rw [sts_next e2, sts_next e3, sts_next e4]⟩
def rows5 : D := match run G P 8 14 [.int 5] [] with | .ok x _ => x | _ => .non
theorem srt5 : sortD [.tup [.int 1, .int 3, .int 4], .tup [.int 1, .int 2, .int 4], .tup [.int 0, .int 2, .int 4]] = [.tup [.int 0, .int 2, .int 4], .tup [.int 1, .int 2, .int 4], .tup [.int 1, .int 3, .int 4]] := by
  simp [sortD, List.mergeSort, List.MergeSort.Internal.splitInTwo, List.merge, ltB, ltBs, eqB]
theorem t5 {sc : D} {x3 x5 x6 x7 x8 : Option LV} {c : Cell} {ss : Sts} : ∃ y5 y6, evSs G F8 (.cons b2 (.cons b3 (.cons b4 ss))) (stL sc x3 (some (.d (.int 5))) x5 x6 x7 x8 c) = evSs G F8 ss (stL sc x3 (some (.d (.int 5))) y5 y6 x7 x8 c) := by
  have e2 : evS G F8 b2 (stL sc x3 (some (.d (.int 5))) x5 x6 x7 x8 c) = .ok .next (stL sc x3 (some (.d (.int 5))) (some (.d rows5)) x6 x7 x8 c) := by kernel_rfl
  have e3 : evS G F8 b3 (stL sc x3 (some (.d (.int 5))) (some (.d rows5)) x6 x7 x8 c) = .ok .next (stL sc x3 (some (.d (.int 5))) (some (.d rows5)) (some (.d (.int 3))) x7 x8 c) := by kernel_rfl
  have eL : evX G F8 bL (stL sc x3 (some (.d (.int 5))) (some (.d rows5)) (some (.d (.int 3))) x7 x8 c) = .ok (.d (.lst [.tup [.int 1, .int 3, .int 4], .tup [.int 1, .int 2, .int 4], .tup [.int 0, .int 2, .int 4]])) (stL sc x3 (some (.d (.int 5))) (some (.d rows5)) (some (.d (.int 3))) x7 x8 c) := by kernel_rfl
  have eA : evX G F8 bA (stL sc x3 (some (.d (.int 5))) (some (.d rows5)) (some (.d (.int 3))) x7 x8 c) = .ok (.d (.tup [.int 0, .int 2, .int 4])) (stL sc x3 (some (.d (.int 5))) (some (.d rows5)) (some (.d (.int 3))) x7 x8 c) := by kernel_rfl
  have eB : evX G F8 bB (stL sc x3 (some (.d (.int 5))) (some (.d rows5)) (some (.d (.int 3))) x7 x8 c) = .ok (.d (.tup [.int 0, .int 2, .int 4])) (stL sc x3 (some (.d (.int 5))) (some (.d rows5)) (some (.d (.int 3))) x7 x8 c) := idx_eval (sorted_eval eL (by kernel_rfl) srt5) rfl (by kernel_rfl)
  have e4 : evS G F8 b4 (stL sc x3 (some (.d (.int 5))) (some (.d rows5)) (some (.d (.int 3))) x7 x8 c) = .ok .next (stL sc x3 (some (.d (.int 5))) (some (.d rows5)) (some (.d (.int 3))) x7 x8 c) := ife_f (ne_eval eA eB rfl (by kernel_rfl))
  exact ⟨_, _, by rw [sts_next e2, sts_next e3, sts_next e4]⟩
def rows6 : D := match run G P 8 14 [.int 6] [] with | .ok x _ => x | _ => .non
theorem srt6 : sortD [.tup [.int 1, .int 3, .int 5]] = [.tup [.int 1, .int 3, .int 5]] := by
  simp [sortD, List.mergeSort, List.MergeSort.Internal.splitInTwo, List.merge, ltB, ltBs, eqB]
theorem t6 {sc : D} {x3 x5 x6 x7 x8 : Option LV} {c : Cell} {ss : Sts} : ∃ y5 y6, evSs G F8 (.cons b2 (.cons b3 (.cons b4 ss))) (stL sc x3 (some (.d (.int 6))) x5 x6 x7 x8 c) = evSs G F8 ss (stL sc x3 (some (.d (.int 6))) y5 y6 x7 x8 c) := by
  have e2 : evS G F8 b2 (stL sc x3 (some (.d (.int 6))) x5 x6 x7 x8 c) = .ok .next (stL sc x3 (some (.d (.int 6))) (some (.d rows6)) x6 x7 x8 c) := by kernel_rfl
  have e3 : evS G F8 b3 (stL sc x3 (some (.d (.int 6))) (some (.d rows6)) x6 x7 x8 c) = .ok .next (stL sc x3 (some (.d (.int 6))) (some (.d rows6)) (some (.d (.int 3))) x7 x8 c) := by kernel_rfl
  have eL : evX G F8 bL (stL sc x3 (some (.d (.int 6))) (some (.d rows6)) (some (.d (.int 3))) x7 x8 c) = .ok (.d (.lst [.tup [.int 1, .int 3, .int 5]])) (stL sc x3 (some (.d (.int 6))) (some (.d rows6)) (some (.d (.int 3))) x7 x8 c) := by kernel_rfl
  have eA : evX G F8 bA (stL sc x3 (some (.d (.int 6))) (some (.d rows6)) (some (.d (.int 3))) x7 x8 c) = .ok (.d (.tup [.int 1, .int 3, .int 5])) (stL sc x3 (some (.d (.int 6))) (some (.d rows6)) (some (.d (.int 3))) x7 x8 c) := by kernel_rfl
  have eB : evX G F8 bB (stL sc x3 (some (.d (.int 6))) (some (.d rows6)) (some (.d (.int 3))) x7 x8 c) = .ok (.d (.tup [.int 1, .int 3, .int 5])) (stL sc x3 (some (.d (.int 6))) (some (.d rows6)) (some (.d (.int 3))) x7 x8 c) := idx_eval (sorted_eval eL (by kernel_rfl) srt6) rfl (by kernel_rfl)
  have e4 : evS G F8 b4 (stL sc x3 (some (.d (.int 6))) (some (.d rows6)) (some (.d (.int 3))) x7 x8 c) = .ok .next (stL sc x3 (some (.d (.int 6))) (some (.d rows6)) (some (.d (.int 3))) x7 x8 c) := ife_f (ne_eval eA eB rfl (by kernel_rfl))
  exact ⟨_, _, by rw [sts_next e2, sts_next e3, sts_next e4]⟩
def rows7 : D := match run G P 8 14 [.int 7] [] with | .ok x _ => x | _ => .non
theorem srt7 : sortD [.tup [.int 1, .int 3, .int 5, .int 6], .tup [.int 1, .int 3, .int 4, .int 6], .tup [.int 1, .int 2, .int 4, .int 6], .tup [.int 0, .int 2, .int 4, .int 6]] = [.tup [.int 0, .int 2, .int 4, .int 6], .tup [.int 1, .int 2, .int 4, .int 6], .tup [.int 1, .int 3, .int 4, .int 6], .tup [.int 1, .int 3, .int 5, .int 6]] := by
  simp [sortD, List.mergeSort, List.MergeSort.Internal.splitInTwo, List.merge, ltB, ltBs, eqB]
theorem t7 {sc : D} {x3 x5 x6 x7 x8 : Option LV} {c : Cell} {ss : Sts} : ∃ y5 y6, evSs G F8 (.cons b2 (.cons b3 (.cons b4 ss))) (stL sc x3 (some (.d (.int 7))) x5 x6 x7 x8 c) = evSs G F8 ss (stL sc x3 (some (.d (.int 7))) y5 y6 x7 x8 c) := by
  have e2 : evS G F8 b2 (stL sc x3 (some (.d (.int 7))) x5 x6 x7 x8 c) = .ok .next (stL sc x3 (some (.d (.int 7))) (some (.d rows7)) x6 x7 x8 c) := by kernel_rfl
  have e3 : evS G F8 b3 (stL sc x3 (some (.d (.int 7))) (some (.d rows7)) x6 x7 x8 c) = .ok .next (stL sc x3 (some (.d (.int 7))) (some (.d rows7)) (some (.d (.int 4))) x7 x8 c) := by kernel_rfl
  have eL : evX G F8 bL (stL sc x3 (some (.d (.int 7))) (some (.d rows7)) (some (.d (.int 4))) x7 x8 c) = .ok (.d (.lst [.tup [.int 1, .int 3, .int 5, .int 6], .tup [.int 1, .int 3, .int 4, .int 6], .tup [.int 1, .int 2, .int 4, .int 6], .tup [.int 0, .int 2, .int 4, .int 6]])) (stL sc x3 (some (.d (.int 7))) (some (.d rows7)) (some (.d (.int 4))) x7 x8 c) := by kernel_rfl
  have eA : evX G F8 bA (stL sc x3 (some (.d (.int 7))) (some (.d rows7)) (some (.d (.int 4))) x7 x8 c) = .ok (.d (.tup [.int 0, .int 2, .int 4, .int 6])) (stL sc x3 (some (.d (.int 7))) (some (.d rows7)) (some (.d (.int 4))) x7 x8 c) := by kernel_rfl
  have eB : evX G F8 bB (stL sc x3 (some (.d (.int 7))) (some (.d rows7)) (some (.d (.int 4))) x7 x8 c) = .ok (.d (.tup [.int 0, .int 2, .int 4, .int 6])) (stL sc x3 (some (.d (.int 7))) (some (.d rows7)) (some (.d (.int 4))) x7 x8 c) := idx_eval (sorted_eval eL (by kernel_rfl) srt7) rfl (by kernel_rfl)
  have e4 : evS G F8 b4 (stL sc x3 (some (.d (.int 7))) (some (.d rows7)) (some (.d (.int 4))) x7 x8 c) = .ok .next (stL sc x3 (some (.d (.int 7))) (some (.d rows7)) (some (.d (.int 4))) x7 x8 c) := ife_f (ne_eval eA eB rfl (by kernel_rfl))
  exact ⟨_, _, by rw [sts_next e2, sts_next e3, sts_next e4]⟩
def rows8 : D := match run G P 8 14 [.int 8] [] with | .ok x _ => x | _ => .non
theorem srt8 : sortD [.tup [.int 1, .int 3, .int 5, .int 7]] = [.tup [.int 1, .int 3, .int 5, .int 7]] := by
  simp [sortD, List.mergeSort, List.MergeSort.Internal.splitInTwo, List.merge, ltB, ltBs, eqB]
theorem t8 {sc : D} {x3 x5 x6 x7 x8 : Option LV} {c : Cell} {ss : Sts} : ∃ y5 y6, evSs G F8 (.cons b2 (.cons b3 (.cons b4 ss))) (stL sc x3 (some (.d (.int 8))) x5 x6 x7 x8 c) = evSs G F8 ss (stL sc x3 (some (.d (.int 8))) y5 y6 x7 x8 c) := by
  have e2 : evS G F8 b2 (stL sc x3 (some (.d (.int 8))) x5 x6 x7 x8 c) = .ok .next (stL sc x3 (some (.d (.int 8))) (some (.d rows8)) x6 x7 x8 c) := by kernel_rfl
  have e3 : evS G F8 b3 (stL sc x3 (some (.d (.int 8))) (some (.d rows8)) x6 x7 x8 c) = .ok .next (stL sc x3 (some (.d (.int 8))) (some (.d rows8)) (some (.d (.int 4))) x7 x8 c) := by kernel_rfl
  have eL : evX G F8 bL (stL sc x3 (some (.d (.int 8))) (some (.d rows8)) (some (.d (.int 4))) x7 x8 c) = .ok (.d (.lst [.tup [.int 1, .int 3, .int 5, .int 7]])) (stL sc x3 (some (.d (.int 8))) (some (.d rows8)) (some (.d (.int 4))) x7 x8 c) := by kernel_rfl
  have eA : evX G F8 bA (stL sc x3 (some (.d (.int 8))) (some (.d rows8)) (some (.d (.int 4))) x7 x8 c) = .ok (.d (.tup [.int 1, .int 3, .int 5, .int 7])) (stL sc x3 (some (.d (.int 8))) (some (.d rows8)) (some (.d (.int 4))) x7 x8 c) := by kernel_rfl
  have eB : evX G F8 bB (stL sc x3 (some (.d (.int 8))) (some (.d rows8)) (some (.d (.int 4))) x7 x8 c) = .ok (.d (.tup [.int 1, .int 3, .int 5, .int 7])) (stL sc x3 (some (.d (.int 8))) (some (.d rows8)) (some (.d (.int 4))) x7 x8 c) := idx_eval (sorted_eval eL (by kernel_rfl) srt8) rfl (by kernel_rfl)
  have e4 : evS G F8 b4 (stL sc x3 (some (.d (.int 8))) (some (.d rows8)) (some (.d (.int 4))) x7 x8 c) = .ok .next (stL sc x3 (some (.d (.int 8))) (some (.d rows8)) (some (.d (.int 4))) x7 x8 c) := ife_f (ne_eval eA eB rfl (by kernel_rfl))
  exact ⟨_, _, by rw [sts_next e2, sts_next e3, sts_next e4]⟩
theorem g0 {L : List Int} (h : L ∈ reach 1 1) : ltF (.tup [.int (L.map D.int).length, tupD L]) (.tup [.int 1, .tup [.int 0]]) = some false := by
  have a : (reach 1 1).all (fun L => decide (ltF (.tup [.int (L.map D.int).length, tupD L]) (.tup [.int 1, .tup [.int 0]]) = some false)) = true := by kernel_rfl
  exact of_decide_eq_true (List.all_eq_true.mp a L h)
theorem g1 {L : List Int} (h : L ∈ reach 2 2) : ltF (.tup [.int (L.map D.int).length, tupD L]) (.tup [.int 1, .tup [.int 1]]) = some false := by
  have a : (reach 2 2).all (fun L => decide (ltF (.tup [.int (L.map D.int).length, tupD L]) (.tup [.int 1, .tup [.int 1]]) = some false)) = true := by kernel_rfl
  exact of_decide_eq_true (List.all_eq_true.mp a L h)
theorem g2 {L : List Int} (h : L ∈ reach 3 3) : ltF (.tup [.int (L.map D.int).length, tupD L]) (.tup [.int 2, .tup [.int 0, .int 2]]) = some false := by
  have a : (reach 3 3).all (fun L => decide (ltF (.tup [.int (L.map D.int).length, tupD L]) (.tup [.int 2, .tup [.int 0, .int 2]]) = some false)) = true := by kernel_rfl
  exact of_decide_eq_true (List.all_eq_true.mp a L h)
theorem g3 {L : List Int} (h : L ∈ reach 4 4) : ltF (.tup [.int (L.map D.int).length, tupD L]) (.tup [.int 2, .tup [.int 1, .int 3]]) = some false := by
  have a : (reach 4 4).all (fun L => decide (ltF (.tup [.int (L.map D.int).length, tupD L]) (.tup [.int 2, .tup [.int 1, .int 3]]) = some false)) = true := by kernel_rfl
  exact of_decide_eq_true (List.all_eq_true.mp a L h)
theorem g4 {L : List Int} (h : L ∈ reach 5 5) : ltF (.tup [.int (L.map D.int).length, tupD L]) (.tup [.int 3, .tup [.int 0, .int 2, .int 4]]) = some false := by
  have a : (reach 5 5).all (fun L => decide (ltF (.tup [.int (L.map D.int).length, tupD L]) (.tup [.int 3, .tup [.int 0, .int 2, .int 4]]) = some false)) = true := by kernel_rfl
  exact of_decide_eq_true (List.all_eq_true.mp a L h)
theorem g5 {L : List Int} (h : L ∈ reach 6 6) : ltF (.tup [.int (L.map D.int).length, tupD L]) (.tup [.int 3, .tup [.int 1, .int 3, .int 5]]) = some false := by
  have a : (reach 6 6).all (fun L => decide (ltF (.tup [.int (L.map D.int).length, tupD L]) (.tup [.int 3, .tup [.int 1, .int 3, .int 5]]) = some false)) = true := by kernel_rfl
  exact of_decide_eq_true (List.all_eq_true.mp a L h)
theorem g6 {L : List Int} (h : L ∈ reach 7 7) : ltF (.tup [.int (L.map D.int).length, tupD L]) (.tup [.int 4, .tup [.int 0, .int 2, .int 4, .int 6]]) = some false := by
  have a : (reach 7 7).all (fun L => decide (ltF (.tup [.int (L.map D.int).length, tupD L]) (.tup [.int 4, .tup [.int 0, .int 2, .int 4, .int 6]]) = some false)) = true := by kernel_rfl
  exact of_decide_eq_true (List.all_eq_true.mp a L h)
theorem g7 {L : List Int} (h : L ∈ reach 8 8) : ltF (.tup [.int (L.map D.int).length, tupD L]) (.tup [.int 4, .tup [.int 1, .int 3, .int 5, .int 7]]) = some false := by
  have a : (reach 8 8).all (fun L => decide (ltF (.tup [.int (L.map D.int).length, tupD L]) (.tup [.int 4, .tup [.int 1, .int 3, .int 5, .int 7]]) = some false)) = true := by kernel_rfl
  exact of_decide_eq_true (List.all_eq_true.mp a L h)
theorem u0 {sc : D} {x3 x4 x5 x6 : Option LV} {c : Cell} {L0 L1 L2 L3 L4 L5 L6 L7 : List Int} (h : L0 ∈ reach 1 1) : evX G F8 b6c (stL sc x3 x4 x5 x6 (some (.d (.tup [tupD L0, tupD L1, tupD L2, tupD L3, tupD L4, tupD L5, tupD L6, tupD L7]))) (some (.d (.int 0))) c) = .ok (.d (.bl false)) (stL sc x3 x4 x5 x6 (some (.d (.tup [tupD L0, tupD L1, tupD L2, tupD L3, tupD L4, tupD L5, tupD L6, tupD L7]))) (some (.d (.int 0))) c) := by
  have e : evX G F8 b6c (stL sc x3 x4 x5 x6 (some (.d (.tup [tupD L0, tupD L1, tupD L2, tupD L3, tupD L4, tupD L5, tupD L6, tupD L7]))) (some (.d (.int 0))) c) = (match (ltF (.tup [.int (L0.map D.int).length, tupD L0]) (.tup [.int 1, .tup [.int 0]])).map D.bl with | some z => .ok (.d z) (stL sc x3 x4 x5 x6 (some (.d (.tup [tupD L0, tupD L1, tupD L2, tupD L3, tupD L4, tupD L5, tupD L6, tupD L7]))) (some (.d (.int 0))) c) | none => .stk) := by kernel_rfl
  rw [e, g0 h]
  rfl
theorem u1 {sc : D} {x3 x4 x5 x6 : Option LV} {c : Cell} {L0 L1 L2 L3 L4 L5 L6 L7 : List Int} (h : L1 ∈ reach 2 2) : evX G F8 b6c (stL sc x3 x4 x5 x6 (some (.d (.tup [tupD L0, tupD L1, tupD L2, tupD L3, tupD L4, tupD L5, tupD L6, tupD L7]))) (some (.d (.int 1))) c) = .ok (.d (.bl false)) (stL sc x3 x4 x5 x6 (some (.d (.tup [tupD L0, tupD L1, tupD L2, tupD L3, tupD L4, tupD L5, tupD L6, tupD L7]))) (some (.d (.int 1))) c) := by
  have e : evX G F8 b6c (stL sc x3 x4 x5 x6 (some (.d (.tup [tupD L0, tupD L1, tupD L2, tupD L3, tupD L4, tupD L5, tupD L6, tupD L7]))) (some (.d (.int 1))) c) = (match (ltF (.tup [.int (L1.map D.int).length, tupD L1]) (.tup [.int 1, .tup [.int 1]])).map D.bl with | some z => .ok (.d z) (stL sc x3 x4 x5 x6 (some (.d (.tup [tupD L0, tupD L1, tupD L2, tupD L3, tupD L4, tupD L5, tupD L6, tupD L7]))) (some (.d (.int 1))) c) | none => .stk) := by kernel_rfl
  rw [e, g1 h]
  rfl
theorem u2 {sc : D} {x3 x4 x5 x6 : Option LV} {c : Cell} {L0 L1 L2 L3 L4 L5 L6 L7 : List Int} (h : L2 ∈ reach 3 3) : evX G F8 b6c (stL sc x3 x4 x5 x6 (some (.d (.tup [tupD L0, tupD L1, tupD L2, tupD L3, tupD L4, tupD L5, tupD L6, tupD L7]))) (some (.d (.int 2))) c) = .ok (.d (.bl false)) (stL sc x3 x4 x5 x6 (some (.d (.tup [tupD L0, tupD L1, tupD L2, tupD L3, tupD L4, tupD L5, tupD L6, tupD L7]))) (some (.d (.int 2))) c) := by
  have e : evX G F8 b6c (stL sc x3 x4 x5 x6 (some (.d (.tup [tupD L0, tupD L1, tupD L2, tupD L3, tupD L4, tupD L5, tupD L6, tupD L7]))) (some (.d (.int 2))) c) = (match (ltF (.tup [.int (L2.map D.int).length, tupD L2]) (.tup [.int 2, .tup [.int 0, .int 2]])).map D.bl with | some z => .ok (.d z) (stL sc x3 x4 x5 x6 (some (.d (.tup [tupD L0, tupD L1, tupD L2, tupD L3, tupD L4, tupD L5, tupD L6, tupD L7]))) (some (.d (.int 2))) c) | none => .stk) := by kernel_rfl
  rw [e, g2 h]
  rfl
theorem u3 {sc : D} {x3 x4 x5 x6 : Option LV} {c : Cell} {L0 L1 L2 L3 L4 L5 L6 L7 : List Int} (h : L3 ∈ reach 4 4) : evX G F8 b6c (stL sc x3 x4 x5 x6 (some (.d (.tup [tupD L0, tupD L1, tupD L2, tupD L3, tupD L4, tupD L5, tupD L6, tupD L7]))) (some (.d (.int 3))) c) = .ok (.d (.bl false)) (stL sc x3 x4 x5 x6 (some (.d (.tup [tupD L0, tupD L1, tupD L2, tupD L3, tupD L4, tupD L5, tupD L6, tupD L7]))) (some (.d (.int 3))) c) := by
  have e : evX G F8 b6c (stL sc x3 x4 x5 x6 (some (.d (.tup [tupD L0, tupD L1, tupD L2, tupD L3, tupD L4, tupD L5, tupD L6, tupD L7]))) (some (.d (.int 3))) c) = (match (ltF (.tup [.int (L3.map D.int).length, tupD L3]) (.tup [.int 2, .tup [.int 1, .int 3]])).map D.bl with | some z => .ok (.d z) (stL sc x3 x4 x5 x6 (some (.d (.tup [tupD L0, tupD L1, tupD L2, tupD L3, tupD L4, tupD L5, tupD L6, tupD L7]))) (some (.d (.int 3))) c) | none => .stk) := by kernel_rfl
  rw [e, g3 h]
  rfl
theorem u4 {sc : D} {x3 x4 x5 x6 : Option LV} {c : Cell} {L0 L1 L2 L3 L4 L5 L6 L7 : List Int} (h : L4 ∈ reach 5 5) : evX G F8 b6c (stL sc x3 x4 x5 x6 (some (.d (.tup [tupD L0, tupD L1, tupD L2, tupD L3, tupD L4, tupD L5, tupD L6, tupD L7]))) (some (.d (.int 4))) c) = .ok (.d (.bl false)) (stL sc x3 x4 x5 x6 (some (.d (.tup [tupD L0, tupD L1, tupD L2, tupD L3, tupD L4, tupD L5, tupD L6, tupD L7]))) (some (.d (.int 4))) c) := by
  have e : evX G F8 b6c (stL sc x3 x4 x5 x6 (some (.d (.tup [tupD L0, tupD L1, tupD L2, tupD L3, tupD L4, tupD L5, tupD L6, tupD L7]))) (some (.d (.int 4))) c) = (match (ltF (.tup [.int (L4.map D.int).length, tupD L4]) (.tup [.int 3, .tup [.int 0, .int 2, .int 4]])).map D.bl with | some z => .ok (.d z) (stL sc x3 x4 x5 x6 (some (.d (.tup [tupD L0, tupD L1, tupD L2, tupD L3, tupD L4, tupD L5, tupD L6, tupD L7]))) (some (.d (.int 4))) c) | none => .stk) := by kernel_rfl
  rw [e, g4 h]
  rfl
theorem u5 {sc : D} {x3 x4 x5 x6 : Option LV} {c : Cell} {L0 L1 L2 L3 L4 L5 L6 L7 : List Int} (h : L5 ∈ reach 6 6) : evX G F8 b6c (stL sc x3 x4 x5 x6 (some (.d (.tup [tupD L0, tupD L1, tupD L2, tupD L3, tupD L4, tupD L5, tupD L6, tupD L7]))) (some (.d (.int 5))) c) = .ok (.d (.bl false)) (stL sc x3 x4 x5 x6 (some (.d (.tup [tupD L0, tupD L1, tupD L2, tupD L3, tupD L4, tupD L5, tupD L6, tupD L7]))) (some (.d (.int 5))) c) := by
  have e : evX G F8 b6c (stL sc x3 x4 x5 x6 (some (.d (.tup [tupD L0, tupD L1, tupD L2, tupD L3, tupD L4, tupD L5, tupD L6, tupD L7]))) (some (.d (.int 5))) c) = (match (ltF (.tup [.int (L5.map D.int).length, tupD L5]) (.tup [.int 3, .tup [.int 1, .int 3, .int 5]])).map D.bl with | some z => .ok (.d z) (stL sc x3 x4 x5 x6 (some (.d (.tup [tupD L0, tupD L1, tupD L2, tupD L3, tupD L4, tupD L5, tupD L6, tupD L7]))) (some (.d (.int 5))) c) | none => .stk) := by kernel_rfl
  rw [e, g5 h]
  rfl
theorem u6 {sc : D} {x3 x4 x5 x6 : Option LV} {c : Cell} {L0 L1 L2 L3 L4 L5 L6 L7 : List Int} (h : L6 ∈ reach 7 7) : evX G F8 b6c (stL sc x3 x4 x5 x6 (some (.d (.tup [tupD L0, tupD L1, tupD L2, tupD L3, tupD L4, tupD L5, tupD L6, tupD L7]))) (some (.d (.int 6))) c) = .ok (.d (.bl false)) (stL sc x3 x4 x5 x6 (some (.d (.tup [tupD L0, tupD L1, tupD L2, tupD L3, tupD L4, tupD L5, tupD L6, tupD L7]))) (some (.d (.int 6))) c) := by
  have e : evX G F8 b6c (stL sc x3 x4 x5 x6 (some (.d (.tup [tupD L0, tupD L1, tupD L2, tupD L3, tupD L4, tupD L5, tupD L6, tupD L7]))) (some (.d (.int 6))) c) = (match (ltF (.tup [.int (L6.map D.int).length, tupD L6]) (.tup [.int 4, .tup [.int 0, .int 2, .int 4, .int 6]])).map D.bl with | some z => .ok (.d z) (stL sc x3 x4 x5 x6 (some (.d (.tup [tupD L0, tupD L1, tupD L2, tupD L3, tupD L4, tupD L5, tupD L6, tupD L7]))) (some (.d (.int 6))) c) | none => .stk) := by kernel_rfl
  rw [e, g6 h]
  rfl
theorem u7 {sc : D} {x3 x4 x5 x6 : Option LV} {c : Cell} {L0 L1 L2 L3 L4 L5 L6 L7 : List Int} (h : L7 ∈ reach 8 8) : evX G F8 b6c (stL sc x3 x4 x5 x6 (some (.d (.tup [tupD L0, tupD L1, tupD L2, tupD L3, tupD L4, tupD L5, tupD L6, tupD L7]))) (some (.d (.int 7))) c) = .ok (.d (.bl false)) (stL sc x3 x4 x5 x6 (some (.d (.tup [tupD L0, tupD L1, tupD L2, tupD L3, tupD L4, tupD L5, tupD L6, tupD L7]))) (some (.d (.int 7))) c) := by
  have e : evX G F8 b6c (stL sc x3 x4 x5 x6 (some (.d (.tup [tupD L0, tupD L1, tupD L2, tupD L3, tupD L4, tupD L5, tupD L6, tupD L7]))) (some (.d (.int 7))) c) = (match (ltF (.tup [.int (L7.map D.int).length, tupD L7]) (.tup [.int 4, .tup [.int 1, .int 3, .int 5, .int 7]])).map D.bl with | some z => .ok (.d z) (stL sc x3 x4 x5 x6 (some (.d (.tup [tupD L0, tupD L1, tupD L2, tupD L3, tupD L4, tupD L5, tupD L6, tupD L7]))) (some (.d (.int 7))) c) | none => .stk) := by kernel_rfl
  rw [e, g7 h]
  rfl
theorem in6 {sc : D} {x3 x4 x5 x6 : Option LV} {c : Cell} {pl : List (List Int)} (hl : pl.length = 8) (hg : GoodPl pl) {x8 : Option LV} : ∃ y8, evS G F8 b6 (stL sc x3 x4 x5 x6 (some (.d (.tup (pl.map tupD)))) x8 c) = .ok .next (stL sc x3 x4 x5 x6 (some (.d (.tup (pl.map tupD)))) y8 c) := by
  match pl, hl, hg with
  | [L0, L1, L2, L3, L4, L5, L6, L7], _, hg =>
  have hi : evIt G F8 (.rng1 (.int 8)) (stL sc x3 x4 x5 x6 (some (.d (.tup ([L0, L1, L2, L3, L4, L5, L6, L7].map tupD)))) x8 c) = .ok [.int 0, .int 1, .int 2, .int 3, .int 4, .int 5, .int 6, .int 7] (stL sc x3 x4 x5 x6 (some (.d (.tup ([L0, L1, L2, L3, L4, L5, L6, L7].map tupD)))) x8 c) := by kernel_rfl
  have key := loopF_inv (bd := turnM (.v 8) (evSs G F8 b6i)) (kl := [8]) (Pv := fun s => ∃ y8, s = stL sc x3 x4 x5 x6 (some (.d (.tup ([L0, L1, L2, L3, L4, L5, L6, L7].map tupD)))) y8 c) [.int 0, .int 1, .int 2, .int 3, .int 4, .int 5, .int 6, .int 7] ?_ ?_ _ ⟨x8, rfl⟩
  · obtain ⟨s', e, y8, rfl⟩ := key
    exact ⟨y8, (for_eval rfl hi).trans e⟩
  · rintro x hx s ⟨y8, rfl⟩
    have go : ∀ i : Int, evX G F8 b6c (stL sc x3 x4 x5 x6 (some (.d (.tup ([L0, L1, L2, L3, L4, L5, L6, L7].map tupD)))) (some (.d (.int i))) c) = .ok (.d (.bl false)) (stL sc x3 x4 x5 x6 (some (.d (.tup ([L0, L1, L2, L3, L4, L5, L6, L7].map tupD)))) (some (.d (.int i))) c) →
        ∃ s', turnM (.v 8) (evSs G F8 b6i) (.int i) (stL sc x3 x4 x5 x6 (some (.d (.tup ([L0, L1, L2, L3, L4, L5, L6, L7].map tupD)))) y8 c) = .ok .next s' ∧ ∃ y8, wipe [8] s' = stL sc x3 x4 x5 x6 (some (.d (.tup ([L0, L1, L2, L3, L4, L5, L6, L7].map tupD)))) y8 c := fun i h => by
      refine ⟨_, turn_v.trans (sts_next (ife_f h)), none, rfl⟩
    simp only [List.mem_cons, List.not_mem_nil, or_false] at hx
    rcases hx with rfl | rfl | rfl | rfl | rfl | rfl | rfl | rfl
    · exact go 0 (u0 (hg 0 _ rfl))
    · exact go 1 (u1 (hg 1 _ rfl))
    · exact go 2 (u2 (hg 2 _ rfl))
    · exact go 3 (u3 (hg 3 _ rfl))
    · exact go 4 (u4 (hg 4 _ rfl))
    · exact go 5 (u5 (hg 5 _ rfl))
    · exact go 6 (u6 (hg 6 _ rfl))
    · exact go 7 (u7 (hg 7 _ rfl))
  · rintro s ⟨y8, rfl⟩
    exact ⟨none, rfl⟩
def PvL (sc : D) (s : S) : Prop := ∃ x3 x4 x5 x6 x7 x8 c, HOK c ∧ s = stL sc x3 x4 x5 x6 x7 x8 c
theorem turn_law {sc : D} {i : Int} {s : S} (h : PvL sc s) : ∃ s', turnM (.v 3) (evSs G F8 bT) (.int i) s = .ok .next s' ∧ PvL sc (wipe [3, 4, 5, 6, 7, 8] s') := by
  obtain ⟨x3, x4, x5, x6, x7, x8, c, hc, rfl⟩ := h
  obtain ⟨d, c1, e, d0, d1, hc1⟩ := draw8 c 8 (by omega) (by omega) hc
  have e1 : evS G F8 b1 (stL sc (some (.d (.int i))) x4 x5 x6 x7 x8 c) = .ok .next (stL sc (some (.d (.int i))) (some (.d (.int (1 + d)))) x5 x6 x7 x8 c1) := by
    have e : run G P 8 10 [.ref 0, .int 8] [c] = .ok (.int d) [c1] := e
    simp [b1, stL, evSs, evS, evX, evDs, M.bind, M.pure, varM, S.loc1, two, PV.val, PV.store, bindM, bindT, M.of, binF, doCall, endC, e]
  have mid : ∀ k : Int, 1 + d = k → (∀ {x3 x5 x6 x7 x8 : Option LV} {c : Cell} {ss : Sts}, ∃ y5 y6, evSs G F8 (.cons b2 (.cons b3 (.cons b4 ss))) (stL sc x3 (some (.d (.int k))) x5 x6 x7 x8 c) = evSs G F8 ss (stL sc x3 (some (.d (.int k))) y5 y6 x7 x8 c)) →
      ∃ s', turnM (.v 3) (evSs G F8 bT) (.int i) (stL sc x3 x4 x5 x6 x7 x8 c) = .ok .next s' ∧ PvL sc (wipe [3, 4, 5, 6, 7, 8] s') := fun k hk ht => by
    subst hk
    obtain ⟨y5, y6, et⟩ := ht (x3 := some (.d (.int i))) (x5 := x5) (x6 := x6) (x7 := x7) (x8 := x8) (c := c1) (ss := .cons b5 (.cons b6 .nil))
    obtain ⟨pl, c2, hl, hg, hc2, ep⟩ := plan_ok draw7 hc1
    have e5 : evS G F8 b5 (stL sc (some (.d (.int i))) (some (.d (.int (1 + d)))) y5 y6 x7 x8 c1) = .ok .next (stL sc (some (.d (.int i))) (some (.d (.int (1 + d)))) y5 y6 (some (.d (.tup (pl.map tupD)))) x8 c2) := by
      have ep : run G P 8 12 [.ref 0, .bl false] [c1] = .ok (.tup (pl.map tupD)) [c2] := ep
      simp [b5, stL, evSs, evS, evX, evDs, M.bind, M.pure, varM, S.loc1, two, PV.val, PV.store, bindM, bindT, M.of, binF, doCall, endC, ep]
    obtain ⟨y8, e6⟩ := in6 (sc := sc) (x3 := some (.d (.int i))) (x4 := some (.d (.int (1 + d)))) (x5 := y5) (x6 := y6) (c := c2) hl hg (x8 := x8)
    refine ⟨_, turn_v.trans ((sts_next e1).trans (et.trans ((sts_next e5).trans (sts_next e6)))), _, _, _, _, _, _, c2, hc2, rfl⟩
  have dd : d = 0 ∨ d = 1 ∨ d = 2 ∨ d = 3 ∨ d = 4 ∨ d = 5 ∨ d = 6 ∨ d = 7 := by omega
  rcases dd with rfl | rfl | rfl | rfl | rfl | rfl | rfl | rfl
  · exact mid 1 rfl t1
  · exact mid 2 rfl t2
  · exact mid 3 rfl t3
  · exact mid 4 rfl t4
  · exact mid 5 rfl t5
  · exact mid 6 rfl t6
  · exact mid 7 rfl t7
  · exact mid 8 rfl t8
theorem law : ∀ ns : List Int, ns.length ≤ 63 → ∃ c, run G P depth 15 [.lst (ns.map .int)] [] = .ok (.bl true) c := by
  intro ns hn
  obtain ⟨cs, s, hcs, eh⟩ := hand_ok (F := run G P 7) ns hn []
  have er : run G P depth 15 [.lst (ns.map .int)] [] = Ev.finish (evSs G F8 c15 ⟨[some (.d (.lst (ns.map .int))), none, none, none, none, none, none, none, none, none], []⟩) := rfl
  have e1 : evS G F8 s1 ⟨[some (.d (.lst (ns.map .int))), none, none, none, none, none, none, none, none, none], []⟩ = .ok .next ⟨[some (.d (.lst (ns.map .int))), some (.d (.ref 0)), none, none, none, none, none, none, none, none], [hnd (cs.map .int) 0 0 s 0]⟩ := by
    have eh : run G P 8 9 [.lst (ns.map .int)] [] = .ok (.ref 0) [hnd (cs.map .int) 0 0 s 0] := eh
    simp [s1, evSs, evS, evX, evDs, M.bind, M.pure, varM, S.loc1, two, PV.val, PV.store, bindM, bindT, M.of, binF, doCall, endC, eh]
  have e2 : ∀ (sc : D) (c : Cell), evS G F8 s2 ⟨[some (.d sc), some (.d (.ref 0)), none, none, none, none, none, none, none, none], [c]⟩ = .ok .next (stL sc none none none none none none c) := fun sc c => by kernel_rfl
  have e3 : ∀ (sc : D) (c : Cell), evS G F8 s3 (stL sc none none none none none none c) = .ok .next (stL sc none none none none none none c) := fun sc c => ife_f (by kernel_rfl)
  have hi : ∀ (sc : D) (c : Cell), evIt G F8 (.rng1 (.int 2)) (stL sc none none none none none none c) = .ok [.int 0, .int 1] (stL sc none none none none none none c) := fun sc c => by kernel_rfl
  obtain ⟨s', e4, x3, x4, x5, x6, x7, x8, c', hc', rfl⟩ := loopF_inv (bd := turnM (.v 3) (evSs G F8 bT)) (kl := [3, 4, 5, 6, 7, 8]) (Pv := PvL (.lst (ns.map .int))) [.int 0, .int 1] (fun x hx s h => by
      simp only [List.mem_cons, List.not_mem_nil, or_false] at hx
      rcases hx with rfl | rfl
      · exact turn_law h
      · exact turn_law h) (fun s h => by
      obtain ⟨x3, x4, x5, x6, x7, x8, c, hc, rfl⟩ := h
      exact ⟨none, none, none, none, none, none, c, hc, rfl⟩) (stL (.lst (ns.map .int)) none none none none none none (hnd (cs.map .int) 0 0 s 0)) ⟨none, none, none, none, none, none, _, ⟨cs, 0, 0, s, 0, hcs, Int.le_refl _, Int.le_refl _, rfl⟩, rfl⟩
  have e5 : ∀ (sc : D) (x3 x4 x5 x6 x7 x8 : Option LV) (c : Cell), evSs G F8 (.cons s5 .nil) (stL sc x3 x4 x5 x6 x7 x8 c) = .ok (.ret (.bl true)) (stL sc x3 x4 x5 x6 x7 x8 c) := fun sc x3 x4 x5 x6 x7 x8 c => by kernel_rfl
  have e4' : evS G F8 s4 (stL (.lst (ns.map .int)) none none none none none none (hnd (cs.map .int) 0 0 s 0)) = .ok .next (stL (.lst (ns.map .int)) x3 x4 x5 x6 x7 x8 c') := (for_eval rfl (hi _ _)).trans e4
  refine ⟨[c'], ?_⟩
  rw [er, c15_eq, sts_next e1, sts_next (e2 _ _), sts_next (e3 _ _), sts_next e4', e5]
  rfl
end Pr

set_option maxHeartbeats 0
namespace HeadT
open PySem PySem.Spec PyProof.Rows L2
def top (i : Nat) : Stmt := PySem.Challenge.pw_hourcards_k77_whole_least_plan.main.body.getD i (.Pass ⟨0, 0, 0, 0⟩)
def fn : List He.DefD := ([⟨("is_integer", none), "is_integer", "is_integer", defArgs (top 4), defBody (top 4), defScope (top 4), [], []⟩,
  ⟨("is_within", none), "is_within", "is_within", defArgs (top 5), defBody (top 5), defScope (top 5), [], []⟩,
  ⟨("are_ascending", none), "are_ascending", "are_ascending", defArgs (top 6), defBody (top 6), defScope (top 6), [], []⟩,
  ⟨("are_plan_places", none), "are_plan_places", "are_plan_places", defArgs (top 9), defBody (top 9), defScope (top 9), [], []⟩,
  ⟨("is_plan", none), "is_plan", "is_plan", defArgs (top 10), defBody (top 10), defScope (top 10), [], []⟩,
  ⟨("check_plan", none), "check_plan", "check_plan", defArgs (top 11), defBody (top 11), defScope (top 11), [], []⟩,
  ⟨("gaps_of", none), "gaps_of", "gaps_of", defArgs (top 12), defBody (top 12), defScope (top 12), [], []⟩,
  ⟨("plan_gaps", none), "plan_gaps", "plan_gaps", defArgs (top 13), defBody (top 13), defScope (top 13), [], []⟩,
  ⟨("least_plan", none), "least_plan", "least_plan", defArgs (top 14), defBody (top 14), defScope (top 14), [], []⟩,
  ⟨("_law_hand", none), "_law_hand", "_law_hand", defArgs (top 16), defBody (top 16), defScope (top 16), [], []⟩,
  ⟨("_law_draw", none), "_law_draw", "_law_draw", defArgs (top 17), defBody (top 17), defScope (top 17), [], []⟩,
  ⟨("_law_flag", none), "_law_flag", "_law_flag", defArgs (top 18), defBody (top 18), defScope (top 18), [], []⟩,
  ⟨("_law_plan", none), "_law_plan", "_law_plan", defArgs (top 19), defBody (top 19), defScope (top 19), [], []⟩,
  ⟨("_law_gaps", none), "_law_gaps", "_law_gaps", defArgs (top 20), defBody (top 20), defScope (top 20), [], []⟩,
  ⟨("_law_all_places", none), "_law_all_places", "_law_all_places", defArgs (top 21), defBody (top 21), defScope (top 21), [], []⟩,
  ⟨("law", none), "law", "law", defArgs (top 22), defBody (top 22), defScope (top 22), [], []⟩] : List He.DefD)
def fa : List He.Fa := ([.glo "is_integer", .glo "is_within", .glo "are_ascending", .glo "are_plan_places", .glo "is_plan", .glo "check_plan", .glo "gaps_of", .glo "plan_gaps", .glo "least_plan", .glo "_law_hand", .glo "_law_draw", .glo "_law_flag", .glo "_law_plan", .glo "_law_gaps", .glo "_law_all_places", .glo "law", .free "len", .free "abs", .free "int", .free "tuple", .free "list", .free "sum", .free "all", .free "any", .free "min"] : List He.Fa) ++ ([.free "max", .free "sorted", .free "set", .free "str", .free "divmod", .free "isinstance", .free "bool", .free "dict", .free "range", .free "enumerate", .free "zip", .free "reversed", .int "MOST_WAY" 8] : List He.Fa)
abbrev R : PySem.W.OpenRow := PySem.W.OpenLaw.row PySem.Challenge.rw_hourcards_k77_whole_least_plan
abbrev hk : PySem.W.Hook := He.hookD 4 fa fn
def ob (s : PySem.W.SharedT) : He.AlD := He.obsDG 4 fa fn (HandSHeadRun.getT s)
theorem ob_eq (s : PySem.W.SharedT) : ob s = hk.obs s.abs := He.obsDG_eq (HandSHeadRun.getT_eq s)
def loose : List PySem.Str := (["HourError", "NoPlan", "is_integer", "is_within", "are_ascending", "MOST_WAY", "are_plan_places", "is_plan", "check_plan", "gaps_of", "plan_gaps", "least_plan", "_law_hand", "_law_draw", "_law_flag", "_law_plan", "_law_gaps", "_law_all_places"] : List PySem.Str)
theorem run (w : World) : HandSHeadRun.RunEq R (PySem.W.view R.prog [22]) hk ob 20000 loose w := by
  intro os
  kernel_rfl
end HeadT
namespace Pr
open PySem PySem.Spec PyProof.Rows L2 Ev HeadT
def nms (K : PySem.W.Frag) : Nms := ⟨K, fun _ => 0, fun f => ⟨Array.replicate f 0⟩⟩
theorem nms_inj {K : PySem.W.Frag} (f g : Nat) (h : (nms K).nm f = (nms K).nm g) : f = g := by
  have h2 := congrArg (fun z : Str => z.cps.size) h
  simpa [nms] using h2
theorem kit_base {K : PySem.W.Frag} {G : Tab} (tg : Tag) (ty : Ev.Ty) (h1 : match tg with | .obj c => c < 0 | _ => True) (h2 : match ty with | .cls c => c < 0 | _ => True) : PySem.W.kitOne K (tagV (nms K) tg) (tyV1 (nms K) ty) = some (isTag G.sub tg ty) := by
  cases tg <;> cases ty <;> first | (exact absurd h1 (Nat.not_lt_zero _)) | (exact absurd h2 (Nat.not_lt_zero _)) | rfl | decide +kernel
theorem sc0 : FnScope (["thing"] : List Str) (["thing"] : List Str) (defScope (top 4)) := ⟨rfl, rfl, rfl, by decide +kernel, rfl, by decide +kernel, by decide +kernel⟩
theorem ok0 (K : PySem.W.Frag) : okSs T (nms K) ⟨(["thing"] : List Str), defScope (top 4), defScope (top 4), false⟩ c0 (defBody (top 4)) = true := by kernel_rfl
theorem sc1 : FnScope (["thing", "least", "most"] : List Str) (["thing", "least", "most"] : List Str) (defScope (top 5)) := ⟨rfl, rfl, rfl, by decide +kernel, rfl, by decide +kernel, by decide +kernel⟩
theorem ok1 (K : PySem.W.Frag) : okSs T (nms K) ⟨(["thing", "least", "most"] : List Str), defScope (top 5), defScope (top 5), false⟩ c1 (defBody (top 5)) = true := by kernel_rfl
theorem sc2 : FnScope (["numbers", "at"] : List Str) (["numbers"] : List Str) (defScope (top 6)) := ⟨rfl, rfl, rfl, by decide +kernel, rfl, by decide +kernel, by decide +kernel⟩
theorem ok2 (K : PySem.W.Frag) : okSs T (nms K) ⟨(["numbers", "at"] : List Str), defScope (top 6), defScope (top 6), false⟩ c2 (defBody (top 6)) = true := by kernel_rfl
theorem sc3 : FnScope (["thing", "length", "place"] : List Str) (["thing", "length"] : List Str) (defScope (top 9)) := ⟨rfl, rfl, rfl, by decide +kernel, rfl, by decide +kernel, by decide +kernel⟩
theorem ok3 (K : PySem.W.Frag) : okSs T (nms K) ⟨(["thing", "length", "place"] : List Str), defScope (top 9), defScope (top 9), false⟩ c3 (defBody (top 9)) = true := by kernel_rfl
theorem sc4 : FnScope (["thing", "at", "places"] : List Str) (["thing"] : List Str) (defScope (top 10)) := ⟨rfl, rfl, rfl, by decide +kernel, rfl, by decide +kernel, by decide +kernel⟩
theorem ok4 (K : PySem.W.Frag) : okSs T (nms K) ⟨(["thing", "at", "places"] : List Str), defScope (top 10), defScope (top 10), false⟩ c4 (defBody (top 10)) = true := by kernel_rfl
theorem sc5 : FnScope (["thing"] : List Str) (["thing"] : List Str) (defScope (top 11)) := ⟨rfl, rfl, rfl, by decide +kernel, rfl, by decide +kernel, by decide +kernel⟩
theorem ok5 (K : PySem.W.Frag) : okSs T (nms K) ⟨(["thing"] : List Str), defScope (top 11), defScope (top 11), false⟩ c5 (defBody (top 11)) = true := by kernel_rfl
theorem sc6 : FnScope (["plan", "found", "length", "places", "place"] : List Str) (["plan"] : List Str) (defScope (top 12)) := ⟨rfl, rfl, rfl, by decide +kernel, rfl, by decide +kernel, by decide +kernel⟩
theorem ok6 (K : PySem.W.Frag) : okSs T (nms K) ⟨(["plan", "found", "length", "places", "place"] : List Str), defScope (top 12), defScope (top 12), false⟩ c6 (defBody (top 12)) = true := by kernel_rfl
theorem sc7 : FnScope (["plan"] : List Str) (["plan"] : List Str) (defScope (top 13)) := ⟨rfl, rfl, rfl, by decide +kernel, rfl, by decide +kernel, by decide +kernel⟩
theorem ok7 (K : PySem.W.Frag) : okSs T (nms K) ⟨(["plan"] : List Str), defScope (top 13), defScope (top 13), false⟩ c7 (defBody (top 13)) = true := by kernel_rfl
theorem sc8 : FnScope (["length"] : List Str) ([] : List Str) (defScope (top 14)) := ⟨rfl, rfl, rfl, by decide +kernel, rfl, by decide +kernel, by decide +kernel⟩
theorem ok8 (K : PySem.W.Frag) : okSs T (nms K) ⟨(["length"] : List Str), defScope (top 14), defScope (top 14), false⟩ c8 (defBody (top 14)) = true := by kernel_rfl
theorem sc9 : FnScope (["_law_script", "_law_cells", "_law_cell"] : List Str) (["_law_script"] : List Str) (defScope (top 16)) := ⟨rfl, rfl, rfl, by decide +kernel, rfl, by decide +kernel, by decide +kernel⟩
theorem ok9 (K : PySem.W.Frag) : okSs T (nms K) ⟨(["_law_script", "_law_cells", "_law_cell"] : List Str), defScope (top 16), defScope (top 16), false⟩ c9 (defBody (top 16)) = true := by kernel_rfl
theorem sc10 : FnScope (["_law_hand_here", "_law_many", "_law_number", "_law_cell", "_law_digit"] : List Str) (["_law_hand_here", "_law_many"] : List Str) (defScope (top 17)) := ⟨rfl, rfl, rfl, by decide +kernel, rfl, by decide +kernel, by decide +kernel⟩
theorem ok10 (K : PySem.W.Frag) : okSs T (nms K) ⟨(["_law_hand_here", "_law_many", "_law_number", "_law_cell", "_law_digit"] : List Str), defScope (top 17), defScope (top 17), false⟩ c10 (defBody (top 17)) = true := by kernel_rfl
theorem sc11 : FnScope (["_law_told", "_law_due"] : List Str) (["_law_told", "_law_due"] : List Str) (defScope (top 18)) := ⟨rfl, rfl, rfl, by decide +kernel, rfl, by decide +kernel, by decide +kernel⟩
theorem ok11 (K : PySem.W.Frag) : okSs T (nms K) ⟨(["_law_told", "_law_due"] : List Str), defScope (top 18), defScope (top 18), false⟩ c11 (defBody (top 18)) = true := by kernel_rfl
theorem sc12 : FnScope (["_law_hand_here", "_law_gaps_here", "_law_plan_here", "_law_length", "_law_told", "_law_place", "_law_needed"] : List Str) (["_law_hand_here", "_law_gaps_here"] : List Str) (defScope (top 19)) := ⟨rfl, rfl, rfl, by decide +kernel, rfl, by decide +kernel, by decide +kernel⟩
theorem ok12 (K : PySem.W.Frag) : okSs T (nms K) ⟨(["_law_hand_here", "_law_gaps_here", "_law_plan_here", "_law_length", "_law_told", "_law_place", "_law_needed"] : List Str), defScope (top 19), defScope (top 19), false⟩ c12 (defBody (top 19)) = true := by kernel_rfl
theorem sc13 : FnScope (["_law_plan_here", "_law_found", "_law_length", "_law_place"] : List Str) (["_law_plan_here"] : List Str) (defScope (top 20)) := ⟨rfl, rfl, rfl, by decide +kernel, rfl, by decide +kernel, by decide +kernel⟩
theorem ok13 (K : PySem.W.Frag) : okSs T (nms K) ⟨(["_law_plan_here", "_law_found", "_law_length", "_law_place"] : List Str), defScope (top 20), defScope (top 20), false⟩ c13 (defBody (top 20)) = true := by kernel_rfl
theorem sc14 : FnScope (["_law_length", "_law_found", "_law_place", "_law_later", "_law_told"] : List Str) (["_law_length"] : List Str) (defScope (top 21)) := ⟨rfl, rfl, rfl, by decide +kernel, rfl, by decide +kernel, by decide +kernel⟩
theorem ok14 (K : PySem.W.Frag) : okSs T (nms K) ⟨(["_law_length", "_law_found", "_law_place", "_law_later", "_law_told"] : List Str), defScope (top 21), defScope (top 21), false⟩ c14 (defBody (top 21)) = true := by kernel_rfl
theorem sc15 : FnScope (["_law_script", "_law_hand_here", "_law_told", "_law_turn", "_law_length", "_law_rows", "_law_fewest", "_law_other", "_law_k", "_law_row"] : List Str) (["_law_script"] : List Str) (defScope (top 22)) := ⟨rfl, rfl, rfl, by decide +kernel, rfl, by decide +kernel, by decide +kernel⟩
theorem ok15 (K : PySem.W.Frag) : okSs T (nms K) ⟨(["_law_script", "_law_hand_here", "_law_told", "_law_turn", "_law_length", "_law_rows", "_law_fewest", "_law_other", "_law_k", "_law_row"] : List Str), defScope (top 22), defScope (top 22), false⟩ c15 (defBody (top 22)) = true := by kernel_rfl
theorem prf {K : PySem.W.Frag} {hp : Heap} {mg : Str → Option Value} (X : K.In hp) (Gm : hp.Ns mainGlobals mg) (c : He.SaysD fa fn K) : PrF T (nms K) G P K mg where
  hK := rfl
  defs := fun f x hx => match f, hx with
    | 0, hx => by
      cases hx
      obtain ⟨fd, Fd⟩ := c.def_ 0 rfl
      exact ⟨_, _, fd, _, _, _, _, _, rfl, He.glo_ok X Gm (c.fact 0 (f := .glo "is_integer") rfl), Fd, sc0, rfl, rfl, ok0 K, Fd.bindsN fun _ _ _ _ _ _ us hl => match us, hl with | [_], _ => rfl⟩
    | 1, hx => by
      cases hx
      obtain ⟨fd, Fd⟩ := c.def_ 1 rfl
      exact ⟨_, _, fd, _, _, _, _, _, rfl, He.glo_ok X Gm (c.fact 1 (f := .glo "is_within") rfl), Fd, sc1, rfl, rfl, ok1 K, Fd.bindsN fun _ _ _ _ _ _ us hl => match us, hl with | [_, _, _], _ => rfl⟩
    | 2, hx => by
      cases hx
      obtain ⟨fd, Fd⟩ := c.def_ 2 rfl
      exact ⟨_, _, fd, _, _, _, _, _, rfl, He.glo_ok X Gm (c.fact 2 (f := .glo "are_ascending") rfl), Fd, sc2, rfl, rfl, ok2 K, Fd.bindsN fun _ _ _ _ _ _ us hl => match us, hl with | [_], _ => rfl⟩
    | 3, hx => by
      cases hx
      obtain ⟨fd, Fd⟩ := c.def_ 3 rfl
      exact ⟨_, _, fd, _, _, _, _, _, rfl, He.glo_ok X Gm (c.fact 3 (f := .glo "are_plan_places") rfl), Fd, sc3, rfl, rfl, ok3 K, Fd.bindsN fun _ _ _ _ _ _ us hl => match us, hl with | [_, _], _ => rfl⟩
    | 4, hx => by
      cases hx
      obtain ⟨fd, Fd⟩ := c.def_ 4 rfl
      exact ⟨_, _, fd, _, _, _, _, _, rfl, He.glo_ok X Gm (c.fact 4 (f := .glo "is_plan") rfl), Fd, sc4, rfl, rfl, ok4 K, Fd.bindsN fun _ _ _ _ _ _ us hl => match us, hl with | [_], _ => rfl⟩
    | 5, hx => by
      cases hx
      obtain ⟨fd, Fd⟩ := c.def_ 5 rfl
      exact ⟨_, _, fd, _, _, _, _, _, rfl, He.glo_ok X Gm (c.fact 5 (f := .glo "check_plan") rfl), Fd, sc5, rfl, rfl, ok5 K, Fd.bindsN fun _ _ _ _ _ _ us hl => match us, hl with | [_], _ => rfl⟩
    | 6, hx => by
      cases hx
      obtain ⟨fd, Fd⟩ := c.def_ 6 rfl
      exact ⟨_, _, fd, _, _, _, _, _, rfl, He.glo_ok X Gm (c.fact 6 (f := .glo "gaps_of") rfl), Fd, sc6, rfl, rfl, ok6 K, Fd.bindsN fun _ _ _ _ _ _ us hl => match us, hl with | [_], _ => rfl⟩
    | 7, hx => by
      cases hx
      obtain ⟨fd, Fd⟩ := c.def_ 7 rfl
      exact ⟨_, _, fd, _, _, _, _, _, rfl, He.glo_ok X Gm (c.fact 7 (f := .glo "plan_gaps") rfl), Fd, sc7, rfl, rfl, ok7 K, Fd.bindsN fun _ _ _ _ _ _ us hl => match us, hl with | [_], _ => rfl⟩
    | 8, hx => by
      cases hx
      obtain ⟨fd, Fd⟩ := c.def_ 8 rfl
      exact ⟨_, _, fd, _, _, _, _, _, rfl, He.glo_ok X Gm (c.fact 8 (f := .glo "least_plan") rfl), Fd, sc8, rfl, rfl, ok8 K, Fd.bindsN fun _ _ _ _ _ _ us hl => match us, hl with | [], _ => rfl⟩
    | 9, hx => by
      cases hx
      obtain ⟨fd, Fd⟩ := c.def_ 9 rfl
      exact ⟨_, _, fd, _, _, _, _, _, rfl, He.glo_ok X Gm (c.fact 9 (f := .glo "_law_hand") rfl), Fd, sc9, rfl, rfl, ok9 K, Fd.bindsN fun _ _ _ _ _ _ us hl => match us, hl with | [_], _ => rfl⟩
    | 10, hx => by
      cases hx
      obtain ⟨fd, Fd⟩ := c.def_ 10 rfl
      exact ⟨_, _, fd, _, _, _, _, _, rfl, He.glo_ok X Gm (c.fact 10 (f := .glo "_law_draw") rfl), Fd, sc10, rfl, rfl, ok10 K, Fd.bindsN fun _ _ _ _ _ _ us hl => match us, hl with | [_, _], _ => rfl⟩
    | 11, hx => by
      cases hx
      obtain ⟨fd, Fd⟩ := c.def_ 11 rfl
      exact ⟨_, _, fd, _, _, _, _, _, rfl, He.glo_ok X Gm (c.fact 11 (f := .glo "_law_flag") rfl), Fd, sc11, rfl, rfl, ok11 K, Fd.bindsN fun _ _ _ _ _ _ us hl => match us, hl with | [_, _], _ => rfl⟩
    | 12, hx => by
      cases hx
      obtain ⟨fd, Fd⟩ := c.def_ 12 rfl
      exact ⟨_, _, fd, _, _, _, _, _, rfl, He.glo_ok X Gm (c.fact 12 (f := .glo "_law_plan") rfl), Fd, sc12, rfl, rfl, ok12 K, Fd.bindsN fun _ _ _ _ _ _ us hl => match us, hl with | [_, _], _ => rfl⟩
    | 13, hx => by
      cases hx
      obtain ⟨fd, Fd⟩ := c.def_ 13 rfl
      exact ⟨_, _, fd, _, _, _, _, _, rfl, He.glo_ok X Gm (c.fact 13 (f := .glo "_law_gaps") rfl), Fd, sc13, rfl, rfl, ok13 K, Fd.bindsN fun _ _ _ _ _ _ us hl => match us, hl with | [_], _ => rfl⟩
    | 14, hx => by
      cases hx
      obtain ⟨fd, Fd⟩ := c.def_ 14 rfl
      exact ⟨_, _, fd, _, _, _, _, _, rfl, He.glo_ok X Gm (c.fact 14 (f := .glo "_law_all_places") rfl), Fd, sc14, rfl, rfl, ok14 K, Fd.bindsN fun _ _ _ _ _ _ us hl => match us, hl with | [_], _ => rfl⟩
    | 15, hx => by
      cases hx
      obtain ⟨fd, Fd⟩ := c.def_ 15 rfl
      exact ⟨_, _, fd, _, _, _, _, _, rfl, He.glo_ok X Gm (c.fact 15 (f := .glo "law") rfl), Fd, sc15, rfl, rfl, ok15 K, Fd.bindsN fun _ _ _ _ _ _ us hl => match us, hl with | [_], _ => rfl⟩
    | n + 16, hx => by
      exact absurd hx (by simp [T])
  blt := fun x hx => by
    simp only [bltNames, List.mem_cons, List.mem_nil_iff, or_false] at hx
    rcases hx with rfl | rfl | rfl | rfl | rfl | rfl | rfl | rfl | rfl | rfl | rfl | rfl | rfl | rfl | rfl | rfl | rfl | rfl | rfl | rfl | rfl
    · exact He.free_ok X Gm (c.fact 16 (f := .free "len") rfl)
    · exact He.free_ok X Gm (c.fact 17 (f := .free "abs") rfl)
    · exact He.free_ok X Gm (c.fact 18 (f := .free "int") rfl)
    · exact He.free_ok X Gm (c.fact 19 (f := .free "tuple") rfl)
    · exact He.free_ok X Gm (c.fact 20 (f := .free "list") rfl)
    · exact He.free_ok X Gm (c.fact 21 (f := .free "sum") rfl)
    · exact He.free_ok X Gm (c.fact 22 (f := .free "all") rfl)
    · exact He.free_ok X Gm (c.fact 23 (f := .free "any") rfl)
    · exact He.free_ok X Gm (c.fact 24 (f := .free "min") rfl)
    · exact He.free_ok X Gm (c.fact 25 (f := .free "max") rfl)
    · exact He.free_ok X Gm (c.fact 26 (f := .free "sorted") rfl)
    · exact He.free_ok X Gm (c.fact 27 (f := .free "set") rfl)
    · exact He.free_ok X Gm (c.fact 28 (f := .free "str") rfl)
    · exact He.free_ok X Gm (c.fact 29 (f := .free "divmod") rfl)
    · exact He.free_ok X Gm (c.fact 30 (f := .free "isinstance") rfl)
    · exact He.free_ok X Gm (c.fact 31 (f := .free "bool") rfl)
    · exact He.free_ok X Gm (c.fact 32 (f := .free "dict") rfl)
    · exact He.free_ok X Gm (c.fact 33 (f := .free "range") rfl)
    · exact He.free_ok X Gm (c.fact 34 (f := .free "enumerate") rfl)
    · exact He.free_ok X Gm (c.fact 35 (f := .free "zip") rfl)
    · exact He.free_ok X Gm (c.fact 36 (f := .free "reversed") rfl)
  con := fun g x hx => match g, hx with
    | 0, hx => by
      cases hx
      obtain ⟨t, e⟩ := He.int_ok X Gm (c.fact 37 (f := .int "MOST_WAY" 8) rfl)
      exact ⟨_, .int 8, _, rfl, e, ⟨t, rfl⟩, trivial, fun _ _ _ => .int _⟩
    | n + 1, hx => by
      exact absurd hx (by simp [T])
  cls := fun k x hx => by exact absurd hx (by simp [T])
  ncl := rfl
  nm := nms_inj
  kit := fun tg ty h1 h2 => kit_base tg ty h1 h2
  fld := fun k hk => absurd hk (Nat.not_lt_zero k)
end Pr
open PySem PySem.W PySem.Calls PyProof.Rows
theorem PySem.Challenge.cw_hourcards_k77_whole_least_plan_holds : PySem.Challenge.rw_hourcards_k77_whole_least_plan.Holds := by
  w_on; o_law
  refine HandSHeadRun.head_any (r := OpenLaw.row PySem.Challenge.rw_hourcards_k77_whole_least_plan) (q := view (OpenLaw.row PySem.Challenge.rw_hourcards_k77_whole_least_plan).prog [22]) (H := HeadT.hk) (ob := HeadT.ob) (M := 20000) (loose := HeadT.loose) (d := HandSHeadRun.topDef (OpenLaw.row PySem.Challenge.rw_hourcards_k77_whole_least_plan).prog 22) (kwd := []) HeadT.ob_eq
    (by kernel_rfl) (fun s => by kernel_rfl) HeadT.run (by kernel_rfl) (by kernel_rfl) (by kernel_rfl) (by rfl) (by first | assumption | decide +kernel) (by decide +kernel) ⟨rfl, rfl, rfl, rfl, rfl, by decide +kernel⟩ ?hw ?hc
  case hw => w_witness2
  case hc =>
    refine L2.walk_ofE (l := PySem.Challenge.rw_hourcards_k77_whole_least_plan) (n := 63) (k := Pr.depth) (x := "_law_script") (CX := L2.CX0) rfl (by decide) (by kernel_rfl) ⟨rfl, by decide, by decide⟩ ?F ?hCX
    case F =>
      intro w mg fa h Y Gm hmg0
      obtain ⟨K, KX, c⟩ := Y
      have hmg : mg ("law" : PySem.Str) = some (.ref fa) := by
        have e : (HandSHeadRun.topDef (OpenLaw.row PySem.Challenge.rw_hourcards_k77_whole_least_plan).prog 22).name = ("law" : PySem.Str) := by kernel_rfl
        rw [← e]
        exact hmg0
      obtain ⟨fd, Fd⟩ := c.def_ 15 rfl
      have pf := Pr.prf KX Gm c
      have e := hmg.symm.trans (He.glo_ok KX Gm (c.fact 15 (f := .glo "law") rfl))
      cases e
      have b := L2.FunD.bindsA (ps := ["_law_script"]) Fd fun _ _ _ _ _ _ us hl => match us, hl with | [_], _ => rfl
      refine ⟨K, fd, Ev.spLaw K 63, KX, fun s u => b s [u] rfl, fun H a ns hl _ hS => ⟨a, ns, rfl, hl, hS, fun _ => rfl⟩, fun base _ _ => ?_⟩
      obtain ⟨fa, fd', q1, q2, q3, q4, q5, _, _, _, _, q6⟩ := Ev.run_ok (P := (PySem.Challenge.rw_hourcards_k77_whole_least_plan).prog) (w := w) (base := base) pf Pr.depth 15 "law" rfl
      have e := hmg.symm.trans q1
      cases e
      obtain rfl := Ev.fd_same Fd q6
      exact Ev.FnOk.calm q4 (Ev.law_ok (N := Pr.nms K) rfl Pr.law)
    case hCX => exact fun _ _ _ _ z => z
