import PyProof.Rows.All
import Wide.All
import OpenK.AllK
import Wide.FinOn
import HandS.ForMost
import HandS.ForExc
import HandS.TupAny
import HandS.TupMul
import HandS.TupLe
import HandS.Deep
import HandS.IsInst
import HandS.SortInts
import HandS.Flow
import HandS.Iter
import HandS.Style
import HandS.Words
import HandS.Defaults
import HandS.GenList
import HandS.AnyAll
import HandS.Conv
import HandS.Head0
import HandS.Head1
import HandS.Head2
import HandS.HeadEnd
import HandS.HeadHook1
import HandS.HeadHook2
import HandS.HeadWalk
import PySem.Challenge.RW_alliedoffers_k80_results_and_conditions
set_option Elab.async false
section
set_option Elab.async false
set_option linter.all false
/-! QA: a small language of values (E, T, St) over plain data D, and what its terms are worth. -/
namespace Q
abbrev Str := PySem.Str

/-- plain data -/
inductive D where
  | non | bl (b : Bool) | int (i : Int) | str (s : Str)
  | tup (xs : List D) | lst (xs : List D) | dic (kvs : List (D × D))
deriving Inhabited

/-- a value with the depth to which its lists are its owner's alone -/
abbrev W := D × Nat
abbrev Env := List (Option W)

/-- no container that may be owned -/
def D.leaf : D → Bool
  | .lst _ => false
  | .dic _ => false
  | _ => true

def b2i (b : Bool) : Int := if b then 1 else 0

mutual
def deq : D → D → Bool
  | .non, .non => true
  | .bl a, .bl b => a == b
  | .bl a, .int j => b2i a == j
  | .int i, .bl b => i == b2i b
  | .int i, .int j => i == j
  | .str x, .str y => x == y
  | .tup xs, .tup ys => deqs xs ys
  | .lst xs, .lst ys => deqs xs ys
  | _, _ => false
def deqs : List D → List D → Bool
  | [], [] => true
  | x :: xs, y :: ys => deq x y && deqs xs ys
  | _, _ => false
end

/-- data that == may be asked of: no dicts, texts of true signs, not too deep -/
def okD : Nat → D → Bool
  | _, .non => true
  | _, .bl _ => true
  | _, .int _ => true
  | _, .str s => s.cps.all (· < 0x110000)
  | n + 1, .tup xs => xs.all (okD n)
  | n + 1, .lst xs => xs.all (okD n)
  | _, _ => false

def line : Nat := 16777216
def truth : D → Option Bool
  | .non => some false
  | .bl b => some b
  | .int i => some (i != 0)
  | .str s => if s.cps.size ≤ line then some (s.cps.size != 0) else none
  | .tup xs => some (!xs.isEmpty)
  | .lst xs => some (!xs.isEmpty)
  | .dic xs => some (!xs.isEmpty)

/-- a place in a row of so many: Python's own -/
def ixOf (n : Nat) (i : Int) : Option Nat :=
  if 0 ≤ i then (if i.toNat < n then some i.toNat else none)
  else if 0 ≤ i + n then some (i + n).toNat else none


inductive Bop | add | sub | mul | fdiv | mod | pow
deriving DecidableEq
inductive Cop | lt | le | gt | ge | eq | ne | isN | notN | isT | notT | isF | notF | mem | nmem
deriving DecidableEq

/-- the owned depth that a part of something of depth n has -/
def sink (n : Nat) (d : D) : W := if d.leaf then (d, 0) else (d, n - 1)

def coe (m : Nat) (w : W) : Option W :=
  if m = 0 then some (w.1, 0)
  else if w.1.leaf then some (w.1, m)
  else if w.2 = m then some w else none
def addW : W → W → Option W
  | (.int i, _), (.int j, _) => some (.int (i + j), 0)
  | (.str x, _), (.str y, _) => if x.cps.size + y.cps.size ≤ line then some (.str ⟨x.cps ++ y.cps⟩, 0) else none
  | (.tup x, _), (.tup y, _) => if x.length + y.length ≤ line then some (.tup (x ++ y), 0) else none
  | (.lst x, m), (.lst y, n) => if x.length + y.length ≤ line ∧ m ≤ 1 ∧ n ≤ 1 then some (.lst (x ++ y), 1) else none
  | _, _ => none
def subW : W → W → Option W
  | (.int i, _), (.int j, _) => some (.int (i - j), 0)
  | _, _ => none
def mulW : W → W → Option W
  | (.int i, _), (.int j, _) => if (-(2 ^ 64) < i ∧ i < 2 ^ 64) ∨ (-(2 ^ 64) < j ∧ j < 2 ^ 64) then some (.int (i * j), 0) else none
  | (.lst x, m), (.int j, _) => if m ≤ 1 ∧ -(2 ^ 63) ≤ j ∧ j < 2 ^ 63 ∧ x.length * j.toNat ≤ line then some (.lst (List.replicate j.toNat x).flatten, 1) else none
  | (.tup x, _), (.int j, _) => if -(2 ^ 63) ≤ j ∧ j < 2 ^ 63 ∧ x.length * j.toNat ≤ line then some (.tup (List.replicate j.toNat x).flatten, 0) else none
  | _, _ => none
def fdivW : W → W → Option W
  | (.int i, _), (.int j, _) => if 0 < j ∧ j < 1073741824 then some (.int (i / j), 0) else none
  | _, _ => none
def modW : W → W → Option W
  | (.int i, _), (.int j, _) => if 0 < j then some (.int (i % j), 0) else none
  | _, _ => none
def powW : W → W → Option W
  | (.int i, _), (.int j, _) => if 0 ≤ j ∧ j ≤ 1000000 ∧ i.natAbs < 2 ^ 64 then some (.int (i ^ j.toNat), 0) else none
  | _, _ => none
def bop : Bop → W → W → Option W
  | .add => addW
  | .sub => subW
  | .mul => mulW
  | .fdiv => fdivW
  | .mod => modW
  | .pow => powW

mutual
def ltD : D → D → Option Bool
  | .int i, .int j => some (decide (i < j))
  | .str x, .str y => some (decide (x.cps.toList < y.cps.toList))
  | .tup xs, .tup ys => ltDs xs ys
  | _, _ => none
def ltDs : List D → List D → Option Bool
  | [], [] => some false
  | [], _ :: _ => some true
  | _ :: _, [] => some false
  | x :: xs, y :: ys => if deq x y then ltDs xs ys else ltD x y
end

def D.isNon : D → Bool
  | .non => true
  | _ => false
def cop : Cop → D → D → Option Bool
  | .lt, .int i, .int j => some (decide (i < j))
  | .le, .int i, .int j => some (decide (i ≤ j))
  | .gt, .int i, .int j => some (decide (j < i))
  | .ge, .int i, .int j => some (decide (j ≤ i))
  | .eq, x, y => if okD 64 x && okD 64 y then some (deq x y) else none
  | .ne, x, y => if okD 64 x && okD 64 y then some (!deq x y) else none
  | .isN, x, .non => some x.isNon
  | .notN, x, .non => some (!x.isNon)
  | .isT, .bl b, .bl true => some b
  | .notT, .bl b, .bl true => some (!b)
  | .isF, .bl b, .bl false => some (!b)
  | .notF, .bl b, .bl false => some b
  | .mem, x, .lst ys => if okD 64 x && ys.all (okD 63) then some (ys.any fun y => deq y x) else none
  | .mem, x, .tup ys => if okD 64 x && ys.all (okD 63) then some (ys.any fun y => deq y x) else none
  | .nmem, x, .lst ys => if okD 64 x && ys.all (okD 63) then some (!ys.any fun y => deq y x) else none
  | .nmem, x, .tup ys => if okD 64 x && ys.all (okD 63) then some (!ys.any fun y => deq y x) else none
  | _, _, _ => none

/-- built-ins of values -/
inductive Blt | len | abs | int | max2 | min2 | maxL | minL | sumL | list | tuple | sorted | isBool | isInt | isStr | isTuple
deriving DecidableEq
end Q
end
section
set_option Elab.async false
set_option linter.all false
/-! QB: the terms and what they are worth. -/
namespace Q

/-- an outcome: a value and the slots, an exception told as data, or none -/
inductive R (α : Type) where
  | ok (a : α) (ρ : Env) | ex (x : D) (ρ : Env) | no

def bd {α β : Type} (x : R α) (f : α → Env → R β) : R β :=
  match x with
  | .ok a ρ => f a ρ
  | .ex x ρ => .ex x ρ
  | .no => .no

def gt : Env → Nat → Option W
  | [], _ => none
  | x :: _, 0 => x
  | _ :: r, n + 1 => gt r n

/-- what a call gives: the value, and what the arguments that it may change have become -/
inductive CR where
  | ret (w : W) (outs : List W) | ex (x : D) (outs : List W) | no
/-- an argument, and whether the callee may change it -/
abbrev Ar := W × Bool
/-- the defs, by the depth that is left: the first may be called here -/
abbrev C := List (Nat → List Ar → CR)

inductive Mut | append (k : Nat) | pop | popAt | reverse | extend
deriving DecidableEq
def Mut.dep : Mut → Nat
  | .append k => k
  | _ => 0
/-- who eats a generator expression -/
inductive Eat | all | any | sum | tuple
deriving DecidableEq

/-! ### helpers -/
/-- a target takes a value -/
def keepW : Option W → Option W
  | some (d, 0) => some (d, 0)
  | _ => none
def rst (own : List Nat) (ρ0 ρ : Env) : Env := own.foldl (fun r i => r.set i (keepW (gt ρ0 i))) ρ
def wip (own : List Nat) (ρ : Env) : Env := own.foldl (fun r i => r.set i none) ρ

/-- an item by its place: of something owned to the depth n -/
def item : W → D → Option W
  | (.tup xs, _), .int i => (match ixOf xs.length i with
    | some k => xs[k]?.map fun d => (d, 0)
    | none => none)
  | (.lst xs, n), .int i => (match ixOf xs.length i with
    | some k => xs[k]?.map fun d => sink n d
    | none => none)
  | (.str s, _), .int i => (match ixOf s.cps.size i with
    | some k => if s.cps.size ≤ line then s.cps[k]?.map fun c => (.str ⟨#[c]⟩, 0) else none
    | none => none)
  | _, _ => none
/-- Python's bounds of a slice -/
def sIx (n : Nat) (i : Int) : Nat := if 0 ≤ i then min i.toNat n else (i + n).toNat
def sLo (n : Nat) : Option Int → Nat
  | some i => sIx n i
  | none => 0
def sHi (n : Nat) : Option Int → Nat
  | some i => sIx n i
  | none => n
def cut (xs : List D) (lo hi : Option Int) : List D := (xs.take (sHi xs.length hi)).drop (sLo xs.length lo)
def slice (w : W) (lo hi : Option Int) : Option W :=
  match w with
  | (.tup xs, _) => some (.tup (cut xs lo hi), 0)
  | (.lst xs, n) => if n ≤ 1 then some (.lst (cut xs lo hi), 1) else none
  | _ => none

/-- the value at a path, its place in the whole put anew -/
def getP : W → List D → Option W
  | w, [] => some w
  | (.lst xs, n), .int i :: r => (match ixOf xs.length i with
    | some k => (match xs[k]? with
      | some d => getP (d, n - 1) r
      | none => none)
    | none => none)
  | _, _ => none
def setP : D → List D → D → Option D
  | _, [], x => some x
  | .lst xs, .int i :: r, x => (match ixOf xs.length i with
    | some k => (match xs[k]? with
      | some d => (match setP d r x with
        | some y => some (.lst (xs.set k y))
        | none => none)
      | none => none)
    | none => none)
  | _, _, _ => none
/-- a method changes an owned list: its answer, the list behind it -/
def mutL : Mut → W → List W → Option (W × D)
  | .append k, (.lst xs, n + 1), [a] => if k = n ∧ xs.length < line then some ((.non, 0), .lst (xs ++ [a.1])) else none
  | .pop, (.lst xs, n + 1), [] => (match xs.getLast? with
      | some d => some (sink (n + 1) d, .lst xs.dropLast)
      | none => none)
  | .popAt, (.lst xs, n + 1), [(.int i, _)] => if -(2 ^ 63) ≤ i ∧ i < 2 ^ 63 then (match ixOf xs.length i with
      | some k => (match xs[k]? with
        | some d => some (sink (n + 1) d, .lst (xs.eraseIdx k))
        | none => none)
      | none => none) else none
  | .reverse, (.lst xs, n + 1), [] => some ((.non, 0), .lst xs.reverse)
  | _, _, _ => none
/-- the place at a path in a slot, put anew -/
def putS (ρ : Env) (i : Nat) (p : List D) (x : D) : Option Env :=
  match gt ρ i with
  | some (d, n) => (match setP d p x with
    | some d' => some (ρ.set i (some (d', n)))
    | none => none)
  | none => none
def getS (ρ : Env) (i : Nat) (p : List D) : Option W :=
  match gt ρ i with
  | some w => getP w p
  | none => none
/-- one index further into an owned list -/
def plStep (i : Nat) (p : List D) (j : D) (ρ : Env) : R (List D) :=
  match getS ρ i p with
  | some (.lst xs, _ + 1) => (match j with
    | .int q => (match ixOf xs.length q with
      | some _ => .ok (p ++ [.int q]) ρ
      | none => .no)
    | _ => .no)
  | _ => .no

def maxI : List Int → Option Int
  | [] => none
  | [i] => some i
  | i :: r => (maxI r).map fun j => if i < j then j else i
def minI : List Int → Option Int
  | [] => none
  | [i] => some i
  | i :: r => (minI r).map fun j => if j < i then j else i
def intsOf : List D → Option (List Int)
  | [] => some []
  | .int i :: r => (match intsOf r with
    | some l => some (i :: l)
    | none => none)
  | _ => none
def insInt (i : Int) : List Int → List Int
  | [] => [i]
  | j :: r => if i ≤ j then i :: j :: r else j :: insInt i r
def sortInts (l : List Int) : List Int := l.foldr insInt []
def rowOf : D → Option (List D)
  | .tup xs => some xs
  | .lst xs => some xs
  | _ => none
def lenW : List W → Option W
  | [(.tup xs, _)] => some (.int xs.length, 0)
  | [(.lst xs, _)] => some (.int xs.length, 0)
  | [(.str s, _)] => if s.cps.size ≤ line then some (.int s.cps.size, 0) else none
  | _ => none
def absW : List W → Option W
  | [(.int i, _)] => some (.int (if i < 0 then -i else i), 0)
  | _ => none
def intW : List W → Option W
  | [(.int i, _)] => some (.int i, 0)
  | [(.bl b, _)] => some (.int (b2i b), 0)
  | _ => none
def max2W : List W → Option W
  | [(.int i, _), (.int j, _)] => some (.int (if j > i then j else i), 0)
  | _ => none
def min2W : List W → Option W
  | [(.int i, _), (.int j, _)] => some (.int (if j < i then j else i), 0)
  | _ => none
def listW : List W → Option W
  | [(.tup xs, _)] => some (.lst xs, 1)
  | [(.lst xs, n)] => if n ≤ 1 then some (.lst xs, 1) else none
  | _ => none
def tupleW : List W → Option W
  | [(.lst xs, n)] => if n ≤ 1 then some (.tup xs, 0) else none
  | [(.tup xs, _)] => some (.tup xs, 0)
  | _ => none
def overInts (f : List Int → Option W) : List W → Option W
  | [(.lst xs, _)] => (match intsOf xs with
    | some l => f l
    | none => none)
  | _ => none
def isW (p : D → Bool) : List W → Option W
  | [(d, _)] => some (.bl (p d), 0)
  | _ => none
def D.isBl : D → Bool
  | .bl _ => true
  | _ => false
def D.isInt : D → Bool
  | .bl _ => true
  | .int _ => true
  | _ => false
def D.isStr : D → Bool
  | .str _ => true
  | _ => false
def D.isTup : D → Bool
  | .tup _ => true
  | _ => false
def bltD : Blt → List W → Option W
  | .len => lenW
  | .abs => absW
  | .int => intW
  | .max2 => max2W
  | .min2 => min2W
  | .maxL => overInts fun l => (maxI l).map fun i => (.int i, 0)
  | .minL => overInts fun l => (minI l).map fun i => (.int i, 0)
  | .sumL => overInts fun l => some (.int l.sum, 0)
  | .list => listW
  | .tuple => tupleW
  | .sorted => overInts fun l => some (.lst ((sortInts l).map D.int), 1)
  | .isBool => isW D.isBl
  | .isInt => isW D.isInt
  | .isStr => isW D.isStr
  | .isTuple => isW D.isTup
def rngD : List D → Option (List D)
  | [.int b] => if -(2 ^ 62) ≤ b ∧ b < 2 ^ 62 then some ((List.range b.toNat).map fun (k : Nat) => D.int k) else none
  | [.int a, .int b] => if -(2 ^ 62) ≤ a ∧ a < 2 ^ 62 ∧ -(2 ^ 62) ≤ b ∧ b < 2 ^ 62 then some ((List.range (b - a).toNat).map fun (k : Nat) => D.int (a + k)) else none
  | _ => none

/-! ### loops -/
inductive Fl where
  | nx | rt (w : W) | bk | ct
def lcL (f : D → Env → R (Option D)) : List D → Env → R (List D)
  | [], ρ => .ok [] ρ
  | d :: ds, ρ => bd (f d ρ) fun o ρ1 => bd (lcL f ds ρ1) fun r ρ2 => .ok (match o with | some x => x :: r | none => r) ρ2
def forL (f : D → Env → R Fl) : List D → Env → R Fl
  | [], ρ => .ok .nx ρ
  | d :: ds, ρ => bd (f d ρ) fun l ρ1 => match l with
    | .nx => forL f ds ρ1
    | .ct => forL f ds ρ1
    | .bk => .ok .nx ρ1
    | .rt w => .ok (.rt w) ρ1
def whL (t : Env → R Bool) (b : Env → R Fl) : Nat → Env → R Fl
  | 0, _ => .no
  | n + 1, ρ => bd (t ρ) fun k ρ1 => match k with
    | false => .ok .nx ρ1
    | true => bd (b ρ1) fun l ρ2 => match l with
      | .nx => whL t b n ρ2
      | .ct => whL t b n ρ2
      | .bk => .ok .nx ρ2
      | .rt w => .ok (.rt w) ρ2
def wlim : Nat := 10 ^ 30
/-- a generator's items, one behind the other -/
def genAll (f : D → Env → R (Option D)) : List D → Env → R D
  | [], ρ => .ok (.bl true) ρ
  | d :: ds, ρ => bd (f d ρ) fun o ρ1 => match o with
    | none => genAll f ds ρ1
    | some x => (match truth x with
      | some true => genAll f ds ρ1
      | some false => .ok (.bl false) ρ1
      | none => .no)
def genAny (f : D → Env → R (Option D)) : List D → Env → R D
  | [], ρ => .ok (.bl false) ρ
  | d :: ds, ρ => bd (f d ρ) fun o ρ1 => match o with
    | none => genAny f ds ρ1
    | some x => (match truth x with
      | some true => .ok (.bl true) ρ1
      | some false => genAny f ds ρ1
      | none => .no)
def eat (c : Eat) (f : D → Env → R (Option D)) (ds : List D) (ρ : Env) : R W :=
  match c with
  | .all => bd (genAll f ds ρ) fun d ρ => .ok (d, 0) ρ
  | .any => bd (genAny f ds ρ) fun d ρ => .ok (d, 0) ρ
  | .sum => bd (lcL f ds ρ) fun l ρ => (match intsOf l with
    | some i => .ok (.int i.sum, 0) ρ
    | none => .no)
  | .tuple => bd (lcL f ds ρ) fun l ρ => if l.length ≤ line then .ok (.tup l, 0) ρ else .no

/-- arguments: io ones are read when all others stand -/
def fill : List (Option Nat) → List (Option W) → Env → Option (List Ar)
  | some i :: ss, none :: ws, ρ => (match gt ρ i with
    | some w => (match fill ss ws ρ with
      | some r => some ((w, true) :: r)
      | none => none)
    | none => none)
  | none :: ss, some w :: ws, ρ => (match fill ss ws ρ with
    | some r => some ((w, false) :: r)
    | none => none)
  | [], [], _ => some []
  | _, _, _ => none
/-- the keyword values in the order of the parameters -/
def pick {α : Type} (pm : List Nat) (zs : List α) : List α := pm.filterMap fun j => zs[j]?
def back : List (Option Nat) → List W → Env → Option Env
  | some i :: ss, w :: ws, ρ => back ss ws (ρ.set i (some w))
  | none :: ss, ws, ρ => back ss ws ρ
  | [], [], ρ => some ρ
  | _, _, _ => none

/-- a value leaves its place: it must be nobody's alone -/
def ec (w : W) (ρ : Env) : R W := if w.2 = 0 ∨ w.1.leaf = true then .ok (w.1, 0) ρ else .no
def co (m : Nat) (w : W) (ρ : Env) : R W :=
  match coe m w with
  | some x => .ok x ρ
  | none => .no
/-- the items of what is walked -/
def items (w : W) : Option (List D) :=
  match rowOf w.1 with
  | some ds => if w.2 ≤ 1 ∨ ds.all D.leaf = true then some ds else none
  | none => none

def tru (x : W) (ρ : Env) : R Bool :=
  match truth x.1 with
  | some k => .ok k ρ
  | none => .no

/-- the defs that may be called here, and those behind a generator's frame -/
def hd : C → Nat → List Ar → CR
  | [] => fun _ _ => .no
  | g :: _ => g
def tl : C → C
  | [] => []
  | _ :: r => r

/-- a def: which parameters it may change, how many slots, its body -/
structure Fn where
  io : List Bool
  n : Nat
  body : C → Env → R Fl
def outsOf : List Bool → Env → Option (List W)
  | [], _ => some []
  | true :: r, o :: ρ => (match o, outsOf r ρ with
    | some w, some ws => some (w :: ws)
    | _, _ => none)
  | false :: r, _ :: ρ => outsOf r ρ
  | _, _ => none
def callB (c : C) (fn : Fn) (as : List Ar) : CR :=
  if as.map (·.2) = fn.io ∧ (∀ a ∈ as, a.2 = false → a.1.2 = 0) ∧ as.length ≤ fn.n then
    (match fn.body c (as.map (fun a => some a.1) ++ List.replicate (fn.n - as.length) none) with
    | .ok (.rt w) ρ => (match outsOf fn.io ρ with
      | some outs => .ret w outs
      | none => .no)
    | .ok .nx ρ => (match outsOf fn.io ρ with
      | some outs => .ret (.non, 0) outs
      | none => .no)
    | .ex x ρ => (match outsOf fn.io ρ with
      | some outs => .ex x outs
      | none => .no)
    | _ => .no)
  else .no
def calls (tab : List Fn) : Nat → C
  | 0 => []
  | n + 1 => (fun f as => match tab[f]? with
    | some fn => callB (calls tab n) fn as
    | none => .no) :: calls tab n
end Q
end
section
set_option Elab.async false
set_option linter.all false
set_option maxHeartbeats 1000000
/-! QC: how data lie in the heap; what an evaluation leaves. -/
namespace Q
open PySem PySem.Spec PyProof.Rows
open L2 (V Hp HO TE TT TA TS VK upd SqL SqT Rd Inv Cx PE PA PT)
abbrev Fg := PySem.W.Frag
abbrev Sg := List (Option V)
abbrev AS := Addr → Prop
abbrev FS := Nat → Addr → Prop

/-- a list that never changes again -/
def FzL (K : Fg) (H : Hp) (a : Addr) (xs : List V) : Prop :=
  (∃ o, H a = some (.frz o (.lst xs))) ∨
    ∃ (its : Array Value) (n : Nat), K.lookup a = some { cls := .type "list", data := .seq its n } ∧ its.size ≤ sizeLine ∧ L2.Vals xs its.toList
theorem FzL.sq {K : Fg} {H : Hp} {a : Addr} {xs : List V} (h : FzL K H a xs) : SqL K H a xs :=
  h.elim (fun z => .inl (.inr z)) fun ⟨its, n, e, z, r⟩ => .inr ⟨_, its, n, e, rfl, rfl, rfl, z, r⟩
/-- a list that may be read -/
def Ls (K : Fg) (H : Hp) (a : Addr) (xs : List V) : Prop := H a = some (.lst xs) ∨ FzL K H a xs
theorem Ls.sq {K : Fg} {H : Hp} {a : Addr} {xs : List V} (h : Ls K H a xs) : SqL K H a xs := h.elim (fun z => .inl (.inl z)) FzL.sq
theorem isl {X : Cx} {pins : List (Addr × Obj)} {σ : List (Option V)} {H : Hp} {s : Shared} {a : Addr} {xs : List V} (I : Inv X pins σ H s) (h : Ls X.K H a xs) :
    ∃ (its : List Value) (n : Nat), L2.Vals xs its ∧ IsL s.heap a its.toArray n ∧ its.length ≤ sizeLine ∧ xs.length = its.length := by
  rcases h with h | ⟨o, h⟩ | ⟨its, n, e, z, r⟩
  · obtain ⟨z, its, n, r, e⟩ := I.hok a _ h
    exact ⟨its, n, r, e, by rw [← r.length]; exact z, r.length⟩
  · obtain ⟨_, z, its, n, r, e⟩ := I.hok a _ h
    exact ⟨its, n, r, e, by rw [← r.length]; exact z, r.length⟩
  · exact ⟨its.toList, n, r, by simpa using I.kIn a _ e, by simpa using z, r.length⟩

/-- what stands fast -/
structure Stb (H H' : Hp) : Prop where
  tup : ∀ a xs, H a = some (.tup xs) → H' a = some (.tup xs)
  frz : ∀ a o u, H a = some (.frz o u) → H' a = some (.frz o u)
theorem Stb.refl (H : Hp) : Stb H H := ⟨fun _ _ h => h, fun _ _ _ h => h⟩
theorem Stb.trans {H H1 H2 : Hp} (a : Stb H H1) (b : Stb H1 H2) : Stb H H2 := ⟨fun p xs h => b.tup p xs (a.tup p xs h), fun p o u h => b.frz p o u (a.frz p o u h)⟩
theorem Stb.sqT {K : Fg} {H H' : Hp} {a : Addr} {xs : List V} (s : Stb H H') (h : SqT K H a xs) : SqT K H' a xs := by
  rcases h with (h | ⟨o, h⟩) | h
  · exact .inl (.inl (s.tup _ _ h))
  · exact .inl (.inr ⟨o, s.frz _ _ _ h⟩)
  · exact .inr h
theorem Stb.fzL {K : Fg} {H H' : Hp} {a : Addr} {xs : List V} (s : Stb H H') (h : FzL K H a xs) : FzL K H' a xs := by
  rcases h with ⟨o, h⟩ | h
  · exact .inl ⟨o, s.frz _ _ _ h⟩
  · exact .inr h

section
variable (K : Fg) (H : Hp)
mutual
/-- frozen data -/
def Rf : D → V → Prop
  | .non, v => v = .non
  | .bl b, v => v = .bl b
  | .int i, v => v = .int i
  | .str s, v => v = .str s
  | .tup ds, v => ∃ a xs, v = .ref a ∧ SqT K H a xs ∧ Rfs ds xs
  | .lst ds, v => ∃ a xs, v = .ref a ∧ FzL K H a xs ∧ Rfs ds xs
  | .dic _, _ => False
def Rfs : List D → List V → Prop
  | [], xs => xs = []
  | d :: ds, xs => ∃ x r, xs = x :: r ∧ Rf d x ∧ Rfs ds r
end
/-- data of which the lists to depth n are one owner's alone; S: at least all these lists -/
def Rep : Nat → D → V → AS → Prop
  | 0, d, v, _ => Rf K H d v
  | n + 1, d, v, S => match d with
    | .lst ds => ∃ a xs, ∃ G : FS, v = .ref a ∧ H a = some (.lst xs) ∧ S a ∧ ds.length = xs.length ∧ (∀ k b, G k b → S b ∧ b ≠ a) ∧ (∀ j k b, G j b → G k b → j = k) ∧
        ∀ k d x, ds[k]? = some d → xs[k]? = some x → Rep n d x (G k)
    | .dic _ => False
    | d => Rf K H d v
end
/-- owned addresses hold lists -/
def Own (H : Hp) (S : AS) : Prop := ∀ a, S a → ∃ xs, H a = some (.lst xs)

section
variable {K : Fg} {H H' : Hp}
mutual
theorem Rf.stb (s : Stb H H') : ∀ (d : D) (v : V), Rf K H d v → Rf K H' d v
  | .non, _, h => h
  | .bl _, _, h => h
  | .int _, _, h => h
  | .str _, _, h => h
  | .tup ds, v, h => by
    simp only [Rf] at h ⊢
    obtain ⟨a, xs, e, h1, h2⟩ := h
    exact ⟨a, xs, e, s.sqT h1, Rfs.stb s ds xs h2⟩
  | .lst ds, v, h => by
    simp only [Rf] at h ⊢
    obtain ⟨a, xs, e, h1, h2⟩ := h
    exact ⟨a, xs, e, s.fzL h1, Rfs.stb s ds xs h2⟩
  | .dic _, _, h => by simp only [Rf] at h
theorem Rfs.stb (s : Stb H H') : ∀ (ds : List D) (xs : List V), Rfs K H ds xs → Rfs K H' ds xs
  | [], _, h => by simp only [Rfs] at h ⊢; exact h
  | d :: ds, xs, h => by
    simp only [Rfs] at h ⊢
    obtain ⟨x, r, e, h1, h2⟩ := h
    exact ⟨x, r, e, Rf.stb s d x h1, Rfs.stb s ds r h2⟩
end
theorem Rfs.iff : ∀ {ds : List D} {xs : List V}, Rfs K H ds xs ↔ ds.length = xs.length ∧ ∀ (k : Nat) d x, ds[k]? = some d → xs[k]? = some x → Rf K H d x
  | [], xs => by
    simp only [Rfs]
    constructor
    · rintro rfl
      exact ⟨rfl, fun k d x h => by simp at h⟩
    · rintro ⟨h, _⟩
      exact List.length_eq_zero_iff.mp h.symm
  | d :: ds, xs => by
    simp only [Rfs]
    constructor
    · rintro ⟨x, r, rfl, h1, h2⟩
      obtain ⟨h3, h4⟩ := Rfs.iff.mp h2
      refine ⟨by simp [h3], fun k d' x' e1 e2 => ?_⟩
      cases k with
      | zero => simp at e1 e2; subst e1 e2; exact h1
      | succ k => exact h4 k d' x' (by simpa using e1) (by simpa using e2)
    · rintro ⟨h1, h2⟩
      cases xs with
      | nil => simp at h1
      | cons x r =>
        exact ⟨x, r, rfl, h2 0 d x rfl rfl, Rfs.iff.mpr ⟨by simpa using h1, fun k d' x' e1 e2 => h2 (k + 1) d' x' (by simpa using e1) (by simpa using e2)⟩⟩
theorem Rep.frz0 {d : D} {v : V} {S : AS} : Rep K H 0 d v S ↔ Rf K H d v := by simp only [Rep]
theorem Rep.of_leaf {n : Nat} {d : D} {v : V} {S : AS} (hl : d.leaf = true) : Rep K H n d v S ↔ Rf K H d v := by
  cases n with
  | zero => simp only [Rep]
  | succ n => cases d <;> first | (exfalso; revert hl; simp [D.leaf]; done) | (simp only [Rep]; done)
theorem Rep.lstS {n : Nat} {ds : List D} {v : V} {S : AS} : Rep K H (n + 1) (.lst ds) v S ↔ ∃ a xs, ∃ G : FS, v = .ref a ∧ H a = some (.lst xs) ∧ S a ∧ ds.length = xs.length ∧ (∀ k b, G k b → S b ∧ b ≠ a) ∧ (∀ j k b, G j b → G k b → j = k) ∧
        ∀ k d x, ds[k]? = some d → xs[k]? = some x → Rep K H n d x (G k) := by simp only [Rep]
/-- kept where the owned lists and all that stands fast are kept -/
theorem Rep.keep (s : Stb H H') : ∀ {n : Nat} {d : D} {v : V} {S : AS}, (∀ a xs, S a → H a = some (.lst xs) → H' a = some (.lst xs)) → Rep K H n d v S → Rep K H' n d v S
  | 0, d, v, S, _, h => by simp only [Rep] at h ⊢; exact Rf.stb s d v h
  | n + 1, d, v, S, k, h => by
    cases d with
    | lst ds =>
      rw [Rep.lstS] at h ⊢
      obtain ⟨a, xs, G, e, h1, h2, h3, h4, h5, h6⟩ := h
      exact ⟨a, xs, G, e, k a xs h2 h1, h2, h3, h4, h5, fun j d x e1 e2 => Rep.keep s (fun b ys hb => k b ys (h4 j b hb).1) (h6 j d x e1 e2)⟩
    | dic _ => simp only [Rep] at h
    | _ => simp only [Rep] at h ⊢; exact Rf.stb s _ v h
theorem Rep.mono : ∀ {n : Nat} {d : D} {v : V} {S S' : AS}, (∀ a, S a → S' a) → Rep K H n d v S → Rep K H n d v S'
  | 0, d, v, S, _, _, h => by simp only [Rep] at h ⊢; exact h
  | n + 1, d, v, S, S', k, h => by
    cases d with
    | lst ds =>
      rw [Rep.lstS] at h ⊢
      obtain ⟨a, xs, G, e, h1, h2, h3, h4, h5, h6⟩ := h
      exact ⟨a, xs, G, e, h1, k a h2, h3, fun j b hb => ⟨k b (h4 j b hb).1, (h4 j b hb).2⟩, h5, h6⟩
    | dic _ => simp only [Rep] at h
    | _ => simp only [Rep] at h ⊢; exact h
end

section
variable {K : Fg} {H : Hp}
theorem Rf.lst {ds : List D} {v : V} : Rf K H (.lst ds) v ↔ ∃ a xs, v = .ref a ∧ FzL K H a xs ∧ Rfs K H ds xs := by simp only [Rf]
theorem Rf.tup {ds : List D} {v : V} : Rf K H (.tup ds) v ↔ ∃ a xs, v = .ref a ∧ SqT K H a xs ∧ Rfs K H ds xs := by simp only [Rf]
/-- a list, to be read -/
theorem Rep.lst {n : Nat} {ds : List D} {v : V} {S : AS} (h : Rep K H n (.lst ds) v S) : ∃ a xs, v = .ref a ∧ Ls K H a xs ∧ ds.length = xs.length ∧
    ∃ G : FS, (∀ k b, G k b → S b) ∧ ∀ k d x, ds[k]? = some d → xs[k]? = some x → Rep K H (n - 1) d x (G k) := by
  cases n with
  | zero =>
    simp only [Rep, Rf] at h
    obtain ⟨a, xs, e, f, r⟩ := h
    obtain ⟨h1, h2⟩ := Rfs.iff.mp r
    exact ⟨a, xs, e, .inr f, h1, fun _ _ => False, fun _ _ z => z.elim, fun k d x e1 e2 => Rep.frz0.mpr (h2 k d x e1 e2)⟩
  | succ n =>
    rw [Rep.lstS] at h
    obtain ⟨a, xs, G, e, h1, h2, h3, h4, h5, h6⟩ := h
    exact ⟨a, xs, e, .inl h1, h3, G, fun k b z => (h4 k b z).1, h6⟩
theorem Rep.tup {n : Nat} {ds : List D} {v : V} {S : AS} (h : Rep K H n (.tup ds) v S) : ∃ a xs, v = .ref a ∧ SqT K H a xs ∧ Rfs K H ds xs := by
  rw [Rep.of_leaf rfl] at h
  simpa only [Rf] using h
theorem Rep.int {n : Nat} {i : Int} {v : V} {S : AS} (h : Rep K H n (.int i) v S) : v = .int i := by rw [Rep.of_leaf rfl] at h; simpa only [Rf] using h
theorem Rep.bl {n : Nat} {b : Bool} {v : V} {S : AS} (h : Rep K H n (.bl b) v S) : v = .bl b := by rw [Rep.of_leaf rfl] at h; simpa only [Rf] using h
theorem Rep.str {n : Nat} {x : Str} {v : V} {S : AS} (h : Rep K H n (.str x) v S) : v = .str x := by rw [Rep.of_leaf rfl] at h; simpa only [Rf] using h
theorem Rep.non {n : Nat} {v : V} {S : AS} (h : Rep K H n .non v S) : v = .non := by rw [Rep.of_leaf rfl] at h; simpa only [Rf] using h
theorem Rep.nodic {n : Nat} {k : List (D × D)} {v : V} {S : AS} (h : Rep K H n (.dic k) v S) : False := by
  cases n with
  | zero => simp only [Rep, Rf] at h
  | succ n => simp only [Rep] at h
/-- a list all of whose items are frozen -/
theorem Rep.lst1 {n : Nat} {ds : List D} {v : V} {S : AS} (h : Rep K H n (.lst ds) v S) (hn : n ≤ 1) : ∃ a xs, v = .ref a ∧ Ls K H a xs ∧ Rfs K H ds xs := by
  obtain ⟨a, xs, e, l, h1, G, _, h2⟩ := h.lst
  refine ⟨a, xs, e, l, Rfs.iff.mpr ⟨h1, fun k d x e1 e2 => ?_⟩⟩
  have := h2 k d x e1 e2
  rw [show n - 1 = 0 by omega] at this
  simpa only [Rep] using this
/-- a new list of frozen items -/
theorem Rep.mk1 {ds : List D} {a : Addr} {xs : List V} (h : H a = some (.lst xs)) (r : Rfs K H ds xs) : Rep K H 1 (.lst ds) (.ref a) fun b => b = a := by
  rw [Rep.lstS]
  obtain ⟨h1, h2⟩ := Rfs.iff.mp r
  exact ⟨a, xs, fun _ _ => False, rfl, h, rfl, h1, fun _ _ z => z.elim, fun _ _ _ z => z.elim, fun k d x e1 e2 => by simpa only [Rep] using h2 k d x e1 e2⟩
theorem Rfs.app : ∀ {ds es : List D} {xs ys : List V}, Rfs K H ds xs → Rfs K H es ys → Rfs K H (ds ++ es) (xs ++ ys)
  | [], es, xs, ys, h, h' => by simp only [Rfs] at h; subst h; exact h'
  | d :: ds, es, xs, ys, h, h' => by
    simp only [Rfs] at h
    obtain ⟨x, r, rfl, h1, h2⟩ := h
    show Rfs K H (d :: (ds ++ es)) (x :: (r ++ ys))
    simp only [Rfs]
    exact ⟨x, _, rfl, h1, Rfs.app h2 h'⟩
theorem Rfs.len {ds : List D} {xs : List V} (h : Rfs K H ds xs) : ds.length = xs.length := (Rfs.iff.mp h).1
theorem Rfs.rep {ds : List D} {xs : List V} (h : Rfs K H ds xs) : ∀ n : Nat, Rfs K H (List.replicate n ds).flatten (List.replicate n xs).flatten
  | 0 => by simp only [List.replicate, List.flatten_nil, Rfs]
  | n + 1 => by simp only [List.replicate, List.flatten_cons]; exact h.app (h.rep n)
end

/-! ### what an evaluation leaves -/
abbrev TrOk (ps : Array Value) : Prop := TriplesOk ps.toList
structure Pres (T : AS) (H H' : Hp) : Prop where
  kee : ∀ a o, H a = some o → (∀ ps, o ≠ .tbl ps) → ¬ T a → H' a = some o
  tbl : ∀ a ps, H a = some (.tbl ps) → ∃ ps', H' a = some (.tbl ps') ∧ (TrOk ps → TrOk ps')
theorem Pres.refl (T : AS) (H : Hp) : Pres T H H := ⟨fun _ _ h _ _ => h, fun _ ps h => ⟨ps, h, id⟩⟩
theorem Pres.mono {T T' : AS} {H H' : Hp} (h : ∀ a, T a → T' a) (p : Pres T H H') : Pres T' H H' := ⟨fun a o e n t => p.kee a o e n fun z => t (h a z), p.tbl⟩
theorem Pres.stb {T : AS} {H H' : Hp} (p : Pres T H H') (o : Own H T) : Stb H H' :=
  ⟨fun a xs h => p.kee a _ h (fun _ z => (by cases z)) fun t => (by obtain ⟨ys, e⟩ := o a t; rw [h] at e; cases e),
   fun a ob u h => p.kee a _ h (fun _ z => (by cases z)) fun t => (by obtain ⟨ys, e⟩ := o a t; rw [h] at e; cases e)⟩
theorem Pres.lst {T : AS} {H H' : Hp} (p : Pres T H H') {a : Addr} {xs : List V} (h : H a = some (.lst xs)) (t : ¬ T a) : H' a = some (.lst xs) := p.kee a _ h (fun _ z => (by cases z)) t

/-- the tables of the code objects that K holds -/
def TK (K : Fg) (P : Addr) : Prop := ∃ c, PySem.W.codeHdIn K c P = true
def Tabs (K : Fg) (H : Hp) : Prop := ∀ P, TK K P → ∃ ps : Array Value, H P = some (.tbl ps) ∧ TrOk ps
theorem Tabs.pres {K : Fg} {T : AS} {H H' : Hp} (h : Tabs K H) (p : Pres T H H') : Tabs K H' := fun P k => by
  obtain ⟨ps, e, t⟩ := h P k
  obtain ⟨ps', e', t'⟩ := p.tbl P ps e
  exact ⟨ps', e', t' t⟩
/-- the slots -/
structure REnv (K : Fg) (H : Hp) (σ : Sg) (ρ : Env) (F : FS) : Prop where
  len : ρ.length = σ.length
  dis : ∀ i j a, F i a → F j a → i = j
  own : ∀ i, Own H (F i)
  val : ∀ i w, gt ρ i = some w → ∃ v, σ[i]? = some (some v) ∧ Rep K H w.2 w.1 v (F i)
  tab : Tabs K H

def TF (t : List Nat) (F : FS) : AS := fun a => ∃ i, i ∈ t ∧ F i a
theorem TF.own {K : Fg} {H : Hp} {σ : Sg} {ρ : Env} {F : FS} (h : REnv K H σ ρ F) (t : List Nat) : Own H (TF t F) := fun a ⟨i, _, hi⟩ => h.own i a hi

/-- from (H, σ, ρ, F) to (H', σ', ρ', F'): t the slots whose values may have changed, s those that were stored to -/
structure Po (K : Fg) (t s : List Nat) (H : Hp) (σ : Sg) (ρ : Env) (F : FS) (H' : Hp) (σ' : Sg) (ρ' : Env) (F' : FS) : Prop where
  env : REnv K H' σ' ρ' F'
  kee : ∀ i, i ∉ t → gt ρ' i = gt ρ i ∧ ∀ a, F' i a ↔ F i a
  sig : ∀ i : Nat, i ∉ s → σ'[i]? = σ[i]?
  len : σ'.length = σ.length
  new : ∀ i a, F' i a → H a = none ∨ F i a ∨ TF t F a
  pre : Pres (TF t F) H H'
section
variable {K : Fg} {t t1 t2 s s1 s2 : List Nat} {H H1 H2 : Hp} {σ σ1 σ2 : Sg} {ρ ρ1 ρ2 : Env} {F F1 F2 : FS}
theorem Po.refl (h : REnv K H σ ρ F) : Po K t s H σ ρ F H σ ρ F := ⟨h, fun _ _ => ⟨rfl, fun _ => Iff.rfl⟩, fun _ _ => rfl, rfl, fun _ _ h => .inr (.inl h), .refl _ _⟩
theorem Po.sub (h : Po K t1 s1 H σ ρ F H1 σ1 ρ1 F1) (ht : ∀ i, i ∈ t1 → i ∈ t2) (hs : ∀ i, i ∈ s1 → i ∈ s2) : Po K t2 s2 H σ ρ F H1 σ1 ρ1 F1 :=
  ⟨h.env, fun i n => h.kee i fun z => n (ht i z), fun i n => h.sig i fun z => n (hs i z), h.len, fun i a z => (h.new i a z).imp_right fun q => q.imp_right fun ⟨j, hj, q⟩ => ⟨j, ht j hj, q⟩,
   h.pre.mono fun a ⟨j, hj, q⟩ => ⟨j, ht j hj, q⟩⟩
theorem none_lst {H : Hp} {a : Addr} {xs : List V} (h : H a = some (.lst xs)) (n : H a = none) : False := by rw [h] at n; cases n
/-- what is owned behind a step, seen from ahead of it -/
theorem Po.tf (hE : REnv K H σ ρ F) (a : Po K t s H σ ρ F H1 σ1 ρ1 F1) {b : Addr} (h : TF t F1 b) : H b = none ∨ TF t F b := by
  obtain ⟨j, hj, q⟩ := h
  rcases a.new j b q with z | z | z
  · exact .inl z
  · exact .inr ⟨j, hj, z⟩
  · exact .inr z
theorem Po.trans (hE : REnv K H σ ρ F) (a : Po K t s H σ ρ F H1 σ1 ρ1 F1) (b : Po K t s H1 σ1 ρ1 F1 H2 σ2 ρ2 F2) : Po K t s H σ ρ F H2 σ2 ρ2 F2 where
  env := b.env
  kee := fun i n => ⟨(b.kee i n).1.trans (a.kee i n).1, fun x => ((b.kee i n).2 x).trans ((a.kee i n).2 x)⟩
  sig := fun i n => (b.sig i n).trans (a.sig i n)
  len := b.len.trans a.len
  new := fun i x h => by
    have lift : F1 i x ∨ TF t F1 x → H x = none ∨ F i x ∨ TF t F x := fun h => by
      rcases h with z | z
      · exact a.new i x z
      · rcases a.tf hE z with y | y
        · exact .inl y
        · exact .inr (.inr y)
    rcases b.new i x h with z | z
    · by_cases q : H x = none
      · exact .inl q
      · cases e : H x with
        | none => exact absurd e q
        | some o =>
          by_cases hT : TF t F x
          · exact .inr (.inr hT)
          · cases o with
            | tbl ps =>
              obtain ⟨ps', e1, _⟩ := a.pre.tbl x ps e
              rw [e1] at z; cases z
            | _ => exact absurd z (by rw [a.pre.kee x _ e (fun _ y => (by cases y)) hT]; simp)
    · exact lift z
  pre := ⟨fun x o e n hT => by
    refine b.pre.kee x o (a.pre.kee x o e n hT) n fun h => ?_
    rcases a.tf hE h with z | z
    · rw [z] at e; cases e
    · exact hT z,
    fun x ps e => by
      obtain ⟨ps1, e1, hp1⟩ := a.pre.tbl x ps e
      obtain ⟨ps2, e2, hp2⟩ := b.pre.tbl x ps1 e1
      exact ⟨ps2, e2, fun z => hp2 (hp1 z)⟩⟩
end
end Q
end
section
set_option Elab.async false
set_option linter.all false
set_option maxHeartbeats 1000000
/-! QD: readings by values: VT, its kin, and what they rest on. -/
namespace Q
open PySem PySem.Spec PyProof.Rows
open L2 (V Hp HO TE TT TA TS VK upd SqL SqT Rd Inv Cx PE PA PT)

/-- where the owned lists of a value lie: apart from all slots, or within slot i's -/
def Plc (t : List Nat) (r : Option Nat) (H : Hp) (F F' : FS) (S : AS) : Prop :=
  match r with
  | none => (∀ i a, S a → ¬ F' i a) ∧ ∀ a, S a → H a = none ∨ TF t F a
  | some i => ∀ a, S a → F' i a
structure Pv (K : Fg) (t : List Nat) (r : Option Nat) (H : Hp) (F : FS) (H' : Hp) (F' : FS) (w : W) (v : V) (S : AS) : Prop where
  rep : Rep K H' w.2 w.1 v S
  own : Own H' S
  plc : Plc t r H F F' S
section
variable {K : Fg} {t t1 t2 s s1 s2 : List Nat} {r : Option Nat} {H H1 H2 : Hp} {σ σ1 σ2 : Sg} {ρ ρ1 ρ2 : Env} {F F1 F2 : FS} {w : W} {v : V} {S : AS}
/-- a value that needs nothing owned -/
theorem Pv.frz (h : Rep K H1 w.2 w.1 v fun _ => False) : Pv K t none H F H1 F1 w v fun _ => False := ⟨h, fun _ z => z.elim, fun _ _ z => z.elim, fun _ z => z.elim⟩
theorem Pv.rf {d : D} (h : Rf K H1 d v) : Pv K t none H F H1 F1 (d, 0) v fun _ => False := Pv.frz (by simp only [Rep]; exact h)
theorem Pv.sub (h : Pv K t1 r H F H1 F1 w v S) (ht : ∀ i, i ∈ t1 → i ∈ t2) : Pv K t2 r H F H1 F1 w v S := by
  refine ⟨h.rep, h.own, ?_⟩
  have p := h.plc
  cases r with
  | none => exact ⟨p.1, fun a z => (p.2 a z).imp_right fun ⟨j, hj, q⟩ => ⟨j, ht j hj, q⟩⟩
  | some i => exact p
/-- S is apart from what a step may change -/
theorem Pv.apart (h : Pv K t1 r H F H1 F1 w v S) (hE : REnv K H1 σ1 ρ1 F1) (hr : ∀ i, r = some i → i ∉ t2) : ∀ a, S a → ¬ TF t2 F1 a := by
  intro a ha ⟨j, hj, q⟩
  have p := h.plc
  cases r with
  | none => exact p.1 j a ha q
  | some i =>
    have := hE.dis i j a (p a ha) q
    exact hr i rfl (this ▸ hj)
/-- an earlier value behind a further step -/
theorem Pv.move (h : Pv K t r H F H1 F1 w v S) (hE : REnv K H1 σ1 ρ1 F1) (b : Po K t2 s H1 σ1 ρ1 F1 H2 σ2 ρ2 F2) (hr : ∀ i, r = some i → i ∉ t2) : Pv K t r H F H2 F2 w v S := by
  have ap := h.apart (t2 := t2) hE hr
  have keep : ∀ a xs, S a → H1 a = some (.lst xs) → H2 a = some (.lst xs) := fun a xs ha e => b.pre.lst e (ap a ha)
  refine ⟨Rep.keep (b.pre.stb (TF.own hE t2)) keep h.rep, fun a ha => let ⟨xs, e⟩ := h.own a ha; ⟨xs, keep a xs ha e⟩, ?_⟩
  have p := h.plc
  cases r with
  | none =>
    refine ⟨fun i a ha q => ?_, p.2⟩
    rcases b.new i a q with z | z | z
    · obtain ⟨xs, e⟩ := h.own a ha
      exact none_lst e z
    · exact p.1 i a ha z
    · exact ap a ha z
  | some i => exact fun a ha => ((b.kee i (hr i rfl)).2 a).mpr (p a ha)
/-- the same value, seen from further ahead -/
theorem Pv.back (hE : REnv K H σ ρ F) (a : Po K t s H σ ρ F H1 σ1 ρ1 F1) (h : Pv K t r H1 F1 H2 F2 w v S) : Pv K t r H F H2 F2 w v S := by
  refine ⟨h.rep, h.own, ?_⟩
  have p := h.plc
  cases r with
  | none =>
    refine ⟨p.1, fun b hb => ?_⟩
    rcases p.2 b hb with z | z
    · cases e : H b with
      | none => exact .inl rfl
      | some o =>
        by_cases hT : TF t F b
        · exact .inr hT
        · cases o with
          | tbl ps =>
            obtain ⟨ps', e1, _⟩ := a.pre.tbl b ps e
            rw [e1] at z; cases z
          | _ => exact absurd z (by rw [a.pre.kee b _ e (fun _ y => (by cases y)) hT]; simp)
    · exact a.tf hE z
  | some i => exact p
/-- two fresh values are apart -/
theorem Pv.disj {w' : W} {v' : V} {S' : AS} {σ1 : Sg} {ρ1 : Env} {F2' : FS} {H2' : Hp} (h : Pv K t r H F H1 F1 w v S) (hE : REnv K H1 σ1 ρ1 F1) (hr : ∀ i, r = some i → i ∉ t2) (h' : Pv K t2 none H1 F1 H2' F2' w' v' S') : ∀ a, S a → ¬ S' a := by
  intro a ha hb
  rcases h'.plc.2 a hb with z | z
  · obtain ⟨xs, e⟩ := h.own a ha
    exact none_lst e z
  · exact h.apart hE hr a ha z
end

/-! ### readings -/
def VT (K : Fg) (t : List Nat) (r : Option Nat) (f : Env → R W) : TE := fun σ H Q => ∃ ρ F w ρ', REnv K H σ ρ F ∧ f ρ = .ok w ρ' ∧
  ∀ v H' F' S, Po K t [] H σ ρ F H' σ ρ' F' → Pv K t r H F H' F' w v S → Q v H'
def BT (K : Fg) (t : List Nat) (f : Env → R Bool) : TT := fun σ H Q => ∃ ρ F b ρ', REnv K H σ ρ F ∧ f ρ = .ok b ρ' ∧
  ∀ H' F', Po K t [] H σ ρ F H' σ ρ' F' → Q b H'
/-- several values: each apart from the others -/
structure Pvs (K : Fg) (t : List Nat) (H : Hp) (F : FS) (H' : Hp) (F' : FS) (ws : List W) (vs : List V) (G : FS) : Prop where
  len : ws.length = vs.length
  val : ∀ (k : Nat) w v, ws[k]? = some w → vs[k]? = some v → Pv K t none H F H' F' w v (G k)
  dis : ∀ j k a, G j a → G k a → j = k
  bnd : ∀ k, ws.length ≤ k → ∀ a, ¬ G k a
def AT (K : Fg) (t : List Nat) (f : Env → R (List W)) : TA := fun σ H Q => ∃ ρ F ws ρ', REnv K H σ ρ F ∧ f ρ = .ok ws ρ' ∧
  ∀ vs H' F' G, Po K t [] H σ ρ F H' σ ρ' F' → Pvs K t H F H' F' ws vs G → Q vs H'
theorem bd_ok {α β : Type} {x : R α} {f : α → Env → R β} {b : β} {ρ : Env} (h : bd x f = .ok b ρ) : ∃ a ρ1, x = .ok a ρ1 ∧ f a ρ1 = .ok b ρ := by
  cases x with
  | ok a ρ1 => exact ⟨a, ρ1, rfl, h⟩
  | ex _ _ => cases h
  | no => cases h
theorem PE_imp {X : Cx} {e : Expr} {t u : TE} (h : PE X e t) (i : ∀ σ H Q, u σ H Q → t σ H Q) : PE X e u := ⟨fun pins s σ H Q I q => h.run pins s σ H Q I (i σ H Q q)⟩
theorem PT_imp {X : Cx} {e : Expr} {t u : TT} (h : PT X e t) (i : ∀ σ H Q, u σ H Q → t σ H Q) : PT X e u := ⟨fun pins s σ H Q I q => h.run pins s σ H Q I (i σ H Q q)⟩
theorem PA_imp {X : Cx} {es : List Expr} {t u : TA} (h : PA X es t) (i : ∀ σ H Q, u σ H Q → t σ H Q) : PA X es u := ⟨fun pos pins s σ H Q I q => h.run pos pins s σ H Q I (i σ H Q q)⟩
theorem PS_imp {X : Cx} {st : Stmt} {t u : TS} (h : L2.PS X st t) (i : ∀ D σ H, u D σ H → t D σ H) : L2.PS X st u := ⟨fun pins s σ H D I q => h.run pins s σ H D I (i D σ H q)⟩
theorem PSs_imp {X : Cx} {st : List Stmt} {t u : TS} (h : L2.PSs X st t) (i : ∀ D σ H, u D σ H → t D σ H) : L2.PSs X st u := ⟨fun pins s σ H D I q => h.run pins s σ H D I (i D σ H q)⟩

/-! ### ghost steps: lists freeze -/
inductive Gh (R : Hp → Prop) : Hp → Prop where
  | done {H : Hp} : R H → Gh R H
  | frz {H : Hp} {a : Addr} {xs : List V} : H a = some (.lst xs) → (∀ o, Gh R (upd H a (.frz o (.lst xs)))) → Gh R H
theorem Gh.imp {R R' : Hp → Prop} (i : ∀ H, R H → R' H) : ∀ {H : Hp}, Gh R H → Gh R' H
  | _, .done h => .done (i _ h)
  | _, .frz e k => .frz e fun o => (k o).imp i
theorem Gh.bind {R R' : Hp → Prop} (i : ∀ H, R H → Gh R' H) : ∀ {H : Hp}, Gh R H → Gh R' H
  | _, .done h => i _ h
  | _, .frz e k => .frz e fun o => (k o).bind i
theorem inv_frz {X : Cx} {pins : List (Addr × Obj)} {σ : Sg} {H : Hp} {s : Shared} {a : Addr} {xs : List V} (I : Inv X pins σ H s) (e : H a = some (.lst xs)) : ∃ o, Inv X pins σ (upd H a (.frz o (.lst xs))) s := by
  obtain ⟨z, its, n, r, h⟩ := I.hok a _ e
  refine ⟨_, I.write (o := .frz { cls := .type "list", data := .seq its.toArray n } (.lst xs)) (t' := s.toks) (h' := s.heap) (by rw [e]; trivial) (.inl rfl) (fun _ _ _ q => q) ⟨_, h⟩ ?_⟩
  exact ⟨h, z, its, n, r, h⟩
theorem inv_gh {X : Cx} {pins : List (Addr × Obj)} {σ : Sg} {R : Hp → Prop} {s : Shared} : ∀ {H : Hp}, Inv X pins σ H s → Gh R H → ∃ H', Inv X pins σ H' s ∧ R H'
  | H, I, .done h => ⟨H, I, h⟩
  | _, I, .frz e k => by
    obtain ⟨o, J⟩ := inv_frz I e
    exact inv_gh J (k o)
theorem pe_gh {X : Cx} {e : Expr} {t : TE} (h : PE X e t) : PE X e fun σ H Q => t σ H fun v H1 => Gh (Q v) H1 := ⟨fun pins s σ H Q I q =>
  L2.thn (h.run pins s σ H _ I q) fun u s1 ⟨v, H1, I1, r, g⟩ => let ⟨H2, I2, q2⟩ := inv_gh I1 g; ⟨v, H2, I2, r, q2⟩⟩
theorem pa_gh {X : Cx} {es : List Expr} {t : TA} (h : PA X es t) : PA X es fun σ H Q => t σ H fun v H1 => Gh (Q v) H1 := ⟨fun pos pins s σ H Q I q =>
  L2.thn (h.run pos pins s σ H _ I q) fun u s1 ⟨v, H1, I1, r, g⟩ => let ⟨H2, I2, q2⟩ := inv_gh I1 g; ⟨v, H2, I2, r, q2⟩⟩

/-- only lists within S froze -/
structure Fz (S : AS) (H H' : Hp) : Prop where
  out : ∀ a, ¬ S a → H' a = H a
  ins : ∀ a, S a → H' a = H a ∨ ∃ xs o, H a = some (.lst xs) ∧ H' a = some (.frz o (.lst xs))
theorem Fz.refl (S : AS) (H : Hp) : Fz S H H := ⟨fun _ _ => rfl, fun _ _ => .inl rfl⟩
theorem Fz.mono {S S' : AS} {H H' : Hp} (h : ∀ a, S a → S' a) (z : Fz S H H') : Fz S' H H' := ⟨fun a n => z.out a fun q => n (h a q), fun a _ => by
  by_cases q : S a
  · exact z.ins a q
  · exact .inl (z.out a q)⟩
theorem Fz.trans {S : AS} {H H1 H2 : Hp} (a : Fz S H H1) (b : Fz S H1 H2) : Fz S H H2 := ⟨fun x n => (b.out x n).trans (a.out x n), fun x hx => by
  rcases a.ins x hx with e1 | ⟨xs, o, e1, e2⟩
  · rcases b.ins x hx with e3 | ⟨ys, p, e3, e4⟩
    · exact .inl (e3.trans e1)
    · exact .inr ⟨ys, p, by rw [← e1]; exact e3, e4⟩
  · rcases b.ins x hx with e3 | ⟨ys, p, e3, e4⟩
    · exact .inr ⟨xs, o, e1, by rw [e3]; exact e2⟩
    · rw [e2] at e3; cases e3⟩
theorem Fz.stb {S : AS} {H H' : Hp} (z : Fz S H H') : Stb H H' := by
  refine ⟨fun a xs h => ?_, fun a o u h => ?_⟩ <;>
  · by_cases q : S a
    · rcases z.ins a q with e | ⟨ys, p, e, _⟩
      · rw [e]; exact h
      · rw [h] at e; cases e
    · rw [z.out a q]; exact h
theorem Fz.pres {S : AS} {H H' : Hp} (z : Fz S H H') : Pres S H H' := ⟨fun a o h _ n => by rw [z.out a n]; exact h, fun a ps h => ⟨ps, by
  by_cases q : S a
  · rcases z.ins a q with e | ⟨ys, p, e, _⟩
    · rw [e]; exact h
    · rw [h] at e; cases e
  · rw [z.out a q]; exact h, id⟩⟩
theorem fz_upd {S : AS} {H : Hp} {a : Addr} {xs : List V} {o : Obj} (ha : S a) (e : H a = some (.lst xs)) : Fz S H (upd H a (.frz o (.lst xs))) := ⟨fun b n => L2.upd_ne fun z => n (z ▸ ha), fun b hb => by
  by_cases z : b = a
  · exact .inr ⟨xs, o, by rw [z]; exact e, by rw [z]; exact L2.upd_same⟩
  · exact .inl (L2.upd_ne z)⟩

/-- data freeze as a whole -/
theorem gh_rep {K : Fg} : ∀ (n : Nat) (d : D) (v : V) (S : AS) (H : Hp), Rep K H n d v S → Gh (fun H' => Rf K H' d v ∧ Fz S H H') H
  | 0, d, v, S, H, h => .done ⟨by simpa only [Rep] using h, Fz.refl _ _⟩
  | n + 1, .lst ds, v, S, H, h => by
    rw [Rep.lstS] at h
    obtain ⟨a, xs, G, rfl, h1, h2, h3, h4, h5, h6⟩ := h
    -- the items, the first k of them
    have items : ∀ k, k ≤ ds.length → Gh (fun H' => Fz (fun b => S b ∧ b ≠ a ∧ ∃ j, j < k ∧ G j b) H H' ∧ ∀ j d x, j < k → ds[j]? = some d → xs[j]? = some x → Rf K H' d x) H := by
      intro k
      induction k with
      | zero => exact fun _ => .done ⟨Fz.refl _ _, fun j d x hj => absurd hj (Nat.not_lt_zero _)⟩
      | succ k ih =>
        intro hk
        refine (ih (by omega)).bind fun H1 ⟨z1, q1⟩ => ?_
        obtain ⟨d, hd⟩ : ∃ d, ds[k]? = some d := ⟨_, List.getElem?_eq_getElem (by omega)⟩
        obtain ⟨x, hx⟩ : ∃ x, xs[k]? = some x := ⟨_, List.getElem?_eq_getElem (by omega)⟩
        have r1 : Rep K H1 n d x (G k) := Rep.keep z1.stb (fun b ys hb e => by
          rw [z1.out b fun ⟨_, _, j, hj, q⟩ => absurd (h5 j k b q hb) (by omega)]
          exact e) (h6 k d x hd hx)
        refine (gh_rep n d x (G k) H1 r1).imp fun H2 ⟨f2, z2⟩ => ⟨(z1.mono fun b ⟨y1, y2, j, hj, q⟩ => ⟨y1, y2, j, by omega, q⟩).trans (z2.mono fun b q => ⟨(h4 k b q).1, (h4 k b q).2, k, by omega, q⟩), fun j d' x' hj e1 e2 => ?_⟩
        by_cases hjk : j = k
        · subst hjk
          rw [hd] at e1; cases e1
          rw [hx] at e2; cases e2
          exact f2
        · exact Rf.stb z2.stb d' x' (q1 j d' x' (by omega) e1 e2)
    refine (items ds.length (Nat.le_refl _)).bind fun H1 ⟨z1, q1⟩ => ?_
    have e1 : H1 a = some (.lst xs) := by rw [z1.out a fun ⟨_, y, _⟩ => y rfl]; exact h1
    refine .frz e1 fun o => .done ⟨?_, (z1.mono fun b y => y.1).trans (fz_upd h2 e1)⟩
    simp only [Rf]
    refine ⟨a, xs, rfl, .inl ⟨o, L2.upd_same⟩, Rfs.iff.mpr ⟨h3, fun k d x e2 e3 => Rf.stb (fz_upd (S := S) h2 e1).stb d x (q1 k d x ?_ e2 e3)⟩⟩
    exact (List.getElem?_eq_some_iff.mp e2).1
  | n + 1, .dic _, v, S, H, h => by simp only [Rep] at h
  | n + 1, .non, v, S, H, h => .done ⟨by simpa only [Rep] using h, Fz.refl _ _⟩
  | n + 1, .bl _, v, S, H, h => .done ⟨by simpa only [Rep] using h, Fz.refl _ _⟩
  | n + 1, .int _, v, S, H, h => .done ⟨by simpa only [Rep] using h, Fz.refl _ _⟩
  | n + 1, .str _, v, S, H, h => .done ⟨by simpa only [Rep] using h, Fz.refl _ _⟩
  | n + 1, .tup _, v, S, H, h => .done ⟨by simpa only [Rep] using h, Fz.refl _ _⟩

/-- a step at which only lists within S froze, S apart from the slots -/
theorem Po.fz {K : Fg} {t s : List Nat} {H H1 H2 : Hp} {σ σ1 : Sg} {ρ ρ1 : Env} {F F1 : FS} {S : AS} (hE : REnv K H σ ρ F) (a : Po K t s H σ ρ F H1 σ1 ρ1 F1) (z : Fz S H1 H2) (hS : ∀ i b, S b → ¬ F1 i b) (hn : ∀ b, S b → H b = none ∨ TF t F b) :
    Po K t s H σ ρ F H2 σ1 ρ1 F1 where
  env := ⟨a.env.len, a.env.dis, fun i b hb => let ⟨xs, e⟩ := a.env.own i b hb; ⟨xs, by rw [z.out b fun q => hS i b q hb]; exact e⟩, fun i w e => by
    obtain ⟨v, e1, r⟩ := a.env.val i w e
    exact ⟨v, e1, Rep.keep z.stb (fun b xs hb e => by rw [z.out b fun q => hS i b q hb]; exact e) r⟩, a.env.tab.pres z.pres⟩
  kee := a.kee
  sig := a.sig
  len := a.len
  new := a.new
  pre := ⟨fun b o e n hT => by
      have e1 := a.pre.kee b o e n hT
      rw [z.out b fun q => ?_]
      · exact e1
      · rcases hn b q with y | y
        · rw [e] at y; cases y
        · exact hT y, fun b ps e => by
      obtain ⟨ps1, e1, h1⟩ := a.pre.tbl b ps e
      obtain ⟨ps2, e2, h2⟩ := z.pres.tbl b ps1 e1
      exact ⟨ps2, e2, fun q => h2 (h1 q)⟩⟩
end Q
end
section
set_option Elab.async false
set_option linter.all false
set_option maxHeartbeats 2000000
/-! QE: operators. -/
namespace Q
open PySem PySem.Spec PyProof.Rows
open L2 (V Hp HO TE TT TA TS VK upd SqL SqT Rd Inv Cx PE PA PT R2 OpR)

/-- a step that only adds objects -/
def Adds (H H' : Hp) : Prop := ∀ a o, H a = some o → H' a = some o
theorem Adds.refl (H : Hp) : Adds H H := fun _ _ h => h
theorem Adds.pres {H H' : Hp} (T : AS) (z : Adds H H') : Pres T H H' := ⟨fun a o h _ _ => z a o h, fun a ps h => ⟨ps, z a _ h, id⟩⟩
theorem Adds.stb {H H' : Hp} (z : Adds H H') : Stb H H' := ⟨fun a xs h => z a _ h, fun a o u h => z a _ h⟩
theorem Adds.upd {H : Hp} {p : Addr} {o : HO} (n : H p = none) : Adds H (upd H p o) := fun a u h => by rw [L2.upd_ne (L2.ne_of_none h n)]; exact h
/-- a fresh value behind a step that only adds -/
structure Nv (K : Fg) (H H' : Hp) (w : W) (v : V) (S : AS) : Prop where
  rep : Rep K H' w.2 w.1 v S
  own : Own H' S
  new : ∀ a, S a → H a = none
  add : Adds H H'
theorem Nv.flat {K : Fg} {H : Hp} {d : D} {v : V} (h : Rf K H d v) : Nv K H H (d, 0) v fun _ => False := ⟨Rep.frz0.mpr h, fun _ z => z.elim, fun _ z => z.elim, .refl _⟩
theorem Nv.lst1 {K : Fg} {H : Hp} {p : Addr} {ds : List D} {xs : List V} (n : H p = none) (r : Rfs K H ds xs) : Nv K H (upd H p (.lst xs)) (.lst ds, 1) (.ref p) fun b => b = p :=
  ⟨Rep.mk1 L2.upd_same (Rfs.stb (Adds.upd n).stb _ _ r), fun a e => ⟨xs, by rw [e]; exact L2.upd_same⟩, fun a e => e ▸ n, Adds.upd n⟩
theorem Nv.tup {K : Fg} {H : Hp} {p : Addr} {ds : List D} {xs : List V} (n : H p = none) (r : Rfs K H ds xs) : Nv K H (upd H p (.tup xs)) (.tup ds, 0) (.ref p) fun _ => False :=
  ⟨Rep.frz0.mpr (Rf.tup.mpr ⟨p, xs, rfl, .inl (.inl L2.upd_same), Rfs.stb (Adds.upd n).stb _ _ r⟩), fun _ z => z.elim, fun _ z => z.elim, Adds.upd n⟩
section
variable {K : Fg} {t s : List Nat} {H H1 H2 : Hp} {σ σ1 : Sg} {ρ ρ1 : Env} {F F1 : FS} {w : W} {v : V} {S : AS}
theorem REnv.adds (h : REnv K H1 σ1 ρ1 F1) (z : Adds H1 H2) : REnv K H2 σ1 ρ1 F1 :=
  ⟨h.len, h.dis, fun i a ha => let ⟨xs, e⟩ := h.own i a ha; ⟨xs, z a _ e⟩, fun i w e => let ⟨v, e1, r⟩ := h.val i w e; ⟨v, e1, Rep.keep z.stb (fun a xs _ q => z a _ q) r⟩, h.tab.pres (z.pres fun _ => False)⟩
theorem Po.adds (a : Po K t s H σ ρ F H1 σ1 ρ1 F1) (z : Adds H1 H2) : Po K t s H σ ρ F H2 σ1 ρ1 F1 :=
  ⟨a.env.adds z, a.kee, a.sig, a.len, a.new, ⟨fun b o e n h => z b o (a.pre.kee b o e n h), fun b ps e => let ⟨ps', e1, h1⟩ := a.pre.tbl b ps e; ⟨ps', z b _ e1, h1⟩⟩⟩
theorem Nv.pv (h : Nv K H1 H2 w v S) (hE : REnv K H σ ρ F) (a : Po K t s H σ ρ F H1 σ1 ρ1 F1) : Pv K t none H F H2 F1 w v S :=
  Pv.back hE a ⟨h.rep, h.own, fun i b hb q => let ⟨xs, e⟩ := a.env.own i b q; none_lst e (h.new b hb), fun b hb => .inl (h.new b hb)⟩
end

/-- a two-place operation on values -/
def RB (K : Fg) (sem : W → W → Option W) : R2 := fun x y H Q => ∃ wx wy S S' w, Rep K H wx.2 wx.1 x S ∧ Rep K H wy.2 wy.1 y S' ∧ sem wx wy = some w ∧ ∀ v H' T, Nv K H H' w v T → Q v H'
section
variable {X : Cx} {a b : Expr} {pos : Pos} {t1 t2 : List Nat} {r1 r2 : Option Nat} {f g : Env → R W} {sem : W → W → Option W}
theorem two {Z : V → V → Hp → VK → Prop} {σ : Sg} {H : Hp} {Q : VK} {K : Fg} (hr : ∀ i, r1 = some i → i ∉ t2)
    (h : VT K (t1 ++ t2) none (fun ρ => bd (f ρ) fun x ρ => bd (g ρ) fun y ρ => (match sem x y with
      | some w => .ok w ρ
      | none => .no)) σ H Q) (hz : ∀ x y H Q, RB K sem x y H Q → Z x y H Q) : L2.tOp Z (VT K t1 r1 f) (VT K t2 r2 g) σ H Q := by
  obtain ⟨ρ, F, w, ρ', hE, e, q⟩ := h
  obtain ⟨x, ρ1, e1, e⟩ := bd_ok e
  obtain ⟨y, ρ2, e2, e⟩ := bd_ok e
  refine ⟨ρ, F, x, ρ1, hE, e1, fun v1 H1 F1 S1 P1 V1 => ?_⟩
  refine ⟨ρ1, F1, y, ρ2, P1.env, e2, fun v2 H2 F2 S2 P2 V2 => ?_⟩
  have V1' := V1.move P1.env P2 hr
  cases hs : sem x y with
  | none => rw [hs] at e; cases e
  | some w' =>
    rw [hs] at e
    cases e
    have P := Po.trans hE (P1.sub (t2 := t1 ++ t2) (s2 := []) (fun i h => List.mem_append_left _ h) (fun _ h => h)) (P2.sub (t2 := t1 ++ t2) (s2 := []) (fun i h => List.mem_append_right _ h) (fun _ h => h))
    exact hz _ _ _ _ ⟨x, y, S1, S2, _, V1'.rep, V2.rep, hs, fun v H' T nv => q v H' F2 T (P.adds nv.add) (nv.pv hE P)⟩
theorem vt_bin {op : Operator} (ho : OpR X (binaryOp op) (RB X.K sem)) (ha : PE X a (VT X.K t1 r1 f)) (hb : PE X b (VT X.K t2 r2 g)) (hr : ∀ i, r1 = some i → i ∉ t2) :
    PE X (.BinOp a op b pos) (VT X.K (t1 ++ t2) none fun ρ => bd (f ρ) fun x ρ => bd (g ρ) fun y ρ => (match sem x y with
      | some w => .ok w ρ
      | none => .no)) :=
  PE_imp (L2.pe_op ho ha hb) fun σ H Q h => two hr h fun _ _ _ _ z => z
end

/-! ### the operators -/
theorem flatI {K : Fg} {H : Hp} {i : Int} {Q : VK} (q : ∀ v H' T, Nv K H H' (.int i, 0) v T → Q v H') : Q (.int i) H := q _ _ _ (.flat (by simp only [Rf]))
section
variable {X : Cx}
theorem inv_new {pins : List (Addr × Obj)} {σ : Sg} {H : Hp} {s : Shared} (I : Inv X pins σ H s) : H s.heap.objs.size = none := I.hok.fresh (Nat.le_refl _)
theorem op_catL : OpR X (binaryOp .Add) (fun x y H Q => ∃ l b xs zs, x = .ref l ∧ y = .ref b ∧ Ls X.K H l xs ∧ Ls X.K H b zs ∧ xs.length + zs.length ≤ sizeLine ∧ ∀ p, H p = none → Q (.ref p) (upd H p (.lst (xs ++ zs)))) := by
  intro pins s σ H x y v u Q I rx ry h
  obtain ⟨l, b, xs, zs, rfl, rfl, hH, hB, hz, q⟩ := h
  cases rx
  cases ry
  obtain ⟨its, n, r, e, hl, hl1⟩ := isl I hH
  obtain ⟨its2, n2, r2, e2, hl2, hl3⟩ := isl I hB
  refine PySem.P.add_list e e2 ?_ (by rw [List.size_toArray, List.size_toArray]; omega)
  have ea : its.toArray ++ its2.toArray = (its ++ its2).toArray := by simp
  rw [ea]
  refine ⟨.ref s.heap.objs.size, upd H s.heap.objs.size (.lst (xs ++ zs)), I.laid (t' := s.toks) (fun b u e => Heap.get?_push_of_some _ e) (Nat.le_refl _) ?_, rfl, q _ (inv_new I)⟩
  exact ⟨by rw [List.length_append]; exact hz, its ++ its2, 0, r.append r2, Heap.get?_push_size _ rfl⟩
theorem ob_add : OpR X (binaryOp .Add) (RB X.K addW) := by
  intro pins s σ H x y v u Q I rx ry h
  obtain ⟨wx, wy, S, S', w, hx, hy, hs, q⟩ := h
  obtain ⟨dx, nx⟩ := wx
  obtain ⟨dy, ny⟩ := wy
  have hx : Rep X.K H nx dx x S := hx
  have hy : Rep X.K H ny dy y S' := hy
  unfold addW at hs
  split at hs
  · rename_i i m j n e1 e2
    cases e1; cases e2; cases hs
    cases hx.int; cases hy.int
    exact L2.op_add pins s σ H _ _ v u Q I rx ry ⟨i, j, rfl, rfl, flatI q⟩
  · rename_i i m j n e1 e2
    cases e1; cases e2
    cases hx.str; cases hy.str
    split at hs
    · rename_i hz
      cases hs
      exact L2.op_add_str pins s σ H _ _ v u Q I rx ry ⟨i, j, rfl, rfl, hz, q _ _ _ (.flat (by simp only [Rf] <;> rfl))⟩
    · cases hs
  · rename_i i m j n e1 e2
    cases e1; cases e2
    obtain ⟨a, xs, rfl, tx, ix⟩ := hx.tup
    obtain ⟨b, ys, rfl, ty, iy⟩ := hy.tup
    split at hs
    · rename_i hz
      cases hs
      refine L2.op_catA pins s σ H _ _ v u Q I rx ry ⟨a, b, xs, ys, rfl, rfl, tx, ty, by rw [← ix.len, ← iy.len]; exact hz, fun e => ?_, fun _ e => ?_, fun _ _ p hp => q _ _ _ (.tup hp (ix.app iy))⟩
      · subst e
        have : i = [] := List.length_eq_zero_iff.mp ix.len
        subst this
        exact q _ _ _ (.flat (Rf.tup.mpr ⟨b, ys, rfl, ty, iy⟩))
      · subst e
        have : j = [] := List.length_eq_zero_iff.mp iy.len
        subst this
        refine q _ _ _ (.flat (Rf.tup.mpr ⟨a, xs, rfl, tx, ?_⟩))
        rw [List.append_nil]; exact ix
    · cases hs
  · rename_i i m j n e1 e2
    cases e1; cases e2
    split at hs
    · rename_i hz
      cases hs
      obtain ⟨a, xs, rfl, tx, ix⟩ := hx.lst1 hz.2.1
      obtain ⟨b, ys, rfl, ty, iy⟩ := hy.lst1 hz.2.2
      exact op_catL pins s σ H _ _ v u Q I rx ry ⟨a, b, xs, ys, rfl, rfl, tx, ty, by rw [← ix.len, ← iy.len]; exact hz.1, fun p hp => q _ _ _ (.lst1 hp (ix.app iy))⟩
    · cases hs
  · cases hs
end
end Q
end
section
set_option Elab.async false
set_option linter.all false
set_option maxRecDepth 100000
set_option maxHeartbeats 4000000
/-! QE2: more operators. -/
namespace Q
open PySem PySem.Spec PyProof.Rows
open L2 (V Hp HO TE TT TA TS VK upd SqL SqT Rd Inv Cx PE PA PT R2 OpR)
theorem tuple_mul_same (l : Addr) (items : Array Value) (n : Nat) (dd : Option Addr) (sl : Array (Option Value)) (x : Int) (u : Tok) (c0 : (decide (x < -(2 ^ 63)) || decide (x ≥ 2 ^ 63)) = false) (c1 : (items.isEmpty || x == 1) = true) :
    Meets (Builtin.«tuple.__mul__» ⟨[.ref l, .int x u], []⟩) (fun _ R s => s.heap.get? l = some { cls := .type "tuple", dict := dd, data := .seq items n, slots := sl } ∧ R (.ok (.ret (Value.ref l))) s) :=
  .of_wp fun prog w A R s h => by
    obtain ⟨hp, g, d, tk, os⟩ := s
    obtain ⟨hl, h⟩ := h
    have f1 := AutoSeq1.idx_int
    wp_walk using wpAny_loadPart' hl
    repeat (first
      | (refine wpAny_ite_false (decide_eq_false (by rw [c0]; exact Bool.false_ne_true)) ?_; wp_walk using wpAny_loadPart' hl)
      | (refine wpAny_ite_true (decide_eq_true c1) ?_; wp_walk using wpAny_loadPart' hl))
    exact ⟨_, rfl, h⟩
theorem tuple_mul_none (l : Addr) (items : Array Value) (n : Nat) (dd : Option Addr) (sl : Array (Option Value)) (x : Int) (u : Tok) (c0 : (decide (x < -(2 ^ 63)) || decide (x ≥ 2 ^ 63)) = false) (c1 : (items.isEmpty || x == 1) = false) (c2 : (decide (x ≤ 0) || items.isEmpty) = true) :
    Meets (Builtin.«tuple.__mul__» ⟨[.ref l, .int x u], []⟩) (fun _ R s => s.heap.get? l = some { cls := .type "tuple", dict := dd, data := .seq items n, slots := sl } ∧
      R (.ok (.ret (Value.ref s.heap.objs.size))) { s with heap := s.heap.push { cls := Value.type "tuple", data := Data.seq #[] }, toks := s.toks }) :=
  .of_wp fun prog w A R s h => by
    obtain ⟨hp, g, d, tk, os⟩ := s
    obtain ⟨hl, h⟩ := h
    have f1 := AutoSeq1.idx_int
    wp_walk using wpAny_loadPart' hl
    repeat (first
      | (refine wpAny_ite_false (decide_eq_false (by rw [c0]; exact Bool.false_ne_true)) ?_; wp_walk using wpAny_loadPart' hl)
      | (refine wpAny_ite_false (decide_eq_false (by rw [c1]; exact Bool.false_ne_true)) ?_; wp_walk using wpAny_loadPart' hl)
      | (refine wpAny_ite_true (decide_eq_true c2) ?_; wp_walk using wpAny_loadPart' hl))
    exact ⟨_, rfl, h⟩
theorem big63 : (sizeLine : Nat) ≤ (2 ^ 63 - 1) / 8 := by decide
section
variable {X : Cx}
/-- list * int -/
theorem op_repL : OpR X (binaryOp .Mult) (fun x y H Q => ∃ l k xs, x = .ref l ∧ y = .int k ∧ Ls X.K H l xs ∧ -(2 ^ 63) ≤ k ∧ k < 2 ^ 63 ∧ xs.length * k.toNat ≤ sizeLine ∧
    ∀ p, H p = none → Q (.ref p) (upd H p (.lst (List.replicate k.toNat xs).flatten))) := by
  intro pins s σ H x y v u Q I rx ry h
  obtain ⟨l, k, xs, rfl, rfl, hH, h1, h2, hz, q⟩ := h
  cases rx
  obtain ⟨t, rfl⟩ := ry
  obtain ⟨its, n, r, e, hl, hl1⟩ := isl I hH
  have hlen : its.toArray.size * k.toNat ≤ sizeLine := by rw [List.size_toArray, ← hl1]; exact hz
  have hcap : ¬ its.toArray.size * k.toNat > (2 ^ 63 - 1) / 8 := by
    have := big63
    omega
  have hfit : ¬ (!Builtin.List.listFitsIndex k) = true := by
    rw [fitsIndex_both h1 h2]
    exact Bool.false_ne_true
  have hlong : ¬ Builtin.List.listTooLong (its.toArray.size * k.toNat) = true := by
    rw [L2.notLongL hlen]
    exact Bool.false_ne_true
  have hnew : List.foldl (fun x1 x2 => x1 ++ x2) #[] (List.replicate (if its.toArray.isEmpty = true then 0 else k.toNat) its.toArray) = (List.replicate k.toNat its).flatten.toArray := by
    rw [L2.size_rep]
    cases its with
    | nil => simp
    | cons a r' => rw [if_neg (by simp)]
  refine wpAny_binaryOp_repeat_ref (T := "list") (U := "int") (by decide) ⟨_, e, rfl⟩ (fun s' => typeIs_int s' k t) noFill_list_mul F.fills_int_mul F.slot_int_rmul repeat_list F.slot_int_index.lookup
    (call_meets F.slot_int_rmul (typeIs_int s k t) F.entry_int_rmul (F.args_int_rmul_2 _ _) (int___rmul___int_list k t l its.toArray n)
      ⟨e, rfl, ⟨_, e, rfl⟩, call_meets F.slot_list_mul ⟨_, e, rfl⟩ F.entry_list_mul (F.args_list_mul_2 _ _) (AutoListH.list___mul___list_int_3 l its.toArray n k t hfit hcap hlong) ⟨e, ?_⟩⟩)
  rw [hnew]
  refine ⟨.ref s.heap.objs.size, upd H s.heap.objs.size (.lst (List.replicate k.toNat xs).flatten), I.laid (t' := s.toks) (fun b u e => Heap.get?_push_of_some _ e) (Nat.le_refl _) ?_, rfl, q _ (inv_new I)⟩
  exact ⟨by rw [PyProof.Rows.lm_len_rep_flat, Nat.mul_comm]; exact hz, _, 0, r.rep k.toNat, Heap.get?_push_size _ rfl⟩
/-- tuple * int -/
theorem op_repTA : OpR X (binaryOp .Mult) (fun x y H Q => ∃ l k xs, x = .ref l ∧ y = .int k ∧ SqT X.K H l xs ∧ -(2 ^ 63) ≤ k ∧ k < 2 ^ 63 ∧ xs.length * k.toNat ≤ sizeLine ∧
    (xs = [] ∨ k = 1 → Q (.ref l) H) ∧ (∀ p, H p = none → Q (.ref p) (upd H p (.tup (List.replicate k.toNat xs).flatten)))) := by
  intro pins s σ H x y v u Q I rx ry h
  obtain ⟨l, k, xs, rfl, rfl, hT, h1, h2, hz, q1, q⟩ := h
  cases rx
  obtain ⟨t, rfl⟩ := ry
  obtain ⟨its, r, ⟨⟨cls, dd, data, sl⟩, ho, hc, n, hd⟩, hs⟩ := I.tuple hT
  simp only at hc hd
  subst hc hd
  have hle : its.length = xs.length := r.length.symm
  have c0 : (decide (k < -(2 ^ 63)) || decide (k ≥ 2 ^ 63)) = false := by
    rw [decide_eq_false (by omega), decide_eq_false (by omega)] <;> rfl
  by_cases hx : xs = [] ∨ k = 1
  · have c1 : (its.toArray.isEmpty || k == 1) = true := by
      rcases hx with hx | hx
      · subst hx
        have : its = [] := List.length_eq_zero_iff.mp hle
        subst this
        rfl
      · subst hx; simp
    refine wpAny_binaryOp_repeat_ref (T := "tuple") (U := "int") (by decide) ⟨_, ho, rfl⟩ (fun s' => typeIs_int s' k t) L2.noFill_tuple_mul F.fills_int_mul F.slot_int_rmul L2.repeat_tuple F.slot_int_index.lookup
      (call_meets F.slot_int_rmul (typeIs_int s k t) F.entry_int_rmul (F.args_int_rmul_2 _ _) (L2.int_rmul_tuple k t l its.toArray n dd sl)
        ⟨ho, rfl, ⟨_, ho, rfl⟩, call_meets F.slot_tuple_mul ⟨_, ho, rfl⟩ F.entry_tuple_mul (F.args_tuple_mul_2 _ _) (tuple_mul_same l its.toArray n dd sl k t c0 c1) ⟨ho, ?_⟩⟩)
    exact ⟨.ref l, H, I, rfl, q1 hx⟩
  · have hn : its ≠ [] := fun e => hx (.inl (by
      rw [e] at hle
      exact List.eq_nil_of_length_eq_zero hle.symm))
    have hi : its.toArray.isEmpty = false := by
      cases its with
      | nil => exact absurd rfl hn
      | cons a b => rfl
    have c1 : (its.toArray.isEmpty || k == 1) = false := by
      rw [hi, Bool.false_or]
      exact beq_eq_false_iff_ne.mpr fun z => hx (.inr z)
    have new : ∀ (ys : List V) (us : List Value), ys.length ≤ sizeLine → L2.Vals ys us → Q (.ref s.heap.objs.size) (upd H s.heap.objs.size (.tup ys)) →
        L2.EP X pins σ Q (.ref s.heap.objs.size) { s with heap := s.heap.push { cls := .type "tuple", data := .seq us.toArray }, toks := s.toks } := fun ys us hl rv qq =>
      ⟨.ref s.heap.objs.size, _, I.laid (t' := s.toks) (o := .tup ys) (fun b ob q => Heap.get?_push_of_some _ q) (Nat.le_refl _) ⟨hl, us, rv, IsTup.new _ _⟩, rfl, qq⟩
    have main : ∀ {Sp}, Meets (Builtin.«tuple.__mul__» ⟨[.ref l, .int k t], []⟩) Sp → (Sp X.A (wants (L2.EP X pins σ Q) X.xe) s) → wpAny (model X.prog X.w) X.A (binaryOp .Mult (.ref l) (.int k t)) (L2.EP X pins σ Q) X.xe s := fun {Sp} hm hw =>
      wpAny_binaryOp_repeat_ref (T := "tuple") (U := "int") (by decide) ⟨_, ho, rfl⟩ (fun s' => typeIs_int s' k t) L2.noFill_tuple_mul F.fills_int_mul F.slot_int_rmul L2.repeat_tuple F.slot_int_index.lookup
        (call_meets F.slot_int_rmul (typeIs_int s k t) F.entry_int_rmul (F.args_int_rmul_2 _ _) (L2.int_rmul_tuple k t l its.toArray n dd sl)
          ⟨ho, rfl, ⟨_, ho, rfl⟩, call_meets F.slot_tuple_mul ⟨_, ho, rfl⟩ F.entry_tuple_mul (F.args_tuple_mul_2 _ _) hm hw⟩)
    by_cases hk : k ≤ 0
    · have e0 : k.toNat = 0 := by omega
      refine main (tuple_mul_none l its.toArray n dd sl k t c0 c1 (by rw [decide_eq_true hk]; rfl)) ⟨ho, new [] [] (Nat.zero_le _) .nil ?_⟩
      have := q s.heap.objs.size (inv_new I)
      rw [e0] at this
      exact this
    · have c2 : (decide (k ≤ 0) || its.toArray.isEmpty) = false := by rw [hi, Bool.or_false]; exact decide_eq_false hk
      have hm : ((its.toArray.size : Nat) : Int) * k ≤ (sizeLine : Nat) := by
        have e : k = ((k.toNat : Nat) : Int) := by omega
        rw [e, List.size_toArray, hle]
        exact_mod_cast hz
      have c3 : ¬ ((its.toArray.size : Nat) : Int) * k > (2 ^ 63 - 1) / 8 := by
        have := big63
        omega
      have c4 : Builtin.Tuple.tupleTooMany (((its.toArray.size : Nat) : Int) * k) = false := by
        unfold Builtin.Tuple.tupleTooMany
        exact decide_eq_false (by omega)
      have flen : (List.replicate k.toNat xs).flatten.length ≤ sizeLine := by rw [PyProof.Rows.lm_len_rep_flat, Nat.mul_comm]; exact hz
      refine main (L2.tuple_mulW l its.toArray n dd sl k t c0 c1 c2 c3 c4 (by rw [L2.size_rep, List.size_toArray, PyProof.Rows.lm_len_rep_flat, hle, Nat.mul_comm]; exact hz)) ⟨ho, ?_⟩
      rw [L2.size_rep]
      exact new _ _ flen (r.rep k.toNat) (q _ (inv_new I))
theorem ob_sub : OpR X (binaryOp .Sub) (RB X.K subW) := by
  intro pins s σ H x y v u Q I rx ry h
  obtain ⟨⟨dx, nx⟩, ⟨dy, ny⟩, S, S', w, hx, hy, hs, q⟩ := h
  have hx : Rep X.K H nx dx x S := hx
  have hy : Rep X.K H ny dy y S' := hy
  unfold subW at hs
  split at hs
  · rename_i i m j n e1 e2
    cases e1; cases e2; cases hs
    cases hx.int; cases hy.int
    exact L2.op_sub pins s σ H _ _ v u Q I rx ry ⟨i, j, rfl, rfl, flatI q⟩
  · cases hs
theorem ob_fdiv : OpR X (binaryOp .FloorDiv) (RB X.K fdivW) := by
  intro pins s σ H x y v u Q I rx ry h
  obtain ⟨⟨dx, nx⟩, ⟨dy, ny⟩, S, S', w, hx, hy, hs, q⟩ := h
  have hx : Rep X.K H nx dx x S := hx
  have hy : Rep X.K H ny dy y S' := hy
  unfold fdivW at hs
  split at hs
  · rename_i i m j n e1 e2
    cases e1; cases e2
    split at hs
    · rename_i hc
      cases hs
      cases hx.int; cases hy.int
      exact L2.op_fdiv pins s σ H _ _ v u Q I rx ry ⟨i, j, rfl, rfl, hc, flatI q⟩
    · cases hs
  · cases hs
theorem ob_mod : OpR X (binaryOp .Mod) (RB X.K modW) := by
  intro pins s σ H x y v u Q I rx ry h
  obtain ⟨⟨dx, nx⟩, ⟨dy, ny⟩, S, S', w, hx, hy, hs, q⟩ := h
  have hx : Rep X.K H nx dx x S := hx
  have hy : Rep X.K H ny dy y S' := hy
  unfold modW at hs
  split at hs
  · rename_i i m j n e1 e2
    cases e1; cases e2
    split at hs
    · rename_i hc
      cases hs
      cases hx.int; cases hy.int
      exact L2.op_mod pins s σ H _ _ v u Q I rx ry ⟨i, j, rfl, rfl, hc, flatI q⟩
    · cases hs
  · cases hs
theorem ob_pow : OpR X (binaryOp .Pow) (RB X.K powW) := by
  intro pins s σ H x y v u Q I rx ry h
  obtain ⟨⟨dx, nx⟩, ⟨dy, ny⟩, S, S', w, hx, hy, hs, q⟩ := h
  have hx : Rep X.K H nx dx x S := hx
  have hy : Rep X.K H ny dy y S' := hy
  unfold powW at hs
  split at hs
  · rename_i i m j n e1 e2
    cases e1; cases e2
    split at hs
    · rename_i hc
      cases hs
      cases hx.int; cases hy.int
      exact L2.op_pow pins s σ H _ _ v u Q I rx ry ⟨i, j, rfl, rfl, hc, flatI q⟩
    · cases hs
  · cases hs
theorem ob_mul : OpR X (binaryOp .Mult) (RB X.K mulW) := by
  intro pins s σ H x y v u Q I rx ry h
  obtain ⟨⟨dx, nx⟩, ⟨dy, ny⟩, S, S', w, hx, hy, hs, q⟩ := h
  have hx : Rep X.K H nx dx x S := hx
  have hy : Rep X.K H ny dy y S' := hy
  unfold mulW at hs
  split at hs
  · rename_i i m j n e1 e2
    cases e1; cases e2
    split at hs
    · rename_i hc
      cases hs
      cases hx.int; cases hy.int
      exact L2.op_mul pins s σ H _ _ v u Q I rx ry ⟨i, j, rfl, rfl, hc, flatI q⟩
    · cases hs
  · rename_i i m j n e1 e2
    cases e1; cases e2
    split at hs
    · rename_i hc
      cases hs
      cases hy.int
      obtain ⟨a, xs, rfl, tx, ix⟩ := hx.lst1 hc.1
      exact op_repL pins s σ H _ _ v u Q I rx ry ⟨a, j, xs, rfl, rfl, tx, hc.2.1, hc.2.2.1, by rw [← ix.len]; exact hc.2.2.2, fun p hp => q _ _ _ (.lst1 hp (ix.rep _))⟩
    · cases hs
  · rename_i i m j n e1 e2
    cases e1; cases e2
    split at hs
    · rename_i hc
      cases hs
      cases hy.int
      obtain ⟨a, xs, rfl, tx, ix⟩ := hx.tup
      refine op_repTA pins s σ H _ _ v u Q I rx ry ⟨a, j, xs, rfl, rfl, tx, hc.1, hc.2.1, by rw [← ix.len]; exact hc.2.2, fun hh => q _ _ _ (.flat (Rf.tup.mpr ⟨a, xs, rfl, tx, ?_⟩)), fun p hp => q _ _ _ (.tup hp (ix.rep _))⟩
      rcases hh with hh | hh
      · subst hh
        have : i = [] := List.length_eq_zero_iff.mp ix.len
        subst this
        have := ix.rep j.toNat
        simpa using this
      · subst hh
        have := ix.rep (1 : Int).toNat
        simpa using ix
    · cases hs
  · cases hs
end
end Q
end
section
set_option Elab.async false
set_option linter.all false
set_option maxRecDepth 100000
set_option maxHeartbeats 4000000
/-! QF: names, constants, escapes, parts, displays, comparisons. -/
namespace Q
open PySem PySem.Spec PyProof.Rows
open L2 (V Hp HO TE TT TA TS VK upd SqL SqT Rd Inv Cx PE PA PT R2 OpR IxR)

/-! ### side conditions of the syntax -/
/-- no star, no slice, no set: an expression as terms have them -/
def plainX : Expr → Bool
  | .Starred .. => false
  | .Slice .. => false
  | .Set .. => false
  | _ => true
theorem star_of {e : Expr} {es : List Expr} {env : PySem.Env} (h : plainX e = true) : starEach (e :: es) env = (false, eval e env) :: starEach es env := by
  cases e <;> first | rfl | (exact absurd h (by decide)) | (simp [plainX] at h)
theorem stars_plain {env : PySem.Env} : ∀ {es : List Expr}, es.all plainX = true → (starEach es env).any (·.1) = false
  | [], _ => rfl
  | e :: es, h => by
    simp only [List.all_cons, Bool.and_eq_true] at h
    rw [star_of h.1]
    simp only [List.any_cons, Bool.false_or]
    exact stars_plain h.2
theorem backTo_any {pos : Pos} {l : List (Bool × Sem Value)} : (backTo pos l).any (·.1) = l.any (·.1) := by
  unfold backTo
  rw [List.any_map]
  rfl
theorem back_plain {pos : Pos} {env : PySem.Env} {es : List Expr} (h : es.all plainX = true) : (backTo pos (starEach es env)).any (·.1) = false := by rw [backTo_any]; exact stars_plain h
theorem ix_plain {b : Expr} (h : plainX b = true) : L2.PlainIx b := fun o i => by
  cases b <;> first | rfl | (simp [plainX] at h)
theorem mark_plain {op : CmpOp} {b : Expr} (h : plainX b = true) : behindInMarks op b = false := by
  cases b <;> first | rfl | (simp [plainX] at h)

section
variable {X : Cx} {e : Expr} {pos : Pos} {t : List Nat} {r : Option Nat} {f : Env → R W}
/-! ### leaves -/
theorem vt_var {i : Nat} (h : PE X e (L2.tVar i)) : PE X e (VT X.K [] (some i) fun ρ => (match gt ρ i with
    | some w => .ok w ρ
    | none => .no)) := PE_imp h fun σ H Q ⟨ρ, F, w, ρ', hE, e, q⟩ => by
  dsimp only at e
  cases hg : gt ρ i with
  | none => rw [hg] at e; cases e
  | some w' =>
    rw [hg] at e
    cases e
    obtain ⟨v, hv, rp⟩ := hE.val i _ hg
    exact ⟨v, hv, q v H F (F i) (Po.refl hE) ⟨rp, hE.own i, fun _ z => z⟩⟩
theorem vt_flat {d : D} {v : V} (h : PE X e (L2.tC v)) (hr : ∀ H, Rf X.K H d v) : PE X e (VT X.K [] none fun ρ => .ok (d, 0) ρ) := PE_imp h fun σ H Q ⟨ρ, F, w, ρ', hE, e, q⟩ => by
  cases e
  exact q v H F _ (Po.refl hE) (Pv.rf (hr H))

theorem gt_set {ρ : Env} {i : Nat} {x : Option W} {j : Nat} : gt (ρ.set i x) j = if i = j ∧ i < ρ.length then x else gt ρ j := by
  induction ρ generalizing i j with
  | nil => simp [gt]
  | cons a r ih =>
    cases i with
    | zero => cases j <;> simp [gt]
    | succ i => cases j with
      | zero => simp [gt]
      | succ j => simp only [List.set_cons_succ, gt, ih, List.length_cons]; simp
theorem gt_some {ρ : Env} {i : Nat} {w : W} (h : gt ρ i = some w) : i < ρ.length := by
  induction ρ generalizing i with
  | nil => simp [gt] at h
  | cons a r ih => cases i with
    | zero => simp
    | succ i => simp only [gt] at h; simp only [List.length_cons]; exact Nat.succ_lt_succ (ih h)
theorem gt_len {ρ : Env} {i : Nat} (h : ρ.length ≤ i) : gt ρ i = none := by
  cases e : gt ρ i with
  | none => rfl
  | some w => exact absurd (gt_some e) (by omega)
/-- a slot is forgotten, or its value given away -/
theorem REnv.drop {K : Fg} {H : Hp} {σ : Sg} {ρ : Env} {F : FS} (h : REnv K H σ ρ F) (i : Nat) : REnv K H σ (ρ.set i none) fun j a => j ≠ i ∧ F j a where
  len := by rw [List.length_set]; exact h.len
  dis := fun j k a x y => h.dis j k a x.2 y.2
  own := fun j a x => h.own j a x.2
  val := fun j w e => by
    rw [gt_set] at e
    by_cases z : i = j ∧ i < ρ.length
    · rw [if_pos z] at e; cases e
    · rw [if_neg z] at e
      obtain ⟨v, e1, rp⟩ := h.val j w e
      have hj := gt_some e
      exact ⟨v, e1, Rep.mono (fun a x => ⟨fun q => z ⟨q.symm, by omega⟩, x⟩) rp⟩
  tab := h.tab
/-- a name gives its value away -/
theorem vt_mv {i : Nat} (h : PE X e (L2.tVar i)) : PE X e (VT X.K [i] none fun ρ => (match gt ρ i with
    | some w => .ok w (ρ.set i none)
    | none => .no)) := PE_imp h fun σ H Q ⟨ρ, F, w, ρ', hE, e, q⟩ => by
  dsimp only at e
  cases hg : gt ρ i with
  | none => rw [hg] at e; cases e
  | some w' =>
    rw [hg] at e
    cases e
    obtain ⟨v, hv, rp⟩ := hE.val i _ hg
    refine ⟨v, hv, q v H (fun j a => j ≠ i ∧ F j a) (F i) ⟨hE.drop i, fun j n => ⟨?_, fun a => ?_⟩, fun _ _ => rfl, rfl, fun j a z => .inr (.inl z.2), .refl _ _⟩
      ⟨rp, hE.own i, fun j a z y => ?_, fun a z => .inr ⟨i, by simp, z⟩⟩⟩
    · rw [gt_set, if_neg fun z => n (by simp [z.1])]
    · exact ⟨fun z => z.2, fun z => ⟨fun q => n (by simp [q]), z⟩⟩
    · exact y.1 (hE.dis _ _ _ z y.2).symm
/-- a name's value freezes where it stands -/
theorem vt_fz {i : Nat} (h : PE X e (L2.tVar i)) : PE X e (VT X.K [i] none fun ρ => (match gt ρ i with
    | some w => .ok (w.1, 0) (ρ.set i (some (w.1, 0)))
    | none => .no)) := PE_imp (pe_gh h) fun σ H Q ⟨ρ, F, w, ρ', hE, e, q⟩ => by
  dsimp only at e
  cases hg : gt ρ i with
  | none => rw [hg] at e; cases e
  | some w' =>
    rw [hg] at e
    cases e
    obtain ⟨v, hv, rp⟩ := hE.val i _ hg
    refine ⟨v, hv, (gh_rep _ _ _ _ _ rp).imp fun H' ⟨fr, z⟩ => ?_⟩
    have hlt := gt_some hg
    have E1 : REnv X.K H' σ (ρ.set i (some (w'.1, 0))) fun j a => j ≠ i ∧ F j a := by
      refine ⟨by rw [List.length_set]; exact hE.len, fun j k a x y => hE.dis j k a x.2 y.2, fun j a x => ?_, fun j w e => ?_, hE.tab.pres z.pres⟩
      · obtain ⟨xs, e⟩ := hE.own j a x.2
        exact ⟨xs, by rw [z.out a fun y => x.1 (hE.dis _ _ _ x.2 y)]; exact e⟩
      · rw [gt_set] at e
        by_cases y : i = j ∧ i < ρ.length
        · rw [if_pos y] at e
          cases e
          exact ⟨v, by rw [← y.1]; exact hv, Rep.frz0.mpr fr⟩
        · rw [if_neg y] at e
          obtain ⟨v', e1, rp'⟩ := hE.val j w e
          have hj := gt_some e
          have ne : j ≠ i := fun q => y ⟨q.symm, hlt⟩
          refine ⟨v', e1, Rep.mono (fun a x => ⟨ne, x⟩) (Rep.keep z.stb (fun a xs x e2 => ?_) rp')⟩
          rw [z.out a fun y => ne (hE.dis _ _ _ x y)]; exact e2
    refine q v H' (fun j a => j ≠ i ∧ F j a) (fun _ => False) ⟨E1, fun j n => ⟨?_, fun a => ?_⟩, fun _ _ => rfl, rfl, fun j a z => .inr (.inl z.2), ?_⟩ (Pv.rf fr)
    · rw [gt_set, if_neg fun z => n (by simp [z.1])]
    · exact ⟨fun z => z.2, fun z => ⟨fun q => n (by simp [q]), z⟩⟩
    · exact z.pres.mono fun a y => ⟨i, by simp, y⟩

/-! ### a value leaves its place, and its depth is fixed -/
theorem leaf0 {K : Fg} {H : Hp} {w : W} {v : V} {S : AS} (h : Rep K H w.2 w.1 v S) (hw : w.2 = 0 ∨ w.1.leaf = true) : Rf K H w.1 v := by
  rcases hw with hw | hw
  · rw [hw] at h; exact Rep.frz0.mp h
  · exact (Rep.of_leaf hw).mp h
theorem vt_ec (h : PE X e (VT X.K t r f)) : PE X e (VT X.K t none fun ρ => bd (f ρ) ec) := PE_imp h fun σ H Q ⟨ρ, F, w, ρ', hE, e, q⟩ => by
  obtain ⟨x, ρ1, e1, e2⟩ := bd_ok e
  refine ⟨ρ, F, x, ρ1, hE, e1, fun v H1 F1 S P V => ?_⟩
  unfold ec at e2
  by_cases hw : x.2 = 0 ∨ x.1.leaf = true
  · rw [if_pos hw] at e2
    cases e2
    exact q v H1 F1 _ P (Pv.rf (leaf0 V.rep hw))
  · rw [if_neg hw] at e2; cases e2
theorem vt_co {m : Nat} (h : PE X e (VT X.K t none f)) : PE X e (VT X.K t none fun ρ => bd (f ρ) (co m)) := PE_imp (pe_gh h) fun σ H Q ⟨ρ, F, w, ρ', hE, e, q⟩ => by
  obtain ⟨x, ρ1, e1, e2⟩ := bd_ok e
  refine ⟨ρ, F, x, ρ1, hE, e1, fun v H1 F1 S P V => ?_⟩
  unfold co coe at e2
  by_cases hm : m = 0
  · rw [if_pos hm] at e2
    cases e2
    refine (gh_rep _ _ _ _ _ V.rep).imp fun H2 ⟨fr, z⟩ => q v H2 F1 _ (P.fz hE z (fun i b hb => V.plc.1 i b hb) V.plc.2) (Pv.rf fr)
  · rw [if_neg hm] at e2
    by_cases hl : x.1.leaf = true
    · rw [if_pos hl] at e2
      cases e2
      exact .done (q v H1 F1 _ P (Pv.frz ((Rep.of_leaf hl).mpr ((Rep.of_leaf hl).mp V.rep))))
    · rw [if_neg hl] at e2
      by_cases h2 : x.2 = m
      · rw [if_pos h2] at e2
        cases e2
        exact .done (q v H1 F1 S P V)
      · rw [if_neg h2] at e2; cases e2
end

/-! ### lists of terms -/
def Disj (t : List Nat) : Option Nat → Prop
  | none => True
  | some i => i ∉ t
section
variable {X : Cx} {e : Expr} {es : List Expr} {t t1 t2 : List Nat} {r : Option Nat} {f : Env → R W} {g : Env → R (List W)}
theorem at_nil : PA X [] (AT X.K [] fun ρ => .ok [] ρ) := PA_imp L2.pa_nil fun σ H Q ⟨ρ, F, w, ρ', hE, e, q⟩ => by
  cases e
  exact q [] H F (fun _ _ => False) (Po.refl hE) ⟨rfl, fun k w v h => by simp at h, fun _ _ _ z => z.elim, fun _ _ _ z => z.elim⟩
theorem Pvs.cons {K : Fg} {H H1 H2 : Hp} {σ : Sg} {ρ ρ1 ρ2 : Env} {F F1 F2 : FS} {w : W} {ws : List W} {v : V} {vs : List V} {S : AS} {G : FS} (hE : REnv K H σ ρ F) (P1 : Po K t1 [] H σ ρ F H1 σ ρ1 F1) (V1 : Pv K t1 none H F H1 F1 w v S)
    (P2 : Po K t2 [] H1 σ ρ1 F1 H2 σ ρ2 F2) (V2 : Pvs K t2 H1 F1 H2 F2 ws vs G) : Pvs K (t1 ++ t2) H F H2 F2 (w :: ws) (v :: vs) fun k => match k with
      | 0 => S
      | k + 1 => G k := by
  have V1' := (V1.move P1.env P2 (fun _ z => by cases z)).sub (t2 := t1 ++ t2) fun i h => List.mem_append_left _ h
  have back : ∀ {k : Nat} {w : W} {v : V}, Pv K t2 none H1 F1 H2 F2 w v (G k) → Pv K (t1 ++ t2) none H F H2 F2 w v (G k) := fun h =>
    Pv.back hE (P1.sub (fun i h => List.mem_append_left _ h) fun _ h => h) (h.sub fun i h => List.mem_append_right _ h)
  refine ⟨by simp [V2.len], fun k w' v' h1 h2 => ?_, fun j k a h1 h2 => ?_, fun k hk a h => ?_⟩
  · cases k with
    | zero => simp at h1 h2; subst h1 h2; exact V1'
    | succ k => exact back (V2.val k w' v' (by simpa using h1) (by simpa using h2))
  · have ap : ∀ k a, S a → ¬ G k a := fun k a ha hb => by
      by_cases hk : k < ws.length
      · have e1 : ws[k]? = some ws[k] := List.getElem?_eq_getElem hk
        have e2 : vs[k]? = some (vs[k]'(by rw [← V2.len]; exact hk)) := List.getElem?_eq_getElem _
        exact V1.disj (t2 := t2) P1.env (fun _ z => by cases z) (V2.val k _ _ e1 e2) a ha hb
      · exact V2.bnd k (by omega) a hb
    cases j with
    | zero => cases k with
      | zero => rfl
      | succ k => exact (ap k a h1 h2).elim
    | succ j => cases k with
      | zero => exact (ap j a h2 h1).elim
      | succ k => exact congrArg _ (V2.dis j k a h1 h2)
  · cases k with
    | zero => simp at hk
    | succ k => exact V2.bnd k (by simpa using hk) a h
theorem at_cons (hp : plainX e = true) (h : PE X e (VT X.K t1 none f)) (hs : PA X es (AT X.K t2 g)) : PA X (e :: es) (AT X.K (t1 ++ t2) fun ρ => bd (f ρ) fun x ρ => bd (g ρ) fun xs ρ => .ok (x :: xs) ρ) :=
  PA_imp (L2.pa_cons h hs (star_of hp)) fun σ H Q ⟨ρ, F, w, ρ', hE, e, q⟩ => by
    obtain ⟨x, ρ1, e1, e⟩ := bd_ok e
    obtain ⟨xs, ρ2, e2, e⟩ := bd_ok e
    cases e
    refine ⟨ρ, F, x, ρ1, hE, e1, fun v H1 F1 S P V => ⟨ρ1, F1, xs, ρ', P.env, e2, fun vs H2 F2 G P2 V2 => ?_⟩⟩
    exact q (v :: vs) H2 F2 _ (Po.trans hE (P.sub (fun i h => List.mem_append_left _ h) fun _ h => h) (P2.sub (fun i h => List.mem_append_right _ h) fun _ h => h)) (Pvs.cons hE P V P2 V2)
end

/-! ### displays -/
section
variable {X : Cx} {es : List Expr} {t : List Nat} {g : Env → R (List W)} {pos : Pos}
theorem Pvs.rfs {K : Fg} {H H1 : Hp} {F F1 : FS} {ws : List W} {vs : List V} {G : FS} (h : Pvs K t H F H1 F1 ws vs G) (h0 : ∀ w ∈ ws, w.2 = 0) : Rfs K H1 (ws.map (·.1)) vs := by
  refine Rfs.iff.mpr ⟨by rw [List.length_map]; exact h.len, fun k d x e1 e2 => ?_⟩
  rw [List.getElem?_map] at e1
  cases e3 : ws[k]? with
  | none => rw [e3] at e1; cases e1
  | some w =>
    rw [e3] at e1
    cases e1
    have := (h.val k w x e3 e2).rep
    rw [h0 w (List.mem_of_getElem? e3)] at this
    exact Rep.frz0.mp this
theorem vt_tup {k : Nat} (h : PA X es (AT X.K t g)) (h0 : ∀ ρ ws ρ', g ρ = .ok ws ρ' → ∀ w ∈ ws, w.2 = 0) : PE X (.Tuple es k pos) (VT X.K t none fun ρ => bd (g ρ) fun ws ρ => if ws.length ≤ line then .ok (.tup (ws.map (·.1)), 0) ρ else .no) :=
  PE_imp (L2.pe_tup h) fun σ H Q ⟨ρ, F, w, ρ', hE, e, q⟩ => by
    obtain ⟨ws, ρ1, e1, e⟩ := bd_ok e
    refine ⟨ρ, F, ws, ρ1, hE, e1, fun vs H1 F1 G P V => ?_⟩
    by_cases hl : ws.length ≤ line
    · rw [if_pos hl] at e
      cases e
      refine ⟨by rw [← V.len]; exact hl, fun p hp => ?_⟩
      have nv := Nv.tup (K := X.K) hp (V.rfs (h0 _ _ _ e1))
      exact q _ _ F1 _ (P.adds nv.add) (nv.pv hE P)
    · rw [if_neg hl] at e; cases e
theorem vt_lst {m : Nat} (h : PA X es (AT X.K t g)) (h0 : ∀ ρ ws ρ', g ρ = .ok ws ρ' → ∀ w ∈ ws, w.2 = m) : PE X (.List es pos) (VT X.K t none fun ρ => bd (g ρ) fun ws ρ => if ws.length ≤ line then .ok (.lst (ws.map (·.1)), m + 1) ρ else .no) :=
  PE_imp (L2.pe_lst h) fun σ H Q ⟨ρ, F, w, ρ', hE, e, q⟩ => by
    obtain ⟨ws, ρ1, e1, e⟩ := bd_ok e
    refine ⟨ρ, F, ws, ρ1, hE, e1, fun vs H1 F1 G P V => ?_⟩
    by_cases hl : ws.length ≤ line
    · rw [if_pos hl] at e
      cases e
      refine ⟨by rw [← V.len]; exact hl, fun p hp => ?_⟩
      have ad : Adds H1 (upd H1 p (.lst vs)) := Adds.upd hp
      have gl : ∀ k b, G k b → k < ws.length := fun k b z => by
        by_cases hk : k < ws.length
        · exact hk
        · exact (V.bnd k (by omega) b z).elim
      have at_ : ∀ k b, G k b → ∃ w v, ws[k]? = some w ∧ vs[k]? = some v ∧ Pv X.K t none H F H1 F1 w v (G k) := fun k b z => by
        have hk := gl k b z
        have e1 : ws[k]? = some ws[k] := List.getElem?_eq_getElem hk
        have e2 : vs[k]? = some (vs[k]'(by rw [← V.len]; exact hk)) := List.getElem?_eq_getElem _
        exact ⟨_, _, e1, e2, V.val k _ _ e1 e2⟩
      have ne : ∀ k b, G k b → b ≠ p := fun k b z y => by
        obtain ⟨w, v, e1, e2, pv⟩ := at_ k b z
        obtain ⟨xs, e⟩ := pv.own b z
        rw [y, hp] at e; cases e
      refine q (.ref p) _ F1 (fun b => b = p ∨ ∃ k, G k b) (P.adds ad) ⟨?_, fun a ha => ?_, fun i a ha y => ?_, fun a ha => ?_⟩
      · show Rep X.K _ (m + 1) (.lst (ws.map (·.1))) (.ref p) _
        rw [Rep.lstS]
        refine ⟨p, vs, G, rfl, L2.upd_same, .inl rfl, by rw [List.length_map]; exact V.len, fun k b z => ⟨.inr ⟨k, z⟩, ne k b z⟩, V.dis, fun k d x e1 e2 => ?_⟩
        rw [List.getElem?_map] at e1
        cases e3 : ws[k]? with
        | none => rw [e3] at e1; cases e1
        | some w =>
          rw [e3] at e1
          cases e1
          have r := (V.val k w x e3 e2).rep
          rw [h0 _ _ _ ‹_› w (List.mem_of_getElem? e3)] at r
          exact Rep.keep ad.stb (fun a xs _ q => ad a _ q) r
      · rcases ha with rfl | ⟨k, z⟩
        · exact ⟨vs, L2.upd_same⟩
        · obtain ⟨w, v, e1, e2, pv⟩ := at_ k a z
          obtain ⟨xs, e⟩ := pv.own a z
          exact ⟨xs, ad a _ e⟩
      · rcases ha with rfl | ⟨k, z⟩
        · obtain ⟨xs, e⟩ := P.env.own i a y
          rw [hp] at e; cases e
        · obtain ⟨w, v, e1, e2, pv⟩ := at_ k a z
          exact pv.plc.1 i a z y
      · rcases ha with rfl | ⟨k, z⟩
        · have nv := Nv.lst1 (K := X.K) (ds := []) (xs := []) hp (by simp only [Rfs])
          exact (nv.pv hE P).plc.2 a rfl
        · obtain ⟨w, v, e1, e2, pv⟩ := at_ k a z
          exact pv.plc.2 a z
    · rw [if_neg hl] at e; cases e
end
end Q
end
section
set_option Elab.async false
set_option linter.all false
set_option maxRecDepth 100000
set_option maxHeartbeats 4000000
/-! QG: parts, comparisons, tests. -/
namespace Q
open PySem PySem.Spec PyProof.Rows
open L2 (V Hp HO TE TT TA TS VK upd SqL SqT Rd Inv Cx PE PA PT PW R2 OpR IxR)

theorem ixN_of {n : Nat} {i : Int} : L2.ixN n i = ixOf n i := by
  unfold L2.ixN ixOf
  by_cases h0 : 0 ≤ i
  · rw [if_pos h0, if_pos h0]
    by_cases h1 : i < n
    · rw [if_pos h1, if_pos (by omega)]
    · rw [if_neg h1, if_neg (by omega)]
  · rw [if_neg h0, if_neg h0]
    by_cases h1 : -(n : Int) ≤ i
    · rw [if_pos h1, if_pos (by omega)]
    · rw [if_neg h1, if_neg (by omega)]
theorem atI_of {α : Type} {xs : List α} {i : Int} {k : Nat} {x : α} (h : ixOf xs.length i = some k) (e : xs[k]? = some x) : L2.atI xs i = some x := by
  unfold L2.atI
  rw [ixN_of, h]
  exact e
theorem ixOf_lt {n : Nat} {i : Int} {k : Nat} (h : ixOf n i = some k) : k < n := by
  unfold ixOf at h
  split at h
  · split at h
    · cases h; assumption
    · cases h
  · split at h
    · cases h; omega
    · cases h
theorem sink_leaf {n : Nat} {d : D} (h : d.leaf = true) : sink n d = (d, 0) := by unfold sink; rw [if_pos h]
theorem sink_not {n : Nat} {d : D} (h : ¬ d.leaf = true) : sink n d = (d, n - 1) := by unfold sink; rw [if_neg h]
section
variable {K : Fg} {H : Hp}
/-- an item of a list that is read -/
theorem Rep.item {n : Nat} {ds : List D} {v : V} {S : AS} (h : Rep K H n (.lst ds) v S) {k : Nat} {d : D} (e : ds[k]? = some d) : ∃ a xs x, ∃ S' : AS, v = .ref a ∧ Ls K H a xs ∧ ds.length = xs.length ∧ xs[k]? = some x ∧ (∀ b, S' b → S b) ∧ Rep K H (sink n d).2 d x S' := by
  obtain ⟨a, xs, e1, l, h1, G, hG, h2⟩ := h.lst
  have hk : k < xs.length := by rw [← h1]; exact (List.getElem?_eq_some_iff.mp e).1
  have e2 : xs[k]? = some xs[k] := List.getElem?_eq_getElem hk
  have r := h2 k d _ e e2
  refine ⟨a, xs, _, G k, e1, l, h1, e2, hG k, ?_⟩
  by_cases hl : d.leaf = true
  · rw [sink_leaf hl]
    exact Rep.frz0.mpr ((Rep.of_leaf hl).mp r)
  · rw [sink_not hl]
    exact r
end

section
variable {X : Cx} {a b : Expr} {pos : Pos} {t1 t2 : List Nat} {r1 r2 : Option Nat} {f g : Env → R W}
theorem vt_sub (hp : plainX b = true) (ha : PE X a (VT X.K t1 r1 f)) (hb : PE X b (VT X.K t2 r2 g)) (hr : ∀ i, r1 = some i → i ∉ t2) :
    PE X (.Subscript a b pos) (VT X.K (t1 ++ t2) r1 fun ρ => bd (f ρ) fun x ρ => bd (g ρ) fun j ρ => (match item x j.1 with
      | some w => .ok w ρ
      | none => .no)) := PE_imp (L2.pe_ix L2.ix_seq ha hb (ix_plain hp)) fun σ H Q ⟨ρ, F, w, ρ', hE, e, q⟩ => by
  obtain ⟨x, ρ1, e1, e⟩ := bd_ok e
  obtain ⟨y, ρ2, e2, e⟩ := bd_ok e
  refine ⟨ρ, F, x, ρ1, hE, e1, fun v1 H1 F1 S1 P1 V1 => ?_⟩
  refine ⟨ρ1, F1, y, ρ2, P1.env, e2, fun v2 H2 F2 S2 P2 V2 => ?_⟩
  have V1' := (V1.move P1.env P2 hr).sub (t2 := t1 ++ t2) fun i h => List.mem_append_left _ h
  cases hs : item x y.1 with
  | none => rw [hs] at e; cases e
  | some w' =>
    rw [hs] at e
    cases e
    have P := Po.trans hE (P1.sub (t2 := t1 ++ t2) (s2 := []) (fun i h => List.mem_append_left _ h) (fun _ h => h)) (P2.sub (t2 := t1 ++ t2) (s2 := []) (fun i h => List.mem_append_right _ h) (fun _ h => h))
    obtain ⟨dx, nx⟩ := x
    obtain ⟨dy, ny⟩ := y
    have hx : Rep X.K H2 nx dx v1 S1 := V1'.rep
    have hy : Rep X.K H2 ny dy v2 S2 := V2.rep
    have plcF : ∀ S' : AS, (∀ b, S' b → S1 b) → Plc (t1 ++ t2) r1 H F F2 S' := fun S' hS => by
      have p := V1'.plc
      cases r1 with
      | none => exact ⟨fun i a z => p.1 i a (hS a z), fun a z => p.2 a (hS a z)⟩
      | some i => exact fun a z => p a (hS a z)
    unfold item at hs
    split at hs
    · rename_i xs n i e3 e4
      cases e3
      have e4 : dy = .int i := e4
      subst e4
      cases hy.int
      cases e5 : ixOf xs.length i with
      | none => rw [e5] at hs; cases hs
      | some k =>
        rw [e5] at hs
        dsimp only at hs
        cases e6 : xs[k]? with
        | none => rw [e6] at hs; cases hs
        | some d =>
          rw [e6] at hs
          cases hs
          obtain ⟨a', us, rfl, tx, ix⟩ := hx.tup
          obtain ⟨h1, h2⟩ := Rfs.iff.mp ix
          have hk : k < us.length := by rw [← h1]; exact ixOf_lt e5
          have e7 : us[k]? = some us[k] := List.getElem?_eq_getElem hk
          refine .inr (.inl ⟨a', us, i, _, rfl, rfl, tx, atI_of (by rw [← h1]; exact e5) e7, q _ H2 F2 (fun _ => False) P ⟨Rep.frz0.mpr (h2 k d _ e6 e7), fun _ z => z.elim, plcF _ fun _ z => z.elim⟩⟩)
    · rename_i xs n i e3 e4
      cases e3
      have e4 : dy = .int i := e4
      subst e4
      cases hy.int
      cases e5 : ixOf xs.length i with
      | none => rw [e5] at hs; cases hs
      | some k =>
        rw [e5] at hs
        dsimp only at hs
        cases e6 : xs[k]? with
        | none => rw [e6] at hs; cases hs
        | some d =>
          rw [e6] at hs
          cases hs
          obtain ⟨a', us, u, S', rfl, l, h1, e7, hS, rp⟩ := hx.item e6
          refine .inl ⟨a', us, i, _, rfl, rfl, l.sq, atI_of (by rw [← h1]; exact e5) e7, q _ H2 F2 S' P ⟨?_, fun b z => V1'.own b (hS b z), plcF _ hS⟩⟩
          have : (sink nx d).1 = d := by unfold sink; split <;> rfl
          show Rep X.K H2 (sink nx d).2 (sink nx d).1 u S'
          rw [this]; exact rp
    · rename_i z n i e3 e4
      cases e3
      have e4 : dy = .int i := e4
      subst e4
      cases hy.int
      cases hx.str
      cases e5 : ixOf z.cps.size i with
      | none => rw [e5] at hs; cases hs
      | some k =>
        rw [e5] at hs
        dsimp only at hs
        by_cases hz : z.cps.size ≤ line
        · rw [if_pos hz] at hs
          cases e6 : z.cps[k]? with
          | none => rw [e6] at hs; cases hs
          | some c =>
            rw [e6] at hs
            cases hs
            exact .inr (.inr ⟨z, i, c, rfl, rfl, hz, atI_of (k := k) (by simpa using e5) (by simpa using e6), q _ H2 F2 (fun _ => False) P ⟨Rep.frz0.mpr (by simp only [Rf]), fun _ z => z.elim, plcF _ fun _ z => z.elim⟩⟩)
        · rw [if_neg hz] at hs; cases hs
    · cases hs
end

/-! ### equality of data -/
mutual
def toP : D → PyData
  | .non => .none
  | .bl b => .bool b
  | .int i => .int i
  | .str s => .str s
  | .tup xs => .tuple (toPs xs)
  | .lst xs => .list (toPs xs)
  | .dic _ => .dict []
def toPs : List D → List PyData
  | [] => []
  | x :: xs => toP x :: toPs xs
end
mutual
theorem deq_eqv : ∀ x y : D, PyData.eqv (toP x) (toP y) = deq x y
  | .non, y => by cases y <;> simp only [toP, PyData.eqv, deq]
  | .bl b, y => by cases y <;> simp only [toP, PyData.eqv, deq, b2i]
  | .int i, y => by cases y <;> simp only [toP, PyData.eqv, deq, b2i]
  | .str i, y => by cases y <;> simp only [toP, PyData.eqv, deq]
  | .tup xs, y => by
    cases y with
    | tup ys => simp only [toP, PyData.eqv, deq]; exact deqs_eqv xs ys
    | _ => simp only [toP, PyData.eqv, deq]
  | .lst xs, y => by
    cases y with
    | lst ys => simp only [toP, PyData.eqv, deq]; exact deqs_eqv xs ys
    | _ => simp only [toP, PyData.eqv, deq]
  | .dic _, y => by cases y <;> simp only [toP, PyData.eqv, deq]
theorem deqs_eqv : ∀ xs ys : List D, PyData.eqvAll (toPs xs) (toPs ys) = deqs xs ys
  | [], ys => by cases ys <;> simp only [toPs, PyData.eqvAll, deqs]
  | x :: xs, ys => by
    cases ys with
    | nil => simp only [toPs, PyData.eqvAll, deqs]
    | cons y ys => simp only [toPs, PyData.eqvAll, deqs]; rw [deq_eqv x y, deqs_eqv xs ys]
end
theorem toPs_any (p : PyData → Bool) : ∀ xs : List D, (toPs xs).any p = xs.any fun x => p (toP x)
  | [] => rfl
  | x :: xs => by simp only [toPs, List.any_cons]; rw [toPs_any p xs]
mutual
theorem lay_of : ∀ (n : Nat) (d : D), okD n d = true → (toP d).canLay0 = true ∧ (toP d).depth ≤ n
  | _, .non, _ => by simp [toP, PyData.canLay0, PyData.depth]
  | _, .bl _, _ => by simp [toP, PyData.canLay0, PyData.depth]
  | _, .int _, _ => by simp [toP, PyData.canLay0, PyData.depth]
  | _, .str s, h => by
    refine ⟨?_, by simp [toP, PyData.depth]⟩
    simp only [toP, PyData.canLay0]
    cases ‹Nat› <;> (simp only [okD] at h; exact h)
  | n + 1, .tup xs, h => by
    simp only [okD] at h
    obtain ⟨h1, h2⟩ := lays_of n xs h
    simp only [toP, PyData.canLay0, PyData.depth]
    exact ⟨h1, by omega⟩
  | n + 1, .lst xs, h => by
    simp only [okD] at h
    obtain ⟨h1, h2⟩ := lays_of n xs h
    simp only [toP, PyData.canLay0, PyData.depth]
    exact ⟨h1, by omega⟩
  | 0, .tup _, h => by simp [okD] at h
  | 0, .lst _, h => by simp [okD] at h
  | 0, .dic _, h => by simp [okD] at h
  | n + 1, .dic _, h => by simp [okD] at h
theorem lays_of : ∀ (n : Nat) (xs : List D), xs.all (okD n) = true → PyData.canLayAll0 (toPs xs) = true ∧ PyData.depthAll (toPs xs) ≤ n
  | n, [], _ => by simp [toPs, PyData.canLayAll0, PyData.depthAll]
  | n, x :: xs, h => by
    simp only [List.all_cons, Bool.and_eq_true] at h
    obtain ⟨h1, h2⟩ := lay_of n x h.1
    obtain ⟨h3, h4⟩ := lays_of n xs h.2
    simp only [toPs, PyData.canLayAll0, PyData.depthAll, Bool.and_eq_true]
    exact ⟨⟨h1, h3⟩, by omega⟩
end
theorem shaped_of {d : D} (h : okD 64 d = true) : SeqAt.shaped (toP d) = true := by
  obtain ⟨h1, h2⟩ := lay_of 64 d h
  unfold SeqAt.shaped
  rw [h1, decide_eq_true h2] <;> rfl
section
variable {K : Fg} {H : Hp}
mutual
theorem Rf.dp : ∀ (d : D) (v : V), Rf K H d v → L2.Dp K H v (toP d)
  | .non, v, h => by simp only [Rf] at h; subst h; exact .non
  | .bl b, v, h => by simp only [Rf] at h; subst h; exact .bl b
  | .int i, v, h => by simp only [Rf] at h; subst h; exact .int i
  | .str i, v, h => by simp only [Rf] at h; subst h; exact .str i
  | .tup ds, v, h => by
    simp only [Rf] at h
    obtain ⟨a, xs, rfl, h1, h2⟩ := h
    simp only [toP]
    exact .tup h1 (Rfs.dp ds xs h2)
  | .lst ds, v, h => by
    simp only [Rf] at h
    obtain ⟨a, xs, rfl, h1, h2⟩ := h
    simp only [toP]
    exact .lst h1.sq (Rfs.dp ds xs h2)
  | .dic _, v, h => by simp only [Rf] at h
theorem Rfs.dp : ∀ (ds : List D) (xs : List V), Rfs K H ds xs → L2.DpAll K H xs (toPs ds)
  | [], xs, h => by simp only [Rfs] at h; subst h; exact .nil
  | d :: ds, xs, h => by
    simp only [Rfs] at h
    obtain ⟨x, r, rfl, h1, h2⟩ := h
    exact .cons (Rf.dp d x h1) (Rfs.dp ds r h2)
end
theorem dpAll_of : ∀ {ds : List D} {xs : List V}, ds.length = xs.length → (∀ (k : Nat) d x, ds[k]? = some d → xs[k]? = some x → L2.Dp K H x (toP d)) → L2.DpAll K H xs (toPs ds)
  | [], xs, h, _ => by
    have : xs = [] := List.length_eq_zero_iff.mp h.symm
    subst this; exact .nil
  | d :: ds, xs, h, k => by
    cases xs with
    | nil => simp at h
    | cons x r => exact .cons (k 0 d x rfl rfl) (dpAll_of (by simpa using h) fun j d' x' e1 e2 => k (j + 1) d' x' (by simpa using e1) (by simpa using e2))
theorem Rep.dp : ∀ {n : Nat} {d : D} {v : V} {S : AS}, Rep K H n d v S → L2.Dp K H v (toP d)
  | 0, d, v, S, h => Rf.dp d v (Rep.frz0.mp h)
  | n + 1, .lst ds, v, S, h => by
    obtain ⟨a, xs, rfl, l, h1, G, _, h2⟩ := h.lst
    simp only [toP]
    exact .lst l.sq (dpAll_of h1 fun k d x e1 e2 => (h2 k d x e1 e2).dp)
  | n + 1, .dic _, v, S, h => h.nodic.elim
  | n + 1, .non, v, S, h => Rf.dp _ v ((Rep.of_leaf rfl).mp h)
  | n + 1, .bl _, v, S, h => Rf.dp _ v ((Rep.of_leaf rfl).mp h)
  | n + 1, .int _, v, S, h => Rf.dp _ v ((Rep.of_leaf rfl).mp h)
  | n + 1, .str _, v, S, h => Rf.dp _ v ((Rep.of_leaf rfl).mp h)
  | n + 1, .tup _, v, S, h => Rf.dp _ v ((Rep.of_leaf rfl).mp h)
end

/-! ### comparisons -/
def RC (K : Fg) (sem : D → D → Option Bool) : R2 := fun x y H Q => ∃ (wx wy : W) (S S' : AS) (k : Bool), Rep K H wx.2 wx.1 x S ∧ Rep K H wy.2 wy.1 y S' ∧ sem wx.1 wy.1 = some k ∧ Q (.bl k) H
section
variable {X : Cx} {a b : Expr} {pos : Pos} {t1 t2 : List Nat} {r1 r2 : Option Nat} {f g : Env → R W} {sem : D → D → Option Bool}
theorem vt_cmp {op : CmpOp} (hp : plainX b = true) (ho : OpR X (compareOp op) (RC X.K sem)) (ha : PE X a (VT X.K t1 r1 f)) (hb : PE X b (VT X.K t2 r2 g)) (hr : ∀ i, r1 = some i → i ∉ t2) :
    PE X (.Compare a [op] [b] pos) (VT X.K (t1 ++ t2) none fun ρ => bd (f ρ) fun x ρ => bd (g ρ) fun y ρ => (match sem x.1 y.1 with
      | some k => .ok (.bl k, 0) ρ
      | none => .no)) :=
  PE_imp (L2.pe_cmpR ho ha hb (mark_plain hp)) fun σ H Q ⟨ρ, F, w, ρ', hE, e, q⟩ => by
    obtain ⟨x, ρ1, e1, e⟩ := bd_ok e
    obtain ⟨y, ρ2, e2, e⟩ := bd_ok e
    refine ⟨ρ, F, x, ρ1, hE, e1, fun v1 H1 F1 S1 P1 V1 => ⟨ρ1, F1, y, ρ2, P1.env, e2, fun v2 H2 F2 S2 P2 V2 => ?_⟩⟩
    have V1' := V1.move P1.env P2 hr
    cases hs : sem x.1 y.1 with
    | none => rw [hs] at e; cases e
    | some k =>
      rw [hs] at e
      cases e
      have P := Po.trans hE (P1.sub (t2 := t1 ++ t2) (s2 := []) (fun i h => List.mem_append_left _ h) (fun _ h => h)) (P2.sub (t2 := t1 ++ t2) (s2 := []) (fun i h => List.mem_append_right _ h) (fun _ h => h))
      exact ⟨x, y, S1, S2, k, V1'.rep, V2.rep, hs, q _ _ F2 _ P (Pv.rf (by simp only [Rf]))⟩
theorem bt_cmp {op : CmpOp} (hp : plainX b = true) (ho : OpR X (compareOp op) (RC X.K sem)) (ha : PE X a (VT X.K t1 r1 f)) (hb : PE X b (VT X.K t2 r2 g)) (hr : ∀ i, r1 = some i → i ∉ t2) :
    PT X (.Compare a [op] [b] pos) (BT X.K (t1 ++ t2) fun ρ => bd (bd (f ρ) fun x ρ => bd (g ρ) fun y ρ => (match sem x.1 y.1 with
      | some k => .ok (.bl k, 0) ρ
      | none => .no)) tru) :=
  PT_imp (L2.pt_cmpR ho ha hb (mark_plain hp)) fun σ H Q ⟨ρ, F, w, ρ', hE, e, q⟩ => by
    obtain ⟨z, ρ3, e, e3⟩ := bd_ok e
    obtain ⟨x, ρ1, e1, e⟩ := bd_ok e
    obtain ⟨y, ρ2, e2, e⟩ := bd_ok e
    refine ⟨ρ, F, x, ρ1, hE, e1, fun v1 H1 F1 S1 P1 V1 => ⟨ρ1, F1, y, ρ2, P1.env, e2, fun v2 H2 F2 S2 P2 V2 => ?_⟩⟩
    have V1' := V1.move P1.env P2 hr
    cases hs : sem x.1 y.1 with
    | none => rw [hs] at e; cases e
    | some k =>
      rw [hs] at e
      cases e
      cases e3
      have P := Po.trans hE (P1.sub (t2 := t1 ++ t2) (s2 := []) (fun i h => List.mem_append_left _ h) (fun _ h => h)) (P2.sub (t2 := t1 ++ t2) (s2 := []) (fun i h => List.mem_append_right _ h) (fun _ h => h))
      exact ⟨x, y, S1, S2, _, V1'.rep, V2.rep, hs, _, rfl, q _ F2 P⟩
end
def pyCop : Cop → CmpOp
  | .lt => .Lt | .le => .LtE | .gt => .Gt | .ge => .GtE | .eq => .Eq | .ne => .NotEq | .mem => .In | .nmem => .NotIn
  | .isN | .isT | .isF => .Is
  | .notN | .notT | .notF => .IsNot
section
variable {X : Cx}
theorem Rep.isN {K : Fg} {H : Hp} {n : Nat} {d : D} {x : V} {S : AS} (hx : Rep K H n d x S) : decide (x = V.non) = d.isNon := by
  cases d with
  | non => rw [hx.non]; rfl
  | bl b => rw [hx.bl]; rfl
  | int b => rw [hx.int]; rfl
  | str b => rw [hx.str]; rfl
  | tup b => obtain ⟨a, xs, rfl, _⟩ := hx.tup; rfl
  | lst b => obtain ⟨a, xs, rfl, _⟩ := hx.lst; rfl
  | dic b => exact hx.nodic.elim
theorem room_of {n : Nat} {A : Around} (h : L2.Room n A) : A.units + 65 < cLine := by have := h.un; omega
theorem oc (n : Nat) (hr : L2.Room n X.A) (o : Cop) : OpR X (compareOp (pyCop o)) (RC X.K (cop o)) := by
  intro pins s σ H x y v u Q I rx ry h
  obtain ⟨⟨dx, nx⟩, ⟨dy, ny⟩, S, S', k, hx, hy, hs, q⟩ := h
  have hx : Rep X.K H nx dx x S := hx
  have hy : Rep X.K H ny dy y S' := hy
  have hs : cop o dx dy = some k := hs
  have r64 : X.A.units + 64 < cLine := by have := room_of hr; omega
  have r65 := room_of hr
  have numS : ∀ {p : Int → Int → Bool} {op : CmpOp}, (∀ i j, dx = .int i → dy = .int j → k = p i j) → (∃ i j, dx = .int i ∧ dy = .int j) →
      (∀ (i j : Int) (t u : Tok) (Q : Value → Shared → Prop) (s : Shared), Q (.bool (p i j)) s → wpAny (model X.prog X.w) X.A (compareOp op (.int i t) (.int j u)) Q X.xe s) → wpAny (model X.prog X.w) X.A (compareOp op v u) (L2.EP X pins σ Q) X.xe s := fun {p op} h1 ⟨i, j, e1, e2⟩ rule => by
    have := h1 i j e1 e2
    subst e1 e2 this
    cases hx.int; cases hy.int
    obtain ⟨t, rfl⟩ := rx
    obtain ⟨t', rfl⟩ := ry
    exact rule i j t t' _ s ⟨.bl _, H, I, rfl, q⟩
  have memS : ∀ (ys : List D) (neg : Bool), okD 64 dx = true → ys.all (okD 63) = true → (dy = .lst ys ∨ dy = .tup ys) → k = (if neg then !ys.any (fun y => deq y dx) else ys.any fun y => deq y dx) →
      wpAny (model X.prog X.w) X.A (compareOp (if neg then .NotIn else .In) v u) (L2.EP X pins σ Q) X.xe s := fun ys neg h1 h2 hd hk => by
    obtain ⟨as, ra⟩ := L2.Dp.reads I (toP dx) x v hx.dp rx
    obtain ⟨bs, rb⟩ := L2.Dp.reads I (toP dy) y u hy.dp ry
    obtain ⟨l1, l2⟩ := lay_of 64 dx h1
    obtain ⟨l3, l4⟩ := lays_of 63 ys h2
    have room : X.A.units + 1 + min (PyData.depthAll (toPs ys)) (toP dx).depth < cLine := by omega
    have any_ : (toPs ys).any (fun z => PyData.eqv z (toP dx)) = ys.any fun y => deq y dx := by
      rw [toPs_any]
      congr 1
      funext z
      exact deq_eqv z dx
    subst hk
    rcases hd with rfl | rfl
    · simp only [toP] at rb
      cases neg with
      | false => exact SeqAt.in_list_reads rb ra l3 l1 room ⟨.bl _, H, I, rfl, by rw [any_]; exact q⟩
      | true => exact SeqAt.notIn_list_reads rb ra l3 l1 room ⟨.bl _, H, I, rfl, by rw [any_]; exact q⟩
    · simp only [toP] at rb
      cases neg with
      | false => exact SeqAt.in_tuple_reads rb ra l3 l1 room ⟨.bl _, H, I, rfl, by rw [any_]; exact q⟩
      | true => exact SeqAt.notIn_tuple_reads rb ra l3 l1 room ⟨.bl _, H, I, rfl, by rw [any_]; exact q⟩
  cases o with
  | lt => exact numS (p := fun i j => decide (i < j)) (fun i j e1 e2 => by subst e1 e2; simp only [cop] at hs; exact (Option.some.inj hs).symm) (by cases dx <;> cases dy <;> simp_all [cop]) fun _ _ _ _ _ _ h => lt_int h
  | le => exact numS (p := fun i j => decide (i ≤ j)) (fun i j e1 e2 => by subst e1 e2; simp only [cop] at hs; exact (Option.some.inj hs).symm) (by cases dx <;> cases dy <;> simp_all [cop]) fun _ _ _ _ _ _ h => le_int h
  | gt => exact numS (p := fun i j => decide (j < i)) (fun i j e1 e2 => by subst e1 e2; simp only [cop] at hs; exact (Option.some.inj hs).symm) (by cases dx <;> cases dy <;> simp_all [cop]) fun _ _ _ _ _ _ h => gt_int h
  | ge => exact numS (p := fun i j => decide (j ≤ i)) (fun i j e1 e2 => by subst e1 e2; simp only [cop] at hs; exact (Option.some.inj hs).symm) (by cases dx <;> cases dy <;> simp_all [cop]) fun _ _ _ _ _ _ h => ge_int h
  | eq =>
    simp only [cop] at hs
    split at hs
    · rename_i ho
      cases hs
      rw [Bool.and_eq_true] at ho
      exact L2.op_eqD r64 pins s σ H x y v u Q I rx ry ⟨toP dx, toP dy, hx.dp, hy.dp, shaped_of ho.1, shaped_of ho.2, by rw [deq_eqv]; exact q⟩
    · cases hs
  | ne =>
    simp only [cop] at hs
    split at hs
    · rename_i ho
      cases hs
      rw [Bool.and_eq_true] at ho
      exact L2.op_neD r64 pins s σ H x y v u Q I rx ry ⟨toP dx, toP dy, hx.dp, hy.dp, shaped_of ho.1, shaped_of ho.2, by rw [deq_eqv]; exact q⟩
    · cases hs
  | isN =>
    cases dy with
    | non =>
      simp only [cop] at hs
      cases hs
      refine L2.op_isN pins s σ H x y v u Q I rx ry ⟨hy.non, ?_⟩
      have : decide (x = V.non) = dx.isNon := hx.isN
      rw [this]
      exact q
    | _ => simp only [cop] at hs; cases hs
  | notN =>
    cases dy with
    | non =>
      simp only [cop] at hs
      cases hs
      refine L2.op_notN pins s σ H x y v u Q I rx ry ⟨hy.non, ?_⟩
      have : decide (x = V.non) = dx.isNon := hx.isN
      rw [this]
      exact q
    | _ => simp only [cop] at hs; cases hs
  | isT =>
    cases dx with
    | bl b =>
      cases dy with
      | bl c =>
        cases c with
        | true =>
          simp only [cop] at hs
          cases hs
          cases hx.bl; cases hy.bl
          refine L2.op_is_bl pins s σ H _ _ v u Q I rx ry ⟨_, true, rfl, rfl, ?_⟩
          have : ∀ b : Bool, decide (b = true) = b := by decide
          rw [this]; exact q
        | false => simp only [cop] at hs; cases hs
      | _ => simp only [cop] at hs; cases hs
    | _ => simp only [cop] at hs; cases hs
  | notT =>
    cases dx with
    | bl b =>
      cases dy with
      | bl c =>
        cases c with
        | true =>
          simp only [cop] at hs
          cases hs
          cases hx.bl; cases hy.bl
          refine L2.op_isnot_bl pins s σ H _ _ v u Q I rx ry ⟨_, true, rfl, rfl, ?_⟩
          have : ∀ b : Bool, (!decide (b = true)) = !b := by decide
          rw [this]; exact q
        | false => simp only [cop] at hs; cases hs
      | _ => simp only [cop] at hs; cases hs
    | _ => simp only [cop] at hs; cases hs
  | isF =>
    cases dx with
    | bl b =>
      cases dy with
      | bl c =>
        cases c with
        | false =>
          simp only [cop] at hs
          cases hs
          cases hx.bl; cases hy.bl
          refine L2.op_is_bl pins s σ H _ _ v u Q I rx ry ⟨_, false, rfl, rfl, ?_⟩
          have : ∀ b : Bool, decide (b = false) = !b := by decide
          rw [this]; exact q
        | true => simp only [cop] at hs; cases hs
      | _ => simp only [cop] at hs; cases hs
    | _ => simp only [cop] at hs; cases hs
  | notF =>
    cases dx with
    | bl b =>
      cases dy with
      | bl c =>
        cases c with
        | false =>
          simp only [cop] at hs
          cases hs
          cases hx.bl; cases hy.bl
          refine L2.op_isnot_bl pins s σ H _ _ v u Q I rx ry ⟨_, false, rfl, rfl, ?_⟩
          have : ∀ b : Bool, (!decide (b = false)) = b := by decide
          rw [this]; exact q
        | true => simp only [cop] at hs; cases hs
      | _ => simp only [cop] at hs; cases hs
    | _ => simp only [cop] at hs; cases hs
  | mem =>
    cases dy with
    | lst ys =>
      simp only [cop] at hs
      split at hs
      · rename_i ho
        cases hs
        rw [Bool.and_eq_true] at ho
        exact memS ys false ho.1 ho.2 (.inl rfl) rfl
      · cases hs
    | tup ys =>
      simp only [cop] at hs
      split at hs
      · rename_i ho
        cases hs
        rw [Bool.and_eq_true] at ho
        exact memS ys false ho.1 ho.2 (.inr rfl) rfl
      · cases hs
    | _ => simp only [cop] at hs; cases hs
  | nmem =>
    cases dy with
    | lst ys =>
      simp only [cop] at hs
      split at hs
      · rename_i ho
        cases hs
        rw [Bool.and_eq_true] at ho
        exact memS ys true ho.1 ho.2 (.inl rfl) rfl
      · cases hs
    | tup ys =>
      simp only [cop] at hs
      split at hs
      · rename_i ho
        cases hs
        rw [Bool.and_eq_true] at ho
        exact memS ys true ho.1 ho.2 (.inr rfl) rfl
      · cases hs
    | _ => simp only [cop] at hs; cases hs
end
end Q
end
section
set_option Elab.async false
set_option linter.all false
set_option maxRecDepth 100000
set_option maxHeartbeats 4000000
/-! QH: calls of built-ins. -/
namespace Q
open PySem PySem.Spec PyProof.Rows
open L2 (V Hp HO TE TT TA TS VK upd SqL SqT Rd Inv Cx PE PA PT R2 OpR CallR)

/-- arguments that are only read: each by what it is behind the last -/
def Reps (K : Fg) (H : Hp) (ws : List W) (vs : List V) : Prop := ws.length = vs.length ∧ ∀ (k : Nat) w v, ws[k]? = some w → vs[k]? = some v → ∃ S, Rep K H w.2 w.1 v S
def BA (K : Fg) (t : List Nat) (ext : List V) (f : Env → R (List W)) : TA := fun σ H Q => ∃ ρ F ws ρ', REnv K H σ ρ F ∧ f ρ = .ok ws ρ' ∧
  ∀ vs H' F', Po K t [] H σ ρ F H' σ ρ' F' → Reps K H' ws vs → Q (vs ++ ext) H'
section
variable {X : Cx} {e : Expr} {es : List Expr} {t t1 t2 : List Nat} {r : Option Nat} {f : Env → R W} {g : Env → R (List W)} {ext : List V}
theorem ba_end (h : PA X es fun σ H Q => Q ext H) : PA X es (BA X.K [] ext fun ρ => .ok [] ρ) := PA_imp h fun σ H Q ⟨ρ, F, w, ρ', hE, e, q⟩ => by
  cases e
  exact q [] H F (Po.refl hE) ⟨rfl, fun k w v h => by simp at h⟩
theorem ba_cons (hp : plainX e = true) (h : PE X e (VT X.K t1 r f)) (hs : PA X es (BA X.K t2 ext g)) (hr : ∀ i, r = some i → i ∉ t2) :
    PA X (e :: es) (BA X.K (t1 ++ t2) ext fun ρ => bd (f ρ) fun x ρ => bd (g ρ) fun xs ρ => .ok (x :: xs) ρ) :=
  PA_imp (L2.pa_cons h hs (star_of hp)) fun σ H Q ⟨ρ, F, w, ρ', hE, e, q⟩ => by
    obtain ⟨x, ρ1, e1, e⟩ := bd_ok e
    obtain ⟨xs, ρ2, e2, e⟩ := bd_ok e
    cases e
    refine ⟨ρ, F, x, ρ1, hE, e1, fun v H1 F1 S P V => ⟨ρ1, F1, xs, ρ', P.env, e2, fun vs H2 F2 P2 V2 => ?_⟩⟩
    have V' := V.move P.env P2 hr
    refine q (v :: vs) H2 F2 (Po.trans hE (P.sub (fun i h => List.mem_append_left _ h) fun _ h => h) (P2.sub (fun i h => List.mem_append_right _ h) fun _ h => h)) ⟨by simp [V2.1], fun k w v' h1 h2 => ?_⟩
    cases k with
    | zero => simp at h1 h2; subst h1 h2; exact ⟨S, V'.rep⟩
    | succ k => exact V2.2 k w v' (by simpa using h1) (by simpa using h2)
end
/-- a built-in by values -/
def CB (K : Fg) (ext : List V) (sem : List W → Option W) : List V → Hp → VK → Prop := fun xs H Q => ∃ ws vs w, xs = vs ++ ext ∧ Reps K H ws vs ∧ sem ws = some w ∧ ∀ v H' T, Nv K H H' w v T → Q v H'
section
variable {X : Cx} {e : Expr} {es : List Expr} {t : List Nat} {g : Env → R (List W)} {ext : List V} {sem : List W → Option W} {x : Str} {p pos : Pos}
theorem blt_imp {Z : List V → Hp → VK → Prop} {σ : Sg} {H : Hp} {Q : VK} {K : Fg}
    (h : VT K t none (fun ρ => bd (g ρ) fun ws ρ => (match sem ws with
      | some w => .ok w ρ
      | none => .no)) σ H Q) (hz : ∀ xs H Q, CB K ext sem xs H Q → Z xs H Q) : L2.tCB Z (BA K t ext g) σ H Q := by
  obtain ⟨ρ, F, w, ρ', hE, e, q⟩ := h
  obtain ⟨ws, ρ1, e1, e⟩ := bd_ok e
  refine ⟨ρ, F, ws, ρ1, hE, e1, fun vs H1 F1 P V => ?_⟩
  cases hs : sem ws with
  | none => rw [hs] at e; cases e
  | some w' =>
    rw [hs] at e
    cases e
    exact hz _ _ _ ⟨ws, vs, _, rfl, V, hs, fun v H' T nv => q v H' F1 T (P.adds nv.add) (nv.pv hE P)⟩
theorem vt_bltB {id : String} (hc : CallR X (.builtin id) (CB X.K ext sem)) (hg : L2.Gl X x) (hm : X.mg x = none) (hv : bootBuiltins x = some (.builtin id)) (hp : (e :: es).all plainX = true) (ha : PA X (e :: es) (BA X.K t ext g))
    (hn : x ≠ "__name__") (hdb : (x == ("__debug__" : Str)) = false) : PE X (.Call (.Name x p) (e :: es) [] pos) (VT X.K t none fun ρ => bd (g ρ) fun ws ρ => (match sem ws with
      | some w => .ok w ρ
      | none => .no)) :=
  PE_imp (L2.pe_callB hc hg hm hv ha hn hdb (star_of (by simp at hp; exact hp.1)) (back_plain (by simp at hp ⊢; exact hp.2))) fun σ H Q h => blt_imp h fun _ _ _ z => z
theorem vt_bltT {T : String} (hc : CallR X (.type T) (CB X.K ext sem)) (hg : L2.Gl X x) (hm : X.mg x = none) (hv : bootBuiltins x = some (.type T)) (hp : (e :: es).all plainX = true) (ha : PA X (e :: es) (BA X.K t ext g))
    (hn : x ≠ "__name__") (hdb : (x == ("__debug__" : Str)) = false) : PE X (.Call (.Name x p) (e :: es) [] pos) (VT X.K t none fun ρ => bd (g ρ) fun ws ρ => (match sem ws with
      | some w => .ok w ρ
      | none => .no)) :=
  PE_imp (L2.pe_callTy hc hg hm hv ha hn hdb (star_of (by simp at hp; exact hp.1)) (back_plain (by simp at hp ⊢; exact hp.2))) fun σ H Q h => blt_imp h fun _ _ _ z => z
end

/-! ### the built-ins -/
section
variable {K : Fg} {H : Hp}
theorem Reps.one {w : W} {vs : List V} (h : Reps K H [w] vs) : ∃ v S, vs = [v] ∧ Rep K H w.2 w.1 v S := by
  obtain ⟨h1, h2⟩ := h
  cases vs with
  | nil => simp at h1
  | cons v r =>
    cases r with
    | nil => exact ⟨v, _, rfl, (h2 0 w v rfl rfl).choose_spec⟩
    | cons _ _ => simp at h1
theorem Reps.two {w u : W} {vs : List V} (h : Reps K H [w, u] vs) : ∃ v z S S', vs = [v, z] ∧ Rep K H w.2 w.1 v S ∧ Rep K H u.2 u.1 z S' := by
  obtain ⟨h1, h2⟩ := h
  cases vs with
  | nil => simp at h1
  | cons v r =>
    cases r with
    | nil => simp at h1
    | cons z r =>
      cases r with
      | nil => exact ⟨v, z, _, _, rfl, (h2 0 w v rfl rfl).choose_spec, (h2 1 u z rfl rfl).choose_spec⟩
      | cons _ _ => simp at h1
theorem ints_of : ∀ {ds : List D} {l : List Int}, intsOf ds = some l → ds = l.map D.int
  | [], l, h => by simp only [intsOf] at h; cases h; rfl
  | d :: ds, l, h => by
    cases d with
    | int i =>
      simp only [intsOf] at h
      cases e : intsOf ds with
      | none => rw [e] at h; cases h
      | some l' =>
        rw [e] at h
        cases h
        rw [List.map_cons, ← ints_of e]
    | _ => simp only [intsOf] at h; cases h
theorem ints_map : ∀ l : List Int, intsOf (l.map D.int) = some l
  | [] => rfl
  | i :: l => by simp only [List.map_cons, intsOf, ints_map l]
theorem vs_ints : ∀ {l : List Int} {xs : List V} {n : Nat}, (l.map D.int).length = xs.length → (∀ (k : Nat) d x, (l.map D.int)[k]? = some d → xs[k]? = some x → ∃ S, Rep K H n d x S) → xs = l.map V.int
  | [], xs, n, h, _ => List.length_eq_zero_iff.mp h.symm
  | i :: l, xs, n, h, k => by
    cases xs with
    | nil => simp at h
    | cons x r =>
      obtain ⟨S, r0⟩ := k 0 (.int i) x rfl rfl
      rw [List.map_cons, ← vs_ints (n := n) (by simpa using h) fun j d y e1 e2 => k (j + 1) d y (by simpa using e1) (by simpa using e2), r0.int]
theorem Rep.ints {n : Nat} {l : List Int} {v : V} {S : AS} (h : Rep K H n (.lst (l.map D.int)) v S) : ∃ a, v = .ref a ∧ Ls K H a (l.map V.int) := by
  obtain ⟨a, xs, rfl, l', h1, G, _, h2⟩ := h.lst
  have e := vs_ints h1 fun k d x e1 e2 => ⟨_, h2 k d x e1 e2⟩
  subst e
  exact ⟨a, rfl, l'⟩
theorem Rfs.ints : ∀ l : List Int, Rfs K H (l.map D.int) (l.map V.int)
  | [] => by simp only [List.map_nil, Rfs]
  | i :: l => by
    simp only [List.map_cons, Rfs]
    exact ⟨_, _, rfl, by simp only [Rf], Rfs.ints l⟩
theorem ins_perm (i : Int) : ∀ l : List Int, (insInt i l).Perm (i :: l)
  | [] => .refl _
  | j :: r => by
    unfold insInt
    split
    · exact .refl _
    · exact ((ins_perm i r).cons j).trans (.swap i j r)
theorem ins_sorted (i : Int) : ∀ {l : List Int}, l.Pairwise (· ≤ ·) → (insInt i l).Pairwise (· ≤ ·)
  | [], _ => List.pairwise_singleton _ _
  | j :: r, h => by
    unfold insInt
    rw [List.pairwise_cons] at h
    split
    · rename_i hi
      refine List.pairwise_cons.mpr ⟨fun y hy => ?_, List.pairwise_cons.mpr h⟩
      rcases List.mem_cons.mp hy with rfl | hy
      · exact hi
      · exact Int.le_trans hi (h.1 y hy)
    · rename_i hi
      refine List.pairwise_cons.mpr ⟨fun y hy => ?_, ins_sorted i h.2⟩
      rcases List.mem_cons.mp ((ins_perm i r).mem_iff.mp hy) with rfl | hy
      · omega
      · exact h.1 y hy
theorem sort_perm : ∀ l : List Int, (sortInts l).Perm l
  | [] => .refl _
  | i :: l => (ins_perm i (sortInts l)).trans ((sort_perm l).cons i)
theorem sort_sorted : ∀ l : List Int, (sortInts l).Pairwise (· ≤ ·)
  | [] => .nil
  | i :: l => ins_sorted i (sort_sorted l)
theorem maxI_spec : ∀ {l : List Int} {m : Int}, maxI l = some m → m ∈ l ∧ ∀ y ∈ l, y ≤ m
  | [i], m, h => by simp only [maxI] at h; cases h; simp
  | i :: j :: r, m, h => by
    simp only [maxI] at h
    cases e : maxI (j :: r) with
    | none => rw [e] at h; cases h
    | some k =>
      rw [e] at h
      obtain ⟨h1, h2⟩ := maxI_spec e
      have h : (if i < k then k else i) = m := by simpa using h
      subst h
      refine ⟨?_, fun y hy => ?_⟩
      · split
        · exact List.mem_cons_of_mem _ h1
        · exact List.mem_cons_self
      · rcases List.mem_cons.mp hy with rfl | hy
        · split <;> omega
        · have := h2 y hy
          split <;> omega
theorem minI_spec : ∀ {l : List Int} {m : Int}, minI l = some m → m ∈ l ∧ ∀ y ∈ l, m ≤ y
  | [i], m, h => by simp only [minI] at h; cases h; simp
  | i :: j :: r, m, h => by
    simp only [minI] at h
    cases e : minI (j :: r) with
    | none => rw [e] at h; cases h
    | some k =>
      rw [e] at h
      obtain ⟨h1, h2⟩ := minI_spec e
      have h : (if k < i then k else i) = m := by simpa using h
      subst h
      refine ⟨?_, fun y hy => ?_⟩
      · split
        · exact List.mem_cons_of_mem _ h1
        · exact List.mem_cons_self
      · rcases List.mem_cons.mp hy with rfl | hy
        · split <;> omega
        · have := h2 y hy
          split <;> omega
/-- a type's name -/
def tyD : D → String
  | .non => "NoneType" | .bl _ => "bool" | .int _ => "int" | .str _ => "str" | .tup _ => "tuple" | .lst _ => "list" | .dic _ => "dict"
theorem Rep.ty {n : Nat} {d : D} {v : V} {S : AS} (h : Rep K H n d v S) : L2.TyX K H v (.type (tyD d)) := by
  cases d with
  | non => rw [h.non]; exact .base .non
  | bl b => rw [h.bl]; exact .base (.bl b)
  | int b => rw [h.int]; exact .base (.int b)
  | str b => rw [h.str]; exact .base (.str b)
  | tup b =>
    obtain ⟨a, xs, rfl, t, _⟩ := h.tup
    rcases t with (t | ⟨o, t⟩) | ⟨o, its, n, e, c, _⟩
    · exact .base (.tup t)
    · exact .fTuple t
    · exact .kTuple e c
  | lst b =>
    obtain ⟨a, xs, rfl, t, _⟩ := h.lst
    rcases t with t | ⟨o, t⟩ | ⟨its, n, e, _⟩
    · exact .base (.lst t)
    · exact .base (.frz t)
    · exact .kList e rfl
  | dic b => exact h.nodic.elim
end
section
variable {X : Cx}
theorem cb_len : CallR X (.builtin "len") (CB X.K [] lenW) := by
  intro pins s σ H xs us Q I r ⟨ws, vs, w, ex, rp, e, q⟩
  rw [List.append_nil] at ex
  subst ex
  unfold lenW at e
  split at e
  · rename_i ds n
    cases e
    obtain ⟨v, S, rfl, h⟩ := rp.one
    obtain ⟨a, ys, rfl, tx, ix⟩ := Rep.tup h
    exact L2.call_len pins s σ H _ us Q I r ⟨_, ys.length, rfl, .inr ⟨ys, tx, rfl⟩, by rw [← ix.len]; exact flatI q⟩
  · rename_i ds n
    cases e
    obtain ⟨v, S, rfl, h⟩ := rp.one
    obtain ⟨a, ys, rfl, tx, h1, _⟩ := Rep.lst h
    exact L2.call_len pins s σ H _ us Q I r ⟨_, ys.length, rfl, .inl ⟨ys, tx.sq, rfl⟩, by rw [← h1]; exact flatI q⟩
  · rename_i z n
    split at e
    · rename_i hz
      cases e
      obtain ⟨v, S, rfl, h⟩ := rp.one
      cases Rep.str h
      exact L2.call_len pins s σ H _ us Q I r ⟨_, z.cps.size, rfl, ⟨hz, rfl⟩, flatI q⟩
    · cases e
  · cases e
theorem cb_abs : CallR X (.builtin "abs") (CB X.K [] absW) := by
  intro pins s σ H xs us Q I r ⟨ws, vs, w, ex, rp, e, q⟩
  rw [List.append_nil] at ex
  subst ex
  unfold absW at e
  split at e
  · cases e
    obtain ⟨v, S, rfl, h⟩ := rp.one
    cases Rep.int h
    exact L2.call_abs pins s σ H _ us Q I r ⟨_, rfl, flatI q⟩
  · cases e
theorem cb_int : CallR X (.type "int") (CB X.K [] intW) := by
  intro pins s σ H xs us Q I r ⟨ws, vs, w, ex, rp, e, q⟩
  rw [List.append_nil] at ex
  subst ex
  unfold intW at e
  split at e
  · cases e
    obtain ⟨v, S, rfl, h⟩ := rp.one
    cases Rep.int h
    exact L2.call_int1 pins s σ H _ us Q I r (.inl ⟨_, rfl, flatI q⟩)
  · cases e
    obtain ⟨v, S, rfl, h⟩ := rp.one
    cases Rep.bl h
    exact L2.call_int1 pins s σ H _ us Q I r (.inr ⟨_, rfl, flatI q⟩)
  · cases e
theorem cb_max2 (hc : X.calm = true) : CallR X (.builtin "max") (CB X.K [] max2W) := by
  intro pins s σ H xs us Q I r ⟨ws, vs, w, ex, rp, e, q⟩
  rw [List.append_nil] at ex
  subst ex
  unfold max2W at e
  split at e
  · cases e
    obtain ⟨v, z, S, S', rfl, h, h'⟩ := rp.two
    cases Rep.int h; cases Rep.int h'
    exact L2.call_max2 hc pins s σ H _ us Q I r ⟨_, _, rfl, flatI q⟩
  · cases e
theorem cb_min2 (hc : X.calm = true) : CallR X (.builtin "min") (CB X.K [] min2W) := by
  intro pins s σ H xs us Q I r ⟨ws, vs, w, ex, rp, e, q⟩
  rw [List.append_nil] at ex
  subst ex
  unfold min2W at e
  split at e
  · cases e
    obtain ⟨v, z, S, S', rfl, h, h'⟩ := rp.two
    cases Rep.int h; cases Rep.int h'
    exact L2.call_min2 hc pins s σ H _ us Q I r ⟨_, _, rfl, flatI q⟩
  · cases e
theorem cb_list : CallR X (.type "list") (CB X.K [] listW) := by
  intro pins s σ H xs us Q I r ⟨ws, vs, w, ex, rp, e, q⟩
  rw [List.append_nil] at ex
  subst ex
  unfold listW at e
  split at e
  · cases e
    obtain ⟨v, S, rfl, h⟩ := rp.one
    obtain ⟨a, ys, rfl, tx, ix⟩ := Rep.tup h
    exact L2.call_list_of pins s σ H _ us Q I r ⟨a, ys, rfl, .inr tx, fun l hl => q _ _ _ (.lst1 hl ix)⟩
  · split at e
    · rename_i hn
      cases e
      obtain ⟨v, S, rfl, h⟩ := rp.one
      obtain ⟨a, ys, rfl, tx, ix⟩ := Rep.lst1 h hn
      exact L2.call_list_of pins s σ H _ us Q I r ⟨a, ys, rfl, .inl tx.sq, fun l hl => q _ _ _ (.lst1 hl ix)⟩
    · cases e
  · cases e
theorem cb_tuple : CallR X (.type "tuple") (CB X.K [] tupleW) := by
  intro pins s σ H xs us Q I r ⟨ws, vs, w, ex, rp, e, q⟩
  rw [List.append_nil] at ex
  subst ex
  unfold tupleW at e
  split at e
  · split at e
    · rename_i hn
      cases e
      obtain ⟨v, S, rfl, h⟩ := rp.one
      obtain ⟨a, ys, rfl, tx, ix⟩ := Rep.lst1 h hn
      exact L2.call_tuple_of pins s σ H _ us Q I r ⟨a, ys, rfl, .inl ⟨tx.sq, fun l hl => q _ _ _ (.tup hl ix)⟩⟩
    · cases e
  · cases e
    obtain ⟨v, S, rfl, h⟩ := rp.one
    obtain ⟨a, ys, rfl, tx, ix⟩ := Rep.tup h
    exact L2.call_tuple_of pins s σ H _ us Q I r ⟨a, ys, rfl, .inr ⟨tx, q _ _ _ (.flat (Rf.tup.mpr ⟨a, ys, rfl, tx, ix⟩))⟩⟩
  · cases e
theorem over_ints {f : List Int → Option W} {ws : List W} {w : W} {K : Fg} {H : Hp} {vs : List V} (rp : Reps K H ws vs) (e : overInts f ws = some w) : ∃ a l, vs = [.ref a] ∧ Ls K H a (l.map V.int) ∧ f l = some w := by
  unfold overInts at e
  split at e
  · rename_i ds n
    cases e1 : intsOf ds with
    | none => rw [e1] at e; cases e
    | some l =>
      rw [e1] at e
      obtain ⟨v, S, rfl, h⟩ := rp.one
      have h : Rep K H n (.lst ds) v S := h
      rw [ints_of e1] at h
      obtain ⟨a, rfl, h2⟩ := h.ints
      exact ⟨a, l, rfl, h2, e⟩
  · cases e
theorem cb_sum (hc : X.calm = true) : CallR X (.builtin "sum") (CB X.K [] (overInts fun l => some (.int l.sum, 0))) := by
  intro pins s σ H xs us Q I r ⟨ws, vs, w, ex, rp, e, q⟩
  rw [List.append_nil] at ex
  subst ex
  obtain ⟨a, l, rfl, h, e⟩ := over_ints rp e
  cases e
  exact L2.cr_sum hc pins s σ H _ us Q I r ⟨a, l, rfl, h.sq, flatI q⟩
theorem cb_maxL (hc : X.calm = true) : CallR X (.builtin "max") (CB X.K [] (overInts fun l => (maxI l).map fun i => (.int i, 0))) := by
  intro pins s σ H xs us Q I r ⟨ws, vs, w, ex, rp, e, q⟩
  rw [List.append_nil] at ex
  subst ex
  obtain ⟨a, l, rfl, h, e⟩ := over_ints rp e
  obtain ⟨m, e1, rfl⟩ := Option.map_eq_some_iff.mp e
  obtain ⟨h1, h2⟩ := maxI_spec e1
  refine L2.cr_max hc pins s σ H _ us Q I r ⟨a, l, rfl, h.sq, List.length_pos_of_mem h1, fun k hk hle => ?_⟩
  have : k = m := by have := hle m h1; have := h2 k hk; omega
  subst this
  exact flatI q
theorem cb_minL (hc : X.calm = true) : CallR X (.builtin "min") (CB X.K [] (overInts fun l => (minI l).map fun i => (.int i, 0))) := by
  intro pins s σ H xs us Q I r ⟨ws, vs, w, ex, rp, e, q⟩
  rw [List.append_nil] at ex
  subst ex
  obtain ⟨a, l, rfl, h, e⟩ := over_ints rp e
  obtain ⟨m, e1, rfl⟩ := Option.map_eq_some_iff.mp e
  obtain ⟨h1, h2⟩ := minI_spec e1
  refine L2.cr_min hc pins s σ H _ us Q I r ⟨a, l, rfl, h.sq, List.length_pos_of_mem h1, fun k hk hle => ?_⟩
  have : k = m := by have := hle m h1; have := h2 k hk; omega
  subst this
  exact flatI q
theorem cb_sorted (hc : X.calm = true) : CallR X (.builtin "sorted") (CB X.K [] (overInts fun l => some (.lst ((sortInts l).map D.int), 1))) := by
  intro pins s σ H xs us Q I r ⟨ws, vs, w, ex, rp, e, q⟩
  rw [List.append_nil] at ex
  subst ex
  obtain ⟨a, l, rfl, h, e⟩ := over_ints rp e
  cases e
  refine L2.cr_sortedI pins s σ H _ us Q I r ⟨a, l, rfl, h.sq, fun l' p hp hs hn => ?_⟩
  have : l' = sortInts l := PySem.W.lks_uniq (hp.trans (sort_perm l).symm) hs (sort_sorted l)
  subst this
  exact q _ _ _ (.lst1 hn (Rfs.ints _))
theorem cb_is {T : String} {p : D → Bool} (hp : ∀ d, L2.kitB (tyD d) T = some (p d)) : CallR X (.builtin "isinstance") (CB X.K [.ty T] (isW p)) := by
  intro pins s σ H xs us Q I r ⟨ws, vs, w, ex, rp, e, q⟩
  subst ex
  unfold isW at e
  split at e
  · rename_i d n
    cases e
    obtain ⟨v, S, rfl, h⟩ := rp.one
    exact L2.call_isi pins s σ H _ us Q I r ⟨v, .ty T, .type (tyD d), .type T, p d, rfl, .ty T, Rep.ty h, L2.kit_ty (hp d), q _ _ _ (.flat (by simp only [Rf]))⟩
  · cases e
theorem is_bool (d : D) : L2.kitB (tyD d) "bool" = some d.isBl := by
  cases d with
  | non => exact (by decide +kernel : L2.kitB "NoneType" "bool" = some false)
  | bl _ => exact (by decide +kernel : L2.kitB "bool" "bool" = some true)
  | int _ => exact (by decide +kernel : L2.kitB "int" "bool" = some false)
  | str _ => exact (by decide +kernel : L2.kitB "str" "bool" = some false)
  | tup _ => exact (by decide +kernel : L2.kitB "tuple" "bool" = some false)
  | lst _ => exact (by decide +kernel : L2.kitB "list" "bool" = some false)
  | dic _ => exact (by decide +kernel : L2.kitB "dict" "bool" = some false)
theorem is_int (d : D) : L2.kitB (tyD d) "int" = some d.isInt := by
  cases d with
  | non => exact (by decide +kernel : L2.kitB "NoneType" "int" = some false)
  | bl _ => exact (by decide +kernel : L2.kitB "bool" "int" = some true)
  | int _ => exact (by decide +kernel : L2.kitB "int" "int" = some true)
  | str _ => exact (by decide +kernel : L2.kitB "str" "int" = some false)
  | tup _ => exact (by decide +kernel : L2.kitB "tuple" "int" = some false)
  | lst _ => exact (by decide +kernel : L2.kitB "list" "int" = some false)
  | dic _ => exact (by decide +kernel : L2.kitB "dict" "int" = some false)
theorem is_str (d : D) : L2.kitB (tyD d) "str" = some d.isStr := by
  cases d with
  | non => exact (by decide +kernel : L2.kitB "NoneType" "str" = some false)
  | bl _ => exact (by decide +kernel : L2.kitB "bool" "str" = some false)
  | int _ => exact (by decide +kernel : L2.kitB "int" "str" = some false)
  | str _ => exact (by decide +kernel : L2.kitB "str" "str" = some true)
  | tup _ => exact (by decide +kernel : L2.kitB "tuple" "str" = some false)
  | lst _ => exact (by decide +kernel : L2.kitB "list" "str" = some false)
  | dic _ => exact (by decide +kernel : L2.kitB "dict" "str" = some false)
theorem is_tuple (d : D) : L2.kitB (tyD d) "tuple" = some d.isTup := by
  cases d with
  | non => exact (by decide +kernel : L2.kitB "NoneType" "tuple" = some false)
  | bl _ => exact (by decide +kernel : L2.kitB "bool" "tuple" = some false)
  | int _ => exact (by decide +kernel : L2.kitB "int" "tuple" = some false)
  | str _ => exact (by decide +kernel : L2.kitB "str" "tuple" = some false)
  | tup _ => exact (by decide +kernel : L2.kitB "tuple" "tuple" = some true)
  | lst _ => exact (by decide +kernel : L2.kitB "list" "tuple" = some false)
  | dic _ => exact (by decide +kernel : L2.kitB "dict" "tuple" = some false)
end
end Q
end
section
set_option Elab.async false
set_option linter.all false
set_option maxRecDepth 100000
set_option maxHeartbeats 4000000
/-! QI: and, or, not, tests. -/
namespace Q
open PySem PySem.Spec PyProof.Rows
open L2 (V Hp HO TE TT TA TS VK upd SqL SqT Rd Inv Cx PE PA PT PW R2 OpR CallR)

/-- no and, or, not, comparison: an expression whose test is by its value -/
def valX : Expr → Bool
  | .BoolOp .. => false
  | .UnaryOp .Not .. => false
  | .Compare .. => false
  | .IfExp .. => false
  | .NamedExpr .. => false
  | _ => true
theorem test_plain {e : Expr} {env : PySem.Env} (h : valX e = true) (whole : Sem Value) : isTrue e env whole = (do let v ← whole; standAt e.pos; holding [v] (truthy v)) := by
  cases e with
  | UnaryOp op a p => cases op <;> first | rfl | (simp [valX] at h)
  | _ => first | rfl | (simp [valX] at h)
theorem truV {K : Fg} {H : Hp} {n : Nat} {d : D} {x : V} {S : AS} {k : Bool} (h : Rep K H n d x S) (hk : truth d = some k) : L2.TruV K x H k := by
  cases d with
  | non => rw [h.non]; simp only [truth, Option.some.injEq] at hk; exact hk.symm
  | bl b => rw [h.bl]; simp only [truth, Option.some.injEq] at hk; exact hk.symm
  | int b => rw [h.int]; simp only [truth, Option.some.injEq] at hk; exact hk.symm
  | str b =>
    rw [h.str]
    simp only [truth] at hk
    split at hk
    · rename_i hz
      cases hk
      refine ⟨hz, ?_⟩
      show (b.cps.size != 0) = (((b.cps.size : Nat) : Int) != 0)
      rw [Bool.eq_iff_iff]
      simp
    · cases hk
  | tup b =>
    obtain ⟨a, xs, rfl, t, r⟩ := h.tup
    simp only [truth, Option.some.injEq] at hk
    refine .inr (.inl ⟨xs, t, ?_⟩)
    rw [← hk]
    have := r.len
    cases b <;> cases xs <;> simp_all
  | lst b =>
    obtain ⟨a, xs, rfl, t, h1, _⟩ := h.lst
    simp only [truth, Option.some.injEq] at hk
    refine .inl ⟨xs, t.sq, ?_⟩
    rw [← hk]
    cases b <;> cases xs <;> simp_all
  | dic b => exact h.nodic.elim

section
variable {X : Cx} {e a b c : Expr} {rest : List Expr} {pos : Pos} {t t1 t2 t3 : List Nat} {r r1 r2 : Option Nat} {f g : Env → R W} {p q : Env → R Bool}
theorem bt_val (hv : valX e = true) (h : PE X e (VT X.K t r f)) : PT X e (BT X.K t fun ρ => bd (f ρ) tru) :=
  PT_imp (L2.pt_truth h (test_plain hv)) fun σ H Q ⟨ρ, F, w, ρ', hE, e, q⟩ => by
    obtain ⟨x, ρ1, e1, e⟩ := bd_ok e
    refine ⟨ρ, F, x, ρ1, hE, e1, fun v H1 F1 S P V => ?_⟩
    unfold tru at e
    cases hk : truth x.1 with
    | none => rw [hk] at e; cases e
    | some k =>
      rw [hk] at e
      cases e
      exact ⟨_, truV V.rep hk, q H1 F1 P⟩
theorem subL {i : Nat} (h : i ∈ t1) : i ∈ t1 ++ t2 := List.mem_append_left _ h
theorem subR {i : Nat} (h : i ∈ t2) : i ∈ t1 ++ t2 := List.mem_append_right _ h
/-- two steps as one -/
theorem Po.seq {K : Fg} {s : List Nat} {H H1 H2 : Hp} {σ σ1 σ2 : Sg} {ρ ρ1 ρ2 : Env} {F F1 F2 : FS} (hE : REnv K H σ ρ F) (P1 : Po K t1 s H σ ρ F H1 σ1 ρ1 F1) (P2 : Po K t2 s H1 σ1 ρ1 F1 H2 σ2 ρ2 F2) : Po K (t1 ++ t2) s H σ ρ F H2 σ2 ρ2 F2 :=
  Po.trans hE (P1.sub (fun i h => subL h) fun _ h => h) (P2.sub (fun i h => subR h) fun _ h => h)
theorem bt_not (h : PT X e (BT X.K t p)) : PT X (.UnaryOp .Not e pos) (BT X.K t fun ρ => bd (p ρ) fun k ρ => .ok (!k) ρ) :=
  PT_imp (L2.pt_not h) fun σ H Q ⟨ρ, F, w, ρ', hE, e, q⟩ => by
    obtain ⟨x, ρ1, e1, e⟩ := bd_ok e
    cases e
    exact ⟨ρ, F, x, ρ', hE, e1, fun H1 F1 P => q H1 F1 P⟩
theorem PW_imp {X : Cx} {e : Expr} {t u : TT} (h : PW X e t) (i : ∀ σ H Q, u σ H Q → t σ H Q) : PW X e u := ⟨fun wh pins s σ H Q I q => h.run wh pins s σ H Q I (i σ H Q q)⟩
theorem bw_and1 (h : PT X e (BT X.K t p)) : PW X (.BoolOp .And [e] pos) (BT X.K (t ++ []) fun ρ => bd (p ρ) fun k ρ => (match k with
    | true => .ok true ρ
    | false => .ok false ρ)) :=
  PW_imp (L2.pw_and1 h) fun σ H Q ⟨ρ, F, w, ρ', hE, e, q⟩ => by
    obtain ⟨x, ρ1, e1, e⟩ := bd_ok e
    refine ⟨ρ, F, x, ρ1, hE, e1, fun H1 F1 P => ?_⟩
    cases x <;> cases e <;> exact q H1 F1 (P.sub (fun i h => subL h) fun _ h => h)
theorem bw_or1 (h : PT X e (BT X.K t p)) : PW X (.BoolOp .Or [e] pos) (BT X.K (t ++ []) fun ρ => bd (p ρ) fun k ρ => (match k with
    | true => .ok true ρ
    | false => .ok false ρ)) :=
  PW_imp (L2.pw_or1 h) fun σ H Q ⟨ρ, F, w, ρ', hE, e, q⟩ => by
    obtain ⟨x, ρ1, e1, e⟩ := bd_ok e
    refine ⟨ρ, F, x, ρ1, hE, e1, fun H1 F1 P => ?_⟩
    cases x <;> cases e <;> exact q H1 F1 (P.sub (fun i h => subL h) fun _ h => h)
theorem bw_and (h : PT X a (BT X.K t1 p)) (h2 : PW X (.BoolOp .And (b :: rest) pos) (BT X.K t2 q)) : PW X (.BoolOp .And (a :: b :: rest) pos) (BT X.K (t1 ++ t2) fun ρ => bd (p ρ) fun k ρ => (match k with
    | true => q ρ
    | false => .ok false ρ)) :=
  PW_imp (L2.pw_and h h2) fun σ H Q ⟨ρ, F, w, ρ', hE, e, q⟩ => by
    obtain ⟨x, ρ1, e1, e⟩ := bd_ok e
    refine ⟨ρ, F, x, ρ1, hE, e1, fun H1 F1 P => ?_⟩
    cases x with
    | true =>
      rw [if_pos rfl]
      exact ⟨ρ1, F1, w, ρ', P.env, e, fun H2 F2 P2 => q H2 F2 (Po.seq hE P P2)⟩
    | false =>
      rw [if_neg (by simp)]
      cases e
      exact q H1 F1 (P.sub (fun i h => subL h) fun _ h => h)
theorem bw_or (h : PT X a (BT X.K t1 p)) (h2 : PW X (.BoolOp .Or (b :: rest) pos) (BT X.K t2 q)) : PW X (.BoolOp .Or (a :: b :: rest) pos) (BT X.K (t1 ++ t2) fun ρ => bd (p ρ) fun k ρ => (match k with
    | true => .ok true ρ
    | false => q ρ)) :=
  PW_imp (L2.pw_or h h2) fun σ H Q ⟨ρ, F, w, ρ', hE, e, q⟩ => by
    obtain ⟨x, ρ1, e1, e⟩ := bd_ok e
    refine ⟨ρ, F, x, ρ1, hE, e1, fun H1 F1 P => ?_⟩
    cases x with
    | true =>
      rw [if_pos rfl]
      cases e
      exact q H1 F1 (P.sub (fun i h => subL h) fun _ h => h)
    | false =>
      rw [if_neg (by simp)]
      exact ⟨ρ1, F1, w, ρ', P.env, e, fun H2 F2 P2 => q H2 F2 (Po.seq hE P P2)⟩
/-- a value in the place of a test's branch -/
theorem vt_if (hc : PT X c (BT X.K t1 p)) (ha : PE X a (VT X.K t2 none f)) (hb : PE X b (VT X.K t3 none g)) : PE X (.IfExp c a b pos) (VT X.K (t1 ++ (t2 ++ t3)) none fun ρ => bd (p ρ) fun k ρ => (match k with
    | true => f ρ
    | false => g ρ)) :=
  PE_imp (L2.pe_ifExp hc ha hb) fun σ H Q ⟨ρ, F, w, ρ', hE, e, q⟩ => by
    obtain ⟨x, ρ1, e1, e⟩ := bd_ok e
    refine ⟨ρ, F, x, ρ1, hE, e1, fun H1 F1 P => ?_⟩
    cases x with
    | true =>
      rw [if_pos rfl]
      refine ⟨ρ1, F1, w, ρ', P.env, e, fun v H2 F2 S P2 V => q v H2 F2 S ((Po.seq hE P P2).sub (fun i h => ?_) fun _ h => h) (Pv.back hE (P.sub (fun i h => subL h) fun _ h => h) (V.sub fun i h => subR (subL h)))⟩
      rcases List.mem_append.mp h with h | h
      · exact subL h
      · exact subR (subL h)
    | false =>
      rw [if_neg (by simp)]
      refine ⟨ρ1, F1, w, ρ', P.env, e, fun v H2 F2 S P2 V => q v H2 F2 S ((Po.seq hE P P2).sub (fun i h => ?_) fun _ h => h) (Pv.back hE (P.sub (fun i h => subL h) fun _ h => h) (V.sub fun i h => subR (subR h)))⟩
      rcases List.mem_append.mp h with h | h
      · exact subL h
      · exact subR (subR h)
/-- not, as a value -/
theorem vt_not (h : PE X e (VT X.K t r f)) : PE X (.UnaryOp .Not e pos) (VT X.K t none fun ρ => bd (f ρ) fun x ρ => (match truth x.1 with
    | some k => .ok (.bl (!k), 0) ρ
    | none => .no)) :=
  PE_imp (L2.pe_notT h) fun σ H Q ⟨ρ, F, w, ρ', hE, e, q⟩ => by
    obtain ⟨x, ρ1, e1, e⟩ := bd_ok e
    refine ⟨ρ, F, x, ρ1, hE, e1, fun v H1 F1 S P V => ?_⟩
    cases hk : truth x.1 with
    | none => rw [hk] at e; cases e
    | some k =>
      rw [hk] at e
      cases e
      exact ⟨k, truV V.rep hk, q _ H1 F1 _ P (Pv.rf (by simp only [Rf]))⟩
theorem vt_neg (h : PE X e (VT X.K t r f)) : PE X (.UnaryOp .USub e pos) (VT X.K t none fun ρ => bd (f ρ) fun x ρ => (match x with
    | (.int i, _) => .ok (.int (-i), 0) ρ
    | _ => .no)) :=
  PE_imp (L2.pe_un L2.un_neg h) fun σ H Q ⟨ρ, F, w, ρ', hE, e, q⟩ => by
    obtain ⟨⟨d, n⟩, ρ1, e1, e⟩ := bd_ok e
    refine ⟨ρ, F, _, ρ1, hE, e1, fun v H1 F1 S P V => ?_⟩
    cases d with
    | int i =>
      cases e
      exact ⟨i, Rep.int V.rep, q _ H1 F1 _ P (Pv.rf (by simp only [Rf]))⟩
    | _ => cases e
theorem vt_one {op : BoolOp} (h : PE X e (VT X.K t r f)) : PE X (.BoolOp op [e] pos) (VT X.K t r f) := L2.pe_one h
theorem vt_and (h : PE X a (VT X.K t1 r f)) (h2 : PE X (.BoolOp .And (b :: rest) pos) (VT X.K t2 none g)) : PE X (.BoolOp .And (a :: b :: rest) pos) (VT X.K (t1 ++ t2) none fun ρ => bd (f ρ) fun x ρ => (match x.1 with
    | .bl true => g ρ
    | .bl false => .ok (.bl false, 0) ρ
    | _ => .no)) :=
  PE_imp (L2.pe_and h h2) fun σ H Q ⟨ρ, F, w, ρ', hE, e, q⟩ => by
    obtain ⟨⟨d, n⟩, ρ1, e1, e⟩ := bd_ok e
    refine ⟨ρ, F, _, ρ1, hE, e1, fun v H1 F1 S P V => ?_⟩
    cases d with
    | bl k =>
      refine ⟨k, Rep.bl V.rep, ?_⟩
      cases k with
      | true =>
        rw [if_pos rfl]
        exact ⟨ρ1, F1, w, ρ', P.env, e, fun v H2 F2 S P2 V => q v H2 F2 S (Po.seq hE P P2) (Pv.back hE (P.sub (fun i h => subL h) fun _ h => h) (V.sub fun i h => subR h))⟩
      | false =>
        rw [if_neg (by simp)]
        cases e
        exact q _ H1 F1 _ (P.sub (fun i h => subL h) fun _ h => h) (Pv.rf (by simp only [Rf]))
    | _ => cases e
theorem vt_or (h : PE X a (VT X.K t1 r f)) (h2 : PE X (.BoolOp .Or (b :: rest) pos) (VT X.K t2 none g)) : PE X (.BoolOp .Or (a :: b :: rest) pos) (VT X.K (t1 ++ t2) none fun ρ => bd (f ρ) fun x ρ => (match x.1 with
    | .bl true => .ok (.bl true, 0) ρ
    | .bl false => g ρ
    | _ => .no)) :=
  PE_imp (L2.pe_or h h2) fun σ H Q ⟨ρ, F, w, ρ', hE, e, q⟩ => by
    obtain ⟨⟨d, n⟩, ρ1, e1, e⟩ := bd_ok e
    refine ⟨ρ, F, _, ρ1, hE, e1, fun v H1 F1 S P V => ?_⟩
    cases d with
    | bl k =>
      refine ⟨k, Rep.bl V.rep, ?_⟩
      cases k with
      | true =>
        rw [if_pos rfl]
        cases e
        exact q _ H1 F1 _ (P.sub (fun i h => subL h) fun _ h => h) (Pv.rf (by simp only [Rf]))
      | false =>
        rw [if_neg (by simp)]
        exact ⟨ρ1, F1, w, ρ', P.env, e, fun v H2 F2 S P2 V => q v H2 F2 S (Po.seq hE P P2) (Pv.back hE (P.sub (fun i h => subL h) fun _ h => h) (V.sub fun i h => subR h))⟩
    | _ => cases e
end
end Q
end
section
set_option Elab.async false
set_option linter.all false
set_option maxRecDepth 100000
set_option maxHeartbeats 4000000
/-! QJ: chains, slices, calls of defs. -/
namespace Q
open PySem PySem.Spec PyProof.Rows
open L2 (V Hp HO TE TT TA TS VK XK Sp upd SqL SqT Rd Inv Cx PE PA PT PW R2 OpR CallR FnOk)

section
variable {X : Cx} {a b c : Expr} {pos : Pos} {t1 t2 t3 : List Nat} {r1 r2 r3 : Option Nat} {f g h : Env → R W} {sem sem' : D → D → Option Bool}
theorem marks_plain {op op' : CmpOp} (hb : plainX b = true) (hc : plainX c = true) : lastMarks [op, op'] [b, c] = false := by
  have e1 : ∀ o, behindInMarks o b = false := fun o => mark_plain hb
  have e2 : ∀ o, behindInMarks o c = false := fun o => mark_plain hc
  simp [lastMarks, e1, e2]
/-- a op b op' c -/
theorem chain_imp {K : Fg} {σ : Sg} {H : Hp} {Q : VK} (hr1 : ∀ i, r1 = some i → i ∉ t2) (hr2 : ∀ i, r2 = some i → i ∉ t3)
    (hh : VT K (t1 ++ (t2 ++ t3)) none (fun ρ => bd (f ρ) fun x ρ => bd (g ρ) fun y ρ => (match sem x.1 y.1 with
      | some true => bd (h ρ) fun u ρ => (match sem' y.1 u.1 with
        | some k => .ok (.bl k, 0) ρ
        | none => .no)
      | some false => .ok (.bl false, 0) ρ
      | none => .no)) σ H Q) : L2.tChain (RC K sem) (RC K sem') (VT K t1 r1 f) (VT K t2 r2 g) (VT K t3 r3 h) σ H Q := by
  obtain ⟨ρ, F, w, ρ', hE, e, q⟩ := hh
  obtain ⟨x, ρ1, e1, e⟩ := bd_ok e
  obtain ⟨y, ρ2, e2, e⟩ := bd_ok e
  refine ⟨ρ, F, x, ρ1, hE, e1, fun v1 H1 F1 S1 P1 V1 => ⟨ρ1, F1, y, ρ2, P1.env, e2, fun v2 H2 F2 S2 P2 V2 => ?_⟩⟩
  have V1' := V1.move P1.env P2 hr1
  have P := Po.seq hE P1 P2
  cases hs : sem x.1 y.1 with
  | none => rw [hs] at e; cases e
  | some k =>
    rw [hs] at e
    refine ⟨x, y, S1, S2, k, V1'.rep, V2.rep, hs, k, rfl, ?_⟩
    cases k with
    | false =>
      rw [if_neg (by simp)]
      cases e
      exact q _ H2 F2 _ (P.sub (fun i z => (List.mem_append.mp z).elim subL fun z => subR (subL z)) fun _ z => z) (Pv.rf (by simp only [Rf]))
    | true =>
      rw [if_pos rfl]
      obtain ⟨u, ρ3, e3, e⟩ := bd_ok e
      refine ⟨ρ2, F2, u, ρ3, P2.env, e3, fun v3 H3 F3 S3 P3 V3 => ?_⟩
      have V2' := V2.move P2.env P3 hr2
      cases hs' : sem' y.1 u.1 with
      | none => rw [hs'] at e; cases e
      | some k =>
        rw [hs'] at e
        cases e
        refine ⟨y, u, S2, S3, _, V2'.rep, V3.rep, hs', q _ H3 F3 _ ((Po.seq hE P P3).sub (fun i z => ?_) fun _ z => z) (Pv.rf (by simp only [Rf]))⟩
        rcases List.mem_append.mp z with z | z
        · rcases List.mem_append.mp z with z | z
          · exact subL z
          · exact subR (subL z)
        · exact subR (subR z)
theorem vt_chain {op op' : CmpOp} (hb : plainX b = true) (hc : plainX c = true) (ho : OpR X (compareOp op) (RC X.K sem)) (ho' : OpR X (compareOp op') (RC X.K sem')) (pa : PE X a (VT X.K t1 r1 f)) (pb : PE X b (VT X.K t2 r2 g)) (pc : PE X c (VT X.K t3 r3 h))
    (hr1 : ∀ i, r1 = some i → i ∉ t2) (hr2 : ∀ i, r2 = some i → i ∉ t3) : PE X (.Compare a [op, op'] [b, c] pos) (VT X.K (t1 ++ (t2 ++ t3)) none fun ρ => bd (f ρ) fun x ρ => bd (g ρ) fun y ρ => (match sem x.1 y.1 with
      | some true => bd (h ρ) fun u ρ => (match sem' y.1 u.1 with
        | some k => .ok (.bl k, 0) ρ
        | none => .no)
      | some false => .ok (.bl false, 0) ρ
      | none => .no)) :=
  PE_imp (L2.pe_chain ho ho' pa pb pc (marks_plain hb hc)) fun σ H Q z => chain_imp hr1 hr2 z
theorem bt_chain {op op' : CmpOp} (hb : plainX b = true) (hc : plainX c = true) (ho : OpR X (compareOp op) (RC X.K sem)) (ho' : OpR X (compareOp op') (RC X.K sem')) (pa : PE X a (VT X.K t1 r1 f)) (pb : PE X b (VT X.K t2 r2 g)) (pc : PE X c (VT X.K t3 r3 h))
    (hr1 : ∀ i, r1 = some i → i ∉ t2) (hr2 : ∀ i, r2 = some i → i ∉ t3) : PT X (.Compare a [op, op'] [b, c] pos) (BT X.K (t1 ++ (t2 ++ t3)) fun ρ => bd (bd (f ρ) fun x ρ => bd (g ρ) fun y ρ => (match sem x.1 y.1 with
      | some true => bd (h ρ) fun u ρ => (match sem' y.1 u.1 with
        | some k => .ok (.bl k, 0) ρ
        | none => .no)
      | some false => .ok (.bl false, 0) ρ
      | none => .no)) tru) :=
  PT_imp (L2.pt_chain ho ho' pa pb pc (marks_plain hb hc)) fun σ H Q ⟨ρ, F, k, ρ', hE, e, q⟩ => by
    obtain ⟨x, ρ1, e1, e2⟩ := bd_ok e
    refine chain_imp hr1 hr2 ⟨ρ, F, x, ρ1, hE, e1, fun v H1 F1 S P V => ?_⟩
    obtain ⟨d, n⟩ := x
    have hd : ∃ k, d = .bl k := by
      obtain ⟨x, ρ1, e1, e⟩ := bd_ok e1
      obtain ⟨y, ρ2, e2, e⟩ := bd_ok e
      split at e
      · obtain ⟨u, ρ3, e3, e⟩ := bd_ok e
        split at e
        · cases e; exact ⟨_, rfl⟩
        · cases e
      · cases e; exact ⟨_, rfl⟩
      · cases e
    obtain ⟨k', rfl⟩ := hd
    cases e2
    exact ⟨_, Rep.bl V.rep, q H1 F1 P⟩
end

/-! ### slices -/
theorem sIx_of {n : Nat} {d : Nat} {i : Int} : HT.sIx n d (some i) = sIx n i := by
  show (if i < 0 then (i + (n : Int)).toNat else min i.toNat n) = _
  unfold sIx
  by_cases h : 0 ≤ i
  · rw [if_pos h, if_neg (by omega)]
  · rw [if_neg h, if_pos (by omega)]
def PT0 (K : Fg) (t : List Nat) (f : Env → R (Option Int)) : L2.TO := fun σ H Q => ∃ ρ F o ρ', REnv K H σ ρ F ∧ f ρ = .ok o ρ' ∧ ∀ H' F', Po K t [] H σ ρ F H' σ ρ' F' → Q o H'
section
variable {X : Cx} {a b c : Expr} {lo hi : Option Expr} {pos p2 : Pos} {t t1 t2 t3 : List Nat} {r r1 : Option Nat} {f : Env → R W} {g h : Env → R (Option Int)}
theorem PO_imp {X : Cx} {e : Option Expr} {t u : L2.TO} (h : L2.PO X e t) (i : ∀ σ H Q, u σ H Q → t σ H Q) : L2.PO X e u := ⟨fun pins s σ H Q I q => h.run pins s σ H Q I (i σ H Q q)⟩
theorem po_no : L2.PO X none (PT0 X.K [] fun ρ => .ok none ρ) := PO_imp L2.po_none fun σ H Q ⟨ρ, F, o, ρ', hE, e, q⟩ => by
  cases e
  exact q H F (Po.refl hE)
theorem po_yes (h : PE X a (VT X.K t r f)) : L2.PO X (some a) (PT0 X.K t fun ρ => bd (f ρ) fun x ρ => (match x.1 with
    | .int i => .ok (some i) ρ
    | _ => .no)) := PO_imp (L2.po_some h) fun σ H Q ⟨ρ, F, o, ρ', hE, e, q⟩ => by
  obtain ⟨⟨d, n⟩, ρ1, e1, e⟩ := bd_ok e
  refine ⟨ρ, F, _, ρ1, hE, e1, fun v H1 F1 S P V => ?_⟩
  cases d with
  | int i => cases e; exact ⟨i, Rep.int V.rep, q H1 F1 P⟩
  | _ => cases e
theorem lo_of {n : Nat} {lo : Option Int} : HT.sIx n 0 lo = sLo n lo := by
  cases lo with
  | none => rfl
  | some i => exact sIx_of
theorem hi_of {n : Nat} {hi : Option Int} : HT.sIx n n hi = sHi n hi := by
  cases hi with
  | none => rfl
  | some i => exact sIx_of
theorem Rfs.cut {K : Fg} {H : Hp} {ds : List D} {xs : List V} (h : Rfs K H ds xs) (lo hi : Option Int) : Rfs K H (_root_.Q.cut ds lo hi) (L2.cutV xs lo hi) := by
  obtain ⟨h1, h2⟩ := Rfs.iff.mp h
  unfold L2.cutV Q.cut
  rw [lo_of, hi_of, ← h1]
  generalize sLo ds.length lo = p
  generalize sHi ds.length hi = q
  have e : (xs.drop p).take (q - p) = (xs.take q).drop p := (List.drop_take ..).symm
  rw [e]
  refine Rfs.iff.mpr ⟨by simp [h1], fun k d x e1 e2 => ?_⟩
  rw [List.getElem?_drop, List.getElem?_take] at e1 e2
  by_cases hk : p + k < q
  · rw [if_pos hk] at e1 e2
    exact h2 _ d x e1 e2
  · rw [if_neg hk] at e1; cases e1
theorem vt_slc (he : PE X a (VT X.K t1 r1 f)) (hl : L2.PO X lo (PT0 X.K t2 g)) (hh : L2.PO X hi (PT0 X.K t3 h)) (hr1 : ∀ i, r1 = some i → i ∉ t2 ++ t3) :
    PE X (.Subscript a (.Slice lo hi none p2) pos) (VT X.K (t1 ++ (t2 ++ t3)) none fun ρ => bd (f ρ) fun x ρ => bd (g ρ) fun l ρ => bd (h ρ) fun u ρ => (match slice x l u with
      | some w => .ok w ρ
      | none => .no)) :=
  PE_imp (L2.pe_slice (L2.SlR.or L2.sl_list L2.sl_tupA) he hl hh) fun σ H Q ⟨ρ, F, w, ρ', hE, e, q⟩ => by
    obtain ⟨⟨d, n⟩, ρ1, e1, e⟩ := bd_ok e
    obtain ⟨l, ρ2, e2, e⟩ := bd_ok e
    obtain ⟨u, ρ3, e3, e⟩ := bd_ok e
    refine ⟨ρ, F, _, ρ1, hE, e1, fun v H1 F1 S P V => ⟨ρ1, F1, l, ρ2, P.env, e2, fun H2 F2 P2 => ⟨ρ2, F2, u, ρ3, P2.env, e3, fun H3 F3 P3 => ?_⟩⟩⟩
    have V1 := V.move P.env (Po.seq P.env P2 P3) hr1
    have PP := (Po.seq hE P (Po.seq P.env P2 P3))
    have hv : Rep X.K H3 n d v S := V1.rep
    cases d with
    | tup xs =>
      obtain ⟨a', us, rfl, tx, ix⟩ := hv.tup
      have rc := ix.cut l u
      simp only [slice] at e
      cases e
      refine .inr ⟨a', us, rfl, tx, fun hw => ?_, fun hw p hp => ?_⟩
      · have nv : Nv X.K H3 H3 (.tup (_root_.Q.cut xs l u), 0) (.ref a') _ := .flat (Rf.tup.mpr ⟨a', us, rfl, tx, by
          unfold L2.cutV at rc
          rw [hw.1, hw.2] at rc
          simpa using rc⟩)
        exact q _ _ F3 _ (PP.adds nv.add) (nv.pv hE PP)
      · have nv := Nv.tup (K := X.K) hp rc
        exact q _ _ F3 _ (PP.adds nv.add) (nv.pv hE PP)
    | lst xs =>
      simp only [slice] at e
      by_cases hn : n ≤ 1
      · rw [if_pos hn] at e
        obtain ⟨a', us, rfl, tx, ix⟩ := hv.lst1 hn
        have rc := ix.cut l u
        cases e
        refine .inl ⟨a', us, rfl, tx.sq, fun p hp => ?_⟩
        have nv := Nv.lst1 (K := X.K) hp rc
        exact q _ _ F3 _ (PP.adds nv.add) (nv.pv hE PP)
      · rw [if_neg hn] at e; cases e
    | _ => simp only [slice] at e; cases e
end
end Q
end
section
set_option Elab.async false
set_option linter.all false
set_option maxRecDepth 100000
set_option maxHeartbeats 4000000
/-! QK: calls of defs. -/
namespace Q
open PySem PySem.Spec PyProof.Rows
open L2 (V Hp HO TE TT TA TS VK XK Sp upd SqL SqT Rd Inv Cx PE PA PT PW R2 OpR CallR FnOk)

/-- what an argument that may change has become -/
def outAt : List Bool → List W → Nat → Option W
  | true :: _, w :: _, 0 => some w
  | true :: fs, _ :: ws, k + 1 => outAt fs ws k
  | false :: _, _, 0 => none
  | false :: fs, ws, k + 1 => outAt fs ws k
  | _, _, _ => none
/-- behind a call -/
structure Aft (K : Fg) (fl : List Bool) (H : Hp) (vs : List V) (F : FS) (H' : Hp) (outs : List W) (F' : FS) (w : W) (v : V) (S : AS) : Prop where
  rep : Rep K H' w.2 w.1 v S
  own : Own H' S
  apt : ∀ k a, S a → ¬ F' k a
  newS : ∀ a, S a → H a = none ∨ ∃ j, fl[j]? = some true ∧ F j a
  out : ∀ (k : Nat) w v, outAt fl outs k = some w → vs[k]? = some v → Rep K H' w.2 w.1 v (F' k)
  ownF : ∀ k, Own H' (F' k)
  dis : ∀ i j a, F' i a → F' j a → i = j
  ioF : ∀ k a, F' k a → fl[k]? = some true
  newF : ∀ k a, F' k a → H a = none ∨ ∃ j, fl[j]? = some true ∧ F j a
  pre : Pres (fun a => ∃ j, fl[j]? = some true ∧ F j a) H H'
/-- the arguments ahead of a call -/
structure Args (K : Fg) (H : Hp) (as : List Ar) (vs : List V) (F : FS) : Prop where
  len : as.length = vs.length
  rep : ∀ (k : Nat) a v, as[k]? = some a → vs[k]? = some v → Rep K H a.1.2 a.1.1 v (F k)
  own : ∀ k, Own H (F k)
  dis : ∀ i j a, F i a → F j a → i = j
  ioF : ∀ k a, F k a → (as.map (·.2))[k]? = some true
  tab : Tabs K H
/-- what the def of the number ix promises, by what it is worth -/
def FSp (K : Fg) (g : Nat → List Ar → CR) (ix : Nat) : Sp := fun vs H Q E => ∃ as F w outs, Args K H as vs F ∧ g ix as = .ret w outs ∧
  ∀ v H' F' S, Aft K (as.map (·.2)) H vs F H' outs F' w v S → Q v H'

/-! ### arguments -/
/-- arguments by values: those that may change by their slots -/
def CA (K : Fg) (t : List Nat) (ss : List (Option Nat)) (f : Env → R (List (Option W))) : TA := fun σ H Q => ∃ ρ F ws ρ', REnv K H σ ρ F ∧ f ρ = .ok ws ρ' ∧
  ∀ vs H' F', Po K t [] H σ ρ F H' σ ρ' F' → (ws.length = vs.length ∧ ss.length = vs.length) → (∀ (k : Nat) v, vs[k]? = some v →
    (∀ i, ss[k]? = some (some i) → ws[k]? = some none ∧ σ[i]? = some (some v)) ∧ (ss[k]? = some none → ∃ d, ws[k]? = some (some (d, 0)) ∧ Rf K H' d v)) → Q vs H'
section
variable {X : Cx} {e : Expr} {es : List Expr} {t t1 t2 : List Nat} {f : Env → R W} {g : Env → R (List (Option W))} {ss : List (Option Nat)}
theorem ca_nil : PA X [] (CA X.K [] [] fun ρ => .ok [] ρ) := PA_imp L2.pa_nil fun σ H Q ⟨ρ, F, ws, ρ', hE, e, q⟩ => by
  cases e
  exact q [] H F (Po.refl hE) ⟨rfl, rfl⟩ fun k v h => by simp at h
theorem ca_val (hp : plainX e = true) (h : PE X e (VT X.K t1 none f)) (h0 : ∀ ρ w ρ', f ρ = .ok w ρ' → w.2 = 0) (hs : PA X es (CA X.K t2 ss g)) : PA X (e :: es) (CA X.K (t1 ++ t2) (none :: ss) fun ρ => bd (f ρ) fun x ρ => bd (g ρ) fun xs ρ => .ok (some x :: xs) ρ) :=
  PA_imp (L2.pa_cons h hs (star_of hp)) fun σ H Q ⟨ρ, F, w, ρ', hE, e, q⟩ => by
    obtain ⟨⟨d, n⟩, ρ1, e1, e⟩ := bd_ok e
    obtain ⟨xs, ρ2, e2, e⟩ := bd_ok e
    cases e
    have hn : n = 0 := h0 _ _ _ e1
    subst hn
    refine ⟨ρ, F, _, ρ1, hE, e1, fun v H1 F1 S P V => ⟨ρ1, F1, xs, ρ', P.env, e2, fun vs H2 F2 P2 hl hv => ?_⟩⟩
    refine q (v :: vs) H2 F2 (Po.seq hE P P2) ⟨by simp [hl.1], by simp [hl.2]⟩ fun k u hk => ?_
    cases k with
    | zero =>
      simp at hk
      subst hk
      exact ⟨fun i h => by simp at h, fun _ => ⟨d, rfl, Rf.stb (P2.pre.stb (TF.own P.env t2)) d v (Rep.frz0.mp V.rep)⟩⟩
    | succ k => exact hv k u (by simpa using hk)
theorem ca_io {i : Nat} (hp : plainX e = true) (h : PE X e (L2.tVar i)) (hs : PA X es (CA X.K t2 ss g)) : PA X (e :: es) (CA X.K t2 (some i :: ss) fun ρ => (match gt ρ i with
    | some _ => bd (g ρ) fun xs ρ => .ok (none :: xs) ρ
    | none => .no)) :=
  PA_imp (L2.pa_cons h hs (star_of hp)) fun σ H Q ⟨ρ, F, w, ρ', hE, e, q⟩ => by
    dsimp only at e
    cases hg : gt ρ i with
    | none => rw [hg] at e; cases e
    | some w0 =>
      rw [hg] at e
      obtain ⟨xs, ρ2, e2, e⟩ := bd_ok e
      cases e
      obtain ⟨v, hv, _⟩ := hE.val i w0 hg
      refine ⟨v, hv, ρ, F, xs, ρ', hE, e2, fun vs H2 F2 P2 hl hvs => q (v :: vs) H2 F2 P2 ⟨by simp [hl.1], by simp [hl.2]⟩ fun k u hk => ?_⟩
      cases k with
      | zero =>
        simp at hk
        subst hk
        exact ⟨fun j h => by simp at h; subst h; exact ⟨rfl, hv⟩, fun h => by simp at h⟩
      | succ k => exact hvs k u (by simpa using hk)
/-- keyword values -/
def KA (K : Fg) (t : List Nat) (f : Env → R (List W)) : TA := fun σ H Q => ∃ ρ F ws ρ', REnv K H σ ρ F ∧ f ρ = .ok ws ρ' ∧
  ∀ vs H' F', Po K t [] H σ ρ F H' σ ρ' F' → ws.length = vs.length → (∀ (k : Nat) w v, ws[k]? = some w → vs[k]? = some v → w.2 = 0 ∧ Rf K H' w.1 v) → Q vs H'
theorem PK_imp {X : Cx} {es : List Keyword} {t u : TA} (h : L2.PK X es t) (i : ∀ σ H Q, u σ H Q → t σ H Q) : L2.PK X es u := ⟨fun pos pins s σ H Q I q => h.run pos pins s σ H Q I (i σ H Q q)⟩
theorem ka_nil : L2.PK X [] (KA X.K [] fun ρ => .ok [] ρ) := PK_imp L2.pk_nil fun σ H Q ⟨ρ, F, ws, ρ', hE, e, q⟩ => by
  cases e
  exact q [] H F (Po.refl hE) rfl fun k v h => by simp
theorem ka_cons {nm : Option Str} {kpos : Pos} {kws : List Keyword} {g : Env → R (List W)} (h : PE X e (VT X.K t1 none f)) (h0 : ∀ ρ w ρ', f ρ = .ok w ρ' → w.2 = 0) (hs : L2.PK X kws (KA X.K t2 g)) : L2.PK X (⟨nm, e, kpos⟩ :: kws) (KA X.K (t1 ++ t2) fun ρ => bd (f ρ) fun x ρ => bd (g ρ) fun xs ρ => .ok (x :: xs) ρ) :=
  PK_imp (L2.pk_cons h hs) fun σ H Q ⟨ρ, F, w, ρ', hE, e, q⟩ => by
    obtain ⟨⟨d, n⟩, ρ1, e1, e⟩ := bd_ok e
    obtain ⟨xs, ρ2, e2, e⟩ := bd_ok e
    cases e
    have hn : n = 0 := h0 _ _ _ e1
    subst hn
    refine ⟨ρ, F, _, ρ1, hE, e1, fun v H1 F1 S P V => ⟨ρ1, F1, xs, ρ', P.env, e2, fun vs H2 F2 P2 hl hv => ?_⟩⟩
    refine q (v :: vs) H2 F2 (Po.seq hE P P2) (by simp [hl]) fun k w u hw hk => ?_
    cases k with
    | zero =>
      simp at hk hw
      subst hk hw
      exact ⟨rfl, Rf.stb (P2.pre.stb (TF.own P.env t2)) d v (Rep.frz0.mp V.rep)⟩
    | succ k => exact hv k w u (by simpa using hw) (by simpa using hk)
end

/-! ### slots given and taken back -/
theorem fill_spec : ∀ {ss : List (Option Nat)} {ws : List (Option W)} {ρ : Env} {as : List Ar}, fill ss ws ρ = some as → as.length = ss.length ∧ ws.length = ss.length ∧ as.map (·.2) = ss.map Option.isSome ∧
    (∀ (k : Nat) i, ss[k]? = some (some i) → ∃ w, gt ρ i = some w ∧ as[k]? = some (w, true)) ∧ (∀ (k : Nat) (w : W), ss[k]? = some none → ws[k]? = some (some w) → as[k]? = some (w, false))
  | [], [], ρ, as, h => by
    simp only [fill] at h
    cases h
    exact ⟨rfl, rfl, rfl, fun k i h => by simp at h, fun k w h => by simp at h⟩
  | [], _ :: _, ρ, as, h => by simp [fill] at h
  | some i :: ss, [], ρ, as, h => by simp [fill] at h
  | none :: ss, [], ρ, as, h => by simp [fill] at h
  | some i :: ss, some _ :: _, ρ, as, h => by simp [fill] at h
  | none :: ss, none :: _, ρ, as, h => by simp [fill] at h
  | some i :: ss, none :: ws, ρ, as, h => by
    simp only [fill] at h
    cases hg : gt ρ i with
    | none => rw [hg] at h; cases h
    | some w =>
      rw [hg] at h
      cases hf : fill ss ws ρ with
      | none => rw [hf] at h; cases h
      | some r =>
        rw [hf] at h
        cases h
        obtain ⟨h1, h2, h3, h4, h5⟩ := fill_spec hf
        refine ⟨by simp [h1], by simp [h2], by simp [h3], fun k j hk => ?_, fun k w' hk hw => ?_⟩
        · cases k with
          | zero => simp at hk; subst hk; exact ⟨w, hg, rfl⟩
          | succ k => exact h4 k j (by simpa using hk)
        · cases k with
          | zero => simp at hk
          | succ k => exact h5 k w' (by simpa using hk) (by simpa using hw)
  | none :: ss, some w :: ws, ρ, as, h => by
    simp only [fill] at h
    cases hf : fill ss ws ρ with
    | none => rw [hf] at h; cases h
    | some r =>
      rw [hf] at h
      cases h
      obtain ⟨h1, h2, h3, h4, h5⟩ := fill_spec hf
      refine ⟨by simp [h1], by simp [h2], by simp [h3], fun k j hk => ?_, fun k w' hk hw => ?_⟩
      · cases k with
        | zero => simp at hk
        | succ k => exact h4 k j (by simpa using hk)
      · cases k with
        | zero => simp at hw; subst hw; rfl
        | succ k => exact h5 k w' (by simpa using hk) (by simpa using hw)
/-- the slots that are given -/
def given (ss : List (Option Nat)) : List Nat := ss.filterMap id
theorem mem_given {ss : List (Option Nat)} {i : Nat} : i ∈ given ss ↔ ∃ k : Nat, ss[k]? = some (some i) := by
  unfold given
  rw [List.mem_filterMap]
  constructor
  · rintro ⟨o, h, rfl⟩
    obtain ⟨k, hk⟩ := List.mem_iff_getElem?.mp h
    exact ⟨k, hk⟩
  · rintro ⟨k, hk⟩
    exact ⟨some i, List.mem_of_getElem? hk, rfl⟩
theorem given_one : ∀ {ss : List (Option Nat)} {i j k : Nat}, (given ss).Nodup → ss[j]? = some (some i) → ss[k]? = some (some i) → j = k
  | [], i, j, k, _, h, _ => by simp at h
  | none :: ss, i, j, k, h, h1, h2 => by
    cases j with
    | zero => simp at h1
    | succ j => cases k with
      | zero => simp at h2
      | succ k => exact congrArg _ (given_one (ss := ss) h (by simpa using h1) (by simpa using h2))
  | some x :: ss, i, j, k, h, h1, h2 => by
    have h' : (x :: given ss).Nodup := h
    rw [List.nodup_cons] at h'
    cases j with
    | zero => cases k with
      | zero => rfl
      | succ k => simp at h1 h2; subst h1; exact absurd (mem_given.mpr ⟨k, h2⟩) h'.1
    | succ j => cases k with
      | zero => simp at h1 h2; subst h2; exact absurd (mem_given.mpr ⟨j, h1⟩) h'.1
      | succ k => exact congrArg _ (given_one (ss := ss) h'.2 (by simpa using h1) (by simpa using h2))
theorem back_spec : ∀ {ss : List (Option Nat)} {outs : List W} {ρ ρ' : Env}, (given ss).Nodup → back ss outs ρ = some ρ' → ρ'.length = ρ.length ∧ (∀ i, i ∉ given ss → gt ρ' i = gt ρ i) ∧
    ∀ (k : Nat) i, ss[k]? = some (some i) → ∃ w, outAt (ss.map Option.isSome) outs k = some w ∧ (i < ρ.length → gt ρ' i = some w)
  | [], [], ρ, ρ', _, h => by
    simp only [back] at h
    cases h
    exact ⟨rfl, fun _ _ => rfl, fun k i h => by simp at h⟩
  | [], _ :: _, ρ, ρ', _, h => by simp [back] at h
  | some i :: ss, [], ρ, ρ', _, h => by simp [back] at h
  | none :: ss, outs, ρ, ρ', nd, h => by
    simp only [back] at h
    obtain ⟨h1, h2, h3⟩ := back_spec (ss := ss) nd h
    refine ⟨h1, h2, fun k i hk => ?_⟩
    cases k with
    | zero => simp at hk
    | succ k =>
      obtain ⟨w, e1, e2⟩ := h3 k i (by simpa using hk)
      exact ⟨w, by simpa [outAt] using e1, e2⟩
  | some i :: ss, w :: outs, ρ, ρ', nd, h => by
    simp only [back] at h
    have nd' : (i :: given ss).Nodup := nd
    rw [List.nodup_cons] at nd'
    obtain ⟨h1, h2, h3⟩ := back_spec (ss := ss) nd'.2 h
    rw [List.length_set] at h1
    refine ⟨h1, fun j hj => ?_, fun k j hk => ?_⟩
    · have hj' : j ≠ i ∧ j ∉ given ss := by
        have : j ∉ i :: given ss := hj
        simpa using this
      rw [h2 j hj'.2, gt_set, if_neg fun z => hj'.1 z.1.symm]
    · cases k with
      | zero =>
        simp at hk
        subst hk
        refine ⟨w, by simp [outAt], fun hl => ?_⟩
        rw [h2 i nd'.1, gt_set, if_pos ⟨rfl, hl⟩]
      | succ k =>
        obtain ⟨u, e1, e2⟩ := h3 k j (by simpa using hk)
        exact ⟨u, by simpa [outAt] using e1, fun hl => e2 (by rw [List.length_set]; exact hl)⟩
theorem out_app : ∀ {fs gs : List Bool} {ws : List W} {k : Nat} {w : W}, outAt fs ws k = some w → outAt (fs ++ gs) ws k = some w
  | [], _, _, _, _, h => by simp [outAt] at h
  | true :: fs, gs, [], k, w, h => by simp [outAt] at h
  | true :: fs, gs, x :: ws, 0, w, h => by simpa [outAt] using h
  | true :: fs, gs, x :: ws, k + 1, w, h => by
    simp only [outAt, List.cons_append] at h ⊢
    exact out_app h
  | false :: fs, gs, ws, 0, w, h => by simp [outAt] at h
  | false :: fs, gs, ws, k + 1, w, h => by
    simp only [outAt, List.cons_append] at h ⊢
    exact out_app h

/-! ### the call -/
section
variable {X : Cx} {e : Expr} {es : List Expr} {kws : List Keyword} {t t1 t2 : List Nat} {ss : List (Option Nat)} {f : Env → R (List (Option W))} {g : Env → R (List W)} {cr : Nat → List Ar → CR} {ix : Nat}
/-- what the evaluation of a call gives -/
def callV (cr : Nat → List Ar → CR) (ix : Nat) (pm : List Nat) (ss : List (Option Nat)) (f : Env → R (List (Option W))) (g : Env → R (List W)) (ρ : Env) : R W :=
  bd (f ρ) fun ws ρ => bd (g ρ) fun zs ρ => (match fill ss ws ρ with
    | some us => (match cr ix (us ++ (pick pm zs).map fun z => (z, false)) with
        | .ret w outs => (match back ss outs ρ with
          | some ρ' => .ok w ρ'
          | none => .no)
        | .ex x outs => (match back ss outs ρ with
          | some ρ' => .ex x ρ'
          | none => .no)
        | .no => .no)
    | none => .no)
theorem pick_map {α β : Type} {pm : List Nat} {zs : List α} {us : List β} (hl : zs.length = us.length) : (pick pm zs).length = (pick pm us).length := by
  unfold pick
  induction pm with
  | nil => rfl
  | cons j r ih =>
    by_cases h : j < zs.length
    · rw [List.filterMap_cons, List.filterMap_cons, List.getElem?_eq_getElem h, List.getElem?_eq_getElem (show j < us.length by omega)]
      simp [ih]
    · rw [List.filterMap_cons, List.filterMap_cons, List.getElem?_eq_none (by omega), List.getElem?_eq_none (show us.length ≤ j by omega)]
      exact ih
theorem pick_at {α β : Type} {zs : List α} {us : List β} (hl : zs.length = us.length) : ∀ {pm : List Nat} {k : Nat} {z : α} {u : β}, (pick pm zs)[k]? = some z → (pick pm us)[k]? = some u → ∃ j : Nat, zs[j]? = some z ∧ us[j]? = some u
  | [], k, z, u, h, _ => by simp [pick] at h
  | j :: r, k, z, u, h1, h2 => by
    unfold pick at h1 h2
    simp only [List.filterMap_cons] at h1 h2
    cases e1 : zs[j]? with
    | none =>
      have e2 : us[j]? = none := by rw [List.getElem?_eq_none_iff] at e1 ⊢; omega
      rw [e1] at h1
      rw [e2] at h2
      exact pick_at hl (pm := r) (k := k) h1 h2
    | some x =>
      cases e2 : us[j]? with
      | none => rw [List.getElem?_eq_none_iff] at e2; have := (List.getElem?_eq_some_iff.mp e1).1; omega
      | some y =>
        rw [e1] at h1
        rw [e2] at h2
        cases k with
        | zero =>
          have a1 : x = z := Option.some.inj h1
          have a2 : y = u := Option.some.inj h2
          subst a1 a2
          exact ⟨j, e1, e2⟩
        | succ k => exact pick_at hl (pm := r) (k := k) h1 h2
theorem call_imp {pm : List Nat} {K : Fg} {σ : Sg} {H : Hp} {Q : VK} {E : XK} (nd : (given ss).Nodup) (h : VT K (t1 ++ (t2 ++ given ss)) none (callV cr ix pm ss f g) σ H Q) :
    CA K t1 ss f σ H fun vs H1 => KA K t2 g σ H1 fun zs H2 => FSp K cr ix (vs ++ pick pm zs) H2 Q E := by
  obtain ⟨ρ, F, w, ρ', hE, e, q⟩ := h
  obtain ⟨ws, ρ1, e1, e⟩ := bd_ok e
  obtain ⟨zs, ρ2, e2, e⟩ := bd_ok e
  refine ⟨ρ, F, ws, ρ1, hE, e1, fun vs H1 F1 P1 hl1 hv1 => ⟨ρ1, F1, zs, ρ2, P1.env, e2, fun us H2 F2 P2 hl2 hv2 => ?_⟩⟩
  have P := Po.seq hE P1 P2
  cases hf : fill ss ws ρ2 with
  | none => rw [hf] at e; cases e
  | some as =>
    rw [hf] at e
    dsimp only at e
    obtain ⟨f1, f2, f3, f4, f5⟩ := fill_spec hf
    have st2 := P2.pre.stb (TF.own P1.env t2)
    cases hc : cr ix (as ++ (pick pm zs).map fun z => (z, false)) with
    | no => rw [hc] at e; cases e
    | ex x outs =>
      rw [hc] at e
      dsimp only at e
      cases hb : back ss outs ρ2 with
      | none => rw [hb] at e; cases e
      | some ρ3 => rw [hb] at e; cases e
    | ret w' outs =>
      rw [hc] at e
      dsimp only at e
      cases hb : back ss outs ρ2 with
      | none => rw [hb] at e; cases e
      | some ρ3 =>
        rw [hb] at e
        cases e
        obtain ⟨b1, b2, b3⟩ := back_spec nd hb
        have flags : (as ++ (pick pm zs).map fun z => ((z, false) : Ar)).map (·.2) = ss.map Option.isSome ++ (pick pm zs).map fun _ => false := by
          rw [List.map_append, f3, List.map_map]
          rfl
        have vlen : vs.length = ss.length := hl1.2.symm
        have alen : as.length = vs.length := by omega
        -- which flags are set
        have flT : ∀ k : Nat, (ss.map Option.isSome ++ (pick pm zs).map fun _ => false)[k]? = some true → ∃ i, ss[k]? = some (some i) := fun k h => by
          by_cases hk : k < ss.length
          · rw [List.getElem?_append_left (by simpa using hk), List.getElem?_map, List.getElem?_eq_getElem hk] at h
            have h : ss[k].isSome = true := by simpa using h
            obtain ⟨i, hi⟩ := Option.isSome_iff_exists.mp h
            exact ⟨i, by rw [List.getElem?_eq_getElem hk, hi]⟩
          · rw [List.getElem?_append_right (by simpa using hk), List.getElem?_map] at h
            cases e : (pick pm zs)[k - (ss.map Option.isSome).length]? with
            | none => rw [e] at h; cases h
            | some _ => rw [e] at h; cases h
        have flS : ∀ (k : Nat) i, ss[k]? = some (some i) → (ss.map Option.isSome ++ (pick pm zs).map fun _ => false)[k]? = some true := fun k i h => by
          have hk : k < ss.length := (List.getElem?_eq_some_iff.mp h).1
          rw [List.getElem?_append_left (by simpa using hk), List.getElem?_map, h]
          rfl
        -- the footprints of the arguments
        let G : FS := fun k a => ∃ i, ss[k]? = some (some i) ∧ F2 i a
        have hA : Args K H2 (as ++ (pick pm zs).map fun z => (z, false)) (vs ++ pick pm us) G := by
          refine ⟨by simp [alen, pick_map hl2], fun k a v h1 h2 => ?_, fun k b ⟨i, _, hb⟩ => P2.env.own i b hb, fun j k b ⟨i, hi, x⟩ ⟨i', hi', y⟩ => ?_, fun k b ⟨i, hi, _⟩ => by rw [flags]; exact flS k i hi, P2.env.tab⟩
          · by_cases hk : k < as.length
            · rw [List.getElem?_append_left hk] at h1
              rw [List.getElem?_append_left (by omega)] at h2
              obtain ⟨o, ho⟩ : ∃ o, ss[k]? = some o := ⟨_, List.getElem?_eq_getElem (by omega)⟩
              cases o with
              | some i =>
                obtain ⟨u, hu, ha⟩ := f4 k i ho
                rw [h1] at ha; cases ha
                obtain ⟨_, sg⟩ := (hv1 k v h2).1 i ho
                obtain ⟨v', e3, rp⟩ := P2.env.val i u hu
                rw [sg] at e3
                cases e3
                exact Rep.mono (fun b hb => ⟨i, ho, hb⟩) rp
              | none =>
                obtain ⟨d, hw, rf⟩ := (hv1 k v h2).2 ho
                have ha := f5 k _ ho hw
                rw [h1] at ha; cases ha
                exact Rep.frz0.mpr (Rf.stb st2 d v rf)
            · rw [List.getElem?_append_right (by omega), List.getElem?_map] at h1
              rw [List.getElem?_append_right (by omega)] at h2
              cases e3 : (pick pm zs)[k - as.length]? with
              | none => rw [e3] at h1; cases h1
              | some z =>
                rw [e3] at h1
                cases h1
                rw [alen] at e3
                obtain ⟨j, j1, j2⟩ := pick_at hl2 e3 h2
                obtain ⟨z0, rf⟩ := hv2 j z v j1 j2
                show Rep K H2 z.2 z.1 v _
                rw [z0]
                exact Rep.frz0.mpr rf
          · have := P2.env.dis _ _ b x y
            subst this
            exact given_one nd hi hi'
        refine ⟨_, G, _, outs, hA, hc, fun v H' F' S A => ?_⟩
        rw [flags] at A
        have gF2 : ∀ b, (∃ j, (ss.map Option.isSome ++ (pick pm zs).map fun _ => false)[j]? = some true ∧ G j b) → TF (given ss) F2 b := fun b ⟨j, _, i, hi, hb⟩ => ⟨i, mem_given.mpr ⟨j, hi⟩, hb⟩
        have keep2 : ∀ i b, i ∉ given ss → F2 i b → ∀ xs, H2 b = some (.lst xs) → H' b = some (.lst xs) := fun i b hi hb xs e => A.pre.lst e fun z => by
          obtain ⟨i', hi', hb'⟩ := gF2 b z
          exact hi (P2.env.dis _ _ b hb hb' ▸ hi')
        have stb' : Stb H2 H' := (A.pre.mono gF2).stb (TF.own P2.env (given ss))
        have vAt : ∀ (k : Nat) i, ss[k]? = some (some i) → ∃ v, vs[k]? = some v ∧ σ[i]? = some (some v) := fun k i h => by
          have hk : k < vs.length := by have := (List.getElem?_eq_some_iff.mp h).1; omega
          exact ⟨_, List.getElem?_eq_getElem hk, ((hv1 k _ (List.getElem?_eq_getElem hk)).1 i h).2⟩
        let F3 : FS := fun i b => (∃ k : Nat, ss[k]? = some (some i) ∧ F' k b) ∨ (i ∉ given ss ∧ F2 i b)
        have notF2 : ∀ k b, F' k b → ∀ j, j ∉ given ss → ¬ F2 j b := fun k b h j hj hb => by
          rcases A.newF k b h with z | z
          · obtain ⟨xs, e⟩ := P2.env.own j b hb
            exact none_lst e z
          · obtain ⟨i', hi', hb'⟩ := gF2 b z
            exact hj (P2.env.dis _ _ b hb hb' ▸ hi')
        have E3 : REnv K H' σ ρ' F3 := by
          refine ⟨by rw [b1]; exact P2.env.len, fun i j b x y => ?_, fun i b x => ?_, fun i u hu => ?_, P2.env.tab.pres A.pre⟩
          · rcases x with ⟨k, hk, x⟩ | ⟨hi, x⟩
            · rcases y with ⟨k', hk', y⟩ | ⟨hj, y⟩
              · have := A.dis _ _ b x y
                subst this
                rw [hk] at hk'
                cases hk'
                rfl
              · exact (notF2 k b x j hj y).elim
            · rcases y with ⟨k', hk', y⟩ | ⟨hj, y⟩
              · exact (notF2 k' b y i hi x).elim
              · exact P2.env.dis _ _ b x y
          · rcases x with ⟨k, hk, x⟩ | ⟨hi, x⟩
            · exact A.ownF k b x
            · obtain ⟨xs, e⟩ := P2.env.own i b x
              exact ⟨xs, keep2 i b hi x xs e⟩
          · by_cases hi : i ∈ given ss
            · obtain ⟨k, hk⟩ := mem_given.mp hi
              obtain ⟨w0, ow, gw⟩ := b3 k i hk
              obtain ⟨v0, hv0, sg⟩ := vAt k i hk
              have hlt := gt_some hu
              rw [gw (by omega)] at hu
              cases hu
              refine ⟨v0, sg, Rep.mono (fun b z => .inl ⟨k, hk, z⟩) (A.out k _ v0 (out_app ow) ?_)⟩
              rw [List.getElem?_append_left (List.getElem?_eq_some_iff.mp hv0).1]
              exact hv0
            · rw [b2 i hi] at hu
              obtain ⟨v0, sg, rp⟩ := P2.env.val i u hu
              exact ⟨v0, sg, Rep.mono (fun b z => .inr ⟨hi, z⟩) (Rep.keep stb' (fun b xs hb e => keep2 i b hi hb xs e) rp)⟩
        have P3 : Po K (given ss) [] H2 σ ρ2 F2 H' σ ρ' F3 := by
          refine ⟨E3, fun i hi => ⟨b2 i hi, fun b => ⟨fun z => ?_, fun z => .inr ⟨hi, z⟩⟩⟩, fun _ _ => rfl, rfl, fun i b z => ?_, A.pre.mono gF2⟩
          · rcases z with ⟨k, hk, _⟩ | z
            · exact absurd (mem_given.mpr ⟨k, hk⟩) hi
            · exact z.2
          · rcases z with ⟨k, hk, z⟩ | z
            · exact (A.newF k b z).imp_right fun y => .inr (gF2 b y)
            · exact .inr (.inl z.2)
        have V3 : Pv K (given ss) none H2 F2 H' F3 w v S := by
          refine ⟨A.rep, A.own, fun i b hb z => ?_, fun b hb => (A.newS b hb).imp_right (gF2 b)⟩
          rcases z with ⟨k, hk, z⟩ | ⟨hi, z⟩
          · exact A.apt k b hb z
          · rcases A.newS b hb with y | y
            · obtain ⟨xs, e⟩ := P2.env.own i b z
              exact none_lst e y
            · obtain ⟨i', hi', hb'⟩ := gF2 b y
              exact hi (P2.env.dis _ _ b z hb' ▸ hi')
        have PP := Po.seq hE P1 (Po.seq P1.env P2 P3)
        refine q v H' F3 S PP (Pv.back hE (P1.sub (fun i h => subL h) fun _ h => h) (Pv.back P1.env (P2.sub (fun i h => subR (subL h)) fun _ h => h) (V3.sub fun i h => subR (subR h))))
end
end Q
end
section
set_option Elab.async false
set_option linter.all false
set_option maxRecDepth 100000
set_option maxHeartbeats 4000000
/-! QL: statements. -/
namespace Q
open PySem PySem.Spec PyProof.Rows
open L2 (V Hp HO TE TT TA TS TG TGs VK XK Sp upd SqL SqT Rd Inv Cx PE PA PT PW PG PGs PS PSs R2 OpR CallR FnOk Ends)

/-- a statement's reading -/
def ST (K : Fg) (t s : List Nat) (f : Env → R Fl) : TS := fun D σ H => ∃ ρ F l ρ', REnv K H σ ρ F ∧ f ρ = .ok l ρ' ∧ match l with
  | .nx => ∀ H' σ' F', Po K t s H σ ρ F H' σ' ρ' F' → D.nx σ' H'
  | .bk => ∀ H' σ' F', Po K t s H σ ρ F H' σ' ρ' F' → D.bk σ' H'
  | .ct => ∀ H' σ' F', Po K t s H σ ρ F H' σ' ρ' F' → D.ct σ' H'
  | .rt w => ∀ v H' σ' F' S, Po K t s H σ ρ F H' σ' ρ' F' → Pv K t none H F H' F' w v S → D.rt v H'
section
variable {K : Fg} {t t1 t2 s s1 s2 : List Nat} {H H1 H2 : Hp} {σ σ1 σ2 : Sg} {ρ ρ1 ρ2 : Env} {F F1 F2 : FS}
theorem Po.seqE (hE : REnv K H σ ρ F) (P1 : Po K t1 [] H σ ρ F H1 σ1 ρ1 F1) (P2 : Po K t2 s H1 σ1 ρ1 F1 H2 σ2 ρ2 F2) : Po K (t1 ++ t2) s H σ ρ F H2 σ2 ρ2 F2 :=
  Po.seq hE (P1.sub (fun _ h => h) fun _ h => nomatch h) P2
theorem Po.seqS (hE : REnv K H σ ρ F) (P1 : Po K t1 s1 H σ ρ F H1 σ1 ρ1 F1) (P2 : Po K t2 s2 H1 σ1 ρ1 F1 H2 σ2 ρ2 F2) : Po K (t1 ++ t2) (s1 ++ s2) H σ ρ F H2 σ2 ρ2 F2 :=
  Po.trans hE (P1.sub (fun i h => subL h) fun i h => subL h) (P2.sub (fun i h => subR h) fun i h => subR h)
end
section
variable {X : Cx} {e : Expr} {st : Stmt} {rest : List Stmt} {pos : Pos} {t t1 t2 t3 s s1 s2 : List Nat} {r : Option Nat} {f g : Env → R Fl} {fe : Env → R W}
theorem st_nil : PSs X [] (ST X.K [] [] fun ρ => .ok .nx ρ) := PSs_imp L2.pss_nil fun D σ H ⟨ρ, F, l, ρ', hE, e, q⟩ => by
  cases e
  exact q H σ F (Po.refl hE)
/-- what follows -/
def thenS (f g : Env → R Fl) (ρ : Env) : R Fl := bd (f ρ) fun l ρ => (match l with
    | .nx => g ρ
    | .rt w => .ok (.rt w) ρ
    | .bk => .ok .bk ρ
    | .ct => .ok .ct ρ)
theorem st_cons (h1 : PS X st (ST X.K t1 s1 f)) (h2 : PSs X rest (ST X.K t2 s2 g)) : PSs X (st :: rest) (ST X.K (t1 ++ t2) (s1 ++ s2) (thenS f g)) :=
  PSs_imp (L2.pss_cons h1 h2) fun D σ H ⟨ρ, F, l, ρ', hE, e, q⟩ => by
    obtain ⟨l1, ρ1, e1, e⟩ := bd_ok e
    have up : ∀ {H' σ' ρ' F'}, Po X.K t1 s1 H σ ρ F H' σ' ρ' F' → Po X.K (t1 ++ t2) (s1 ++ s2) H σ ρ F H' σ' ρ' F' := fun P => P.sub (fun i h => subL h) fun i h => subL h
    refine ⟨ρ, F, l1, ρ1, hE, e1, ?_⟩
    cases l1 with
    | nx =>
      intro H1 σ1 F1 P1
      refine ⟨ρ1, F1, l, ρ', P1.env, e, ?_⟩
      cases l with
      | rt w => exact fun v H' σ' F' S P2 V => q v H' σ' F' S (Po.seqS hE P1 P2) (Pv.back hE (up P1) (V.sub fun i h => subR h))
      | _ => exact fun H' σ' F' P2 => q H' σ' F' (Po.seqS hE P1 P2)
    | rt w => cases e; exact fun v H' σ' F' S P V => q v H' σ' F' S (up P) (V.sub fun i h => subL h)
    | bk => cases e; exact fun H' σ' F' P => q H' σ' F' (up P)
    | ct => cases e; exact fun H' σ' F' P => q H' σ' F' (up P)
theorem st_expr (h : PE X e (VT X.K t r fe)) (hs : swapsWith e none pos.line X.env = pure false) : PS X (.Expr e pos) (ST X.K t [] fun ρ => bd (fe ρ) fun _ ρ => .ok .nx ρ) :=
  PS_imp (L2.ps_expr h hs) fun D σ H ⟨ρ, F, l, ρ', hE, e, q⟩ => by
    obtain ⟨x, ρ1, e1, e⟩ := bd_ok e
    cases e
    exact ⟨ρ, F, x, ρ', hE, e1, fun v H1 F1 S P V => q H1 σ F1 P⟩
theorem st_ret (h : PE X e (VT X.K t none fe)) : PS X (.Return (some e) pos) (ST X.K t [] fun ρ => bd (fe ρ) fun w ρ => .ok (.rt w) ρ) :=
  PS_imp (L2.ps_ret h) fun D σ H ⟨ρ, F, l, ρ', hE, e, q⟩ => by
    obtain ⟨x, ρ1, e1, e⟩ := bd_ok e
    cases e
    exact ⟨ρ, F, x, ρ', hE, e1, fun v H1 F1 S P V => q v H1 σ F1 S P V⟩
theorem st_brk : PS X (.Break pos) (ST X.K [] [] fun ρ => .ok .bk ρ) := PS_imp L2.ps_break fun D σ H ⟨ρ, F, l, ρ', hE, e, q⟩ => by
  cases e; exact q H σ F (Po.refl hE)
theorem st_cnt : PS X (.Continue pos) (ST X.K [] [] fun ρ => .ok .ct ρ) := PS_imp L2.ps_continue fun D σ H ⟨ρ, F, l, ρ', hE, e, q⟩ => by
  cases e; exact q H σ F (Po.refl hE)
theorem st_pass : PS X (.Pass pos) (ST X.K [] [] fun ρ => .ok .nx ρ) := PS_imp L2.ps_pass fun D σ H ⟨ρ, F, l, ρ', hE, e, q⟩ => by
  cases e; exact q H σ F (Po.refl hE)
theorem st_if {c : Expr} {a b : List Stmt} {p : Env → R Bool} (hc : PT X c (BT X.K t1 p)) (ha : PSs X a (ST X.K t2 s1 f)) (hb : PSs X b (ST X.K t3 s2 g)) :
    PS X (.If c a b pos) (ST X.K (t1 ++ (t2 ++ t3)) (s1 ++ s2) fun ρ => bd (p ρ) fun k ρ => (match k with
      | true => f ρ
      | false => g ρ)) :=
  PS_imp (L2.ps_if hc ha hb) fun D σ H ⟨ρ, F, l, ρ', hE, e, q⟩ => by
    obtain ⟨x, ρ1, e1, e⟩ := bd_ok e
    refine ⟨ρ, F, x, ρ1, hE, e1, fun H1 F1 P => ?_⟩
    have bk : ∀ {v w H' F' S}, Pv X.K (t2 ++ t3) none H1 F1 H' F' w v S → Pv X.K (t1 ++ (t2 ++ t3)) none H F H' F' w v S := fun V => Pv.back hE (P.sub (fun i h => subL h) fun _ h => h) (V.sub fun i h => subR h)
    cases x with
    | true =>
      show ST X.K t2 s1 f D σ H1
      have up : ∀ {H' σ' F'}, Po X.K t2 s1 H1 σ ρ1 F1 H' σ' ρ' F' → Po X.K (t1 ++ (t2 ++ t3)) (s1 ++ s2) H σ ρ F H' σ' ρ' F' := fun P2 =>
        (Po.seqE hE P (P2.sub (t2 := t2 ++ t3) (s2 := s1 ++ s2) (fun i h => subL h) fun i h => subL h))
      refine ⟨ρ1, F1, l, ρ', P.env, e, ?_⟩
      cases l with
      | rt w => exact fun v H' σ' F' S P2 V => q v H' σ' F' S (up P2) (bk (V.sub fun i h => subL h))
      | _ => exact fun H' σ' F' P2 => q H' σ' F' (up P2)
    | false =>
      show ST X.K t3 s2 g D σ H1
      have up : ∀ {H' σ' F'}, Po X.K t3 s2 H1 σ ρ1 F1 H' σ' ρ' F' → Po X.K (t1 ++ (t2 ++ t3)) (s1 ++ s2) H σ ρ F H' σ' ρ' F' := fun P2 =>
        (Po.seqE hE P (P2.sub (t2 := t2 ++ t3) (s2 := s1 ++ s2) (fun i h => subR h) fun i h => subR h))
      refine ⟨ρ1, F1, l, ρ', P.env, e, ?_⟩
      cases l with
      | rt w => exact fun v H' σ' F' S P2 V => q v H' σ' F' S (up P2) (bk (V.sub fun i h => subR h))
      | _ => exact fun H' σ' F' P2 => q H' σ' F' (up P2)
end

/-! ### targets -/
/-- stores: the slots s take parts of a value -/
structure Pt (K : Fg) (s : List Nat) (H : Hp) (σ : Sg) (ρ : Env) (F : FS) (S : AS) (σ' : Sg) (ρ' : Env) (F' : FS) : Prop where
  env : REnv K H σ' ρ' F'
  kee : ∀ i, i ∉ s → gt ρ' i = gt ρ i ∧ ∀ a, F' i a ↔ F i a
  sig : ∀ i : Nat, i ∉ s → σ'[i]? = σ[i]?
  len : σ'.length = σ.length
  new : ∀ i a, F' i a → F i a ∨ S a
def GT (K : Fg) (s : List Nat) (g : W → Env → Option Env) : TG := fun v σ H Q => ∃ ρ F w ρ' S, REnv K H σ ρ F ∧ Rep K H w.2 w.1 v S ∧ Own H S ∧ (∀ i a, S a → ¬ F i a) ∧ g w ρ = some ρ' ∧
  ∀ σ' F', Pt K s H σ ρ F S σ' ρ' F' → Q σ' H
def GTs (K : Fg) (s : List Nat) (g : List D → Env → Option Env) : TGs := fun vs σ H Q => ∃ ρ F ds ρ', REnv K H σ ρ F ∧ Rfs K H ds vs ∧ g ds ρ = some ρ' ∧
  ∀ σ' F', Pt K s H σ ρ F (fun _ => False) σ' ρ' F' → Q σ' H
theorem PG_imp {X : Cx} {e : Expr} {t u : TG} (h : PG X e t) (i : ∀ v σ H Q, u v σ H Q → t v σ H Q) : PG X e u := ⟨fun pins s σ H v u Q I r q => h.run pins s σ H v u Q I r (i v σ H Q q)⟩
theorem PGs_imp {X : Cx} {e : List Expr} {t u : TGs} (h : PGs X e t) (i : ∀ v σ H Q, u v σ H Q → t v σ H Q) : PGs X e u := ⟨fun pins s σ H v u Q I r q => h.run pins s σ H v u Q I r (i v σ H Q q)⟩
/-- a slot takes a value -/
theorem put_slot {K : Fg} {H : Hp} {σ : Sg} {ρ : Env} {F : FS} {w : W} {v : V} {S : AS} {i : Nat} (hE : REnv K H σ ρ F) (rp : Rep K H w.2 w.1 v S) (ow : Own H S) (ap : ∀ i a, S a → ¬ F i a) (hi : i < ρ.length) :
    Pt K [i] H σ ρ F S (σ.set i (some v)) (ρ.set i (some w)) fun j a => (j = i ∧ S a) ∨ (j ≠ i ∧ F j a) := by
  refine ⟨⟨by rw [List.length_set, List.length_set]; exact hE.len, fun j k a x y => ?_, fun j a x => ?_, fun j u hu => ?_, hE.tab⟩, fun j hj => ⟨?_, fun a => ⟨fun z => ?_, fun z => .inr ⟨fun q => hj (by simp [q]), z⟩⟩⟩, fun j hj => ?_, by rw [List.length_set], fun j a z => ?_⟩
  · rcases x with ⟨x1, x2⟩ | ⟨x1, x2⟩
    · rcases y with ⟨y1, y2⟩ | ⟨y1, y2⟩
      · rw [x1, y1]
      · exact (ap k a x2 y2).elim
    · rcases y with ⟨y1, y2⟩ | ⟨y1, y2⟩
      · exact (ap j a y2 x2).elim
      · exact hE.dis _ _ a x2 y2
  · rcases x with ⟨x1, x2⟩ | ⟨x1, x2⟩
    · exact ow a x2
    · exact hE.own j a x2
  · rw [gt_set] at hu
    by_cases z : i = j ∧ i < ρ.length
    · rw [if_pos z] at hu
      cases hu
      refine ⟨v, ?_, Rep.mono (fun a y => .inl ⟨z.1.symm, y⟩) rp⟩
      rw [← z.1]
      exact List.getElem?_set_self (by rw [← hE.len]; exact hi)
    · rw [if_neg z] at hu
      obtain ⟨v', e1, rp'⟩ := hE.val j u hu
      have ne : j ≠ i := fun q => z ⟨q.symm, hi⟩
      exact ⟨v', by rw [List.getElem?_set_ne (Ne.symm ne)]; exact e1, Rep.mono (fun a y => .inr ⟨ne, y⟩) rp'⟩
  · rw [gt_set, if_neg fun z => hj (by simp [z.1])]
  · rcases z with ⟨z, _⟩ | z
    · exact absurd z fun q => hj (by simp [q])
    · exact z.2
  · rw [List.getElem?_set_ne fun z => hj (by simp [z])]
  · exact z.elim (fun y => .inr y.2) fun y => .inl y.2
theorem gt_name {X : Cx} {e : Expr} {i : Nat} (h : PG X e (L2.gName i)) : PG X e (GT X.K [i] fun w ρ => if i < ρ.length then some (ρ.set i (some w)) else none) := PG_imp h fun v σ H Q ⟨ρ, F, w, ρ', S, hE, rp, ow, ap, e, q⟩ => by
  dsimp only at e
  split at e
  · rename_i hi
    cases e
    exact q _ _ (put_slot hE rp ow ap hi)
  · cases e
theorem Pt.trans {K : Fg} {s1 s2 : List Nat} {H : Hp} {σ σ1 σ2 : Sg} {ρ ρ1 ρ2 : Env} {F F1 F2 : FS} (a : Pt K s1 H σ ρ F (fun _ => False) σ1 ρ1 F1) (b : Pt K s2 H σ1 ρ1 F1 (fun _ => False) σ2 ρ2 F2) : Pt K (s1 ++ s2) H σ ρ F (fun _ => False) σ2 ρ2 F2 where
  env := b.env
  kee := fun i n => by
    have n1 : i ∉ s1 := fun z => n (subL z)
    have n2 : i ∉ s2 := fun z => n (subR z)
    exact ⟨(b.kee i n2).1.trans (a.kee i n1).1, fun x => ((b.kee i n2).2 x).trans ((a.kee i n1).2 x)⟩
  sig := fun i n => (b.sig i fun z => n (subR z)).trans (a.sig i fun z => n (subL z))
  len := b.len.trans a.len
  new := fun i x z => (b.new i x z).elim (a.new i x) fun y => y.elim
theorem Pt.drop {K : Fg} {s : List Nat} {H : Hp} {σ σ1 : Sg} {ρ ρ1 : Env} {F F1 : FS} {S S' : AS} (a : Pt K s H σ ρ F S σ1 ρ1 F1) (h : ∀ a, S a → S' a) : Pt K s H σ ρ F S' σ1 ρ1 F1 := ⟨a.env, a.kee, a.sig, a.len, fun i x z => (a.new i x z).imp_right (h x)⟩
theorem gts_nil {X : Cx} : PGs X [] (GTs X.K [] fun ds ρ => match ds with
    | [] => some ρ
    | _ => none) := PGs_imp L2.pgs_nil fun vs σ H Q ⟨ρ, F, ds, ρ', hE, rf, e, q⟩ => by
  cases ds with
  | nil =>
    cases e
    simp only [Rfs] at rf
    exact ⟨rf, q σ F ⟨hE, fun i _ => ⟨rfl, fun _ => Iff.rfl⟩, fun _ _ => rfl, rfl, fun _ _ z => .inl z⟩⟩
  | cons _ _ => cases e
theorem each_of {e : Expr} {es : List Expr} {env : PySem.Env} (h : plainX e = true) : (assignEach (e :: es) env).map (·.2) = assign e env :: (assignEach es env).map (·.2) := by
  cases e <;> first | rfl | (simp [plainX] at h)
theorem each_len {env : PySem.Env} : ∀ {es : List Expr}, es.all plainX = true → (assignEach es env).length = es.length ∧ (assignEach es env).findIdx? (·.1) = none
  | [], _ => ⟨rfl, rfl⟩
  | e :: es, h => by
    simp only [List.all_cons, Bool.and_eq_true] at h
    obtain ⟨h1, h2⟩ := each_len (env := env) h.2
    have key : ∃ t, assignEach (e :: es) env = (false, t) :: assignEach es env := by
      have h1 := h.1
      cases e <;> first | exact ⟨_, rfl⟩ | (simp [plainX] at h1)
    obtain ⟨t, key⟩ := key
    rw [key]
    refine ⟨by simp [h1], ?_⟩
    rw [List.findIdx?_cons]
    simp [h2]
theorem gts_cons {X : Cx} {e : Expr} {es : List Expr} {s1 s2 : List Nat} {g : W → Env → Option Env} {h : List D → Env → Option Env} (hp : plainX e = true) (h1 : PG X e (GT X.K s1 g)) (h2 : PGs X es (GTs X.K s2 h)) :
    PGs X (e :: es) (GTs X.K (s1 ++ s2) fun ds ρ => match ds with
      | d :: ds => (match g (d, 0) ρ with
        | some ρ' => h ds ρ'
        | none => none)
      | [] => none) := PGs_imp (L2.pgs_cons h1 h2 (each_of hp)) fun vs σ H Q ⟨ρ, F, ds, ρ', hE, rf, e, q⟩ => by
  cases ds with
  | nil => cases e
  | cons d ds =>
    simp only [Rfs] at rf
    obtain ⟨x, r, rfl, r1, r2⟩ := rf
    dsimp only at e
    cases hg : g (d, 0) ρ with
    | none => rw [hg] at e; cases e
    | some ρ1 =>
      rw [hg] at e
      refine ⟨x, r, rfl, ρ, F, (d, 0), ρ1, fun _ => False, hE, Rep.frz0.mpr r1, fun _ z => z.elim, fun _ _ z => z.elim, hg, fun σ1 F1 P1 => ⟨ρ1, F1, ds, ρ', P1.env, r2, e, fun σ2 F2 P2 => q σ2 F2 (P1.trans P2)⟩⟩
theorem gt_tup {X : Cx} {es : List Expr} {k : Nat} {pos : Pos} {s : List Nat} {h : List D → Env → Option Env} (hc : X.calm = true) (hp : es.all plainX = true) (hl : ∀ ds ρ ρ', h ds ρ = some ρ' → ds.length = es.length) (hs : PGs X es (GTs X.K s h)) :
    PG X (.Tuple es k pos) (GT X.K s fun w ρ => match w with
      | (.tup ds, _) => h ds ρ
      | _ => none) := PG_imp (L2.pg_tup hc hs (each_len hp).1 (each_len hp).2) fun v σ H Q ⟨ρ, F, w, ρ', S, hE, rp, ow, ap, e, q⟩ => by
  obtain ⟨d, n⟩ := w
  cases d with
  | tup ds =>
    obtain ⟨a, xs, rfl, tx, ix⟩ := Rep.tup rp
    exact ⟨a, xs, rfl, tx, by rw [← ix.len]; exact hl ds ρ ρ' e, ρ, F, ds, ρ', hE, ix, e, fun σ' F' P => q σ' F' (P.drop fun _ z => z.elim)⟩
  | _ => cases e

/-! ### assignments -/
/-- stores behind an evaluation -/
theorem Po.put {K : Fg} {t s : List Nat} {H H1 : Hp} {σ σ2 : Sg} {ρ ρ1 ρ2 : Env} {F F1 F2 : FS} {S : AS} (hE : REnv K H σ ρ F) (P : Po K t [] H σ ρ F H1 σ ρ1 F1) (hS : ∀ a, S a → H a = none ∨ TF t F a) (z : Pt K s H1 σ ρ1 F1 S σ2 ρ2 F2) : Po K (t ++ s) s H σ ρ F H1 σ2 ρ2 F2 where
  env := z.env
  kee := fun i n => by
    have n1 : i ∉ t := fun z => n (subL z)
    have n2 : i ∉ s := fun z => n (subR z)
    exact ⟨(z.kee i n2).1.trans (P.kee i n1).1, fun x => ((z.kee i n2).2 x).trans ((P.kee i n1).2 x)⟩
  sig := fun i n => (z.sig i n).trans (P.sig i fun y => nomatch y)
  len := z.len.trans P.len
  new := fun i a y => by
    have up : TF t F a → TF (t ++ s) F a := fun ⟨j, hj, q⟩ => ⟨j, subL hj, q⟩
    rcases z.new i a y with x | x
    · exact (P.new i a x).imp_right fun q => q.imp_right up
    · exact (hS a x).imp_right fun q => .inr (up q)
  pre := P.pre.mono fun a ⟨j, hj, q⟩ => ⟨j, subL hj, q⟩
section
variable {X : Cx} {e tg : Expr} {pos : Pos} {t s : List Nat} {fe : Env → R W} {g : W → Env → Option Env}
theorem asg_imp {K : Fg} {D : Ends} {σ : Sg} {H : Hp} (h : ST K (t ++ s) s (fun ρ => bd (fe ρ) fun w ρ => (match g w ρ with
    | some ρ' => .ok .nx ρ'
    | none => .no)) D σ H) : L2.tAsg (VT K t none fe) (GT K s g) D σ H := by
  obtain ⟨ρ, F, l, ρ', hE, e, q⟩ := h
  obtain ⟨x, ρ1, e1, e⟩ := bd_ok e
  refine ⟨ρ, F, x, ρ1, hE, e1, fun v H1 F1 S P V => ?_⟩
  cases hg : g x ρ1 with
  | none => rw [hg] at e; cases e
  | some ρ2 =>
    rw [hg] at e
    cases e
    exact ⟨ρ1, F1, x, ρ', S, P.env, V.rep, V.own, V.plc.1, hg, fun σ2 F2 Z => q H1 σ2 F2 (Po.put hE P V.plc.2 Z)⟩
theorem st_asg (he : PE X e (VT X.K t none fe)) (hg : PG X tg (GT X.K s g)) (hs : swapsWithSole [tg] e pos.line X.env = pure false) (hw : swappedStores [tg] e X.env = pure none) (h1 : (assignEach [tg] X.env).map (·.2) = [assign tg X.env]) :
    PS X (.Assign [tg] e pos) (ST X.K (t ++ s) s fun ρ => bd (fe ρ) fun w ρ => (match g w ρ with
      | some ρ' => .ok .nx ρ'
      | none => .no)) := PS_imp (L2.ps_asg he hg hs hw h1) fun D σ H h => asg_imp h
/-- any statement whose reading is an assignment's -/
theorem st_asg' {st : Stmt} (h : PS X st (L2.tAsg (VT X.K t none fe) (GT X.K s g))) : PS X st (ST X.K (t ++ s) s fun ρ => bd (fe ρ) fun w ρ => (match g w ρ with
      | some ρ' => .ok .nx ρ'
      | none => .no)) := PS_imp h fun D σ H h => asg_imp h
end
section
variable {X : Cx} {e : Expr} {x : Str} {p pos : Pos} {t : List Nat} {r : Option Nat} {i : Nat} {fe : Env → R W} {sem : W → W → Option W} {op : Operator}
/-- x op= e -/
theorem st_aug (hN : X.N.Nodup) (hi : X.N[i]? = some x) (hx : L2.Loc X.env.scope x) (hf : X.fn x = true ∨ X.env.scope.names.lookup x = some .local) (ho : OpR X (inplaceOp op) (fun x y H Q => ∃ wx : W, wx.1.leaf = true ∧ ∃ (wy : W) (S S' : AS) (w : W), Rep X.K H wx.2 wx.1 x S ∧ Rep X.K H wy.2 wy.1 y S' ∧ sem wx wy = some w ∧ ∀ v H' T, Nv X.K H H' w v T → Q v H'))
    (he : PE X e (VT X.K t r fe)) : PS X (.AugAssign (.Name x p) op e pos) (ST X.K (t ++ [i]) [i] fun ρ => (match gt ρ i with
      | none => .no
      | some _ => bd (fe ρ) fun y ρ => (match gt ρ i with
        | some x => if x.1.leaf then (match sem x y with
          | some w => .ok .nx (ρ.set i (some w))
          | none => .no) else .no
        | none => .no))) := PS_imp (L2.ps_aug hN hi hx he ho hf) fun D σ H ⟨ρ, F, l, ρ', hE, e, q⟩ => by
  dsimp only at e
  cases hz : gt ρ i with
  | none => rw [hz] at e; cases e
  | some w0 =>
  rw [hz] at e
  dsimp only at e
  obtain ⟨v, hv, _⟩ := hE.val i w0 hz
  obtain ⟨y, ρ1, e1, e⟩ := bd_ok e
  cases hg : gt ρ1 i with
  | none => rw [hg] at e; cases e
  | some wx =>
    rw [hg] at e
    dsimp only at e
    by_cases hl : wx.1.leaf = true
    · rw [if_pos hl] at e
      cases hs : sem wx y with
      | none => rw [hs] at e; cases e
      | some w =>
        rw [hs] at e
        cases e
        refine ⟨v, hv, ρ, F, y, ρ1, hE, e1, fun v2 H1 F1 S1 P V => ?_⟩
        obtain ⟨v', hv', rp⟩ := P.env.val i wx hg
        rw [hv] at hv'
        cases hv'
        refine ⟨wx, hl, y, F1 i, S1, w, rp, V.rep, hs, fun u H2 T nv => ?_⟩
        have E2 := P.env.adds nv.add
        have hlt := gt_some hg
        have Z := put_slot (w := w) (v := u) E2 nv.rep nv.own (fun j a ha y => by obtain ⟨xs, e⟩ := P.env.own j a y; exact none_lst e (nv.new a ha)) hlt
        exact q H2 _ _ (Po.put hE (P.adds nv.add) (fun a ha => (nv.pv hE P).plc.2 a ha) Z)
    · rw [if_neg hl] at e; cases e
end
end Q
end
section
set_option Elab.async false
set_option linter.all false
set_option maxRecDepth 100000
set_option maxHeartbeats 4000000
/-! QM: places in owned lists, stores there, methods. -/
namespace Q
open PySem PySem.Spec PyProof.Rows
open L2 (V Hp HO TE TT TA TS TG TGs VK XK Sp upd SqL SqT Rd Inv Cx PE PA PT PW PG PGs PS PSs R2 OpR CallR FnOk Ends)

/-- from the value v of w the path leads to the value u of wu, S0 its part of S -/
inductive Hole (K : Fg) (H : Hp) : List D → W → V → AS → V → W → AS → Prop where
  | nil {w : W} {v : V} {S : AS} : Rep K H w.2 w.1 v S → Hole K H [] w v S v w S
  | cons {i : Int} {r : List D} {ds : List D} {n k : Nat} {a : Addr} {xs : List V} {S S0 : AS} {G : FS} {d : D} {x u : V} {wu : W} : H a = some (.lst xs) → S a → ds.length = xs.length → (∀ k b, G k b → S b ∧ b ≠ a) → (∀ j k b, G j b → G k b → j = k) →
      (∀ k d x, ds[k]? = some d → xs[k]? = some x → Rep K H n d x (G k)) → ixOf ds.length i = some k → ds[k]? = some d → xs[k]? = some x → Hole K H r (d, n) x (G k) u wu S0 → Hole K H (.int i :: r) (.lst ds, n + 1) (.ref a) S u wu S0
section
variable {K : Fg} {H H' : Hp}
theorem Hole.sub {p : List D} {w wu : W} {v u : V} {S S0 : AS} (h : Hole K H p w v S u wu S0) : ∀ b, S0 b → S b := by
  induction h with
  | nil _ => exact fun _ z => z
  | cons h1 h2 h3 h4 h5 h6 h7 h8 h9 _ ih => exact fun b z => (h4 _ b (ih b z)).1
theorem Hole.rep {p : List D} {w wu : W} {v u : V} {S S0 : AS} (h : Hole K H p w v S u wu S0) : Rep K H wu.2 wu.1 u S0 := by
  induction h with
  | nil h => exact h
  | cons h1 h2 h3 h4 h5 h6 h7 h8 h9 _ ih => exact ih
theorem Hole.getP {p : List D} {w wu : W} {v u : V} {S S0 : AS} (h : Hole K H p w v S u wu S0) : getP w p = some wu := by
  induction h with
  | nil h => rfl
  | cons h1 h2 h3 h4 h5 h6 h7 h8 h9 _ ih => simp only [Q.getP]; rw [h7]; simp only; rw [h8]; exact ih
theorem Hole.keep {p : List D} {w wu : W} {v u : V} {S S0 : AS} (st : Stb H H') (h : Hole K H p w v S u wu S0) : (∀ a xs, S a → H a = some (.lst xs) → H' a = some (.lst xs)) → Hole K H' p w v S u wu S0 := by
  induction h with
  | nil h => exact fun k => .nil (Rep.keep st k h)
  | cons h1 h2 h3 h4 h5 h6 h7 h8 h9 _ ih => exact fun k => .cons (k _ _ h2 h1) h2 h3 h4 h5 (fun j d x e1 e2 => Rep.keep st (fun b ys hb => k b ys (h4 j b hb).1) (h6 j d x e1 e2)) h7 h8 h9 (ih fun b ys hb => k b ys (h4 _ b hb).1)
/-- one step further -/
theorem Hole.snoc {p : List D} {w : W} {v u : V} {S S0 : AS} {ds : List D} {n : Nat} {i : Int} {k : Nat} {d : D} (h : Hole K H p w v S u (.lst ds, n + 1) S0) (h1 : ixOf ds.length i = some k) (h2 : ds[k]? = some d) :
    ∃ a xs x S1, u = .ref a ∧ H a = some (.lst xs) ∧ ds.length = xs.length ∧ xs[k]? = some x ∧ Hole K H (p ++ [.int i]) w v S x (d, n) S1 := by
  generalize e : (D.lst ds, n + 1) = wu at h
  induction h with
  | nil h =>
    subst e
    rw [Rep.lstS] at h
    obtain ⟨a, xs, G, e, g1, g2, g3, g4, g5, g6⟩ := h
    have hk : k < xs.length := by rw [← g3]; exact (List.getElem?_eq_some_iff.mp h2).1
    have e2 : xs[k]? = some xs[k] := List.getElem?_eq_getElem hk
    subst e
    exact ⟨a, xs, xs[k], G k, rfl, g1, g3, e2, .cons g1 g2 g3 g4 g5 g6 h1 h2 e2 (.nil (g6 k d _ h2 e2))⟩
  | cons q1 q2 q3 q4 q5 q6 q7 q8 q9 q ih =>
    obtain ⟨a, xs, x, S1, e1, e2, e3, e4, z⟩ := ih e
    exact ⟨a, xs, x, S1, e1, e2, e3, e4, .cons q1 q2 q3 q4 q5 q6 q7 q8 q9 z⟩
theorem set_at {α : Type} {ds : List α} {k j : Nat} {d d' : α} (h : (ds.set k d)[j]? = some d') : (j = k ∧ d' = d) ∨ (j ≠ k ∧ ds[j]? = some d') := by
  by_cases e : k = j
  · subst e
    by_cases hk : k < ds.length
    · rw [List.getElem?_set_self hk] at h
      exact .inl ⟨rfl, by cases h; rfl⟩
    · rw [List.getElem?_eq_none (by rw [List.length_set]; omega)] at h
      cases h
  · rw [List.getElem?_set_ne e] at h
    exact .inr ⟨fun z => e z.symm, h⟩
/-- the list at the path is another one now: R is gone from it, N is new in it -/
theorem Hole.put {p : List D} {w wu : W} {v : V} {a : Addr} {S S0 R N T : AS} {ds' : List D} {d' : D} {m : Nat} (st : Stb H H') (h : Hole K H p w v S (.ref a) wu S0) : wu.2 = m + 1 → setP w.1 p (.lst ds') = some d' →
    (∀ b, N b → ¬ S b) → S0 a → (∀ b xs, S b → b ≠ a → H b = some (.lst xs) → H' b = some (.lst xs)) → Rep K H' (m + 1) (.lst ds') (.ref a) T → (∀ b, T b → (S0 b ∧ ¬ R b) ∨ N b) → (∀ b, R b → S0 b ∧ b ≠ a) →
    Rep K H' w.2 d' v fun b => (S b ∧ ¬ R b) ∨ N b := by
  generalize eu : V.ref a = u at h
  intro hm
  induction h generalizing d' with
  | @nil w v S h =>
    intro e hN hS0 hk hT hTS hR
    simp only [setP] at e
    cases e
    rw [hm]
    exact Rep.mono hTS hT
  | @cons i r ds n k a' xs S S0 G d x u wu h1 h2 h3 h4 h5 h6 h7 h8 h9 hh ih =>
    intro e hN hS0 hk hT hTS hR
    simp only [setP] at e
    rw [h7] at e
    simp only at e
    rw [h8] at e
    simp only at e
    cases e1 : setP d r (.lst ds') with
    | none => rw [e1] at e; cases e
    | some y =>
      rw [e1] at e
      cases e
      have sub := hh.sub
      have z := ih eu hm (d' := y) e1 (fun b hb hg => hN b hb (h4 k b hg).1) hS0 (fun b xs hg => hk b xs (h4 k b hg).1) hT hTS hR
      have na : a' ≠ a := fun q => (h4 k a (sub a hS0)).2 q.symm
      show Rep K H' (n + 1) (.lst (ds.set k y)) (.ref a') _
      rw [Rep.lstS]
      refine ⟨a', xs, fun j b => if j = k then ((G k b ∧ ¬ R b) ∨ N b) else G j b, rfl, hk a' xs h2 na h1, .inl ⟨h2, fun hr => (h4 k a' (sub a' (hR a' hr).1)).2 rfl⟩, by rw [List.length_set]; exact h3, fun j b hb => ?_, fun j l b hj hl => ?_, fun j d0 x0 e0 e2 => ?_⟩
      · dsimp only at hb
        by_cases q : j = k
        · rw [if_pos q] at hb
          rcases hb with ⟨hb, hn⟩ | hb
          · exact ⟨.inl ⟨(h4 k b hb).1, hn⟩, (h4 k b hb).2⟩
          · exact ⟨.inr hb, fun y => hN b hb (y ▸ h2)⟩
        · rw [if_neg q] at hb
          exact ⟨.inl ⟨(h4 j b hb).1, fun hr => q (h5 j k b hb (sub b (hR b hr).1))⟩, (h4 j b hb).2⟩
      · dsimp only at hj hl
        by_cases q : j = k
        · rw [if_pos q] at hj
          by_cases q' : l = k
          · rw [q, q']
          · rw [if_neg q'] at hl
            rcases hj with ⟨hj, _⟩ | hj
            · exact q.trans (h5 k l b hj hl)
            · exact (hN b hj (h4 l b hl).1).elim
        · rw [if_neg q] at hj
          by_cases q' : l = k
          · rw [if_pos q'] at hl
            rcases hl with ⟨hl, _⟩ | hl
            · exact (h5 j k b hj hl).trans q'.symm
            · exact (hN b hl (h4 j b hj).1).elim
          · rw [if_neg q'] at hl
            exact h5 j l b hj hl
      · rcases set_at e0 with ⟨q, rfl⟩ | ⟨q, e0⟩
        · subst q
          rw [h9] at e2
          cases e2
          simp only [if_true]
          exact z
        · simp only [if_neg q]
          refine Rep.keep st (fun b ys hb hy => hk b ys (h4 j b hb).1 (fun y => ?_) hy) (h6 j d0 x0 e0 e2)
          exact q (h5 j k b hb (y ▸ sub a hS0))
end

/-! ### the reading of a place -/
def PlT (K : Fg) (t : List Nat) (i : Nat) (f : Env → R (List D)) : TE := fun σ H Q => ∃ ρ F p ρ', REnv K H σ ρ F ∧ f ρ = .ok p ρ' ∧
  ∀ v H' F', Po K t [] H σ ρ F H' σ ρ' F' → (∃ w0 v0 wu S0, gt ρ' i = some w0 ∧ σ[i]? = some (some v0) ∧ Hole K H' p w0 v0 (F' i) v wu S0) → Q v H'
section
variable {X : Cx} {a b e : Expr} {pos : Pos} {t t1 t2 : List Nat} {r r2 : Option Nat} {i : Nat} {f : Env → R (List D)} {g : Env → R W}
theorem pl_var (h : PE X e (L2.tVar i)) : PE X e (PlT X.K [] i fun ρ => (match gt ρ i with
    | some _ => .ok [] ρ
    | none => .no)) := PE_imp h fun σ H Q ⟨ρ, F, p, ρ', hE, e, q⟩ => by
  dsimp only at e
  cases hw : gt ρ i with
  | none => rw [hw] at e; cases e
  | some w =>
    rw [hw] at e
    cases e
    obtain ⟨v, hv, rp⟩ := hE.val i w hw
    exact ⟨v, hv, q v H F (Po.refl hE) ⟨w, v, w, F i, hw, hv, .nil rp⟩⟩
theorem pl_sub (hp : plainX b = true) (ha : PE X a (PlT X.K t1 i f)) (hb : PE X b (VT X.K t2 r2 g)) (hi : i ∉ t2) :
    PE X (.Subscript a b pos) (PlT X.K (t1 ++ t2) i fun ρ => bd (f ρ) fun p ρ => bd (g ρ) fun j ρ => plStep i p j.1 ρ) := PE_imp (L2.pe_ix L2.ix_seq ha hb (ix_plain hp)) fun σ H Q ⟨ρ, F, p, ρ', hE, e, q⟩ => by
  obtain ⟨p1, ρ1, e1, e⟩ := bd_ok e
  obtain ⟨y, ρ2, e2, e⟩ := bd_ok e
  refine ⟨ρ, F, p1, ρ1, hE, e1, fun v1 H1 F1 P1 ⟨w0, v0, wu, S0, hw0, hv0, ho⟩ => ?_⟩
  refine ⟨ρ1, F1, y, ρ2, P1.env, e2, fun v2 H2 F2 S2 P2 V2 => ?_⟩
  have ap : ∀ a, F1 i a → ¬ TF t2 F1 a := fun a ha ⟨j, hj, q⟩ => hi (P1.env.dis i j a ha q ▸ hj)
  have ho := ho.keep (P2.pre.stb (TF.own P1.env t2)) fun a xs ha e => P2.pre.lst e (ap a ha)
  have P := Po.seqE hE P1 P2
  unfold plStep getS at e
  have hg := (P2.kee i hi).1.trans hw0
  rw [hg] at e
  dsimp only at e
  rw [ho.getP] at e
  obtain ⟨dy, ny⟩ := y
  split at e
  · rename_i xs n hx
    cases hx
    dsimp only at e
    split at e
    · rename_i q'
      have hy : Rep X.K H2 ny (.int q') v2 S2 := V2.rep
      cases hy.int
      cases e5 : ixOf xs.length q' with
      | none => rw [e5] at e; cases e
      | some k =>
        rw [e5] at e
        cases e
        have hk := ixOf_lt e5
        obtain ⟨a', us, x, S1, rfl, h1, h2, h3, h4⟩ := ho.snoc e5 (List.getElem?_eq_getElem hk)
        refine .inl ⟨a', us, q', _, rfl, rfl, .inl (.inl h1), atI_of (by rw [← h2]; exact e5) h3, q _ H2 F2 P ⟨w0, v0, (xs[k], n), S1, hg, hv0, ?_⟩⟩
        have fe : ∀ b, F2 i b ↔ F1 i b := (P2.kee i hi).2
        have : F2 i = F1 i := funext fun b => propext (fe b)
        rw [this]
        exact h4
    · cases e
  · cases e
end

/-! ### a change at a place -/
/-- what a change of the list at the path in slot i leaves: the value x of the places S' is let go -/
structure Chg (K : Fg) (H H' : Hp) (a : Addr) (ds ds' : List D) (m : Nat) (S0 R N : AS) : Prop where
  new : ∃ ys, H' = upd H a (.lst ys)
  rep : ∃ T, Rep K H' (m + 1) (.lst ds') (.ref a) T ∧ ∀ b, T b → (S0 b ∧ ¬ R b) ∨ N b
  gone : ∀ b, R b → S0 b ∧ b ≠ a
  own : Own H' N
theorem po_chg {K : Fg} {t : List Nat} {H H1 H2 : Hp} {σ : Sg} {ρ ρ1 ρ2 : Env} {F F1 : FS} {i m : Nat} {p : List D} {w0 : W} {v0 : V} {a : Addr} {ds ds' : List D} {S0 R N : AS} (hE : REnv K H σ ρ F) (P : Po K t [] H σ ρ F H1 σ ρ1 F1)
    (hw : gt ρ1 i = some w0) (hv : σ[i]? = some (some v0)) (ho : Hole K H1 p w0 v0 (F1 i) (.ref a) (.lst ds, m + 1) S0) (ha : S0 a) (c : Chg K H1 H2 a ds ds' m S0 R N) (hN : ∀ j b, N b → ¬ F1 j b) (hN2 : ∀ b, N b → H b = none ∨ TF t F b) (hp : putS ρ1 i p (.lst ds') = some ρ2) :
    ∃ F2 : FS, Po K (t ++ [i]) [] H σ ρ F H2 σ ρ2 F2 ∧ (∀ b, R b → ∀ j, ¬ F2 j b) ∧ (∀ j b, F2 j b → F1 j b ∨ N b) := by
  obtain ⟨⟨ys, rfl⟩, ⟨T, rT, hT⟩, hR, hO⟩ := c
  obtain ⟨xs0, hxs0⟩ := P.env.own i a (ho.sub a ha)
  have st : Stb H1 (upd H1 a (.lst ys)) := ⟨fun b xs h => by
      rw [L2.upd_ne (fun q => by subst q; rw [hxs0] at h; cases h)]; exact h, fun b o u h => by
      rw [L2.upd_ne (fun q => by subst q; rw [hxs0] at h; cases h)]; exact h⟩
  have kp : ∀ b xs, b ≠ a → H1 b = some (.lst xs) → upd H1 a (.lst ys) b = some (.lst xs) := fun b xs n e => by rw [L2.upd_ne n]; exact e
  unfold putS at hp
  rw [hw] at hp
  obtain ⟨d0, n0⟩ := w0
  dsimp only at hp
  cases e1 : setP d0 p (.lst ds') with
  | none => rw [e1] at hp; cases hp
  | some d' =>
  rw [e1] at hp
  cases hp
  have rp := ho.put (R := R) (N := N) (T := T) (ds' := ds') (d' := d') st rfl e1 (fun b hb => hN i b hb) ha (fun b xs _ n e => kp b xs n e) rT hT hR
  have lt := gt_some hw
  have ai : F1 i a := ho.sub a ha
  have E2 : REnv K (upd H1 a (.lst ys)) σ (ρ1.set i (some (d', n0))) fun j b => if j = i then (F1 i b ∧ ¬ R b) ∨ N b else F1 j b := by
    refine ⟨by rw [List.length_set]; exact P.env.len, fun j k b hj hk => ?_, fun j b hj => ?_, fun j u hu => ?_, fun Pt kk => ?_⟩
    · by_cases q : j = i
      · rw [if_pos q] at hj
        by_cases q' : k = i
        · rw [q, q']
        · rw [if_neg q'] at hk
          rcases hj with ⟨hj, _⟩ | hj
          · exact q.trans (P.env.dis i k b hj hk)
          · exact (hN k b hj hk).elim
      · rw [if_neg q] at hj
        by_cases q' : k = i
        · rw [if_pos q'] at hk
          rcases hk with ⟨hk, _⟩ | hk
          · exact (P.env.dis j i b hj hk).trans q'.symm
          · exact (hN j b hk hj).elim
        · rw [if_neg q'] at hk
          exact P.env.dis j k b hj hk
    · have old : ∀ {j}, F1 j b → ∃ xs, upd H1 a (.lst ys) b = some (.lst xs) := fun h => by
        by_cases q : b = a
        · exact ⟨ys, by rw [q]; exact L2.upd_same⟩
        · obtain ⟨xs, e⟩ := P.env.own _ b h
          exact ⟨xs, kp b xs q e⟩
      by_cases q : j = i
      · rw [if_pos q] at hj
        rcases hj with ⟨hj, _⟩ | hj
        · exact old hj
        · exact hO b hj
      · rw [if_neg q] at hj
        exact old hj
    · rw [gt_set] at hu
      by_cases q : i = j ∧ i < ρ1.length
      · rw [if_pos q] at hu
        cases hu
        obtain ⟨rfl, _⟩ := q
        refine ⟨v0, hv, ?_⟩
        simp only [if_true]
        exact rp
      · rw [if_neg q] at hu
        obtain ⟨v, hv', r⟩ := P.env.val j u hu
        have ne : ¬ j = i := fun z => q ⟨z.symm, lt⟩
        refine ⟨v, hv', ?_⟩
        simp only [if_neg ne]
        exact Rep.keep st (fun b xs hb e => kp b xs (fun z => ne (P.env.dis j i a (z ▸ hb) ai)) e) r
    · obtain ⟨ps, e, t⟩ := P.env.tab Pt kk
      exact ⟨ps, by rw [L2.upd_ne fun z => by rw [z, hxs0] at e; cases e]; exact e, t⟩
  refine ⟨_, ⟨E2, fun j n => ?_, fun j _ => P.sig j (fun z => nomatch z), P.len, fun j b hb => ?_, ?_⟩, fun b hb j hj => ?_, fun j b hb => ?_⟩
  · have ne : ¬ j = i := fun z => n (subR (by simp [z]))
    have nt : j ∉ t := fun z => n (subL z)
    refine ⟨by rw [gt_set, if_neg fun z => ne z.1.symm]; exact (P.kee j nt).1, fun b => ?_⟩
    rw [if_neg ne]
    exact (P.kee j nt).2 b
  · have up : TF t F b → TF (t ++ [i]) F b := fun ⟨k, hk, q⟩ => ⟨k, subL hk, q⟩
    have old : ∀ {j}, F1 j b → H b = none ∨ F j b ∨ TF (t ++ [i]) F b := fun h => (P.new _ b h).imp_right fun q => q.imp_right up
    by_cases q : j = i
    · rw [if_pos q] at hb
      rcases hb with ⟨hb, _⟩ | hb
      · exact q ▸ old hb
      · exact (hN2 b hb).imp_right fun z => .inr (up z)
    · rw [if_neg q] at hb
      exact old hb
  · have at_ : H a = none ∨ TF (t ++ [i]) F a := (P.new i a ai).imp_right fun q => q.elim (fun z => ⟨i, subR (by simp), z⟩) fun ⟨k, hk, q⟩ => ⟨k, subL hk, q⟩
    refine ⟨fun b o e n h => ?_, fun b ps e => ?_⟩
    · have nb : b ≠ a := fun z => by
        subst z
        rcases at_ with z | z
        · rw [z] at e; cases e
        · exact h z
      rw [L2.upd_ne nb]
      exact P.pre.kee b o e n fun ⟨k, hk, q⟩ => h ⟨k, subL hk, q⟩
    · obtain ⟨ps', e1, h1⟩ := P.pre.tbl b ps e
      refine ⟨ps', ?_, h1⟩
      rw [L2.upd_ne fun z => by subst z; rw [hxs0] at e1; cases e1]
      exact e1
  · obtain ⟨hb0, _⟩ := hR b hb
    by_cases q : j = i
    · rw [if_pos q] at hj
      rcases hj with ⟨_, hj⟩ | hj
      · exact hj hb
      · exact hN i b hj (ho.sub b hb0)
    · rw [if_neg q] at hj
      exact q (P.env.dis j i b hj (ho.sub b hb0))
  · by_cases q : j = i
    · rw [if_pos q] at hb
      exact hb.elim (fun z => .inl (q ▸ z.1)) .inr
    · rw [if_neg q] at hb
      exact .inl hb
/-! ### methods of owned lists -/
theorem Hole.lst {K : Fg} {H : Hp} {p : List D} {w : W} {v u : V} {S S0 : AS} {ds : List D} {m : Nat} (h : Hole K H p w v S u (.lst ds, m + 1) S0) : ∃ a xs, ∃ G : FS, u = .ref a ∧ H a = some (.lst xs) ∧ S0 a ∧ ds.length = xs.length ∧ (∀ k b, G k b → S0 b ∧ b ≠ a) ∧ (∀ j k b, G j b → G k b → j = k) ∧
        ∀ k d x, ds[k]? = some d → xs[k]? = some x → Rep K H m d x (G k) := by
  have := h.rep
  rwa [Rep.lstS] at this
/-- the reading of a place behind a further step that leaves it alone -/
theorem hole_move {K : Fg} {t : List Nat} {H1 H2 : Hp} {σ : Sg} {ρ1 ρ2 : Env} {F1 F2 : FS} {i : Nat} {p : List D} {w0 wu : W} {v0 v : V} {S0 : AS} (hE : REnv K H1 σ ρ1 F1) (P : Po K t [] H1 σ ρ1 F1 H2 σ ρ2 F2) (hi : i ∉ t) (hw : gt ρ1 i = some w0) (h : Hole K H1 p w0 v0 (F1 i) v wu S0) :
    gt ρ2 i = some w0 ∧ Hole K H2 p w0 v0 (F2 i) v wu S0 := by
  have ap : ∀ a, F1 i a → ¬ TF t F1 a := fun a ha ⟨j, hj, q⟩ => hi (hE.dis i j a ha q ▸ hj)
  have : F2 i = F1 i := funext fun b => propext ((P.kee i hi).2 b)
  refine ⟨(P.kee i hi).1.trans hw, ?_⟩
  rw [this]
  exact h.keep (P.pre.stb (TF.own hE t)) fun a xs ha e => P.pre.lst e (ap a ha)
theorem getS_hole {K : Fg} {H : Hp} {ρ : Env} {i : Nat} {p : List D} {w0 wu : W} {v0 v : V} {S S0 : AS} (hw : gt ρ i = some w0) (h : Hole K H p w0 v0 S v wu S0) : getS ρ i p = some wu := by
  unfold getS
  rw [hw]
  exact h.getP
/-- what a method does: in the heap, by values -/
def MutR (K : Fg) (m : Mut) (r : V → List V → Hp → VK → Prop) : Prop := ∀ (H H0 : Hp) (t : List Nat) (F0 F1 : FS) (a : Addr) (ds : List D) (n : Nat) (S0 : AS) (ws : List W) (vs : List V) (G : FS) (w : W) (d : D) (Q : VK), (∀ w ∈ ws, w.2 = m.dep) → Pvs K t H0 F0 H F1 ws vs G → Rep K H (n + 1) (.lst ds) (.ref a) S0 → Own H S0 → (∀ k b, G k b → ¬ S0 b) → mutL m (.lst ds, n + 1) ws = some (w, d) →
  (∀ ds' v H' R N, d = .lst ds' → Chg K H H' a ds ds' n S0 R N → (∀ b, N b → ∃ k, G k b) → (∃ T, Rep K H' w.2 w.1 v T ∧ ∀ b, T b → R b) → Q v H') → r (.ref a) vs H Q
section
variable {X : Cx} {o e : Expr} {es : List Expr} {apos cpos : Pos} {t1 t2 : List Nat} {i : Nat} {f : Env → R (List D)} {g : Env → R (List W)} {m : Mut} {r : V → List V → Hp → VK → Prop} {name : Str} {id : String}
def mutV (m : Mut) (i : Nat) (f : Env → R (List D)) (g : Env → R (List W)) (ρ : Env) : R W := bd (f ρ) fun p ρ => (match getS ρ i p with
    | some (.lst _, _ + 1) => bd (g ρ) fun ws ρ => (match getS ρ i p with
      | some w => (match mutL m w ws with
        | some (a, d) => (match putS ρ i p d with
          | some ρ' => .ok a ρ'
          | none => .no)
        | none => .no)
      | none => .no)
    | _ => .no)
theorem mutL_lst {m : Mut} {w : W} {ws : List W} {a : W} {d : D} (h : mutL m w ws = some (a, d)) : ∃ ds n ds', w = (.lst ds, n + 1) ∧ d = .lst ds' := by
  unfold mutL at h
  split at h
  · split at h
    · cases h; exact ⟨_, _, _, rfl, rfl⟩
    · cases h
  · split at h
    · cases h; exact ⟨_, _, _, rfl, rfl⟩
    · cases h
  · split at h
    · split at h
      · split at h
        · cases h; exact ⟨_, _, _, rfl, rfl⟩
        · cases h
      · cases h
    · cases h
  · cases h; exact ⟨_, _, _, rfl, rfl⟩
  · cases h
theorem mut_imp {K : Fg} {σ : Sg} {H : Hp} {Q : VK} (hi : i ∉ t2) (hr : MutR K m r) (h0 : ∀ ρ ws ρ', g ρ = .ok ws ρ' → ∀ w ∈ ws, w.2 = m.dep) (h : VT K (t1 ++ t2 ++ [i]) none (mutV m i f g) σ H Q) :
    L2.tBM K "list" r (PlT K t1 i f) (AT K t2 g) σ H Q := by
  obtain ⟨ρ, F, w, ρ', hE, e, q⟩ := h
  obtain ⟨p, ρ1, e1, e⟩ := bd_ok e
  cases hg1 : getS ρ1 i p with
  | none => rw [hg1] at e; cases e
  | some wu1 =>
  rw [hg1] at e
  refine ⟨ρ, F, p, ρ1, hE, e1, fun v1 H1 F1 P1 ⟨w0, v0, wu, S0, hw0, hv0, ho⟩ => ?_⟩
  have := getS_hole hw0 ho
  rw [hg1] at this
  cases this
  split at e
  · rename_i xs0 n0 hx
    cases hx
    obtain ⟨a0, us0, _, rfl, hl0, _⟩ := ho.lst
    refine ⟨.inl ⟨rfl, us0, .inl (.inl hl0)⟩, ?_⟩
    obtain ⟨ws, ρ2, e2, e⟩ := bd_ok e
    refine ⟨ρ1, F1, ws, ρ2, P1.env, e2, fun vs H2 F2 G P2 V => ?_⟩
    obtain ⟨hw2, ho2⟩ := hole_move P1.env P2 hi hw0 ho
    rw [getS_hole hw2 ho2] at e
    dsimp only at e
    cases hm : mutL m (.lst xs0, n0.succ) ws with
    | none => rw [hm] at e; cases e
    | some ad =>
    rw [hm] at e
    obtain ⟨a, d⟩ := ad
    dsimp only at e
    cases hp : putS ρ2 i p d with
    | none => rw [hp] at e; cases e
    | some ρ3 =>
    rw [hp] at e
    cases e
    obtain ⟨ds, n, ds', hd1, rfl⟩ := mutL_lst hm
    cases hd1
    obtain ⟨a1, us1, G1, e5, hl1, ha1, _⟩ := ho2.lst
    cases e5
    have P := Po.seqE hE P1 P2
    have gk : ∀ k b, G k b → ∃ w v, Pv K t2 none H1 F1 H2 F2 w v (G k) := fun k b z => by
      have hk : k < ws.length := by
        by_cases hk : k < ws.length
        · exact hk
        · exact (V.bnd k (by omega) b z).elim
      exact ⟨_, _, V.val k _ _ (List.getElem?_eq_getElem hk) (List.getElem?_eq_getElem (by rw [← V.len]; exact hk))⟩
    have gF : ∀ k b, G k b → ∀ j, ¬ F2 j b := fun k b z j => let ⟨_, _, pv⟩ := gk k b z; pv.plc.1 j b z
    refine hr H2 H1 t2 F1 F2 a0 xs0 n0 S0 ws vs G w _ Q (h0 _ _ _ e2) V ho2.rep (fun b hb => P2.env.own i b (ho2.sub b hb)) (fun k b z y => gF k b z i (ho2.sub b y)) hm fun ds'' v H' R N ed c hN rv => ?_
    cases ed
    have nN : ∀ j b, N b → ¬ F2 j b := fun j b hb => let ⟨k, z⟩ := hN b hb; gF k b z j
    obtain ⟨F3, P3, h3, h4⟩ := po_chg hE P hw2 hv0 ho2 ha1 c nN (fun b hb => by
      obtain ⟨k, z⟩ := hN b hb
      obtain ⟨w', v', pv⟩ := gk k b z
      rcases pv.plc.2 b z with y | ⟨j, hj, y⟩
      · cases hH : H b with
        | none => exact .inl rfl
        | some ob =>
          by_cases hT : TF (t1 ++ t2) F b
          · exact .inr hT
          · refine absurd y ?_
            have hT1 : ¬ TF t1 F b := fun ⟨j, hj, q⟩ => hT ⟨j, subL hj, q⟩
            cases ob with
            | tbl ps => obtain ⟨ps', e9, _⟩ := P1.pre.tbl b ps hH; rw [e9]; simp
            | _ => rw [P1.pre.kee b _ hH (fun _ y => (by cases y)) hT1]; simp
      · rcases P1.new j b y with x | x | ⟨l, hl, x⟩
        · exact .inl x
        · exact .inr ⟨j, subR hj, x⟩
        · exact .inr ⟨l, subL hl, x⟩) hp
    obtain ⟨T, rT, hT⟩ := rv
    refine q v H' F3 T P3 ⟨rT, fun b hb => ?_, fun j b hb => h3 b (hT b hb) j, fun b hb => ?_⟩
    · obtain ⟨⟨ys, rfl⟩, _, hR, _⟩ := c
      obtain ⟨z1, z2⟩ := hR b (hT b hb)
      obtain ⟨xs, e⟩ := P2.env.own i b (ho2.sub b z1)
      exact ⟨xs, by rw [L2.upd_ne z2]; exact e⟩
    · obtain ⟨z1, z2⟩ := c.gone b (hT b hb)
      rcases P.new i b (ho2.sub b z1) with x | x | ⟨l, hl, x⟩
      · exact .inl x
      · exact .inr ⟨i, subR (by simp), x⟩
      · exact .inr ⟨l, subL hl, x⟩
  · cases e
end

theorem Rep.upd {K : Fg} {H : Hp} {a : Addr} {ys : List V} (st : Stb H (upd H a (.lst ys))) {n : Nat} {d : D} {x : V} {S : AS} (h : Rep K H n d x S) (hs : ∀ b, S b → b ≠ a) : Rep K (upd H a (.lst ys)) n d x S := Rep.keep st (fun b xs hb e => by rw [L2.upd_ne (hs b hb)]; exact e) h
theorem stb_upd {H : Hp} {a : Addr} {xs ys : List V} (h : H a = some (.lst xs)) : Stb H (upd H a (.lst ys)) := ⟨fun b xs' q => by
      rw [L2.upd_ne (fun z => by subst z; rw [h] at q; cases q)]; exact q, fun b o u q => by
      rw [L2.upd_ne (fun z => by subst z; rw [h] at q; cases q)]; exact q⟩
section
variable {K : Fg}
theorem mr_append {k : Nat} : MutR K (.append k) L2.rAppend := by
  intro H H0 t F0 F1 a ds n S0 ws vs G w d Q h0 V rp ow ap hm q
  match ws, hm, V, h0 with
  | [x], hm2, V, h0 =>
    simp only [mutL] at hm2
    split at hm2
    · rename_i hk
      obtain ⟨rfl, hl⟩ := hk
      cases hm2
      obtain ⟨y, rfl⟩ : ∃ y, vs = [y] := List.length_eq_one_iff.mp V.len.symm
      have px := V.val 0 x y rfl rfl
      have hx : x.2 = k := h0 x (by simp)
      rw [Rep.lstS] at rp
      obtain ⟨a', xs, G', e, g1, g2, g3, g4, g5, g6⟩ := rp
      cases e
      have na : ∀ b, G 0 b → b ≠ a := fun b hb z => ap 0 b hb (z ▸ g2)
      have st := stb_upd (ys := xs ++ [y]) g1
      refine ⟨a, xs, y, rfl, rfl, g1, by rw [← g3]; exact hl, q (ds ++ [x.1]) .non _ (fun _ => False) (G 0) rfl ⟨⟨_, rfl⟩, ⟨fun b => b = a ∨ (∃ k, G' k b) ∨ G 0 b, ?_, ?_⟩, fun b z => z.elim, fun b hb => ?_⟩ (fun b hb => ⟨0, hb⟩) ⟨fun _ => False, Rep.frz0.mpr (by simp only [Rf]), fun _ z => z⟩⟩
      · rw [Rep.lstS]
        refine ⟨a, xs ++ [y], fun j b => (j < ds.length ∧ G' j b) ∨ (j = ds.length ∧ G 0 b), rfl, L2.upd_same, .inl rfl, by simp [g3], fun j b hb => ?_, fun j l b hj hl => ?_, fun j d x' e1 e2 => ?_⟩
        · rcases hb with ⟨_, hb⟩ | ⟨_, hb⟩
          · exact ⟨.inr (.inl ⟨j, hb⟩), (g4 j b hb).2⟩
          · exact ⟨.inr (.inr hb), na b hb⟩
        · rcases hj with ⟨h1, hj⟩ | ⟨h1, hj⟩
          · rcases hl with ⟨h2, hl⟩ | ⟨h2, hl⟩
            · exact g5 j l b hj hl
            · exact (ap 0 b hl (g4 j b hj).1).elim
          · rcases hl with ⟨h2, hl⟩ | ⟨h2, hl⟩
            · exact (ap 0 b hj (g4 l b hl).1).elim
            · omega
        · by_cases hj : j < ds.length
          · rw [List.getElem?_append_left hj] at e1
            rw [List.getElem?_append_left (by omega)] at e2
            exact Rep.mono (fun b hb => .inl ⟨hj, hb⟩) (Rep.upd st (g6 j d x' e1 e2) fun b hb => (g4 j b hb).2)
          · have hj2 : j = ds.length := by
              have := (List.getElem?_eq_some_iff.mp e1).1
              simp at this; omega
            subst hj2
            rw [List.getElem?_append_right (Nat.le_refl _)] at e1
            rw [List.getElem?_append_right (by omega)] at e2
            simp at e1
            rw [g3] at e2
            simp at e2
            subst e1 e2
            have r := px.rep
            rw [hx] at r
            exact Rep.mono (fun b hb => .inr ⟨rfl, hb⟩) (Rep.upd st r na)
      · intro b hb
        rcases hb with rfl | ⟨k, hb⟩ | hb
        · exact .inl ⟨g2, fun z => z⟩
        · exact .inl ⟨(g4 k b hb).1, fun z => z⟩
        · exact .inr hb
      · obtain ⟨zs, e⟩ := px.own b hb
        exact ⟨zs, by rw [L2.upd_ne (na b hb)]; exact e⟩
    · cases hm2
  | [], hm2, V, h0 => simp only [mutL] at hm2; cases hm2
  | _ :: _ :: _, hm2, V, h0 => simp only [mutL] at hm2; cases hm2
/-- some of the items, in another order: f their places -/
theorem chg_pick {H : Hp} {a : Addr} {ds ds' : List D} {xs ys : List V} {n : Nat} {S0 : AS} {G' : FS} {R : AS} (f : Nat → Nat) (g1 : H a = some (.lst xs)) (g2 : S0 a) (g3 : ds.length = xs.length) (g4 : ∀ k b, G' k b → S0 b ∧ b ≠ a) (g5 : ∀ j k b, G' j b → G' k b → j = k)
    (g6 : ∀ k d x, ds[k]? = some d → xs[k]? = some x → Rep K H n d x (G' k)) (hl : ds'.length = ys.length) (hf : ∀ j, j < ds'.length → ds'[j]? = ds[f j]? ∧ ys[j]? = xs[f j]?) (inj : ∀ j l, j < ds'.length → l < ds'.length → f j = f l → j = l)
    (hR : ∀ b, R b → S0 b ∧ b ≠ a) (hR2 : ∀ b, R b → ∀ j, j < ds'.length → ¬ G' (f j) b) : Chg K H (upd H a (.lst ys)) a ds ds' n S0 R fun _ => False := by
  have st := stb_upd (ys := ys) g1
  refine ⟨⟨_, rfl⟩, ⟨fun b => b = a ∨ ∃ j, j < ds'.length ∧ G' (f j) b, ?_, fun b hb => ?_⟩, hR, fun _ z => z.elim⟩
  · rw [Rep.lstS]
    refine ⟨a, ys, fun j b => j < ds'.length ∧ G' (f j) b, rfl, L2.upd_same, .inl rfl, hl, fun j b hb => ⟨.inr ⟨j, hb⟩, (g4 _ b hb.2).2⟩, fun j l b hj hl => inj j l hj.1 hl.1 (g5 _ _ b hj.2 hl.2), fun j d x e1 e2 => ?_⟩
    have hj : j < ds'.length := (List.getElem?_eq_some_iff.mp e1).1
    rw [(hf j hj).1] at e1
    rw [(hf j hj).2] at e2
    exact Rep.mono (fun b hb => ⟨hj, hb⟩) (Rep.upd st (g6 _ d x e1 e2) fun b hb => (g4 _ b hb).2)
  · rcases hb with rfl | ⟨j, hj, hb⟩
    · exact .inl ⟨g2, fun z => (hR b z).2 rfl⟩
    · exact .inl ⟨(g4 _ b hb).1, fun z => hR2 b z j hj hb⟩
theorem mr_reverse : MutR K .reverse L2.rReverse := by
  intro H H0 t F0 F1 a ds n S0 ws vs G w d Q h0 V rp ow ap hm q
  match ws, hm, V, h0 with
  | [], hm2, V, h0 =>
    simp only [mutL] at hm2
    cases hm2
    obtain rfl : vs = [] := List.length_eq_zero_iff.mp V.len.symm
    rw [Rep.lstS] at rp
    obtain ⟨a', xs, G', e, g1, g2, g3, g4, g5, g6⟩ := rp
    cases e
    refine ⟨a, xs, rfl, rfl, g1, q ds.reverse .non _ (fun _ => False) (fun _ => False) rfl (chg_pick (fun j => ds.length - 1 - j) g1 g2 g3 g4 g5 g6 (by simp [g3]) (fun j hj => ?_) (fun j l hj hl e => ?_) (fun _ z => z.elim) (fun _ z => z.elim)) (fun _ z => z.elim) ⟨fun _ => False, Rep.frz0.mpr (by simp only [Rf]), fun _ z => z⟩⟩
    · rw [List.length_reverse] at hj
      refine ⟨List.getElem?_reverse hj, ?_⟩
      rw [g3] at hj ⊢
      exact List.getElem?_reverse hj
    · rw [List.length_reverse] at hj hl
      omega
  | _ :: _, hm2, V, h0 => simp only [mutL] at hm2; cases hm2
theorem pop_rep {H : Hp} {a : Addr} {ys : List V} {n : Nat} {d : D} {x : V} {S : AS} (st : Stb H (upd H a (.lst ys))) (h : Rep K H n d x S) (hs : ∀ b, S b → b ≠ a) : ∃ T, Rep K (upd H a (.lst ys)) (sink (n + 1) d).2 (sink (n + 1) d).1 x T ∧ ∀ b, T b → S b := by
  by_cases hl : d.leaf = true
  · rw [sink_leaf hl]
    exact ⟨fun _ => False, Rep.frz0.mpr (Rf.stb st _ _ ((Rep.of_leaf hl).mp h)), fun _ z => z.elim⟩
  · rw [sink_not hl]
    exact ⟨S, Rep.upd st h hs, fun _ z => z⟩
theorem mr_pop : MutR K .pop L2.rPop := by
  intro H H0 t F0 F1 a ds n S0 ws vs G w d Q h0 V rp ow ap hm q
  match ws, hm, V, h0 with
  | [], hm2, V, h0 =>
    simp only [mutL] at hm2
    cases hd : ds.getLast? with
    | none => rw [hd] at hm2; cases hm2
    | some d0 =>
    rw [hd] at hm2
    cases hm2
    obtain rfl : vs = [] := List.length_eq_zero_iff.mp V.len.symm
    rw [Rep.lstS] at rp
    obtain ⟨a', xs, G', e, g1, g2, g3, g4, g5, g6⟩ := rp
    cases e
    rw [List.getLast?_eq_getElem?] at hd
    have hk : ds.length - 1 < ds.length := (List.getElem?_eq_some_iff.mp hd).1
    have hk' : xs.length - 1 < xs.length := by omega
    have e2 : xs[xs.length - 1]? = some xs[xs.length - 1] := List.getElem?_eq_getElem hk'
    have e2' : xs[ds.length - 1]? = some xs[xs.length - 1] := by rw [g3]; exact e2
    have c : Chg K H (upd H a (.lst xs.dropLast)) a ds ds.dropLast n S0 (G' (ds.length - 1)) fun _ => False := chg_pick id g1 g2 g3 g4 g5 g6 (by simp [g3]) (fun j hj => by
        rw [List.length_dropLast] at hj
        rw [List.dropLast_eq_take, List.dropLast_eq_take, List.getElem?_take_of_lt hj, List.getElem?_take_of_lt (by omega)]
        exact ⟨rfl, rfl⟩) (fun j l _ _ e => e) (fun b hb => g4 _ b hb) (fun b hb j hj hb' => by
        rw [List.length_dropLast] at hj
        have := g5 _ _ b hb hb'
        dsimp only [id] at this
        omega)
    exact ⟨a, xs, _, rfl, rfl, g1, e2, q ds.dropLast _ _ (G' (ds.length - 1)) (fun _ => False) rfl c (fun _ z => z.elim) (pop_rep (stb_upd g1) (g6 _ _ _ hd e2') fun b hb => (g4 _ b hb).2)⟩
  | _ :: _, hm2, V, h0 => simp only [mutL] at hm2; cases hm2
theorem mr_popAt : MutR K .popAt L2.rPopAt := by
  intro H H0 t F0 F1 a ds n S0 ws vs G w d Q h0 V rp ow ap hm q
  match ws, hm, V, h0 with
  | [(.int i, m)], hm2, V, h0 =>
    simp only [mutL] at hm2
    split at hm2
    · rename_i hi
      cases hk : ixOf ds.length i with
      | none => rw [hk] at hm2; cases hm2
      | some k =>
      rw [hk] at hm2
      dsimp only at hm2
      cases hd : ds[k]? with
      | none => rw [hd] at hm2; cases hm2
      | some d0 =>
      rw [hd] at hm2
      cases hm2
      obtain ⟨y, rfl⟩ : ∃ y, vs = [y] := List.length_eq_one_iff.mp V.len.symm
      have px := (V.val 0 (.int i, m) y rfl rfl).rep
      cases px.int
      rw [Rep.lstS] at rp
      obtain ⟨a', xs, G', e, g1, g2, g3, g4, g5, g6⟩ := rp
      cases e
      have hkl := ixOf_lt hk
      have e2 : xs[k]? = some (xs[k]'(by omega)) := List.getElem?_eq_getElem _
      rw [g3, ← ixN_of] at hk
      have c : Chg K H (upd H a (.lst (xs.eraseIdx k))) a ds (ds.eraseIdx k) n S0 (G' k) fun _ => False := chg_pick (fun j => if j < k then j else j + 1) g1 g2 g3 g4 g5 g6 (by rw [List.length_eraseIdx_of_lt hkl, List.length_eraseIdx_of_lt (by omega), g3]) (fun j hj => by
          rw [List.getElem?_eraseIdx, List.getElem?_eraseIdx]
          by_cases q : j < k
          · rw [if_pos q, if_pos q, if_pos q]; exact ⟨rfl, rfl⟩
          · rw [if_neg q, if_neg q, if_neg q]; exact ⟨rfl, rfl⟩) (fun j l _ _ e => by
          split at e <;> split at e <;> omega) (fun b hb => g4 _ b hb) (fun b hb j hj hb' => by
          have := g5 _ _ b hb hb'
          split at this <;> omega)
      exact ⟨a, xs, i, k, _, rfl, rfl, g1, hi.1, hi.2, (L2.ixN_seq hk).1, e2, q (ds.eraseIdx k) _ _ (G' k) (fun _ => False) rfl c (fun _ z => z.elim) (pop_rep (stb_upd g1) (g6 _ _ _ hd e2) fun b hb => (g4 _ b hb).2)⟩
    · cases hm2
  | [], hm2, V, h0 => simp only [mutL] at hm2; cases hm2
  | [(.non, _)], hm2, V, h0 => simp only [mutL] at hm2; cases hm2
  | [(.bl _, _)], hm2, V, h0 => simp only [mutL] at hm2; cases hm2
  | [(.str _, _)], hm2, V, h0 => simp only [mutL] at hm2; cases hm2
  | [(.tup _, _)], hm2, V, h0 => simp only [mutL] at hm2; cases hm2
  | [(.lst _, _)], hm2, V, h0 => simp only [mutL] at hm2; cases hm2
  | [(.dic _, _)], hm2, V, h0 => simp only [mutL] at hm2; cases hm2
  | _ :: _ :: _, hm2, V, h0 => simp only [mutL] at hm2; cases hm2
end
section
variable {X : Cx} {o e j : Expr} {pos tpos apos cpos : Pos} {t t1 t2 : List Nat} {r : Option Nat} {i k : Nat} {f : Env → R (List D)} {fe fj : Env → R W} {g : Env → R (List W)}
theorem vt_append {es : List Expr} {k : Nat} (hi : i ∉ t2) (hp : plainX e = true) (hps : es.all plainX = true) (hl : es.length < 20) (ho : PE X o (PlT X.K t1 i f)) (ha : PA X (e :: es) (AT X.K t2 g)) (h0 : ∀ ρ ws ρ', g ρ = .ok ws ρ' → ∀ w ∈ ws, w.2 = k) (hbase : attributeBase o "append" X.env (eval o X.env) = eval o X.env)
    (hfew : ((backTo cpos (starEach (e :: es) X.env)).all (fun x => !x.1) && (backToKw cpos (keywordEach [] X.env)).all (fun x => x.1.isSome)
      && decide ((e :: es).length + ([] : List Keyword).length + (if ([] : List Keyword).isEmpty then 0 else 1) < 30)) = true) (hline : (apos.endLine == cpos.line) = true) :
    PE X (.Call (.Attribute o "append" apos) (e :: es) [] cpos) (VT X.K (t1 ++ t2 ++ [i]) none (mutV (.append k) i f g)) :=
  PE_imp (L2.pe_bm PySem.F.plainAttrs_list PySem.F.slot_list_append PySem.F.type_list_append L2.mt_append ho ha hbase hfew hline (star_of hp) (back_plain hps)) fun σ H Q h => mut_imp hi mr_append h0 h
end
end Q
end
section
set_option Elab.async false
set_option linter.all false
set_option maxRecDepth 100000
set_option maxHeartbeats 4000000
/-! QN: what is walked; loops. -/
namespace Q
open PySem PySem.Spec PyProof.Rows
open L2 (V Hp HO TE TT TA TS TG TGs TI VK XK Sp upd SqL SqT Rd Inv Cx PE PA PT PW PG PGs PS PSs PI It R2 OpR CallR FnOk Ends)

/-- J walks ds while the lists at S are kept -/
def Wk (K : Fg) (J : It) (ds : List D) (S : AS) (H : Hp) : Prop := ∃ G : Hp → Prop, G H ∧ (∀ H1 H2, G H1 → Stb H1 H2 → (∀ b xs, S b → H1 b = some (.lst xs) → H2 b = some (.lst xs)) → G H2) ∧
  (∀ H, G H → J.stop ds.length H) ∧ ∀ H i d, G H → ds[i]? = some d → J.go i H ∧ ∀ x H', J.yld i H x H' → Adds H H' ∧ Rf K H' d x
/-- the reading of what is walked; r: the slot that holds it -/
def WT (K : Fg) (t : List Nat) (r : Option Nat) (f : Env → R (List D)) : TI := fun σ H Q => ∃ ρ F ds ρ', REnv K H σ ρ F ∧ f ρ = .ok ds ρ' ∧
  ∀ J H' F' S, Po K t [] H σ ρ F H' σ ρ' F' → Wk K J ds S H' → (∀ a, S a → ∃ i, r = some i ∧ F' i a) → Q J H'
theorem PI_imp {X : Cx} {tg e : Expr} {t u : TI} (h : PI X tg e t) (i : ∀ σ H Q, u σ H Q → t σ H Q) : PI X tg e u := ⟨fun pins s σ H Q I q => h.run pins s σ H Q I (i σ H Q q)⟩
theorem PI_or {X : Cx} {tg e : Expr} {t u : TI} (h : PI X tg e t) (h' : PI X tg e u) : PI X tg e fun σ H Q => t σ H Q ∨ u σ H Q := ⟨fun pins s σ H Q I q => q.elim (h.run pins s σ H Q I) (h'.run pins s σ H Q I)⟩
section
variable {K : Fg} {H : Hp} {ds : List D}
theorem wk_lst {a : Addr} {xs : List V} {S : AS} (h : (H a = some (.lst xs) ∧ S a) ∨ FzL K H a xs) (r : Rfs K H ds xs) : Wk K (L2.Itl K a) ds S H := by
  refine ⟨fun H => ((H a = some (.lst xs) ∧ S a) ∨ FzL K H a xs) ∧ Rfs K H ds xs, ⟨h, r⟩, fun H1 H2 ⟨h, r⟩ st k => ⟨h.imp (fun z => ⟨k a xs z.2 z.1, z.2⟩) st.fzL, Rfs.stb st _ _ r⟩, fun H ⟨h, r⟩ => ⟨xs, ?_, by rw [r.len]; omega⟩, fun H i d ⟨h, r⟩ e => ?_⟩
  · exact h.elim (fun z => .inl (.inl z.1)) FzL.sq
  · obtain ⟨h1, h2⟩ := Rfs.iff.mp r
    have hi : i < xs.length := by rw [← h1]; exact (List.getElem?_eq_some_iff.mp e).1
    have e2 : xs[i]? = some xs[i] := List.getElem?_eq_getElem hi
    have sq : SqL K H a xs := h.elim (fun z => .inl (.inl z.1)) FzL.sq
    refine ⟨⟨xs, _, sq, e2⟩, fun x H' ⟨eH, y⟩ => ?_⟩
    subst eH
    exact ⟨.refl _, h2 i d x e (y xs sq)⟩
theorem wk_tup {a : Addr} {xs : List V} {S : AS} (h : SqT K H a xs) (r : Rfs K H ds xs) : Wk K (L2.Itt K a) ds S H := by
  refine ⟨fun H => SqT K H a xs ∧ Rfs K H ds xs, ⟨h, r⟩, fun H1 H2 ⟨h, r⟩ st k => ⟨st.sqT h, Rfs.stb st _ _ r⟩, fun H ⟨h, r⟩ => ⟨xs, h, by rw [r.len]; omega⟩, fun H i d ⟨h, r⟩ e => ?_⟩
  obtain ⟨h1, h2⟩ := Rfs.iff.mp r
  have hi : i < xs.length := by rw [← h1]; exact (List.getElem?_eq_some_iff.mp e).1
  have e2 : xs[i]? = some xs[i] := List.getElem?_eq_getElem hi
  refine ⟨⟨xs, _, h, e2⟩, fun x H' ⟨eH, y⟩ => ?_⟩
  subst eH
  exact ⟨.refl _, h2 i d x e (y xs h)⟩
theorem wk_rng {lo : Int} {n : Nat} {S : AS} (hd : ds = (List.range n).map fun (k : Nat) => D.int (lo + k)) : Wk K (L2.Itr lo n) ds S H := by
  subst hd
  refine ⟨fun _ => True, trivial, fun _ _ _ _ _ => trivial, fun H _ => by show n ≤ _; simp, fun H i d _ e => ?_⟩
  rw [List.getElem?_map] at e
  have hi : i < n := by
    by_cases h : i < n
    · exact h
    · rw [List.getElem?_eq_none (by simp; omega)] at e; cases e
  rw [List.getElem?_range hi] at e
  cases e
  refine ⟨hi, fun x H' ⟨eH, ex⟩ => ?_⟩
  subst eH
  exact ⟨.refl _, by simp only [Rf]; exact ex⟩
end
section
variable {X : Cx} {tg e a b : Expr} {pos p : Pos} {t t1 t2 : List Nat} {r : Option Nat} {f : Env → R W} {g : Env → R (List W)}
def itemsR (w : W) (ρ : Env) : R (List D) := match items w with
  | some ds => .ok ds ρ
  | none => .no
/-- a list or a tuple: of a slot, or (frozen) anything -/
theorem wt_seq (h : PE X e (VT X.K t r f)) (hr : r = none → ∀ ρ w ρ', f ρ = .ok w ρ' → w.2 = 0) : PI X tg e (WT X.K t r fun ρ => bd (f ρ) itemsR) := PI_imp (PI_or (L2.pi_list h) (L2.pi_tup h)) fun σ H Q ⟨ρ, F, ds, ρ', hE, e, q⟩ => by
  obtain ⟨w, ρ1, e1, e⟩ := bd_ok e
  unfold itemsR items rowOf at e
  obtain ⟨d, n⟩ := w
  cases d with
  | lst xs =>
    dsimp only at e
    by_cases hn : n ≤ 1 ∨ xs.all D.leaf = true
    · rw [if_pos hn] at e
      cases e
      refine .inl ⟨ρ, F, _, _, hE, e1, fun v H1 F1 S P V => ?_⟩
      have rp : Rep X.K H1 n (.lst ds) v S := V.rep
      cases n with
      | zero =>
        simp only [Rep, Rf] at rp
        obtain ⟨a, xs, rfl, fz, rf⟩ := rp
        exact ⟨a, rfl, ⟨xs, fz.sq⟩, q _ H1 F1 (fun _ => False) P (wk_lst (.inr fz) rf) fun _ z => z.elim⟩
      | succ n =>
        rw [Rep.lstS] at rp
        obtain ⟨a, xs, G, rfl, h1, h2, h3, h4, h5, h6⟩ := rp
        have rf : Rfs X.K H1 ds xs := Rfs.iff.mpr ⟨h3, fun k d x e1 e2 => by
          have := h6 k d x e1 e2
          rcases hn with hn | hn
          · rw [show n = 0 by omega] at this
            exact Rep.frz0.mp this
          · exact (Rep.of_leaf (List.all_eq_true.mp hn d (List.mem_of_getElem? e1))).mp this⟩
        cases r with
        | none => exact absurd (hr rfl _ _ _ e1) (by simp)
        | some i =>
          refine ⟨a, rfl, ⟨xs, .inl (.inl h1)⟩, q _ H1 F1 (fun b => b = a) P (wk_lst (.inl ⟨h1, rfl⟩) rf) fun b hb => ⟨i, rfl, ?_⟩⟩
          rw [hb]
          exact V.plc a h2
    · rw [if_neg hn] at e; cases e
  | tup xs =>
    dsimp only at e
    by_cases hn : n ≤ 1 ∨ xs.all D.leaf = true
    · rw [if_pos hn] at e
      cases e
      refine .inr ⟨ρ, F, _, _, hE, e1, fun v H1 F1 S P V => ?_⟩
      obtain ⟨a, xs, rfl, tx, ix⟩ := (show Rep X.K H1 n (.tup ds) v S from V.rep).tup
      exact ⟨a, rfl, ⟨xs, tx⟩, q _ H1 F1 (fun _ => False) P (wk_tup tx ix) fun _ z => z.elim⟩
    · rw [if_neg hn] at e; cases e
  | _ => cases e
def rngR (ws : List W) (ρ : Env) : R (List D) := match rngD (ws.map (·.1)) with
  | some ds => .ok ds ρ
  | none => .no
theorem rfs_int1 {K : Fg} {H : Hp} {i : Int} {vs : List V} (h : Rfs K H [.int i] vs) : vs = [.int i] := by
  simp only [Rfs, Rf] at h
  obtain ⟨x, r, rfl, rfl, rfl⟩ := h
  rfl
theorem rfs_int2 {K : Fg} {H : Hp} {i j : Int} {vs : List V} (h : Rfs K H [.int i, .int j] vs) : vs = [.int i, .int j] := by
  simp only [Rfs, Rf] at h
  obtain ⟨x, r, rfl, rfl, y, z, rfl, rfl, rfl⟩ := h
  rfl
theorem wt_rng1 (hg : L2.Gl X "range") (hm : X.mg "range" = none) (hp : plainX a = true) (h : PA X [a] (AT X.K t g)) (h0 : ∀ ρ ws ρ', g ρ = .ok ws ρ' → ws.length = 1 ∧ ∀ w ∈ ws, w.2 = 0) : PI X tg (.Call (.Name "range" p) [a] [] pos) (WT X.K t none fun ρ => bd (g ρ) rngR) :=
  PI_imp (L2.pi_range1 hg hm h (by rw [star_of hp]; rfl)) fun σ H Q ⟨ρ, F, ds, ρ', hE, e, q⟩ => by
    obtain ⟨ws, ρ1, e1, e⟩ := bd_ok e
    refine ⟨ρ, F, ws, ρ1, hE, e1, fun vs H1 F1 G P V => ?_⟩
    obtain ⟨hl, hz⟩ := h0 _ _ _ e1
    have rf := V.rfs hz
    unfold rngR at e
    cases hd : rngD (ws.map (·.1)) with
    | none => rw [hd] at e; cases e
    | some es =>
      rw [hd] at e
      cases e
      obtain ⟨w, rfl⟩ := List.length_eq_one_iff.mp hl
      obtain ⟨d, n⟩ := w
      cases d with
      | int j =>
        simp only [List.map_cons, List.map_nil, rngD] at hd
        split at hd
        · rename_i hj
          cases hd
          exact ⟨j, rfs_int1 rf, hj.1, hj.2, q _ H1 F1 (fun _ => False) P (wk_rng (by simp)) fun _ z => z.elim⟩
        · cases hd
      | _ => simp only [List.map_cons, List.map_nil, rngD] at hd; cases hd
theorem wt_rng2 (hg : L2.Gl X "range") (hm : X.mg "range" = none) (hp : plainX a = true) (hp2 : plainX b = true) (h : PA X [a, b] (AT X.K t g)) (h0 : ∀ ρ ws ρ', g ρ = .ok ws ρ' → ws.length = 2 ∧ ∀ w ∈ ws, w.2 = 0) :
    PI X tg (.Call (.Name "range" p) [a, b] [] pos) (WT X.K t none fun ρ => bd (g ρ) rngR) :=
  PI_imp (L2.pi_range2 hg hm h (by rw [star_of hp, star_of hp2]; rfl) (by rw [star_of hp2]; rfl)) fun σ H Q ⟨ρ, F, ds, ρ', hE, e, q⟩ => by
    obtain ⟨ws, ρ1, e1, e⟩ := bd_ok e
    refine ⟨ρ, F, ws, ρ1, hE, e1, fun vs H1 F1 G P V => ?_⟩
    obtain ⟨hl, hz⟩ := h0 _ _ _ e1
    have rf := V.rfs hz
    unfold rngR at e
    cases hd : rngD (ws.map (·.1)) with
    | none => rw [hd] at e; cases e
    | some es =>
      rw [hd] at e
      cases e
      obtain ⟨w, w2, rfl⟩ : ∃ w w2, ws = [w, w2] := by
        match ws, hl with
        | [w, w2], _ => exact ⟨w, w2, rfl⟩
      simp only [List.map_cons, List.map_nil] at hd rf
      unfold rngD at hd
      split at hd
      · rename_i hw; simp at hw
      · rename_i i j hw
        simp only [List.cons.injEq, and_true] at hw
        obtain ⟨h1, h2⟩ := hw
        rw [h1, h2] at rf
        split at hd
        · rename_i hj
          cases hd
          exact ⟨i, j, rfs_int2 rf, hj, q _ H1 F1 (fun _ => False) P (wk_rng rfl) fun _ z => z.elim⟩
        · cases hd
      · cases hd
end

/-! ### for -/
section
variable {X : Cx} {tg iter c : Expr} {body : List Stmt} {pos : Pos} {t0 t sg s : List Nat} {r : Option Nat} {fw : Env → R (List D)} {gg : W → Env → Option Env} {fb : Env → R Fl}
def forV (fw : Env → R (List D)) (gg : W → Env → Option Env) (fb : Env → R Fl) (ρ : Env) : R Fl := bd (fw ρ) fun ds ρ => forL (fun d ρ => (match gg (d, 0) ρ with
    | some ρ' => fb ρ'
    | none => .no)) ds ρ
theorem Po.ofPt {K : Fg} {t s : List Nat} {H : Hp} {σ σ1 : Sg} {ρ ρ1 : Env} {F F1 : FS} (hE : REnv K H σ ρ F) (z : Pt K s H σ ρ F (fun _ => False) σ1 ρ1 F1) : Po K s s H σ ρ F H σ1 ρ1 F1 :=
  ⟨z.env, z.kee, z.sig, z.len, fun i a h => (z.new i a h).elim (fun q => .inr (.inl q)) fun q => q.elim, .refl _ _⟩
theorem st_for (hp : PassesOwn (model X.prog X.w) X.A X.env X.xe) (hc : X.calm = true) (hi : PI X tg iter (WT X.K t0 r fw)) (hg : PG X tg (GT X.K sg gg)) (hb : PSs X body (ST X.K t s fb)) (hs : ∀ x, foldedSetIterable iter X.env x = pure x) (hr : ∀ i, r = some i → i ∉ sg ++ t) :
    PS X (.For tg iter body [] pos) (ST X.K (t0 ++ (sg ++ t)) (sg ++ s) (forV fw gg fb)) :=
  PS_imp (L2.ps_for hp hc hi hg hb hs) fun D σ H ⟨ρ, F, l, ρ', hE, e, q⟩ => by
    obtain ⟨ds, ρ1, e1, e⟩ := bd_ok e
    refine ⟨ρ, F, ds, ρ1, hE, e1, fun J H1 F1 S P1 ⟨G, g0, gk, gs, gi⟩ hS => ?_⟩
    have SF : ∀ a, S a → ¬ TF (sg ++ t) F1 a := fun a ha ⟨j, hj, z⟩ => by
      obtain ⟨i, hi, hf⟩ := hS a ha
      exact hr i hi (P1.env.dis i j a hf z ▸ hj)
    have P1' : Po X.K (t0 ++ (sg ++ t)) (sg ++ s) H σ ρ F H1 σ ρ1 F1 := P1.sub (fun i h => subL h) fun _ h => nomatch h
    have fin : ∀ {H' σ' ρ' F'}, Po X.K (sg ++ t) (sg ++ s) H1 σ ρ1 F1 H' σ' ρ' F' → Po X.K (t0 ++ (sg ++ t)) (sg ++ s) H σ ρ F H' σ' ρ' F' := fun P => P1'.trans hE (P.sub (fun i h => subR h) fun i h => h)
    refine ⟨fun i m σ' H' => ∃ ρ2 F2, Po X.K (sg ++ t) (sg ++ s) H1 σ ρ1 F1 H' σ' ρ2 F2 ∧ G H' ∧ m = ds.length - i ∧ i ≤ ds.length ∧ forL (fun d ρ => (match gg (d, 0) ρ with
        | some ρ' => fb ρ'
        | none => .no)) (ds.drop i) ρ2 = .ok l ρ', ⟨ds.length, ρ1, F1, Po.refl P1.env, g0, by simp, Nat.zero_le _, by simpa using e⟩, fun i m σ' H' ⟨ρ2, F2, P2, hG, hm, hi, e2⟩ => ?_⟩
    by_cases hlt : i < ds.length
    · have hd : ds[i]? = some ds[i] := List.getElem?_eq_getElem hlt
      rw [List.drop_eq_getElem_cons hlt] at e2
      unfold forL at e2
      obtain ⟨l1, ρ4, e3, e4⟩ := bd_ok e2
      cases hgg : gg (ds[i], 0) ρ2 with
      | none => rw [hgg] at e3; cases e3
      | some ρ3 =>
      rw [hgg] at e3
      dsimp only at e3
      obtain ⟨hgo, hy⟩ := gi H' i _ hG hd
      -- a step of the body, from the store on
      have stp : ∀ {x H2}, J.yld i H' x H2 → Adds H' H2 ∧ Rf X.K H2 ds[i] x := fun h => hy _ _ h
      refine .inr ⟨hgo, fun σ5 H5 => ∃ ρ5 F5, Po X.K (sg ++ t) (sg ++ s) H1 σ ρ1 F1 H5 σ5 ρ5 F5 ∧ G H5 ∧ forL (fun d ρ => (match gg (d, 0) ρ with
        | some ρ' => fb ρ'
        | none => .no)) (ds.drop (i + 1)) ρ5 = .ok l ρ', fun σ5 H5 ⟨ρ5, F5, P5, g5, e5⟩ => ⟨ds.length - (i + 1), by omega, ρ5, F5, P5, g5, rfl, by omega, e5⟩, fun x H2 y => ?_⟩
      obtain ⟨ad, rf⟩ := stp y
      have P2' := P2.adds ad
      have G2 : G H2 := gk H' H2 hG ad.stb fun b xs _ q => ad b _ q
      refine ⟨ρ2, F2, (ds[i], 0), ρ3, fun _ => False, P2'.env, Rep.frz0.mpr rf, fun _ z => z.elim, fun _ _ z => z.elim, hgg, fun σ3 F3 Z => ?_⟩
      have P3 : Po X.K (sg ++ t) (sg ++ s) H1 σ ρ1 F1 H2 σ3 ρ3 F3 := P2'.trans P1.env ((Po.ofPt (t := sg) P2'.env Z).sub (fun i h => subL h) fun i h => subL h)
      have nx : ∀ {H6 σ6 ρ6 F6}, Po X.K t s H2 σ3 ρ3 F3 H6 σ6 ρ6 F6 → Po X.K (sg ++ t) (sg ++ s) H1 σ ρ1 F1 H6 σ6 ρ6 F6 ∧ G H6 := fun {H6 σ6 ρ6 F6} P6 => by
        refine ⟨P3.trans P1.env (P6.sub (fun i h => subR h) fun i h => subR h), gk H2 H6 G2 (P6.pre.stb (TF.own P3.env t)) fun b xs hb q => P6.pre.lst q fun ⟨j, hj, z⟩ => ?_⟩
        -- S lies in a slot that stays
        obtain ⟨i0, hi0, hf⟩ := hS b hb
        have n0 := hr i0 hi0
        have f3 : F3 i0 b := ((P3.kee i0 n0).2 b).mpr hf
        exact n0 (P3.env.dis i0 j b f3 z ▸ subR hj)
      refine ⟨ρ3, F3, l1, ρ4, Z.env, e3, ?_⟩
      cases l1 with
      | nx =>
        intro H6 σ6 F6 P6
        obtain ⟨a, b⟩ := nx P6
        exact ⟨ρ4, F6, a, b, e4⟩
      | ct =>
        intro H6 σ6 F6 P6
        obtain ⟨a, b⟩ := nx P6
        exact ⟨ρ4, F6, a, b, e4⟩
      | bk =>
        intro H6 σ6 F6 P6
        cases e4
        exact q H6 σ6 F6 (fin (nx P6).1)
      | rt w =>
        intro v H6 σ6 F6 T P6 V
        cases e4
        exact q v H6 σ6 F6 T (fin (nx P6).1) (Pv.back hE (fin P3) (V.sub fun i h => subR (subR h)))
    · have hi' : i = ds.length := by omega
      subst hi'
      rw [List.drop_length] at e2
      unfold forL at e2
      cases e2
      exact .inl ⟨gs H' hG, q H' σ' F2 (fin P2)⟩
/-! ### while -/
theorem st_whl {n : Nat} {ft : Env → R Bool} (hp : PassesOwn (model X.prog X.w) X.A X.env X.xe) (hc : PT X c (BT X.K t0 ft)) (hb : PSs X body (ST X.K t s fb)) :
    PS X (.While c body [] pos) (ST X.K (t0 ++ t) s (whL ft fb n)) :=
  PS_imp (L2.ps_while hp hc hb) fun D σ H ⟨ρ, F, l, ρ', hE, e, q⟩ => by
    refine ⟨fun m σ' H' => ∃ ρ2 F2, Po X.K (t0 ++ t) s H σ ρ F H' σ' ρ2 F2 ∧ whL ft fb m ρ2 = .ok l ρ', ⟨n, ρ, F, Po.refl hE, e⟩, fun m σ' H' ⟨ρ2, F2, P2, e2⟩ => ?_⟩
    cases m with
    | zero => unfold whL at e2; cases e2
    | succ m =>
    unfold whL at e2
    obtain ⟨k, ρ3, e3, e4⟩ := bd_ok e2
    refine ⟨ρ2, F2, k, ρ3, P2.env, e3, fun H3 F3 P3 => ?_⟩
    have P3' := P2.trans hE (P3.sub (t2 := t0 ++ t) (s2 := s) (fun i h => subL h) fun _ h => nomatch h)
    cases k with
    | false =>
      show D.nx σ' H3
      cases e4
      exact q H3 σ' F3 P3'
    | true =>
      dsimp only at e4
      simp only [if_true]
      obtain ⟨l1, ρ4, e5, e6⟩ := bd_ok e4
      refine ⟨fun σ5 H5 => ∃ ρ5 F5, Po X.K (t0 ++ t) s H σ ρ F H5 σ5 ρ5 F5 ∧ whL ft fb m ρ5 = .ok l ρ', fun σ5 H5 h => ⟨m, Nat.lt_succ_self m, h⟩, ρ3, F3, l1, ρ4, P3'.env, e5, ?_⟩
      have nx : ∀ {H6 σ6 ρ6 F6}, Po X.K t s H3 σ' ρ3 F3 H6 σ6 ρ6 F6 → Po X.K (t0 ++ t) s H σ ρ F H6 σ6 ρ6 F6 := fun P6 => P3'.trans hE (P6.sub (fun i h => subR h) fun i h => h)
      cases l1 with
      | nx => exact fun H6 σ6 F6 P6 => ⟨ρ4, F6, nx P6, e6⟩
      | ct => exact fun H6 σ6 F6 P6 => ⟨ρ4, F6, nx P6, e6⟩
      | bk =>
        intro H6 σ6 F6 P6
        cases e6
        exact q H6 σ6 F6 (nx P6)
      | rt w =>
        intro v H6 σ6 F6 T P6 V
        cases e6
        exact q v H6 σ6 F6 T (nx P6) (Pv.back hE P3' (V.sub fun i h => subR h))
end
end Q
end
section
set_option Elab.async false
set_option linter.all false
set_option maxRecDepth 100000
set_option maxHeartbeats 4000000
/-! QO: list comprehensions. -/
namespace Q
open PySem PySem.Spec PyProof.Rows
open L2 (V Hp HO TE TT TA TS TG TGs TI VK XK Sp upd SqL SqT Rd Inv Cx PE PA PT PW PG PGs PS PSs PI It R2 OpR CallR FnOk Ends wipe PTs BlkOk)

theorem foldl_len (vs : List Nat) : ∀ ρ : Env, (wip vs ρ).length = ρ.length := by
  unfold wip
  induction vs with
  | nil => exact fun _ => rfl
  | cons v vs ih => intro ρ; rw [List.foldl_cons, ih, List.length_set]
theorem gt_wip {vs : List Nat} {i : Nat} : ∀ {ρ : Env}, gt (wip vs ρ) i = if i ∈ vs then none else gt ρ i := by
  unfold wip
  induction vs with
  | nil => intro ρ; simp
  | cons v vs ih =>
    intro ρ
    rw [List.foldl_cons, ih, gt_set]
    by_cases h : i ∈ vs
    · rw [if_pos h, if_pos (List.mem_cons_of_mem _ h)]
    · rw [if_neg h]
      by_cases h2 : v = i
      · subst h2
        rw [if_pos List.mem_cons_self]
        by_cases h3 : v < ρ.length
        · rw [if_pos ⟨rfl, h3⟩]
        · rw [if_neg fun z => h3 z.2]
          exact gt_len (by omega)
      · rw [if_neg fun z => h2 z.1, if_neg fun z => (List.mem_cons.mp z).elim (fun q => h2 q.symm) h]
theorem wipe_at {vs : List Nat} {σ : Sg} {i : Nat} : (wipe σ vs)[i]? = if i ∈ vs ∧ i < σ.length then some none else σ[i]? := by
  induction vs with
  | nil => simp [wipe]
  | cons v vs ih =>
    unfold wipe
    by_cases h : v = i
    · subst h
      by_cases hl : v < σ.length
      · rw [List.getElem?_set_self (by rw [L2.wipe_length]; exact hl), if_pos ⟨List.mem_cons_self, hl⟩]
      · rw [List.getElem?_eq_none (by rw [List.length_set, L2.wipe_length]; omega), if_neg fun z => hl z.2, List.getElem?_eq_none (by omega)]
    · rw [List.getElem?_set_ne h, ih]
      by_cases h2 : i ∈ vs ∧ i < σ.length
      · rw [if_pos h2, if_pos ⟨List.mem_cons_of_mem _ h2.1, h2.2⟩]
      · rw [if_neg h2, if_neg fun z => h2 ⟨(List.mem_cons.mp z.1).elim (fun q => absurd q.symm h) id, z.2⟩]
theorem wipe_ext {vs : List Nat} {σ σ2 : Sg} (hl : σ2.length = σ.length) (h : ∀ i, i ∉ vs → σ2[i]? = σ[i]?) : wipe σ2 vs = wipe σ vs := by
  apply List.ext_getElem?
  intro i
  rw [wipe_at, wipe_at, hl]
  by_cases hi : i ∈ vs
  · by_cases h2 : i < σ.length
    · rw [if_pos ⟨hi, h2⟩, if_pos ⟨hi, h2⟩]
    · rw [if_neg fun z => h2 z.2, if_neg fun z => h2 z.2, List.getElem?_eq_none (by omega), List.getElem?_eq_none (by omega)]
  · rw [if_neg fun z => hi z.1, if_neg fun z => hi z.1, h i hi]
theorem wipe_twice {vs : List Nat} {σ : Sg} : wipe (wipe σ vs) vs = wipe σ vs := wipe_ext (L2.wipe_length _ _) fun i hi => by rw [wipe_at, if_neg fun z => hi z.1]
section
variable {K : Fg} {t s s2 vs : List Nat} {H H1 H' : Hp} {σ σ' : Sg} {ρ ρ1 ρ' : Env} {F F1 F' : FS}
theorem REnv.wiped (h : REnv K H σ ρ F) : REnv K H (wipe σ vs) (wip vs ρ) fun j a => j ∉ vs ∧ F j a where
  len := by rw [foldl_len, L2.wipe_length]; exact h.len
  dis := fun i j a hi hj => h.dis i j a hi.2 hj.2
  own := fun i a hi => h.own i a hi.2
  val := fun i w hw => by
    rw [gt_wip] at hw
    by_cases hi : i ∈ vs
    · rw [if_pos hi] at hw; cases hw
    · rw [if_neg hi] at hw
      obtain ⟨v, e, r⟩ := h.val i w hw
      exact ⟨v, by rw [wipe_at, if_neg fun z => hi z.1]; exact e, Rep.mono (fun a z => ⟨hi, z⟩) r⟩
  tab := h.tab
theorem Po.wiped (P : Po K t s H σ ρ F H' σ' ρ' F') (hv : ∀ i, i ∈ vs → i ∈ t) (hs : ∀ i : Nat, i ∉ s2 → (L2.wipe σ' vs)[i]? = σ[i]?) : Po K t s2 H σ ρ F H' (L2.wipe σ' vs) (wip vs ρ') fun j a => j ∉ vs ∧ F' j a where
  env := P.env.wiped
  kee := fun i n => by
    have n2 : i ∉ vs := fun z => n (hv i z)
    exact ⟨by rw [gt_wip, if_neg n2]; exact (P.kee i n).1, fun a => ⟨fun z => ((P.kee i n).2 a).mp z.2, fun z => ⟨n2, ((P.kee i n).2 a).mpr z⟩⟩⟩
  sig := hs
  len := by rw [L2.wipe_length]; exact P.len
  new := fun i a z => P.new i a z.2
  pre := P.pre
/-- the first list that is written again -/
theorem Po.upd0 {D : Addr} {ys zs : List V} (P : Po K t s H σ ρ F H' σ' ρ' F') (hD : H D = none) (hF : ∀ j, ¬ F' j D) (hL : H' D = some (.lst zs)) : Po K t s H σ ρ F (upd H' D (.lst ys)) σ' ρ' F' where
  env := ⟨P.env.len, P.env.dis, fun i a ha => by
      obtain ⟨xs, e⟩ := P.env.own i a ha
      exact ⟨xs, by rw [L2.upd_ne (fun z => hF i (by rw [← z]; exact ha))]; exact e⟩, fun i w hw => by
      obtain ⟨v, e, r⟩ := P.env.val i w hw
      exact ⟨v, e, Rep.upd (stb_upd hL) r fun b hb z => hF i (by rw [← z]; exact hb)⟩, fun Pt kk => by
      obtain ⟨ps, e, t⟩ := P.env.tab Pt kk
      exact ⟨ps, by rw [L2.upd_ne fun z => by rw [z, hL] at e; cases e]; exact e, t⟩⟩
  kee := P.kee
  sig := P.sig
  len := P.len
  new := P.new
  pre := ⟨fun a o e n h => by rw [L2.upd_ne fun z => by rw [z, hD] at e; cases e]; exact P.pre.kee a o e n h,
    fun a ps e => by
      obtain ⟨ps', e1, h1⟩ := P.pre.tbl a ps e
      exact ⟨ps', by rw [L2.upd_ne fun z => by rw [z, hD] at e; cases e]; exact e1, h1⟩⟩
theorem foldl_rst_len {vs : List Nat} {ρ0 : Env} : ∀ ρ : Env, (rst vs ρ0 ρ).length = ρ.length := by
  unfold rst
  induction vs with
  | nil => exact fun _ => rfl
  | cons v vs ih => intro ρ; rw [List.foldl_cons, ih, List.length_set]
theorem gt_rst {vs : List Nat} {ρ0 : Env} {i : Nat} : ∀ {ρ : Env}, gt (rst vs ρ0 ρ) i = if i ∈ vs ∧ i < ρ.length then keepW (gt ρ0 i) else gt ρ i := by
  unfold rst
  induction vs with
  | nil => intro ρ; simp
  | cons v vs ih =>
    intro ρ
    rw [List.foldl_cons, ih, gt_set, List.length_set]
    by_cases h : i ∈ vs ∧ i < ρ.length
    · rw [if_pos h, if_pos ⟨List.mem_cons_of_mem _ h.1, h.2⟩]
    · rw [if_neg h]
      by_cases h2 : v = i ∧ v < ρ.length
      · rw [if_pos h2, if_pos ⟨by rw [h2.1]; exact List.mem_cons_self, by rw [← h2.1]; exact h2.2⟩, h2.1]
      · rw [if_neg h2, if_neg fun z => (List.mem_cons.mp z.1).elim (fun q => h2 ⟨q.symm, q ▸ z.2⟩) fun q => h ⟨q, z.2⟩]
theorem keepW_some {x : Option W} {w : W} (h : keepW x = some w) : w.2 = 0 ∧ x = some w := by
  unfold keepW at h
  split at h
  · cases h; exact ⟨rfl, rfl⟩
  · cases h
/-- the block is left -/
theorem Po.rst (E : REnv K H1 σ ρ1 F1) (P : Po K t [] H1 (L2.wipe σ vs) (wip vs ρ1) (fun j a => j ∉ vs ∧ F1 j a) H' (L2.wipe σ vs) ρ' F') (hv : ∀ i, i ∈ vs → i ∈ t) : Po K t [] H1 σ ρ1 F1 H' σ (rst vs ρ1 ρ') fun j a => j ∉ vs ∧ F' j a where
  env := ⟨by rw [foldl_rst_len, P.env.len, L2.wipe_length], fun i j a hi hj => P.env.dis i j a hi.2 hj.2, fun i a hi => P.env.own i a hi.2, fun i w hw => by
    rw [gt_rst] at hw
    by_cases hi : i ∈ vs ∧ i < ρ'.length
    · rw [if_pos hi] at hw
      obtain ⟨h0, hw⟩ := keepW_some hw
      obtain ⟨v, e, r⟩ := E.val i w hw
      refine ⟨v, e, ?_⟩
      rw [h0] at r ⊢
      exact Rep.frz0.mpr (Rf.stb (P.pre.stb fun a ⟨j, _, z⟩ => E.own j a z.2) _ _ (Rep.frz0.mp r))
    · rw [if_neg hi] at hw
      obtain ⟨v, e, r⟩ := P.env.val i w hw
      have hl := gt_some hw
      have n : i ∉ vs := fun z => hi ⟨z, hl⟩
      rw [wipe_at, if_neg fun z => n z.1] at e
      exact ⟨v, e, Rep.mono (fun a z => ⟨n, z⟩) r⟩, P.env.tab⟩
  kee := fun i n => by
    have n2 : i ∉ vs := fun z => n (hv i z)
    refine ⟨by rw [gt_rst, if_neg fun z => n2 z.1, (P.kee i n).1, gt_wip, if_neg n2], fun a => ⟨fun z => (((P.kee i n).2 a).mp z.2).2, fun z => ⟨n2, ((P.kee i n).2 a).mpr ⟨n2, z⟩⟩⟩⟩
  sig := fun _ _ => rfl
  len := rfl
  new := fun i a z => (P.new i a z.2).imp_right fun q => q.imp (fun y => y.2) fun ⟨j, hj, y⟩ => ⟨j, hj, y.2⟩
  pre := P.pre.mono fun a ⟨j, hj, y⟩ => ⟨j, hj, y.2⟩
end
theorem PTs_imp {X : Cx} {e : List Expr} {t u : TT} (h : PTs X e t) (i : ∀ σ H Q, u σ H Q → t σ H Q) : PTs X e u := ⟨fun pins s σ H Q I q => h.run pins s σ H Q I (i σ H Q q)⟩
theorem bts_nil {X : Cx} : PTs X [] (BT X.K [] fun ρ => .ok true ρ) := PTs_imp L2.pts_nil fun σ H Q ⟨ρ, F, b, ρ', hE, e, q⟩ => by
  cases e
  exact q H F (Po.refl hE)
theorem bts_one {X : Cx} {c : Expr} {t : List Nat} {f : Env → R Bool} (h : PT X c (BT X.K t f)) : PTs X [c] (BT X.K t f) := L2.pts_one h
/-- one turn of a comprehension -/
def eltV (own : List Nat) (gg : W → Env → Option Env) (ft : Env → R Bool) (fe : Env → R W) (d : D) (ρ : Env) : R (Option D) := match gg (d, 0) ρ with
  | some ρ => bd (ft ρ) fun k ρ => (match k with
    | true => bd (fe ρ) fun w ρ => .ok (some w.1) (wip own ρ)
    | false => .ok none (wip own ρ))
  | none => .no
def lcV (m : Nat) (own : List Nat) (fw : Env → R (List D)) (gg : W → Env → Option Env) (ft : Env → R Bool) (fe : Env → R W) (ρ : Env) : R W :=
  bd (fw ρ) fun ds ρ0 => bd (lcL (eltV own gg ft fe) ds (wip own ρ0)) fun l ρ => if l.length ≤ line then .ok (.lst l, m + 1) (rst own ρ0 ρ) else .no
/-- the items so far -/
structure Ac (K : Fg) (m : Nat) (T : List Nat) (H1 : Hp) (F1 : FS) (H : Hp) (F : FS) (D : Addr) (done : List Q.D) (acc : List V) (G : FS) : Prop where
  at' : H D = some (.lst acc)
  len : done.length = acc.length
  val : ∀ (k : Nat) d x, done[k]? = some d → acc[k]? = some x → Rep K H m d x (G k)
  own : ∀ k, Own H (G k)
  nD : ∀ k b, G k b → b ≠ D
  dis : ∀ j k b, G j b → G k b → j = k
  bnd : ∀ k, done.length ≤ k → ∀ b, ¬ G k b
  apt : ∀ k b, G k b → ∀ i, ¬ F i b
  new : ∀ k b, G k b → H1 b = none ∨ TF T F1 b
  fD : ∀ i, ¬ F i D
section
variable {X : Cx} {tg iter elt : Expr} {ifs : List Expr} {pos : Pos} {t0 t1 t2 sg : List Nat} {r : Option Nat} {fw : Env → R (List D)} {gg : W → Env → Option Env} {ft : Env → R Bool} {fe : Env → R W} {own : List (Str × Nat)} {m : Nat} {scope : Scope}
theorem Ac.step {K : Fg} {T tt ss : List Nat} {H1 H H' : Hp} {F1 F F' : FS} {σ σ' : Sg} {ρ ρ' : Env} {D : Addr} {done : List Q.D} {acc : List V} {G : FS} (a : Ac K m T H1 F1 H F D done acc G) (hE : REnv K H σ ρ F) (P : Po K tt ss H σ ρ F H' σ' ρ' F') : Ac K m T H1 F1 H' F' D done acc G := by
  have ap : ∀ k b, G k b → ¬ TF tt F b := fun k b z ⟨j, _, y⟩ => a.apt k b z j y
  have st := P.pre.stb (TF.own hE tt)
  refine ⟨P.pre.lst a.at' fun ⟨j, _, y⟩ => a.fD j y, a.len, fun k d x e1 e2 => Rep.keep st (fun b xs hb e => P.pre.lst e (ap k b hb)) (a.val k d x e1 e2), fun k b hb => ?_, a.nD, a.dis, a.bnd, fun k b hb i y => ?_, a.new, fun i y => ?_⟩
  · obtain ⟨xs, e⟩ := a.own k b hb
    exact ⟨xs, P.pre.lst e (ap k b hb)⟩
  · rcases P.new i b y with z | z | z
    · obtain ⟨xs, e⟩ := a.own k b hb
      exact none_lst e z
    · exact a.apt k b hb i z
    · exact ap k b hb z
  · rcases P.new i D y with z | z | ⟨j, _, z⟩
    · exact none_lst a.at' z
    · exact a.fD i z
    · exact a.fD j z
theorem lc_imp {K : Fg} {vs : List Nat} (h0 : ∀ ρ w ρ', fe ρ = .ok w ρ' → w.2 = m) (hsub : ∀ i, i ∈ sg → i ∈ vs) (hr : ∀ i, r = some i → i ∉ vs ++ (t1 ++ t2)) {σ : Sg} {H : Hp} {Q : VK} (h : VT K (t0 ++ (vs ++ (t1 ++ t2))) none (lcV m vs fw gg ft fe) σ H Q) :
    L2.tLc (WT K t0 r fw) (GT K sg gg) (BT K t1 ft) (VT K t2 none fe) vs σ H Q := by
    obtain ⟨ρ, F, w, ρ', hE, e, q⟩ := h
    obtain ⟨ds, ρ1, e1, e⟩ := bd_ok e
    obtain ⟨l, ρ2, e2, e⟩ := bd_ok e
    by_cases hll : l.length ≤ line
    · rw [if_pos hll] at e
      cases e
      refine ⟨ρ, F, ds, ρ1, hE, e1, fun J H1 F1 S P1 ⟨Gw, g0, gk, gs, gi⟩ hS D hD => ?_⟩
      generalize hT : vs ++ (t1 ++ t2) = T at *
      have vT : ∀ i, i ∈ vs → i ∈ T := fun i h => hT ▸ subL h
      have t1T : ∀ i, i ∈ t1 → i ∈ T := fun i h => hT ▸ subR (subL h)
      have t2T : ∀ i, i ∈ t2 → i ∈ T := fun i h => hT ▸ subR (subR h)
      have E1 := P1.env.wiped (vs := vs)
      have ad0 : Adds H1 (upd H1 D (.lst [])) := Adds.upd hD
      have F1D : ∀ i, ¬ F1 i D := fun i z => by obtain ⟨xs, e⟩ := P1.env.own i D z; rw [hD] at e; cases e
      refine ⟨fun i n H' => ∃ ρ3 F3 done acc G rest, Po K T [] H1 (wipe σ vs) (wip vs ρ1) (fun j a => j ∉ vs ∧ F1 j a) H' (wipe σ vs) ρ3 F3 ∧ Gw H' ∧ Ac K m T H1 (fun j a => j ∉ vs ∧ F1 j a) H' F3 D done acc G ∧ n = ds.length - i ∧ i ≤ ds.length ∧
          lcL (eltV vs gg ft fe) (ds.drop i) ρ3 = .ok rest ρ2 ∧ l = done ++ rest, ⟨ds.length, wip vs ρ1, _, [], [], fun _ _ => False, l, (Po.refl E1).adds ad0, gk _ _ g0 ad0.stb fun b xs _ z => ad0 b _ z,
          ⟨L2.upd_same, rfl, fun k d x z => by simp at z, fun _ _ z => z.elim, fun _ _ z => z.elim, fun _ _ _ z => z.elim, fun _ _ _ z => z, fun _ _ z => z.elim, fun _ _ z => z.elim, fun i z => F1D i z.2⟩, by simp, Nat.zero_le _, by simpa using e2, rfl⟩,
          fun i n H' ⟨ρ3, F3, done, acc, G, rest, P3, hG, A, hn, hi, e3, hl⟩ => ?_⟩
      by_cases hlt : i < ds.length
      · have hd : ds[i]? = some ds[i] := List.getElem?_eq_getElem hlt
        rw [List.drop_eq_getElem_cons hlt] at e3
        unfold lcL at e3
        obtain ⟨o, ρ4, e4, e5⟩ := bd_ok e3
        obtain ⟨rs, ρ5, e5, e6⟩ := bd_ok e5
        obtain ⟨hgo, hy⟩ := gi H' i _ hG hd
        unfold eltV at e4
        cases hgg : gg (ds[i], 0) ρ3 with
        | none => rw [hgg] at e4; cases e4
        | some ρ6 =>
        rw [hgg] at e4
        dsimp only at e4
        obtain ⟨k, ρ7, e7, e4⟩ := bd_ok e4
        refine .inr ⟨hgo, fun H' => ∃ ρ3 F3 done acc G rest, Po K T [] H1 (wipe σ vs) (wip vs ρ1) (fun j a => j ∉ vs ∧ F1 j a) H' (wipe σ vs) ρ3 F3 ∧ Gw H' ∧ Ac K m T H1 (fun j a => j ∉ vs ∧ F1 j a) H' F3 D done acc G ∧
          lcL (eltV vs gg ft fe) (ds.drop (i + 1)) ρ3 = .ok rest ρ2 ∧ l = done ++ rest, fun H' ⟨ρ3, F3, done, acc, G, rest, P3, hG, A, e3, hl⟩ => ⟨ds.length - (i + 1), by omega, ρ3, F3, done, acc, G, rest, P3, hG, A, rfl, by omega, e3, hl⟩, fun x H2 y => ?_⟩
        obtain ⟨ad, rf⟩ := hy _ _ y
        have P2 := P3.adds ad
        have G2 : Gw H2 := gk H' H2 hG ad.stb fun b xs _ z => ad b _ z
        have A2 := A.step P3.env ((Po.refl (t := []) (s := []) P3.env).adds ad)
        refine ⟨ρ3, F3, (ds[i], 0), ρ6, fun _ => False, P2.env, Rep.frz0.mpr rf, fun _ z => z.elim, fun _ _ z => z.elim, hgg, fun σ4 F4 Z => ?_⟩
        have hw : wipe σ4 vs = wipe σ vs := by
          rw [← wipe_twice (σ := σ)]
          exact wipe_ext Z.len fun i hi => Z.sig i fun q => hi (hsub i q)
        refine ⟨hw, ρ6, F4, k, ρ7, Z.env, e7, fun H5 F5 P5 => ?_⟩
        have Q4 : Po K T vs H1 (wipe σ vs) (wip vs ρ1) (fun j a => j ∉ vs ∧ F1 j a) H2 σ4 ρ6 F4 := (P2.sub (fun _ h => h) fun _ h => nomatch h).trans E1 ((Po.ofPt (t := sg) P2.env Z).sub (fun i h => vT i (hsub i h)) hsub)
        have A4 := A2.step P2.env (Po.ofPt (t := sg) P2.env Z)
        have Q5 : Po K T vs H1 (wipe σ vs) (wip vs ρ1) (fun j a => j ∉ vs ∧ F1 j a) H5 σ4 ρ7 F5 := Q4.trans E1 (P5.sub t1T fun _ h => nomatch h)
        have A5 := A4.step Z.env P5
        -- the walked things stay
        have SF : ∀ b, S b → ∀ {H6 σ6 ρ6 F6}, Po K T vs H1 (wipe σ vs) (wip vs ρ1) (fun j a => j ∉ vs ∧ F1 j a) H6 σ6 ρ6 F6 → ∀ j, j ∈ T → ¬ F6 j b := fun b hb {H6 σ6 ρ6 F6} P6 j hj z => by
          obtain ⟨i0, hi0, hf⟩ := hS b hb
          have n0 : i0 ∉ T := hr i0 hi0
          have n1 : i0 ∉ vs := fun z => n0 (vT i0 z)
          exact n0 (P6.env.dis i0 j b (((P6.kee i0 n0).2 b).mpr ⟨n1, hf⟩) z ▸ hj)
        have G5 : Gw H5 := gk H2 H5 G2 (P5.pre.stb (TF.own Z.env t1)) fun b xs hb z => P5.pre.lst z fun ⟨j, hj, y⟩ => SF b hb Q4 j (t1T j hj) y
        cases k with
        | false =>
          simp only [Bool.false_eq_true, if_false]
          dsimp only at e4
          cases e4
          dsimp only at e6
          cases e6
          have Q6 := Q5.wiped (vs := vs) (s2 := []) vT fun i _ => by rw [hw]
          rw [hw] at Q6
          refine ⟨_, _, done, acc, G, rest, Q6, G5, ?_, e5, hl⟩
          exact ⟨A5.at', A5.len, A5.val, A5.own, A5.nD, A5.dis, A5.bnd, fun k b hb i z => A5.apt k b hb i z.2, A5.new, fun i z => A5.fD i z.2⟩
        | true =>
          simp only [if_true]
          dsimp only at e4
          obtain ⟨w, ρ8, e8, e4⟩ := bd_ok e4
          cases e4
          dsimp only at e6
          cases e6
          refine ⟨ρ7, F5, w, ρ8, P5.env, e8, fun v H6 F6 S6 P6 V6 => ?_⟩
          have A6 := A5.step P5.env P6
          have Q6' := Q5.trans E1 (P6.sub (t2 := T) (s2 := vs) t2T fun _ h => nomatch h)
          have G6 : Gw H6 := gk H5 H6 G5 (P6.pre.stb (TF.own P5.env t2)) fun b xs hb z => P6.pre.lst z fun ⟨j, hj, y⟩ => SF b hb Q5 j (t2T j hj) y
          have hlen : acc.length < line := by
            rw [hl, List.length_append] at hll
            have := A6.len
            simp at hll
            omega
          have sD : ∀ b, S6 b → b ≠ D := fun b hb z => by
            subst z
            rcases V6.plc.2 b hb with y | ⟨j, _, y⟩
            · exact none_lst A5.at' y
            · exact A5.fD j y
          have sG : ∀ b, S6 b → ∀ k, ¬ G k b := fun b hb k z => by
            rcases V6.plc.2 b hb with y | ⟨j, _, y⟩
            · obtain ⟨xs, e⟩ := A5.own k b z
              exact none_lst e y
            · exact A5.apt k b z j y
          have stU : Stb H6 (upd H6 D (.lst (acc ++ [v]))) := stb_upd A6.at'
          refine ⟨acc, A6.at', hlen, ?_⟩
          have Q7 := (Q6'.wiped (vs := vs) (s2 := []) vT fun i _ => by rw [hw]).upd0 (ys := acc ++ [v]) hD (fun j z => A6.fD j z.2) A6.at'
          rw [hw] at Q7
          refine ⟨_, _, done ++ [w.1], acc ++ [v], fun k b => if k = done.length then S6 b else G k b, rs, Q7, gk H6 _ G6 stU fun b xs hb z => ?_, ?_, e5, by rw [hl]; simp⟩
          · rw [L2.upd_ne fun y => ?_]
            · exact z
            · subst y
              obtain ⟨i0, hi0, hf⟩ := hS b hb
              exact F1D i0 hf
          · refine ⟨L2.upd_same, by simp [A6.len], fun k d x z1 z2 => ?_, fun k b hb => ?_, fun k b hb => ?_, fun j k b hj hk => ?_, fun k hk b hb => ?_, fun k b hb i z => ?_, fun k b hb => ?_, fun i z => A6.fD i z.2⟩
            · by_cases hk : k < done.length
              · rw [List.getElem?_append_left hk] at z1
                rw [List.getElem?_append_left (by have := A6.len; omega)] at z2
                have ne : ¬ k = done.length := by omega
                simp only [if_neg ne]
                exact Rep.upd stU (A6.val k d x z1 z2) (A6.nD k)
              · have hk2 : k = done.length := by
                  have := (List.getElem?_eq_some_iff.mp z1).1
                  simp at this; omega
                subst hk2
                rw [List.getElem?_append_right (Nat.le_refl _)] at z1
                rw [A6.len, List.getElem?_append_right (Nat.le_refl _)] at z2
                simp at z1 z2
                subst z1 z2
                simp only [if_true]
                have rp := V6.rep
                rw [h0 _ _ _ e8] at rp
                exact Rep.upd stU rp sD
            · split at hb
              · obtain ⟨xs, e⟩ := V6.own b hb
                exact ⟨xs, by rw [L2.upd_ne (sD b hb)]; exact e⟩
              · obtain ⟨xs, e⟩ := A6.own k b hb
                exact ⟨xs, by rw [L2.upd_ne (A6.nD k b hb)]; exact e⟩
            · split at hb
              · exact sD b hb
              · exact A6.nD k b hb
            · split at hj
              · split at hk
                · omega
                · exact (sG b hj k hk).elim
              · split at hk
                · exact (sG b hk j hj).elim
                · exact A6.dis j k b hj hk
            · rw [List.length_append, List.length_singleton] at hk
              rw [if_neg (by omega)] at hb
              exact A6.bnd k (by omega) b hb
            · split at hb
              · exact V6.plc.1 i b hb z.2
              · exact A6.apt k b hb i z.2
            · split at hb
              · have pv := (Pv.back Q5.env (Po.refl (t := T) (s := []) Q5.env) (V6.sub t2T)).plc.2 b hb
                rcases pv with y | ⟨j, hj, y⟩
                · cases hH : H1 b with
                  | none => exact .inl rfl
                  | some ob =>
                    by_cases hT' : TF T (fun j a => j ∉ vs ∧ F1 j a) b
                    · exact .inr hT'
                    · refine absurd y ?_
                      cases ob with
                      | tbl ps => obtain ⟨ps', e9, _⟩ := Q5.pre.tbl b ps hH; rw [e9]; simp
                      | _ => rw [Q5.pre.kee b _ hH (fun _ y => (by cases y)) hT']; simp
                · rcases Q5.new j b y with y | y | y
                  · exact .inl y
                  · exact .inr ⟨j, hj, y⟩
                  · exact .inr y
              · exact A6.new k b hb
      · have hi' : i = ds.length := by omega
        subst hi'
        rw [List.drop_length] at e3
        unfold lcL at e3
        cases e3
        rw [List.append_nil] at hl
        subst hl
        have P4 := Po.rst P1.env P3 vT
        have P := Po.seqE hE P1 P4
        refine .inl ⟨gs H' hG, q (.ref D) H' _ (fun b => b = D ∨ ∃ k, G k b) P (Pv.back (s := []) hE (P1.sub (t2 := t0 ++ T) (fun i h => subL h) fun _ h => h) ⟨?_, fun b hb => ?_, fun j b hb z => ?_, fun b hb => ?_⟩)⟩
        · show Rep K H' (m + 1) (.lst l) (.ref D) _
          rw [Rep.lstS]
          exact ⟨D, acc, G, rfl, A.at', .inl rfl, A.len, fun k b z => ⟨.inr ⟨k, z⟩, A.nD k b z⟩, A.dis, A.val⟩
        · rcases hb with rfl | ⟨k, hb⟩
          · exact ⟨acc, A.at'⟩
          · exact A.own k b hb
        · rcases hb with rfl | ⟨k, hb⟩
          · exact A.fD j z.2
          · exact A.apt k b hb j z.2
        · rcases hb with rfl | ⟨k, hb⟩
          · exact .inl hD
          · exact (A.new k b hb).imp_right fun ⟨j, hj, z⟩ => ⟨j, subR hj, z.2⟩
    · rw [if_neg hll] at e; cases e
theorem vt_lc (hc : X.calm = true) (hN : X.N.Nodup) (hi : PI X tg iter (WT X.K t0 r fw)) (ok : BlkOk X.N X.env.scope scope own)
    (hg : ∀ (s : Shared) (H : Hp) (C : Addr) (cl : List (Str × Addr)) (fp : List Addr), PG (X.blk s H scope (compEnvC scope cl C X.env) fp) tg (GT X.K sg gg))
    (ht : ∀ (s : Shared) (H : Hp) (C : Addr) (cl : List (Str × Addr)) (fp : List Addr), PTs (X.blk s H scope (compEnvC scope cl C X.env) fp) ifs (BT X.K t1 ft))
    (he : ∀ (s : Shared) (H : Hp) (C : Addr) (cl : List (Str × Addr)) (fp : List Addr), PE (X.blk s H scope (compEnvC scope cl C X.env) fp) elt (VT X.K t2 none fe))
    (h0 : ∀ ρ w ρ', fe ρ = .ok w ρ' → w.2 = m) (hs : ∀ x, foldedSetIterable iter X.env x = pure x) (hsub : ∀ i, i ∈ sg → i ∈ own.map (·.2)) (hr : ∀ i, r = some i → i ∉ own.map (·.2) ++ (t1 ++ t2)) :
    PE X (.ListComp elt [⟨tg, iter, ifs, 0⟩] scope pos) (VT X.K (t0 ++ (own.map (·.2) ++ (t1 ++ t2))) none (lcV m (own.map (·.2)) fw gg ft fe)) :=
  PE_imp (L2.pe_lc hc hN hi ok hg ht he hs) fun σ H Q h => lc_imp h0 hsub hr h
end
end Q
end
section
set_option Elab.async false
set_option linter.all false
set_option maxRecDepth 100000
set_option maxHeartbeats 4000000
/-! QP: parallel assignment, stores at places. -/
namespace Q
open PySem PySem.Spec PyProof.Rows
open L2 (V Hp HO TE TT TA TS TG TGs TI VK XK Sp upd SqL SqT Rd Inv Cx PE PA PT PW PG PGs PS PSs PI It R2 OpR CallR FnOk Ends)

section
variable {K : Fg} {t s s1 : List Nat} {H H1 : Hp} {σ σ1 σ2 : Sg} {ρ ρ1 ρ2 : Env} {F F1 F2 : FS} {S : AS}
theorem Po.put2 (hE : REnv K H σ ρ F) (P : Po K t s1 H σ ρ F H1 σ1 ρ1 F1) (hS : ∀ a, S a → H a = none ∨ TF t F a) (z : Pt K s H1 σ1 ρ1 F1 S σ2 ρ2 F2) : Po K (t ++ s) (s1 ++ s) H σ ρ F H1 σ2 ρ2 F2 where
  env := z.env
  kee := fun i n => by
    have n1 : i ∉ t := fun z => n (subL z)
    have n2 : i ∉ s := fun z => n (subR z)
    exact ⟨(z.kee i n2).1.trans (P.kee i n1).1, fun x => ((z.kee i n2).2 x).trans ((P.kee i n1).2 x)⟩
  sig := fun i n => (z.sig i fun q => n (subR q)).trans (P.sig i fun y => n (subL y))
  len := z.len.trans P.len
  new := fun i a y => by
    have up : TF t F a → TF (t ++ s) F a := fun ⟨j, hj, q⟩ => ⟨j, subL hj, q⟩
    rcases z.new i a y with x | x
    · exact (P.new i a x).imp_right fun q => q.imp_right up
    · exact (hS a x).imp_right fun q => .inr (up q)
  pre := P.pre.mono fun a ⟨j, hj, q⟩ => ⟨j, subL hj, q⟩
end
section
variable {X : Cx} {a b c : Expr} {x y z : Str} {px py pz pt pos : Pos} {kt k2 pt2} {t : List Nat} {i j l : Nat} {g : Env → R (List W)}
def par2V (i j : Nat) (g : Env → R (List W)) (ρ : Env) : R Fl := bd (g ρ) fun ws ρ => (match ws with
  | [u, v] => if i < ρ.length ∧ j < ρ.length then .ok .nx ((ρ.set i (some u)).set j (some v)) else .no
  | _ => .no)
def par3V (i j l : Nat) (g : Env → R (List W)) (ρ : Env) : R Fl := bd (g ρ) fun ws ρ => (match ws with
  | [u, v, w] => if i < ρ.length ∧ j < ρ.length ∧ l < ρ.length then .ok .nx (((ρ.set i (some u)).set j (some v)).set l (some w)) else .no
  | _ => .no)
theorem st_par2 (hc : X.calm = true) (hN : X.N.Nodup) (hi : X.N[i]? = some x) (hj : X.N[j]? = some y) (hij : i ≠ j) (hx : X.env.scope.names.lookup x = some .local) (hy : X.env.scope.names.lookup y = some .local) (ha : PA X [a, b] (AT X.K t g))
    (hw : swappedStores [.Tuple [.Name x px, .Name y py] kt pt] (.Tuple [a, b] k2 pt2) X.env = pure (some [x, y])) (hs : swapsWithSole [.Tuple [.Name x px, .Name y py] kt pt] (.Tuple [a, b] k2 pt2) pos.line X.env = pure false) :
    PS X (.Assign [.Tuple [.Name x px, .Name y py] kt pt] (.Tuple [a, b] k2 pt2) pos) (ST X.K (t ++ [i] ++ [j]) ([] ++ [i] ++ [j]) (par2V i j g)) :=
  PS_imp (L2.ps_par hc hN hi hj hij hx hy ha hw hs) fun D σ H ⟨ρ, F, f, ρ', hE, e, q⟩ => by
    obtain ⟨ws, ρ1, e1, e⟩ := bd_ok e
    refine ⟨ρ, F, ws, ρ1, hE, e1, fun vs H1 F1 G P Vs => ?_⟩
    split at e
    · rename_i u v
      split at e
      · rename_i hlt
        cases e
        obtain ⟨x1, x2, rfl⟩ : ∃ x1 x2, vs = [x1, x2] := by
          have := Vs.len
          match vs, this with
          | [x1, x2], _ => exact ⟨x1, x2, rfl⟩
        refine ⟨x1, x2, rfl, ?_⟩
        have p0 := Vs.val 0 u x1 rfl rfl
        have p1 := Vs.val 1 v x2 rfl rfl
        have Z1 := put_slot (w := u) (v := x1) P.env p0.rep p0.own (fun j a ha => p0.plc.1 j a ha) hlt.1
        have Q1 := Po.put2 hE P p0.plc.2 Z1
        have Z2 := put_slot (w := v) (v := x2) Z1.env p1.rep p1.own (fun k a ha z => by
          rcases z with ⟨_, z⟩ | ⟨_, z⟩
          · exact absurd (Vs.dis 0 1 a z ha) (by decide)
          · exact p1.plc.1 k a ha z) (by rw [List.length_set]; exact hlt.2)
        exact q H1 _ _ (Po.put2 hE Q1 (fun a ha => (p1.plc.2 a ha).imp_right fun ⟨k, hk, z⟩ => ⟨k, subL hk, z⟩) Z2)
      · cases e
    · cases e
theorem st_par3 (hc : X.calm = true) (hN : X.N.Nodup) (hi : X.N[i]? = some x) (hj : X.N[j]? = some y) (hl : X.N[l]? = some z) (hij : i ≠ j) (hil : i ≠ l) (hjl : j ≠ l) (hx : X.env.scope.names.lookup x = some .local) (hy : X.env.scope.names.lookup y = some .local) (hz : X.env.scope.names.lookup z = some .local) (ha : PA X [a, b, c] (AT X.K t g))
    (hw : swappedStores [.Tuple [.Name x px, .Name y py, .Name z pz] kt pt] (.Tuple [a, b, c] k2 pt2) X.env = pure (some [x, y, z])) (hs : swapsWithSole [.Tuple [.Name x px, .Name y py, .Name z pz] kt pt] (.Tuple [a, b, c] k2 pt2) pos.line X.env = pure false) :
    PS X (.Assign [.Tuple [.Name x px, .Name y py, .Name z pz] kt pt] (.Tuple [a, b, c] k2 pt2) pos) (ST X.K (t ++ [i] ++ [j] ++ [l]) ([] ++ [i] ++ [j] ++ [l]) (par3V i j l g)) :=
  PS_imp (L2.ps_par3 hc hN hi hj hl hij hil hjl hx hy hz ha hw hs) fun D σ H ⟨ρ, F, f, ρ', hE, e, q⟩ => by
    obtain ⟨ws, ρ1, e1, e⟩ := bd_ok e
    refine ⟨ρ, F, ws, ρ1, hE, e1, fun vs H1 F1 G P Vs => ?_⟩
    split at e
    · rename_i u v w
      split at e
      · rename_i hlt
        cases e
        obtain ⟨x1, x2, x3, rfl⟩ : ∃ x1 x2 x3, vs = [x1, x2, x3] := by
          have := Vs.len
          match vs, this with
          | [x1, x2, x3], _ => exact ⟨x1, x2, x3, rfl⟩
        refine ⟨x1, x2, x3, rfl, ?_⟩
        have p0 := Vs.val 0 u x1 rfl rfl
        have p1 := Vs.val 1 v x2 rfl rfl
        have p2 := Vs.val 2 w x3 rfl rfl
        have Z1 := put_slot (w := u) (v := x1) P.env p0.rep p0.own (fun j a ha => p0.plc.1 j a ha) hlt.1
        have Q1 := Po.put2 hE P p0.plc.2 Z1
        have Z2 := put_slot (w := v) (v := x2) Z1.env p1.rep p1.own (fun k a ha z => by
          rcases z with ⟨_, z⟩ | ⟨_, z⟩
          · exact absurd (Vs.dis 0 1 a z ha) (by decide)
          · exact p1.plc.1 k a ha z) (by rw [List.length_set]; exact hlt.2.1)
        have Q2 := Po.put2 hE Q1 (fun a ha => (p1.plc.2 a ha).imp_right fun ⟨k, hk, z⟩ => ⟨k, subL hk, z⟩) Z2
        have Z3 := put_slot (w := w) (v := x3) Z2.env p2.rep p2.own (fun k a ha z => by
          rcases z with ⟨_, z⟩ | ⟨_, z | z⟩
          · exact absurd (Vs.dis 1 2 a z ha) (by decide)
          · exact absurd (Vs.dis 0 2 a z.2 ha) (by decide)
          · exact p2.plc.1 k a ha z.2) (by rw [List.length_set, List.length_set]; exact hlt.2.2)
        exact q H1 _ _ (Po.put2 hE Q2 (fun a ha => (p2.plc.2 a ha).imp_right fun ⟨k, hk, z⟩ => ⟨k, subL (subL hk), z⟩) Z3)
      · cases e
    · cases e
end
/-! ### o[j] = e -/
def setV (i m : Nat) (fe : Env → R W) (fp : Env → R (List D)) (fj : Env → R W) (ρ : Env) : R Fl := bd (fe ρ) fun x ρ => bd (fp ρ) fun p ρ => bd (fj ρ) fun k ρ => (match getS ρ i p with
    | some (.lst xs, n + 1) => if m = n then (match k.1 with
      | .int q => (match ixOf xs.length q with
        | some r => (match putS ρ i p (.lst (xs.set r x.1)) with
          | some ρ' => .ok .nx ρ'
          | none => .no)
        | none => .no)
      | _ => .no) else .no
    | _ => .no)
section
variable {X : Cx} {e o j : Expr} {tpos pos : Pos} {t t1 t2 : List Nat} {r : Option Nat} {i m : Nat} {fe fj : Env → R W} {fp : Env → R (List D)}
theorem chg_set {K : Fg} {H : Hp} {a : Addr} {ds : List D} {n r : Nat} {S0 N : AS} {d : D} {v : V} {xs : List V} {G' : FS} (g1 : H a = some (.lst xs)) (g2 : S0 a) (g3 : ds.length = xs.length) (g4 : ∀ k b, G' k b → S0 b ∧ b ≠ a) (g5 : ∀ j k b, G' j b → G' k b → j = k)
    (g6 : ∀ k d x, ds[k]? = some d → xs[k]? = some x → Rep K H n d x (G' k)) (rv : Rep K H n d v N) (hN : ∀ b, N b → ¬ S0 b) (oN : Own H N) : Chg K H (upd H a (.lst (xs.set r v))) a ds (ds.set r d) n S0 (G' r) N := by
  have st := stb_upd (ys := xs.set r v) g1
  have nN : ∀ b, N b → b ≠ a := fun b hb z => hN b hb (by rw [z]; exact g2)
  refine ⟨⟨_, rfl⟩, ⟨fun b => b = a ∨ (∃ k, k ≠ r ∧ G' k b) ∨ N b, ?_, fun b hb => ?_⟩, fun b hb => g4 r b hb, fun b hb => ?_⟩
  · rw [Rep.lstS]
    refine ⟨a, xs.set r v, fun k b => (k ≠ r ∧ G' k b) ∨ (k = r ∧ N b), rfl, L2.upd_same, .inl rfl, by simp [g3], fun k b hb => ?_, fun j k b hj hk => ?_, fun k d' x e1 e2 => ?_⟩
    · rcases hb with ⟨h1, hb⟩ | ⟨h1, hb⟩
      · exact ⟨.inr (.inl ⟨k, h1, hb⟩), (g4 k b hb).2⟩
      · exact ⟨.inr (.inr hb), nN b hb⟩
    · rcases hj with ⟨h1, hj⟩ | ⟨h1, hj⟩
      · rcases hk with ⟨h2, hk⟩ | ⟨h2, hk⟩
        · exact g5 j k b hj hk
        · exact (hN b hk (g4 j b hj).1).elim
      · rcases hk with ⟨h2, hk⟩ | ⟨h2, hk⟩
        · exact (hN b hj (g4 k b hk).1).elim
        · rw [h1, h2]
    · rcases set_at e1 with ⟨z, rfl⟩ | ⟨z, e1⟩
      · subst z
        rw [List.getElem?_set_self (by have := (List.getElem?_eq_some_iff.mp e2).1; simpa using this)] at e2
        cases e2
        exact Rep.mono (fun b hb => .inr ⟨rfl, hb⟩) (Rep.upd st rv nN)
      · rw [List.getElem?_set_ne (Ne.symm z)] at e2
        exact Rep.mono (fun b hb => .inl ⟨z, hb⟩) (Rep.upd st (g6 k d' x e1 e2) fun b hb => (g4 k b hb).2)
  · rcases hb with rfl | ⟨k, h1, hb⟩ | hb
    · exact .inl ⟨g2, fun z => (g4 r b z).2 rfl⟩
    · exact .inl ⟨(g4 k b hb).1, fun z => h1 (g5 k r b hb z)⟩
    · exact .inr hb
  · obtain ⟨zs, e⟩ := oN b hb
    exact ⟨zs, by rw [L2.upd_ne (nN b hb)]; exact e⟩
theorem st_set (he : PE X e (VT X.K t none fe)) (h0 : ∀ ρ w ρ', fe ρ = .ok w ρ' → w.2 = m) (ho : PE X o (PlT X.K t1 i fp)) (hj : PE X j (VT X.K t2 r fj)) (hi : i ∉ t2) (hr : ∀ i, r = some i → i ∉ ([] : List Nat))
    (hs : swapsWithSole [.Subscript o j tpos] e pos.line X.env = pure false) (hw : swappedStores [.Subscript o j tpos] e X.env = pure none) (h1 : (assignEach [.Subscript o j tpos] X.env).map (·.2) = [assign (.Subscript o j tpos) X.env])
    (hv : ∀ v, assign (.Subscript o j tpos) X.env v = (do
      let ov ← holding [v] (eval o X.env)
      let iv ← holding [v, ov] (eval j X.env)
      standAt tpos
      holding [v, ov, iv] (setItem ov iv v)
      release [v, ov, iv] [])) :
    PS X (.Assign [.Subscript o j tpos] e pos) (ST X.K (t ++ t1 ++ t2 ++ [i]) [] (setV i m fe fp fj)) :=
  PS_imp (L2.ps_asg he (L2.pg_sub ho hj L2.set_list hv) hs hw h1) fun D σ H ⟨ρ, F, f, ρ', hE, e, q⟩ => by
    obtain ⟨x, ρ1, e1, e⟩ := bd_ok e
    obtain ⟨p, ρ2, e2, e⟩ := bd_ok e
    obtain ⟨k, ρ3, e3, e⟩ := bd_ok e
    refine ⟨ρ, F, x, ρ1, hE, e1, fun v H1 F1 S1 P1 V1 => ?_⟩
    refine ⟨ρ1, F1, p, ρ2, P1.env, e2, fun v2 H2 F2 P2 ⟨w0, v0, wu, S0, hw0, hv0, hol⟩ => ?_⟩
    refine ⟨ρ2, F2, k, ρ3, P2.env, e3, fun v3 H3 F3 S3 P3 V3 => ?_⟩
    obtain ⟨hw2, ho2⟩ := hole_move P2.env P3 hi hw0 hol
    rw [getS_hole hw2 ho2] at e
    have P := Po.seqE hE (Po.seqE hE P1 P2) P3
    have V := (V1.move P1.env P2 (fun _ z => nomatch z)).move P2.env P3 fun _ z => nomatch z
    split at e
    · rename_i xs n hx
      cases hx
      split at e
      · rename_i hmn
        subst hmn
        split at e
        · rename_i qq hk
          cases hq : ixOf xs.length qq with
          | none => rw [hq] at e; cases e
          | some rr =>
          rw [hq] at e
          dsimp only at e
          cases hp : putS ρ3 i p (.lst (xs.set rr x.1)) with
          | none => rw [hp] at e; cases e
          | some ρ4 =>
          rw [hp] at e
          cases e
          have r3 := V3.rep
          rw [hk] at r3
          cases r3.int
          obtain ⟨a, us, G, rfl, h1, h2, h3, h4, h5, h6⟩ := ho2.lst
          have rv := V.rep
          rw [h0 _ _ _ e1] at rv
          have nF : ∀ j b, S1 b → ¬ F3 j b := fun j b hb => V.plc.1 j b hb
          have c := chg_set (r := rr) h1 h2 h3 h4 h5 h6 rv (fun b hb z => nF i b hb (ho2.sub b z)) V.own
          obtain ⟨F4, P4, _, _⟩ := po_chg hE P hw2 hv0 ho2 h2 c nF (fun b hb => (V.plc.2 b hb).imp_right fun ⟨j, hj, z⟩ => ⟨j, subL (subL hj), z⟩) hp
          exact ⟨a, us, qq, rr, rfl, rfl, h1, by rw [← h3, ixN_of]; exact hq, q _ σ F4 P4⟩
        · cases e
      · cases e
    · cases e
end
end Q
end
section
set_option Elab.async false
set_option linter.all false
set_option maxRecDepth 100000
set_option maxHeartbeats 4000000
/-! QR: calls of defs by what they are worth; a def's promise from its body's reading. -/
namespace Q
open PySem PySem.Spec PyProof.Rows
open L2 (V Hp HO TE TT TA TS TG TGs TI VK XK Sp upd SqL SqT Rd Inv Cx PE PA PK PT PW PG PGs PS PSs PI It R2 OpR CallR FnOk Ends FunD FnScope CX0 Binds KBn Vals Room Gl start cxOf pass0)

theorem CA.imp {K : Fg} {t : List Nat} {ss : List (Option Nat)} {f : Env → R (List (Option W))} {σ : Sg} {H : Hp} {Q Q' : List V → Hp → Prop} (h : CA K t ss f σ H Q) (i : ∀ vs H', vs.length = ss.length → Q vs H' → Q' vs H') : CA K t ss f σ H Q' := by
  obtain ⟨ρ, F, ws, ρ', hE, e, q⟩ := h
  exact ⟨ρ, F, ws, ρ', hE, e, fun vs H1 F1 P hl hv => i _ _ hl.2.symm (q vs H1 F1 P hl hv)⟩
theorem KA.nil {K : Fg} {σ : Sg} {H : Hp} {Q : List V → Hp → Prop} (h : KA K [] (fun ρ => .ok [] ρ) σ H Q) : Q [] H := by
  obtain ⟨ρ, F, ws, ρ', hE, e, q⟩ := h
  cases e
  exact q [] H F (Po.refl hE) rfl fun k a b h => nomatch h
theorem KA.imp {K : Fg} {t : List Nat} {f : Env → R (List W)} {n : Nat} (hl : ∀ ρ ws ρ', f ρ = .ok ws ρ' → ws.length = n) {σ : Sg} {H : Hp} {Q Q' : List V → Hp → Prop} (h : KA K t f σ H Q) (i : ∀ vs H', vs.length = n → Q vs H' → Q' vs H') : KA K t f σ H Q' := by
  obtain ⟨ρ, F, ws, ρ', hE, e, q⟩ := h
  exact ⟨ρ, F, ws, ρ', hE, e, fun vs H1 F1 P h1 hv => i _ _ (h1.symm.trans (hl _ _ _ e)) (q vs H1 F1 P h1 hv)⟩
def okNil (ρ : Env) : R (List W) := .ok [] ρ
def okNilA (ρ : Env) : R (List (Option W)) := .ok [] ρ
section
variable {X : Cx} {k n : Nat} {f : Addr} {fd : FuncData} {ps ks : List Str} {x : Str} {p pos : Pos} {e : Expr} {es : List Expr} {kws : List Keyword} {t t2 : List Nat} {ss : List (Option Nat)} {fa : Env → R (List (Option W))} {fk : Env → R (List W)} {cr : Nat → List Ar → CR} {ix : Nat} {pm : List Nat}
theorem vt_call (F : FnOk X.prog X.w X.K X.mg X.base CX0 k f fd ps (FSp X.K cr ix)) (hr : Room k X.A) (hg : Gl X x) (hm : X.mg x = some (.ref f)) (hk : PySem.W.keepIn X.K (.ref f) = true) (hb : Binds X.K fd ps []) (nd : (given ss).Nodup)
    (ha : PA X (e :: es) (CA X.K t ss fa)) (hp : plainX e = true) (hps : es.all plainX = true) (hdb : (x == ("__debug__" : Str)) = false) : PE X (.Call (.Name x p) (e :: es) [] pos) (VT X.K (t ++ ([] ++ given ss)) none (callV cr ix [] ss fa okNil)) :=
  PE_imp (L2.pe_call F hr hg hm hk hb .nil pass0 ha hdb (star_of hp) (back_plain hps)) fun σ H Q h => (call_imp nd h).imp fun vs H' _ z => KA.nil z
theorem vt_call0 (F : FnOk X.prog X.w X.K X.mg X.base CX0 k f fd ps (FSp X.K cr ix)) (hr : Room k X.A) (hg : Gl X x) (hm : X.mg x = some (.ref f)) (hk : PySem.W.keepIn X.K (.ref f) = true) (hb : Binds X.K fd ps [])
    (hdb : (x == ("__debug__" : Str)) = false) : PE X (.Call (.Name x p) [] [] pos) (VT X.K ([] ++ ([] ++ given [])) none (callV cr ix [] [] okNilA okNil)) :=
  PE_imp (L2.pe_call0 F hr hg hm hk hb .nil pass0 hdb) fun σ H Q h => by
    have := call_imp (E := L2.E0) (by simp [given]) h
    obtain ⟨ρ, F, ws, ρ', hE, e, q⟩ := this
    cases e
    exact KA.nil (q [] H F (Po.refl hE) ⟨rfl, rfl⟩ fun k v h => by simp at h)
/-- f(e, .., k = v, ..) -/
theorem vt_callK (F : FnOk X.prog X.w X.K X.mg X.base CX0 k f fd ps (FSp X.K cr ix)) (hr : Room k X.A) (hg : Gl X x) (hm : X.mg x = some (.ref f)) (hk : PySem.W.keepIn X.K (.ref f) = true) (hb : KBn X.K fd ps ss.length ks (fun us ws => us ++ pick pm ws) (fun us ws => us ++ pick pm ws)) (nd : (given ss).Nodup)
    (ha : PA X (e :: es) (CA X.K t ss fa)) (hkw : PK X kws (KA X.K t2 fk)) (hl : ∀ ρ ws ρ', fk ρ = .ok ws ρ' → ws.length = ks.length) (hp : plainX e = true) (hps : es.all plainX = true) (hdb : (x == ("__debug__" : Str)) = false)
    (hall : (backToKw pos (keywordEach kws X.env)).all (·.1.isSome) = true) (hks : (backToKw pos (keywordEach kws X.env)).filterMap (·.1) = ks) (hpl : ((backTo pos (starEach (e :: es) X.env)).any (·.1) || (backToKw pos (keywordEach kws X.env)).any (·.1.isNone)) = false) :
    PE X (.Call (.Name x p) (e :: es) kws pos) (VT X.K (t ++ (t2 ++ given ss)) none (callV cr ix pm ss fa fk)) :=
  PE_imp (L2.pe_callN F hr hg hm hk hb pass0 ha hkw hall hks hdb (star_of hp) hpl) fun σ H Q h => (call_imp nd h).imp fun vs H' h1 z => KA.imp hl z fun ws H2 h2 z => ⟨h1, h2, z⟩
/-- f(k = v, ..) -/
theorem vt_callKK (F : FnOk X.prog X.w X.K X.mg X.base CX0 k f fd ps (FSp X.K cr ix)) (hr : Room k X.A) (hg : Gl X x) (hm : X.mg x = some (.ref f)) (hk : PySem.W.keepIn X.K (.ref f) = true) (hb : KBn X.K fd ps 0 ks (fun us ws => us ++ pick pm ws) (fun us ws => us ++ pick pm ws))
    (hkw : PK X kws (KA X.K t2 fk)) (hl : ∀ ρ ws ρ', fk ρ = .ok ws ρ' → ws.length = ks.length) (hdb : (x == ("__debug__" : Str)) = false)
    (hall : (backToKw pos (keywordEach kws X.env)).all (·.1.isSome) = true) (hks : (backToKw pos (keywordEach kws X.env)).filterMap (·.1) = ks) (hpl : ((backTo pos (starEach [] X.env)).any (·.1) || (backToKw pos (keywordEach kws X.env)).any (·.1.isNone)) = false) :
    PE X (.Call (.Name x p) [] kws pos) (VT X.K ([] ++ (t2 ++ given [])) none (callV cr ix pm [] okNilA fk)) := by
  refine ⟨fun pins s σ H Q I h => ?_⟩
  have h := call_imp (t1 := []) (ss := []) (by simp [given]) (E := L2.E0) h
  obtain ⟨ρ, F0, ws, ρ', hE, e, q⟩ := h
  cases e
  have h := q [] H F0 (Po.refl hE) ⟨rfl, rfl⟩ fun k v h => nomatch h
  have h := KA.imp hl h fun zs H1 h1 z => (⟨h1, z⟩ : zs.length = ks.length ∧ FSp X.K cr ix ([] ++ pick pm zs) H1 Q L2.E0)
  refine wpAny_Call_Name_kw (L2.ld_glob I hg hm ?_ hdb)
  refine PySem.W.callWith_KW0 (h₀ := X.base) I.ok.mod.kin hk hall ?_ hpl
  refine L2.thn (hkw.run pos pins s σ H _ I h) fun ws s2 ⟨zs, H2, I2, rz, l2, q2⟩ => ⟨I2.kIn, ?_⟩
  rw [hks]
  exact L2.run_fnN (vs := []) F hr hb pass0 I2 .nil rz rfl l2 q2
end

/-! ### a def's body -/
theorem outs_at : ∀ {fl : List Bool} {ρ : Env} {outs : List W} {k : Nat} {w : W}, outsOf fl ρ = some outs → outAt fl outs k = some w → gt ρ k = some w ∧ fl[k]? = some true
  | [], ρ, outs, k, w, h, h2 => by unfold outAt at h2; cases h2
  | true :: r, [], outs, k, w, h, h2 => by simp [outsOf] at h
  | true :: r, o :: ρ, outs, k, w, h, h2 => by
    simp only [outsOf] at h
    split at h
    · rename_i w0 ws e1
      cases h
      cases k with
      | zero => simp only [outAt] at h2; cases h2; exact ⟨rfl, rfl⟩
      | succ k =>
        simp only [outAt] at h2
        exact outs_at (fl := r) e1 h2
    · cases h
  | false :: r, [], outs, k, w, h, h2 => by simp [outsOf] at h
  | false :: r, o :: ρ, outs, k, w, h, h2 => by
    simp only [outsOf] at h
    cases k with
    | zero => simp only [outAt] at h2; cases h2
    | succ k =>
      simp only [outAt] at h2
      exact outs_at (fl := r) h h2
theorem gt_app {as : Env} {m k : Nat} : gt (as ++ List.replicate m none) k = gt as k := by
  induction as generalizing k with
  | nil =>
    show gt (List.replicate m none) k = gt [] k
    induction m generalizing k with
    | zero => rfl
    | succ m ih =>
      rw [List.replicate_succ]
      cases k with
      | zero => rfl
      | succ k => exact ih
  | cons a as ih =>
    cases k with
    | zero => rfl
    | succ k => exact ih
theorem gt_at {as : List Ar} {k : Nat} {w : W} (h : gt (as.map fun a => some a.1) k = some w) : ∃ a, as[k]? = some a ∧ a.1 = w := by
  induction as generalizing k with
  | nil => simp [gt] at h
  | cons a as ih =>
    cases k with
    | zero => exact ⟨a, rfl, by simpa [gt] using h⟩
    | succ k => exact ih h
/-- at a def's entry -/
theorem entry {K : Fg} {H : Hp} {as : List Ar} {vs : List V} {F : FS} {N : List Str} (A : Args K H as vs F) (hl : as.length ≤ N.length) : REnv K H (L2.start N vs) (as.map (fun a => some a.1) ++ List.replicate (N.length - as.length) none) F where
  len := by simp [L2.start, A.len]
  dis := A.dis
  own := A.own
  val := fun i w h => by
    rw [gt_app] at h
    obtain ⟨a, e1, rfl⟩ := gt_at h
    have hi : i < vs.length := by rw [← A.len]; exact (List.getElem?_eq_some_iff.mp e1).1
    have e2 : vs[i]? = some vs[i] := List.getElem?_eq_getElem hi
    refine ⟨vs[i], ?_, A.rep i a _ e1 e2⟩
    unfold L2.start
    rw [List.getElem?_append_left (by simpa using hi), List.getElem?_map, e2]
    rfl
  tab := A.tab
/-- what a body's reading gives for a def's promise -/
theorem body_spec {K : Fg} {t s : List Nat} {c : C} {fn : Fn} {N : List Str} {vs : List V} {H : Hp} {Q : VK} {as : List Ar} {F : FS} {w : W} {outs : List W} (hN : N.length = fn.n) (A : Args K H as vs F) (e : callB c fn as = .ret w outs)
    (hs : ∀ k : Nat, fn.io[k]? = some true → k ∉ s) (q : ∀ v H' F' S, Aft K (as.map (·.2)) H vs F H' outs F' w v S → Q v H') (E : XK) :
    ST K t s (fn.body c) { nx := fun _ H' => Q .non H', rt := Q } (L2.start N vs) H := by
  unfold callB at e
  split at e
  · rename_i hc
    obtain ⟨h1, h2, h3⟩ := hc
    have hE := entry (N := N) A (by rw [hN]; exact h3)
    rw [hN] at hE
    have ioT : ∀ k a, F k a → fn.io[k]? = some true := fun k a z => h1 ▸ A.ioF k a z
    have tf : ∀ a, TF t F a → ∃ j : Nat, (as.map (·.2))[j]? = some true ∧ F j a := fun a ⟨j, _, z⟩ => ⟨j, A.ioF j a z, z⟩
    have mk : ∀ {H' σ' ρ' F' w v S}, Po K t s H (L2.start N vs) (as.map (fun a => some a.1) ++ List.replicate (fn.n - as.length) none) F H' σ' ρ' F' → Pv K t none H F H' F' w v S → outsOf fn.io ρ' = some outs → Aft K (as.map (·.2)) H vs F H' outs (fun k a => (as.map (·.2))[k]? = some true ∧ F' k a) w v S := fun {H' σ' ρ' F' w v S} P V eo => by
      refine ⟨V.rep, V.own, fun k a ha z => V.plc.1 k a ha z.2, fun a ha => (V.plc.2 a ha).imp_right (tf a), fun k w v ho hv => ?_, fun k a z => P.env.own k a z.2, fun i j a hi hj => P.env.dis i j a hi.2 hj.2, fun k a z => z.1, fun k a z => ?_, P.pre.mono tf⟩
      · rw [h1] at ho
        obtain ⟨g1, g2⟩ := outs_at eo ho
        obtain ⟨v', e', r⟩ := P.env.val k w g1
        rw [P.sig k (hs k g2)] at e'
        have hk : k < vs.length := (List.getElem?_eq_some_iff.mp hv).1
        have : (L2.start N vs)[k]? = some (some v) := by
          unfold L2.start
          rw [List.getElem?_append_left (by simpa using hk), List.getElem?_map, hv]
          rfl
        rw [this] at e'
        cases e'
        exact Rep.mono (fun a z => ⟨by rw [h1]; exact g2, z⟩) r
      · rcases P.new k a z.2 with y | y | y
        · exact .inl y
        · exact .inr ⟨k, A.ioF k a y, y⟩
        · exact .inr (tf a y)
    split at e
    · rename_i w' ρ' eb
      cases eo : outsOf fn.io ρ' with
      | none => rw [eo] at e; cases e
      | some os =>
        rw [eo] at e
        cases e
        exact ⟨_, F, .rt w, ρ', hE, eb, fun v H' σ' F' S P V => q v H' _ S (mk P V eo)⟩
    · rename_i ρ' eb
      cases eo : outsOf fn.io ρ' with
      | none => rw [eo] at e; cases e
      | some os =>
        rw [eo] at e
        cases e
        exact ⟨_, F, .nx, ρ', hE, eb, fun H' σ' F' P => q .non H' _ (fun _ => False) (mk P (Pv.rf (by simp only [Rf])) eo)⟩
    · split at e <;> cases e
    · cases e
  · cases e
/-- the promise of a def from its body's reading: tab its table, ix its place -/
theorem def_ok {P : Program} {w : World} {K : Fg} {mg : Str → Option Value} {base : Heap} {x : Str} {params : Arguments} {body : List Stmt} {scope : Scope} {dvs : List V} {kws : List (Str × V)} {f : Addr} {fd : FuncData} {N ps : List Str} {k ix : Nat} {c : C} {fn : Fn} {g : Nat → List Ar → CR} {s : List Nat}
    (F : FunD K x x params body scope dvs kws f fd) (S : FnScope N ps scope) (hN : N.length = fn.n) (hio : fn.io.length = ps.length) (hg : ∀ as, g ix as = callB c fn as) (hs : ∀ k : Nat, fn.io[k]? = some true → k ∉ s)
    (hb : ∀ (cdv : Value) (A : Around) (outer : List PySem.Env) (s0 : Shared) (H : Hp) (E : XK), Room k (A.deeper (envOfC x scope s0.heap.objs.size f cdv)) → ∃ t, PSs (cxOf CX0 P w K mg base N x scope f cdv A outer s0 H E).nox body (ST K t s (fn.body c))) :
    FnOk P w K mg base CX0 (k + 1) f fd ps (FSp K g ix) := by
  refine F.ok S (fun vs H Q E h => ?_) (fun cdv A outer s0 H vs Q E hr h => ?_)
  · obtain ⟨as, F', w', outs, a, e, _⟩ := h
    rw [hg] at e
    unfold callB at e
    split at e
    · rename_i hc
      rw [← a.len, ← hio, ← hc.1, List.length_map]
    · cases e
  · obtain ⟨as, F', w', outs, a, e, q⟩ := h
    rw [hg] at e
    obtain ⟨t, h⟩ := hb cdv A outer s0 H E hr
    exact ⟨_, h.nox, body_spec hN a e hs q E⟩
/-- at no depth -/
theorem def_none {P : Program} {w : World} {K : Fg} {mg : Str → Option Value} {base : Heap} {f : Addr} {fd : FuncData} {ps : List Str} {k ix : Nat} : FnOk P w K mg base CX0 k f fd ps (FSp K (fun _ _ => .no) ix) :=
  ⟨fun vs H Q E ⟨_, _, _, _, _, e, _⟩ => (by cases e), fun A outer s H args us vs Q E _ _ _ _ ⟨_, _, _, _, _, e, _⟩ => by cases e⟩
end Q
end
section
set_option Elab.async false
set_option linter.all false
set_option maxRecDepth 100000
set_option maxHeartbeats 4000000
/-! QS: generator expressions. -/
namespace Q
open PySem PySem.Spec PyProof.Rows
open L2 (V Hp HO TE TT TA TS TG TGs TI VK XK Sp upd SqL SqT Rd Inv Cx PE PA PK PT PW PG PGs PS PSs PI It R2 OpR CallR FnOk Ends FunD FnScope CX0 Binds KBn Vals Room Gl cxOf pass0 wipe PTs BlkOk cloFrom FpOk frs)

theorem over_gen {A : Around} {elt : Expr} {g : List Comprehension} {scope : Scope} {pos : Pos} {it acc : Value} {env : PySem.Env} : A.over (.compLoop (.GeneratorExp elt g scope pos) 0 it acc env) [] = A.deeper env := by
  obtain ⟨hd, d, fr, gs, u⟩ := A
  simp [Around.over, Around.deeper, marksOver, frameCount, unitsOf, envsOf, guardsOf, pushEnvs, pushGuards, Code.envs, Code.env?, Code.isFrame, Code.guards, Code.isGuard, Code.weight, Code.frames, Code.isCreation, Code.isCaller, Code.cUnits]
theorem over_genS {A : Around} {elt : Expr} {g : List Comprehension} {scope : Scope} {pos : Pos} {it acc : Value} {env : PySem.Env} : A.over (.compStart (.GeneratorExp elt g scope pos) 0 it acc env) [] = A.deeper env := by
  obtain ⟨hd, d, fr, gs, u⟩ := A
  simp [Around.over, Around.deeper, marksOver, frameCount, unitsOf, envsOf, guardsOf, pushEnvs, pushGuards, Code.envs, Code.env?, Code.isFrame, Code.guards, Code.isGuard, Code.weight, Code.frames, Code.isCreation, Code.isCaller, Code.cUnits]
/-- the context of a generator expression's frame, made at s in X's frame, woken from A0 -/
abbrev gx (X : Cx) (A0 : Around) (s : Shared) (H : Hp) (cenv : PySem.Env) (fp : List Addr) : Cx :=
  { X with A := A0.deeper cenv, s_0 := s, H_0 := H, env := cenv, outer := X.stack, stack := cenv :: X.stack, ex := fp, fn := fun _ => false, pn := [], xe := fun _ _ => False }
section
variable {X : Cx} {pins : List (Addr × Obj)} {σ : Sg} {H : Hp} {s : Shared}
theorem gen_start {scope : Scope} {own : List (Str × Nat)} {fp : List Addr} {A0 : Around} {code it : Value} {h' : Heap} {a : Addr} {ga : Obj} {g' : Array GenState} {t' : Nat} (I : Inv X pins σ H s) (ok : BlkOk X.N X.env.scope scope own) (hN : X.N.Nodup) (hcell : ∀ y ∈ scope.names, y.2 ≠ .cell)
    (hfp : ∀ b ∈ fp, FpOk X pins H b ∧ b < s.heap.objs.size) (hA : A0.handled = none) (hfr : A0.frames = some X.stack) (ns : h'.Ns s.heap.objs.size (fun y => if y = ".0" then some it else none)) (kp : ∀ b o, s.heap.get? b = some o → h'.get? b = some o) (hga : h'.get? a = some ga) (hal : s.heap.objs.size < a) (hgd : ∀ v, ga.data ≠ .cell v) (hb : AllBare g') :
    Inv (gx X A0 s H (genEnv scope (cloFrom X.env.cells scope.names []) s.heap.objs.size code builtinsNs X.env) fp) [(a, ga)] (wipe σ (own.map (·.2))) H { s with heap := h', gens := g', toks := t' } := by
  have hfree : ∀ y ∈ scope.names, y.2 = .free → ∃ c, X.env.cells.lookup y.1 = some c := fun y hy e => by
    rcases ok.free y hy e with k | k
    · exact I.ok.has _ (.inl k)
    · exact I.ok.has _ (.inr k)
  have cm : ∀ {y c}, (cloFrom X.env.cells scope.names []).lookup y = some c → X.env.cells.lookup y = some c ∧ c < s.heap.objs.size ∧ (y, NameKind.free) ∈ scope.names := fun {y c} e => by
    rcases L2.cloFrom_mem (PySem.mem_of_lookup e) with hm | ⟨h1, h2⟩
    · cases hm
    · obtain ⟨c', hc⟩ := hfree _ h1 rfl
      have : c = c' := by rw [h2, hc]; rfl
      rw [this]
      obtain ⟨w, z⟩ := I.cell _ _ hc
      exact ⟨hc, z.lt, h1⟩
  have look : ∀ {y}, scope.names.lookup y = some .free → ∃ c, (cloFrom X.env.cells scope.names []).lookup y = some c ∧ X.env.cells.lookup y = some c := fun {y} hl => by
    obtain ⟨c', e'⟩ := L2.mem_lookup (L2.cloFrom_has (cells := X.env.cells) (acc := []) (PySem.mem_of_lookup hl))
    exact ⟨c', e', (cm e').1⟩
  generalize hcenv : genEnv scope (cloFrom X.env.cells scope.names []) s.heap.objs.size code builtinsNs X.env = cenv
  have hL : cenv.locals = s.heap.objs.size := by rw [← hcenv]; rfl
  have hcl : cenv.cells = cloFrom X.env.cells scope.names [] := by rw [← hcenv]; rfl
  have hsc : cenv.scope = scope := by rw [← hcenv]; rfl
  have hsf : ∀ b ∈ fp, b ∉ frs X.stack := fun b hb z => by
    rcases List.mem_cons.mp (I.stkSub b z) with z | z
    · exact (hfp b hb).1.2.1 z
    · exact (hfp b hb).1.2.2.1 z
  have okB : (gx X A0 s H cenv fp).Ok := by
    refine ⟨I.ok.mod, by show cenv.scope.kind = _; rw [hsc]; exact ok.kind, by show cenv.globals = _; rw [← hcenv]; exact I.ok.glob, by show cenv.builtins = _; rw [← hcenv]; rfl, by show s.heap.objs.size ≤ cenv.locals; rw [hL]; exact Nat.le_refl _,
      fun y z c e1 e2 => ?_, fun y hy => ?_, fun y c z e => (nomatch z), fun _ => hA, ?_, .inr ⟨rfl, ?_⟩, fun b hb => ⟨?_, fun y c e z => ?_⟩, I.bs, Nat.le_trans I.ok.bsz I.sz, fun b o e hb => ?_, hsf, I.stack, I.stkFree⟩
    · have e1 : cenv.cells.lookup y = some c := e1
      have e2 : cenv.cells.lookup z = some c := e2
      rw [hcl] at e1 e2
      exact I.ok.inj y z c (cm e1).1 (cm e2).1
    · show ∃ c, cenv.cells.lookup y = some c
      have hy : cenv.scope.names.lookup y = some .cell ∨ cenv.scope.names.lookup y = some .free := hy
      rw [hsc] at hy
      rw [hcl]
      rcases hy with hy | hy
      · exact absurd rfl (hcell _ (PySem.mem_of_lookup hy))
      · obtain ⟨c, h1, _⟩ := look hy
        exact ⟨c, h1⟩
    · show A0.frames.map (cenv :: ·) = some (cenv :: X.stack)
      rw [hfr]; rfl
    · show cenv.frame = some cenv.locals
      rw [← hcenv]; rfl
    · show b ≠ cenv.locals
      rw [hL]; exact Nat.ne_of_lt (hfp b hb).2
    · have e : cenv.cells.lookup y = some c := e
      rw [hcl] at e
      exact (hfp b hb).1.2.2.2.2.1 y c (cm e).1 z
    · rcases (hfp b hb).1.2.2.2.1 with z | z
      · exact I.ok.noex b o e z
      · exact absurd (Nat.lt_of_lt_of_le (Heap.lt_size e) (Nat.le_trans I.ok.bsz z)) (Nat.lt_irrefl _)
  refine ⟨okB, rfl, hb, L2.Un.kept kp, ⟨_, by show Heap.Ns _ cenv.locals _; rw [hL]; exact ns, fun i y av e1 e2 e3 => ?_⟩, fun y c e => ?_, ?_, fun y c e => ?_, fun p hp => ?_, I.hok.kept kp, by rw [L2.wipe_length]; exact I.len⟩
  · obtain ⟨e2, hne⟩ := L2.wipe_some e2
    have no : ∀ k, scope.names.lookup y = some k → ¬ (k = .local ∨ k = .cell) := fun k e hh => by
      rcases ok.own _ (PySem.mem_of_lookup e) hh with e' | e'
      · obtain ⟨p, hp, hpy⟩ := List.mem_map.mp e'
        have e3 := ok.ix p hp
        have : p.1 = y := hpy
        rw [this] at e3
        exact hne (List.mem_map.mpr ⟨p, hp, L2.nodup_ix hN e3 e1⟩)
      · exact e' (List.mem_of_getElem? e1)
    have e3 : scope.names.lookup y = some .free := by
      have e3 : L2.Vis cenv.scope y := e3
      rw [hsc] at e3
      rcases e3 with e3 | e3 | e3
      · exact absurd (.inl rfl) (no _ e3)
      · exact absurd (.inr rfl) (no _ e3)
      · exact e3
    obtain ⟨m, hn, hl⟩ := I.loc
    have hvis : L2.Vis X.env.scope y := (ok.free _ (PySem.mem_of_lookup e3) rfl).elim (fun k => .inr (.inl k)) (fun k => .inr (.inr k))
    obtain ⟨w, r, q⟩ := hl i y av e1 e2 hvis
    refine ⟨w, r, .inr ⟨.inr (by show cenv.scope.names.lookup y = _; rw [hsc]; exact e3), ?_⟩⟩
    obtain ⟨c, h1, h2⟩ := look e3
    rcases q with ⟨k, _⟩ | ⟨_, c', e', z⟩
    · have k : X.env.scope.names.lookup y = some .local := k
      rcases ok.free _ (PySem.mem_of_lookup e3) rfl with k' | k' <;> rw [show X.env.scope.names.lookup y = _ from k'] at k <;> cases k
    · rw [h2] at e'; cases e'
      exact ⟨c, by show cenv.cells.lookup y = _; rw [hcl]; exact h1, z.keeps kp⟩
  · have e : cenv.cells.lookup y = some c := e
    rw [hcl] at e
    obtain ⟨w, z⟩ := I.cell y c (cm e).1
    exact ⟨w, z.keeps kp⟩
  · show H cenv.locals = none
    rw [hL]; exact I.hok.fresh (Nat.le_refl _)
  · have e : cenv.cells.lookup y = some c := e
    rw [hcl] at e
    exact I.freeC y c (cm e).1
  · have hp : p = (a, ga) := by simpa using hp
    subst hp
    refine ⟨hga, I.hok.fresh (Nat.le_of_lt hal), ?_, fun z => ?_, hgd⟩
    · show a ≠ cenv.locals
      rw [hL]; exact Nat.ne_of_gt hal
    · rcases List.mem_cons.mp (I.stkSub a z) with z | z
      · exact absurd (Nat.lt_trans hal (by rw [z]; exact I.lt)) (Nat.lt_irrefl _)
      · exact I.nofs (Nat.le_of_lt hal) z
end

/-! ### the walk -/
/-- up to the next item that is handed out -/
def nxt (f : D → Env → R (Option D)) : List D → Env → R (Option (D × List D))
  | [], ρ => .ok none ρ
  | d :: ds, ρ => bd (f d ρ) fun o ρ => (match o with
    | some x => .ok (some (x, ds)) ρ
    | none => nxt f ds ρ)
/-- behind j items -/
def aft (f : D → Env → R (Option D)) (ds : List D) (ρ : Env) : Nat → Option (List D × Env)
  | 0 => some (ds, ρ)
  | j + 1 => (match aft f ds ρ j with
    | some (ds', ρ') => (match nxt f ds' ρ' with
      | .ok (some (_, r)) ρ2 => some (r, ρ2)
      | _ => none)
    | none => none)
/-- the generator sleeps ahead of the items rest -/
def GIdle (Y : Cx) (fp : List Addr) (tn : Nat → Heap → Prop) (Gw : Hp → Prop) (a : Addr) (ga : Obj) (ex : List (Addr × Obj)) (T : List Nat) (H1 : Hp) (σ : Sg) (ρ1 : Env) (F1 : FS) (ds rest : List D) (ρ : Env) (R : Hp → Prop) (s : Shared) : Prop :=
  ∃ i H F, Inv Y ((a, ga) :: ex) σ H s ∧ tn i s.heap ∧ (∀ b ∈ fp, H b = none) ∧ Gw H ∧ Po Y.K T [] H1 σ ρ1 F1 H σ ρ F ∧ rest = ds.drop i ∧ i ≤ ds.length ∧ R H ∧ ∀ b ∈ fp, ∀ p ∈ (a, ga) :: ex, p.1 ≠ b
/-- the consumer's own object at S, as it stands at s -/
def Sx (S : Option Addr) (ex : List (Addr × Obj)) (s : Shared) : Prop := match S with
  | none => ex = []
  | some b => ∃ o, ex = [(b, o)] ∧ s.heap.get? b = some o
def Nap (s s' : Shared) : Prop := ∃ g' t', s' = { s with gens := g', toks := t' } ∧ AllBare g'
theorem inv_nap {X : Cx} {pins : List (Addr × Obj)} {σ : Sg} {H : Hp} {s : Shared} {g' : Array GenState} {t' : Nat} (I : Inv X pins σ H s) (hb : AllBare g') : Inv X pins σ H { s with gens := g', toks := t' } :=
  ⟨I.ok, I.os, hb, I.base, I.loc, I.cell, I.free, I.freeC, I.pin, I.hok, I.len⟩
section
variable {Y : Cx} {fp : List Addr} {tn : Nat → Heap → Prop} {Gw : Hp → Prop} {a : Addr} {ga : Obj} {T : List Nat} {H1 : Hp} {σ : Sg} {ρ1 : Env} {F1 : FS} {ds : List D}
theorem GIdle.nap {ex : List (Addr × Obj)} {rest : List D} {ρ : Env} {R : Hp → Prop} {s s' : Shared} (h : GIdle Y fp tn Gw a ga ex T H1 σ ρ1 F1 ds rest ρ R s) (n : Nap s s') : GIdle Y fp tn Gw a ga ex T H1 σ ρ1 F1 ds rest ρ R s' := by
  obtain ⟨i, H, F, I, h⟩ := h
  obtain ⟨g', t', rfl, hb⟩ := n
  exact ⟨i, H, F, inv_nap I hb, h⟩
def gProt (S : Option Addr) (Y : Cx) (fp : List Addr) (tn : Nat → Heap → Prop) (Gw : Hp → Prop) (a : Addr) (ga : Obj) (T : List Nat) (H1 : Hp) (σ : Sg) (ρ1 : Env) (F1 : FS) (ds : List D) (f : D → Env → R (Option D)) (N0 : Nat) : Protocol := fun m s₀ v s kap =>
  ∃ ex rest ρ d rest' ρ', Sx S ex s₀ ∧ m + 1 ≤ N0 ∧ aft f ds ρ1 (N0 - (m + 1)) = some (rest, ρ) ∧ nxt f rest ρ = .ok (some (d, rest')) ρ' ∧ GIdle Y fp tn Gw a ga ex T H1 σ ρ1 F1 ds rest' ρ' (fun H => ∃ x, Rf Y.K H d x ∧ L2.RelV x v) s ∧
    ∀ s'' ex, Sx S ex s'' → GIdle Y fp tn Gw a ga ex T H1 σ ρ1 F1 ds rest' ρ' (fun _ => True) s'' → (∃ o ρ'', nxt f rest' ρ' = .ok o ρ'') → kap (.send .none) s''
/-- the generator has ended (or is left) -/
def GDone (Y : Cx) (a : Addr) (ga : Obj) (ex : List (Addr × Obj)) (T : List Nat) (H1 : Hp) (σ : Sg) (ρ1 : Env) (F1 : FS) (ρ : Env) (s : Shared) : Prop := ∃ H F, Inv Y ((a, ga) :: ex) σ H s ∧ Po Y.K T [] H1 σ ρ1 F1 H σ ρ F
theorem GIdle.done {ex : List (Addr × Obj)} {rest : List D} {ρ : Env} {R : Hp → Prop} {s : Shared} (h : GIdle Y fp tn Gw a ga ex T H1 σ ρ1 F1 ds rest ρ R s) : GDone Y a ga ex T H1 σ ρ1 F1 ρ s :=
  let ⟨_, H, F, I, _, _, _, P, _⟩ := h
  ⟨H, F, I, P⟩
def gEnd (S : Option Addr) (Y : Cx) (a : Addr) (ga : Obj) (T : List Nat) (H1 : Hp) (σ : Sg) (ρ1 : Env) (F1 : FS) (ds : List D) (f : D → Env → R (Option D)) (N0 : Nat) : Nat → Shared → Shared → Prop := fun n s₀ s₁ =>
  ∃ ex rest ρ ρ', Sx S ex s₀ ∧ aft f ds ρ1 (N0 - n) = some (rest, ρ) ∧ nxt f rest ρ = .ok none ρ' ∧ GDone Y a ga ex T H1 σ ρ1 F1 ρ' s₁
end
section
variable {Y : Cx} {A0 : Around} {tg iter elt : Expr} {ifs : List Expr} {scope : Scope} {pos : Pos} {fp : List Addr} {it a : Addr} {ga : Obj} {J : It} {tn : Nat → Heap → Prop} {Gw : Hp → Prop} {S : AS} {r : Option Nat} {vs sg t1 t2 T : List Nat} {H1 : Hp} {σ : Sg} {ρ1 : Env} {F1 : FS} {ds : List D}
  {gg : W → Env → Option Env} {ft : Env → R Bool} {fe : Env → R W} {N0 : Nat}
theorem seg_gen {So : Option Addr} (hA : Y.A = A0.deeper Y.env) (hc : Y.calm = true) (hpn : Y.pn = []) (hex : Y.ex = fp) (hxe : Y.xe = fun _ _ => False) (hco : Y.env.scope.isCoroutine = false) (Tn : L2.Turn Y.prog Y.w Y.K tg J fp it tn)
    (gk : ∀ H1 H2, Gw H1 → Stb H1 H2 → (∀ b xs, S b → H1 b = some (.lst xs) → H2 b = some (.lst xs)) → Gw H2) (gs : ∀ H, Gw H → J.stop ds.length H) (gi : ∀ H i d, Gw H → ds[i]? = some d → J.go i H ∧ ∀ x H', J.yld i H x H' → Adds H H' ∧ Rf Y.K H' d x)
    (hS : ∀ b, S b → ∃ i, r = some i ∧ i ∉ vs ∧ F1 i b) (hr : ∀ i, r = some i → i ∉ T) (pg : PG Y tg (GT Y.K sg gg)) (pt : PTs Y ifs (BT Y.K t1 ft)) (pe : PE Y elt (VT Y.K t2 none fe)) (h0 : ∀ ρ w ρ', fe ρ = .ok w ρ' → w.2 = 0)
    (hw : wipe σ vs = σ) (hsub : ∀ i, i ∈ sg → i ∈ vs) (vT : ∀ i, i ∈ vs → i ∈ T) (t1T : ∀ i, i ∈ t1 → i ∈ T) (t2T : ∀ i, i ∈ t2 → i ∈ T) (E1 : REnv Y.K H1 σ ρ1 F1) :
    ∀ (k : Nat) (ex : List (Addr × Obj)) (rest : List D) (ρ : Env) (n : Nat) (rest0 : List D) (ρ0 : Env) (s₀ s : Shared), Sx So ex s₀ → rest.length = k → k < n → n ≤ N0 → aft (eltV vs gg ft fe) ds ρ1 (N0 - n) = some (rest0, ρ0) → nxt (eltV vs gg ft fe) rest0 ρ0 = nxt (eltV vs gg ft fe) rest ρ →
      (∃ o ρ', nxt (eltV vs gg ft fe) rest ρ = .ok o ρ') → GIdle Y fp tn Gw a ga ex T H1 σ ρ1 F1 ds rest ρ (fun _ => True) s →
      Seg (model Y.prog Y.w) A0 (fun n s₀ r s₁ => r = .ok .next ∧ gEnd So Y a ga T H1 σ ρ1 F1 ds (eltV vs gg ft fe) N0 n s₀ s₁) (gProt So Y fp tn Gw a ga T H1 σ ρ1 F1 ds (eltV vs gg ft fe) N0) n s₀
        (.compLoop (.GeneratorExp elt [⟨tg, iter, ifs, 0⟩] scope pos) 0 (.ref it) .none Y.env)
        ((model Y.prog Y.w).den (.compLoop (.GeneratorExp elt [⟨tg, iter, ifs, 0⟩] scope pos) 0 (.ref it) .none Y.env)) [] s := by
  have stat : ∀ {ex : List (Addr × Obj)} {σ' : Sg} {H' : Hp} {s' : Shared}, (∀ b ∈ fp, ∀ p ∈ (a, ga) :: ex, p.1 ≠ b) → Inv Y ((a, ga) :: ex) σ' H' s' → (∀ b ∈ fp, H' b = none) → ∀ b ∈ fp, FpOk Y ((a, ga) :: ex) H' b := fun {ex σ' H' s'} hpf I' hn b hb =>
    ⟨hn b hb, (I'.ok.exf b (hex ▸ hb)).1, I'.ok.exfs b (hex ▸ hb), .inl (hex ▸ hb), fun x c e => (I'.ok.exf b (hex ▸ hb)).2 x c e, fun p hp => by
      rw [hpn] at hp
      exact hpf b hb p (by simpa using hp)⟩
  have lift : ∀ {α : Type} {t : Sem α} {Q Q' : α → Shared → Prop} {E : Value → Shared → Prop} {s : Shared}, wpAny (model Y.prog Y.w) Y.A t Q Y.xe s → (∀ a s, Q a s → Q' a s) → wpAny (model Y.prog Y.w) Y.A t Q' E s := fun h hq => wpAny_mono h hq fun _ _ z => by rw [hxe] at z; exact z.elim
  intro k
  induction k with
  | zero =>
    intro ex rest ρ n rest0 ρ0 s₀ s hsx hk hn hnN haft hnx hok hid
    obtain rfl : rest = [] := List.length_eq_zero_iff.mp hk
    obtain ⟨i, H, F, I, st, fr, hG, P, hrest, hi, _, hpf⟩ := hid
    have hi' : i = ds.length := by
      have := congrArg List.length hrest
      simp at this
      omega
    subst hi'
    show Seg _ A0 _ _ n s₀ _ ((compTurn (.GeneratorExp elt [⟨tg, iter, ifs, 0⟩] scope pos) 0 (.ref it) .none Y.env).onRaise (leaving Y.env)) [] s
    rw [compTurn_gen, Sem.onRaise_eq_wrap]
    refine seg_bind_wrap (wpAny_standAt ?_)
    refine seg_bind_wrap ?_
    rw [over_gen, ← hA]
    refine lift (Tn.done Y rfl rfl rfl hc _ ((a, ga) :: ex) s σ H Y.xe I (stat hpf I fr) st (gs H hG)) fun r s6 ⟨hr, I6⟩ => ?_
    subst hr
    exact seg_end (.ok .next) ⟨rfl, ex, rest0, ρ0, ρ, hsx, haft, hnx.trans rfl, H, F, I6, P⟩
  | succ k ih =>
    intro ex rest ρ n rest0 ρ0 s₀ s hsx hk hn hnN haft hnx hok hid
    obtain ⟨i, H, F, I, st, fr, hG, P, hrest, hi, _, hpf⟩ := hid
    have hlt : i < ds.length := by
      have := congrArg List.length hrest
      simp at this
      omega
    have hd : ds[i]? = some ds[i] := List.getElem?_eq_getElem hlt
    rw [List.drop_eq_getElem_cons hlt] at hrest
    subst hrest
    obtain ⟨o, ρe, hok⟩ := hok
    have hok' := hok
    unfold nxt at hok'
    obtain ⟨o1, ρ2, e1, e2⟩ := bd_ok hok'
    unfold eltV at e1
    cases hgg : gg (ds[i], 0) ρ with
    | none => rw [hgg] at e1; cases e1
    | some ρ3 =>
    rw [hgg] at e1
    dsimp only at e1
    obtain ⟨b, ρ4, e3, e4⟩ := bd_ok e1
    obtain ⟨hgo, hy⟩ := gi H i _ hG hd
    show Seg _ A0 _ _ n s₀ _ ((compTurn (.GeneratorExp elt [⟨tg, iter, ifs, 0⟩] scope pos) 0 (.ref it) .none Y.env).onRaise (leaving Y.env)) [] s
    rw [compTurn_gen, Sem.onRaise_eq_wrap]
    refine seg_bind_wrap (wpAny_standAt ?_)
    refine seg_bind_wrap ?_
    rw [over_gen, ← hA]
    refine lift (Tn.item Y rfl rfl rfl hc i ((a, ga) :: ex) s σ H Y.xe I (stat hpf I fr) st hgo) fun r s6 ⟨u, hr, h6⟩ => ?_
    subst hr
    refine seg_bind_wrap ?_
    rw [over_gen, ← hA]
    refine lift h6 fun _ s7 ⟨x, H7, I7, r7, y7, st7, n7⟩ => ?_
    obtain ⟨ad, rf⟩ := hy _ _ y7
    have I7' := I7.pinned (stat hpf I7 n7) (Tn.obj _ _ st7)
    have P7 := P.adds ad
    have G7 : Gw H7 := gk H H7 hG ad.stb fun b xs _ z => ad b _ z
    refine seg_bind_wrap ?_
    rw [over_gen, ← hA]
    refine lift (pg.run _ s7 σ H7 x u (fun σ8 H8 => ∃ F8, H8 = H7 ∧ Pt Y.K sg H7 σ ρ F (fun _ => False) σ8 ρ3 F8) I7' r7 ⟨ρ, F, (ds[i], 0), ρ3, fun _ => False, P7.env, Rep.frz0.mpr rf, fun _ z => z.elim, fun _ _ z => z.elim, hgg, fun σ8 F8 Z => ⟨F8, rfl, Z⟩⟩) fun _ s8 ⟨σ8, H8, I8, F8, e8, Z⟩ => ?_
    subst e8
    have hw8 : wipe σ8 vs = σ := by
      rw [← hw]
      exact wipe_ext Z.len fun i hi => Z.sig i fun q => hi (hsub i q)
    have Q8 : Po Y.K T vs H1 σ ρ1 F1 H8 σ8 ρ3 F8 := (P7.sub (fun _ h => h) fun _ h => nomatch h).trans E1 ((Po.ofPt (t := sg) P7.env Z).sub (fun i h => vT i (hsub i h)) hsub)
    have SF : ∀ b, S b → ∀ {H6 σ6 ρ6 F6}, Po Y.K T vs H1 σ ρ1 F1 H6 σ6 ρ6 F6 → ∀ j, j ∈ T → ¬ F6 j b := fun b hb {H6 σ6 ρ6 F6} P6 j hj z => by
      obtain ⟨i0, hi0, _, hf⟩ := hS b hb
      have n0 : i0 ∉ T := hr i0 hi0
      exact n0 (P6.env.dis i0 j b (((P6.kee i0 n0).2 b).mpr hf) z ▸ hj)
    refine seg_bind_wrap ?_
    rw [over_gen, ← hA]
    refine lift (pt.run _ s8 σ8 H8 (fun b' H9 => b' = b ∧ ∃ F9, Po Y.K t1 [] H8 σ8 ρ3 F8 H9 σ8 ρ4 F9) I8 ⟨ρ3, F8, b, ρ4, Z.env, e3, fun H9 F9 P9 => ⟨rfl, F9, P9⟩⟩) fun b' s9 ⟨H9, I9, e9, F9, P9⟩ => ?_
    subst e9
    have Q9 : Po Y.K T vs H1 σ ρ1 F1 H9 σ8 ρ4 F9 := Q8.trans E1 (P9.sub t1T fun _ h => nomatch h)
    have G9 : Gw H9 := gk H8 H9 G7 (P9.pre.stb (TF.own Z.env t1)) fun b xs hb z => P9.pre.lst z fun ⟨j, hj, y⟩ => SF b hb Q8 j (t1T j hj) y
    -- back to sleep
    have back : ∀ {H' ρ' F' s' R}, Inv Y (((a, ga) :: ex) ++ L2.pinsAt fp s7.heap) σ8 H' s' → Gw H' → Po Y.K T vs H1 σ ρ1 F1 H' σ8 ρ' F' → R H' → GIdle Y fp tn Gw a ga ex T H1 σ ρ1 F1 ds (ds.drop (i + 1)) (wip vs ρ') R s' := fun {H' ρ' F' s' R} I' g' P' hR => by
      have pin' : ∀ b ∈ fp, ∀ o, s7.heap.get? b = some o → s'.heap.get? b = some o ∧ H' b = none := fun b hb o e =>
        let z := I'.pin (b, o) (List.mem_append_right _ (List.mem_append_right _ (L2.mem_pinsAt hb e)))
        ⟨z.1, z.2.1⟩
      have hl : σ.length = σ8.length := by rw [← hw8, L2.wipe_length]
      have Q' := P'.wiped (vs := vs) (s2 := []) vT fun i _ => by rw [hw8]
      rw [hw8] at Q'
      refine ⟨i + 1, H', _, (I'.unpinned (pins := (a, ga) :: ex)).weak hl (fun j v e => ?_), Tn.keep _ _ _ st7 fun b hb o e => (pin' b hb o e).1, fun b hb => ?_, g', Q', rfl, hlt, hR, hpf⟩
      · rw [← hw8] at e
        exact (L2.wipe_some e).1
      · obtain ⟨o, e, _⟩ := Tn.obj _ _ st7 b hb
        exact (pin' b hb o e).2
    cases b' with
    | false =>
      dsimp only at e4
      cases e4
      dsimp only at e2
      simp only [Bool.false_eq_true, if_false]
      refine seg_again rfl (ih ex (ds.drop (i + 1)) (wip vs ρ4) n rest0 ρ0 s₀ s9 hsx ?_ (by omega) hnN haft (hnx.trans ?_) ⟨o, ρe, e2⟩ (back I9 G9 Q9 trivial))
      · rw [List.length_drop]
        rw [List.length_cons, List.length_drop] at hk
        omega
      · rw [hok, e2]
    | true =>
      dsimp only at e4
      obtain ⟨w, ρ5, e5, e4⟩ := bd_ok e4
      cases e4
      dsimp only at e2
      cases e2
      simp only [if_true]
      have hyo : ∀ v, yieldOut Y.env v = yieldValue v := fun v => by simp only [yieldOut, hco, Bool.false_eq_true, if_false]
      simp only [hyo]
      rw [Sem.bind_eq_wrap', Sem.bind_eq_wrap', Sem.wrap_wrap, Sem.wrap_wrap]
      refine seg_wrap ?_
      rw [over_gen, ← hA]
      refine lift (pe.run _ s9 σ8 H9 (fun v H10 => ∃ F10 S10, Po Y.K t2 [] H9 σ8 ρ4 F9 H10 σ8 ρ5 F10 ∧ Rf Y.K H10 w.1 v) I9 ⟨ρ4, F9, w, ρ5, P9.env, e5, fun v H10 F10 S10 P10 V10 => ⟨F10, S10, P10, ?_⟩⟩) fun v s10 ⟨x10, H10, I10, r10, F10, S10, P10, rf10⟩ => ?_
      · have := V10.rep
        rw [h0 _ _ _ e5] at this
        exact Rep.frz0.mp this
      have Q10 : Po Y.K T vs H1 σ ρ1 F1 H10 σ8 ρ5 F10 := Q9.trans E1 (P10.sub t2T fun _ h => nomatch h)
      have G10 : Gw H10 := gk H9 H10 G9 (P10.pre.stb (TF.own P9.env t2)) fun b xs hb z => P10.pre.lst z fun ⟨j, hj, y⟩ => SF b hb Q9 j (t2T j hj) y
      obtain ⟨m, rfl⟩ : ∃ m, n = m + 1 := ⟨n - 1, by omega⟩
      have hid := back (R := fun H => ∃ x, Rf Y.K H w.1 x ∧ L2.RelV x v) I10 G10 Q10 ⟨x10, rf10, r10⟩
      refine seg_at (seg_yield rfl rfl rfl ⟨ex, rest0, ρ0, w.1, ds.drop (i + 1), wip vs ρ5, hsx, hnN, haft, hnx.trans hok, hid, fun s'' ex2 hsx2 hid' hcont => ?_⟩)
      refine seg_again rfl (ih ex2 (ds.drop (i + 1)) (wip vs ρ5) m (ds.drop (i + 1)) (wip vs ρ5) s'' s'' hsx2 ?_ ?_ (by omega) ?_ rfl hcont hid')
      · rw [List.length_drop]
        rw [List.length_cons, List.length_drop] at hk
        omega
      · omega
      · have : N0 - m = (N0 - (m + 1)) + 1 := by omega
        rw [this]
        unfold aft
        rw [haft]
        dsimp only
        rw [hnx.trans hok]
/-- from its start -/
theorem seg_gen0 {So : Option Addr} {n : Nat} {s₀ s : Shared} (hh : A0.handled = none) (hA : Y.A = A0.deeper Y.env) (hc : Y.calm = true) (hpn : Y.pn = []) (hex : Y.ex = fp) (hxe : Y.xe = fun _ _ => False) (hco : Y.env.scope.isCoroutine = false) (Tn : L2.Turn Y.prog Y.w Y.K tg J fp it tn)
    (loop : Seg (model Y.prog Y.w) A0 (fun n s₀ r s₁ => r = .ok .next ∧ gEnd So Y a ga T H1 σ ρ1 F1 ds (eltV vs gg ft fe) N0 n s₀ s₁) (gProt So Y fp tn Gw a ga T H1 σ ρ1 F1 ds (eltV vs gg ft fe) N0) n s₀
        (.compLoop (.GeneratorExp elt [⟨tg, iter, ifs, 0⟩] scope pos) 0 (.ref it) .none Y.env)
        ((model Y.prog Y.w).den (.compLoop (.GeneratorExp elt [⟨tg, iter, ifs, 0⟩] scope pos) 0 (.ref it) .none Y.env)) [] s) (st : tn 0 s.heap) :
      Seg (model Y.prog Y.w) A0 (fun n s₀ r s₁ => r = .ok .next ∧ gEnd So Y a ga T H1 σ ρ1 F1 ds (eltV vs gg ft fe) N0 n s₀ s₁) (gProt So Y fp tn Gw a ga T H1 σ ρ1 F1 ds (eltV vs gg ft fe) N0) n s₀
        (.compStart (.GeneratorExp elt [⟨tg, iter, ifs, 0⟩] scope pos) 0 (.ref it) .none Y.env)
        ((model Y.prog Y.w).den (.compStart (.GeneratorExp elt [⟨tg, iter, ifs, 0⟩] scope pos) 0 (.ref it) .none Y.env)) [] s := by
  show Seg _ A0 _ _ _ s₀ _ ((compStart (.GeneratorExp elt [⟨tg, iter, ifs, 0⟩] scope pos) 0 (.ref it) .none Y.env).onRaise (leaving Y.env)) [] s
  unfold compStart
  rw [Sem.onRaise_eq_wrap]
  show Seg _ A0 _ _ _ s₀ _ ((ask >>= _).wrap _ _ _ _) [] s
  refine seg_bind_wrap (wpAny_askSetting ?_)
  split
  · exact seg_again rfl loop
  · first
      | exact seg_bind_wrap (wpAny_rule (seg_bind_wrap (wpAny_standAt (seg_bind_wrap (Tn.self _ 0 s _ _ st (seg_again rfl loop))))))
      | (refine seg_bind_wrap (wpAny_rule ?_); show Seg _ A0 _ _ _ s₀ _ ((standAt iter.pos >>= _).wrap _ _ _ _) [] s; exact seg_bind_wrap (wpAny_standAt (seg_bind_wrap (Tn.self _ 0 s _ _ st (seg_again rfl loop)))))
end
/-! ### one item more -/
section
variable {Y : Cx} {A1 : Around} {fp : List Addr} {a : Addr} {g : Nat} {ga : Obj} {tn : Nat → Heap → Prop} {Gw : Hp → Prop} {T : List Nat} {H1 : Hp} {σ : Sg} {ρ1 : Env} {F1 : FS} {ds : List D} {f : D → Env → R (Option D)} {N0 : Nat}
/-- behind j items the generator waits for its consumer -/
structure GAt (So : Option Addr) (Y : Cx) (A1 : Around) (fp : List Addr) (a : Addr) (g : Nat) (ga : Obj) (ex : List (Addr × Obj)) (tn : Nat → Heap → Prop) (Gw : Hp → Prop) (T : List Nat) (H1 : Hp) (σ : Sg) (ρ1 : Env) (F1 : FS) (ds : List D) (f : D → Env → R (Option D)) (N0 j : Nat) (rest : List D) (ρ : Env) (s : Shared) : Prop where
  lt : rest.length + j < N0
  at' : aft f ds ρ1 j = some (rest, ρ)
  idle : GIdle Y fp tn Gw a ga ex T H1 σ ρ1 F1 ds rest ρ (fun _ => True) s
  sx : Sx So ex s
  gen : ∃ gs, s.gens[g]? = some gs ∧ ∀ s'' ex, Sx So ex s'' → GIdle Y fp tn Gw a ga ex T H1 σ ρ1 F1 ds rest ρ (fun _ => True) s'' → (∃ o ρ'', nxt f rest ρ = .ok o ρ'') →
    gs.Goes (model Y.prog Y.w) A1.in1 (fun n s₀ r s₁ => r = .ok .next ∧ gEnd So Y a ga T H1 σ ρ1 F1 ds f N0 n s₀ s₁) (gProt So Y fp tn Gw a ga T H1 σ ρ1 F1 ds f N0) (N0 - j) (.send .none) s''
theorem Nap.setGen {s : Shared} {x : GenState} (hb : AllBare s.gens) (hx : x.bare = true) : Nap s (s.setGen g x) := ⟨_, s.toks, rfl, L2.allBare_setGen hb hx⟩
theorem Nap.trans {s s1 s2 : Shared} (a : Nap s s1) (b : Nap s1 s2) : Nap s s2 := by
  obtain ⟨g1, t1, rfl, _⟩ := a
  obtain ⟨g2, t2, rfl, h⟩ := b
  exact ⟨g2, t2, rfl, h⟩
theorem nxt_len {f : D → Env → R (Option D)} : ∀ {rest rest' : List D} {ρ ρ' : Env} {d : D}, nxt f rest ρ = .ok (some (d, rest')) ρ' → rest'.length < rest.length
  | [], _, _, _, _, h => by simp [nxt] at h
  | x :: r, rest', ρ, ρ', d, h => by
    unfold nxt at h
    obtain ⟨o, ρ1, e1, e2⟩ := bd_ok h
    cases o with
    | some y => cases e2; exact Nat.lt_succ_self _
    | none => exact Nat.lt_succ_of_lt (nxt_len (rest := r) e2)
theorem sx_same {S : Option Addr} {ex : List (Addr × Obj)} {s s' : Shared} (h : Sx S ex s) (e : s'.heap = s.heap) : Sx S ex s' := by
  cases S with
  | none => exact h
  | some b => obtain ⟨o, h1, h2⟩ := h; exact ⟨o, h1, by rw [e]; exact h2⟩
theorem sx_inj {S : Option Addr} {ex ex' : List (Addr × Obj)} {s : Shared} (h : Sx S ex s) (h' : Sx S ex' s) : ex = ex' := by
  cases S with
  | none => exact Eq.trans h (Eq.symm h')
  | some b =>
    obtain ⟨o, h1, h2⟩ := h
    obtain ⟨o', h3, h4⟩ := h'
    rw [h2] at h4
    cases h4
    rw [h1, h3]
theorem sx_inv {S : Option Addr} {ex : List (Addr × Obj)} {s s' : Shared} {Y : Cx} {a : Addr} {ga : Obj} {σ : Sg} {H : Hp} (h : Sx S ex s) (I : Inv Y ((a, ga) :: ex) σ H s') : Sx S ex s' := by
  cases S with
  | none => exact h
  | some b =>
    obtain ⟨o, h1, _⟩ := h
    exact ⟨o, h1, (I.pin (b, o) (by rw [h1]; simp)).1⟩
theorem gen_next {So : Option Addr} {ex : List (Addr × Obj)} {j : Nat} {rest : List D} {ρ ρ' : Env} {o : Option (D × List D)} {s : Shared} {Q : Option Value → Shared → Prop} {E : Value → Shared → Prop} (hh : A1.handled = none) (hd : A1.depth < recursionLimit) (hgen : ∀ h : Heap, h.get? a = some ga → h.IsGen a g)
    (G : GAt So Y A1 fp a g ga ex tn Gw T H1 σ ρ1 F1 ds f N0 j rest ρ s) (e : nxt f rest ρ = .ok o ρ')
    (hs : ∀ d rest' v s', o = some (d, rest') → GAt So Y A1 fp a g ga ex tn Gw T H1 σ ρ1 F1 ds f N0 (j + 1) rest' ρ' s' → GIdle Y fp tn Gw a ga ex T H1 σ ρ1 F1 ds rest' ρ' (fun H => ∃ x, Rf Y.K H d x ∧ L2.RelV x v) s' → Q (some v) s')
    (hn : o = none → ∀ s', GDone Y a ga ex T H1 σ ρ1 F1 ρ' s' → Q none s') : wpAny (model Y.prog Y.w) A1 (pyNext (.ref a)) Q E s := by
  obtain ⟨lt, at', idle, sx, gs, hgs, goes⟩ := G
  obtain ⟨i, H, F, I, id2⟩ := id idle
  have pin : ∀ {H s}, Inv Y ((a, ga) :: ex) σ H s → s.heap.get? a = some ga := fun I => (I.pin (a, ga) (by simp)).1
  have hgl : g < s.gens.size := (Array.getElem?_eq_some_iff.mp hgs).1
  refine GenW.wpAny_gsz (n := g + 1) hgl (wpAny_pyNext_genexpQ hh I.nolimit hd (hgen _ (pin I)) hgs (goes _ ex (sx_same sx rfl) (idle.nap (Nap.setGen I.bare rfl)) ⟨o, ρ', e⟩) (fun v s₁ gs' hb hv => ?_) (fun s₁ hp h' hk => ?_))
  · intro hsz
    obtain ⟨ex2, rest2, ρ2, d, rest', ρ3, h0, h1, h2, h3, h4, h5⟩ := hv
    obtain rfl := sx_inj (sx_same sx rfl) h0
    have hj : N0 - (N0 - j - 1 + 1) = j := by omega
    rw [hj, at'] at h2
    cases h2
    rw [e] at h3
    cases h3
    obtain ⟨i2, H2, F2, I2, id3⟩ := id h4
    have hsz1 : g < s₁.gens.size := by
      have q : (s₁.setGen g gs').gens.size = s₁.gens.size := GenW.setGen_size _ _ _
      have hsz' : g + 1 ≤ (s₁.setGen g gs').gens.size := hsz
      omega
    have np := Nap.setGen (g := g) (x := gs') I2.bare hb
    have h4' := h4.nap np
    have hlen := nxt_len e
    refine hs d rest' v _ rfl ⟨by omega, ?_, ?_, ?_, gs', L2.setGen_at hsz1, fun s'' ex3 hx3 hn2 hc => ?_⟩ h4'
    · unfold aft
      rw [at']
      dsimp only
      rw [e]
    · obtain ⟨i', H', F', q1, q2, q3, q4, q5, q6, q7, _, q8⟩ := h4'
      exact ⟨i', H', F', q1, q2, q3, q4, q5, q6, q7, trivial, q8⟩
    · obtain ⟨i', H', F', q1, _⟩ := h4'
      exact sx_inv sx q1
    · have := h5 s'' ex3 hx3 hn2 hc
      have e2 : N0 - j = (N0 - (j + 1)) + 1 := by omega
      rw [e2] at this
      exact this
  · intro _
    obtain ⟨ex2, rest2, ρ2, ρ3, h0, h2, h3, H2, F2, I2, P2⟩ := hp
    obtain rfl := sx_inj (sx_same sx rfl) h0
    have hj : N0 - (N0 - j) = j := by omega
    rw [hj, at'] at h2
    cases h2
    rw [e] at h3
    cases h3
    refine hn rfl _ ⟨H2, F2, ?_, P2⟩
    exact (inv_nap (t' := s₁.toks) I2 (L2.allBare_setGen (g := g) (x := .finished) I2.bare rfl)).kept (t' := s₁.toks) hk
end
end Q
end
section
set_option Elab.async false
set_option linter.all false
set_option maxRecDepth 100000
set_option maxHeartbeats 4000000
/-! QT: generator expressions, made and eaten. -/
namespace Q
open PySem PySem.Spec PyProof.Rows
open L2 (V Hp HO TE TT TA TS TG TGs TI VK XK Sp upd SqL SqT Rd Inv Cx PE PA PK PT PW PG PGs PS PSs PI It R2 OpR CallR FnOk Ends FunD FnScope CX0 Binds KBn Vals Room Gl cxOf pass0 wipe PTs BlkOk cloFrom FpOk frs)

theorem Po.tbl0 {K : Fg} {t s : List Nat} {H H2 : Hp} {σ σ2 : Sg} {ρ ρ2 : Env} {F F2 : FS} {P : Addr} {ps ps' : Array Value} (Q : Po K t s H σ ρ F H2 σ2 ρ2 F2) (hP : H2 P = some (.tbl ps)) (tr : TrOk ps') : Po K t s H σ ρ F (upd H2 P (.tbl ps')) σ2 ρ2 F2 := by
  have ne : ∀ {b : Addr} {o : HO}, H2 b = some o → (∀ ps, o ≠ .tbl ps) → b ≠ P := fun {b o} e n z => by rw [z, hP] at e; cases e; exact n ps rfl
  have st : Stb H2 (upd H2 P (.tbl ps')) := ⟨fun b xs e => by rw [L2.upd_ne (ne e fun _ z => by cases z)]; exact e, fun b o u e => by rw [L2.upd_ne (ne e fun _ z => by cases z)]; exact e⟩
  have kl : ∀ {b xs}, H2 b = some (.lst xs) → upd H2 P (.tbl ps') b = some (.lst xs) := fun {b xs} e => by rw [L2.upd_ne (ne e fun _ z => by cases z)]; exact e
  refine ⟨⟨Q.env.len, Q.env.dis, fun i a h => let ⟨xs, e⟩ := Q.env.own i a h; ⟨xs, kl e⟩, fun i w h => let ⟨v, e, r⟩ := Q.env.val i w h; ⟨v, e, Rep.keep st (fun b xs _ z => kl z) r⟩, fun Pt kk => ?_⟩, Q.kee, Q.sig, Q.len, Q.new, fun a o e n h => ?_, fun a qs e => ?_⟩
  · by_cases z : Pt = P
    · rw [z]; exact ⟨ps', L2.upd_same, tr⟩
    · obtain ⟨qs, e, t⟩ := Q.env.tab Pt kk
      exact ⟨qs, by rw [L2.upd_ne z]; exact e, t⟩
  · have e2 := Q.pre.kee a o e n h
    rw [L2.upd_ne (ne e2 n)]; exact e2
  · obtain ⟨qs', e', t'⟩ := Q.pre.tbl a qs e
    by_cases z : a = P
    · rw [z]; exact ⟨ps', L2.upd_same, fun _ => tr⟩
    · exact ⟨qs', by rw [L2.upd_ne z]; exact e', t'⟩
/-- a generator has been made: what its consumer may rely on -/
def GOut (X : Cx) (A1 : Around) (pins : List (Addr × Obj)) (T : List Nat) (vs : List Nat) (f : D → Env → R (Option D)) (H : Hp) (σ : Sg) (ρ : Env) (F : FS) (ds : List D) (ρ1 : Env) (u : Value) (s5 : Shared) : Prop :=
  ∃ a g Y fp ga tn Gw T1 H1 σ1 F1 N0, u = .ref a ∧ Y.prog = X.prog ∧ Y.w = X.w ∧ Y.K = X.K ∧ (∀ h : Heap, h.get? a = some ga → h.IsGen a g) ∧ (∀ i h h', tn i h → (∀ b ∈ fp, ∀ o, h.get? b = some o → h'.get? b = some o) → tn i h') ∧ (∀ b ∈ fp, b < s5.heap.objs.size) ∧ Y.pn = [] ∧ ds.length < N0 ∧ GIdle Y fp tn Gw a ga [] T1 H1 σ1 (wip vs ρ1) F1 ds ds (wip vs ρ1) (fun _ => True) s5 ∧
    (∃ gs, s5.gens[g]? = some gs ∧ ∀ So s'' ex, Sx So ex s'' → GIdle Y fp tn Gw a ga ex T1 H1 σ1 (wip vs ρ1) F1 ds ds (wip vs ρ1) (fun _ => True) s'' → (∃ o ρ'', nxt f ds (wip vs ρ1) = .ok o ρ'') →
      gs.Goes (model Y.prog Y.w) A1.in1 (fun n s₀ r s₁ => r = .ok .next ∧ gEnd So Y a ga T1 H1 σ1 (wip vs ρ1) F1 ds f N0 n s₀ s₁) (gProt So Y fp tn Gw a ga T1 H1 σ1 (wip vs ρ1) F1 ds f N0) N0 (.send .none) s'') ∧
    ∀ ex ρ' s', GDone Y a ga ex T1 H1 σ1 (wip vs ρ1) F1 ρ' s' → ∃ H' F', Inv X pins σ H' s' ∧ Po X.K T [] H σ ρ F H' σ (rst vs ρ1 ρ') F'
section
variable {X : Cx} {A1 : Around} {tg iter elt : Expr} {ifs : List Expr} {pos : Pos} {t0 t1 t2 sg : List Nat} {r : Option Nat} {fw : Env → R (List D)} {gg : W → Env → Option Env} {ft : Env → R Bool} {fe : Env → R W} {own : List (Str × Nat)} {scope : Scope} {c P : Addr}
theorem gen_make {pins : List (Addr × Obj)} {σ : Sg} {H : Hp} {s : Shared} {ρ ρ1 : Env} {F : FS} {ds : List D} {Q' : Value → Shared → Prop} (hd : X.A.depth < recursionLimit) (hh : A1.handled = none) (hfr : A1.frames = some X.stack) (hc : X.calm = true) (hN : X.N.Nodup)
    (TB : GxR.TabB X.base X.mg c P) (hcode : X.env.code = .ref c) (hK : PySem.W.codeHdIn X.K c P = true) (hco : scope.isCoroutine = false) (hcell : ∀ y ∈ scope.names, y.2 ≠ .cell) (hdot : scope.names.lookup (".0" : Str) = some NameKind.local)
    (hi : PI X tg iter (WT X.K t0 r fw)) (ok : BlkOk X.N X.env.scope scope own)
    (hg : ∀ (s : Shared) (H : Hp) (code : Value) (fp : List Addr), PG (gx X A1.in1 s H (genEnv scope (cloFrom X.env.cells scope.names []) s.heap.objs.size code builtinsNs X.env) fp) tg (GT X.K sg gg))
    (ht : ∀ (s : Shared) (H : Hp) (code : Value) (fp : List Addr), PTs (gx X A1.in1 s H (genEnv scope (cloFrom X.env.cells scope.names []) s.heap.objs.size code builtinsNs X.env) fp) ifs (BT X.K t1 ft))
    (he : ∀ (s : Shared) (H : Hp) (code : Value) (fp : List Addr), PE (gx X A1.in1 s H (genEnv scope (cloFrom X.env.cells scope.names []) s.heap.objs.size code builtinsNs X.env) fp) elt (VT X.K t2 none fe))
    (h0 : ∀ ρ w ρ', fe ρ = .ok w ρ' → w.2 = 0) (hs : ∀ x, genFold iter X.env x = pure x) (hsub : ∀ i, i ∈ sg → i ∈ own.map (·.2)) (hr : ∀ i, r = some i → i ∉ own.map (·.2) ++ (t1 ++ t2))
    (I : Inv X pins σ H s) (hE : REnv X.K H σ ρ F) (e : fw ρ = .ok ds ρ1)
    (hQ : ∀ u s5, GOut X A1 pins (t0 ++ (own.map (·.2) ++ (t1 ++ t2))) (own.map (·.2)) (eltV (own.map (·.2)) gg ft fe) H σ ρ F ds ρ1 u s5 → Q' u s5) :
    wpAny (model X.prog X.w) X.A (eval (.GeneratorExp elt [⟨tg, iter, ifs, 0⟩] scope pos) X.env) Q' X.xe s := by
  have hfree : ∀ y ∈ scope.names, y.2 = .free → ∃ c, X.env.cells.lookup y.1 = some c := fun y hy e => by
    rcases ok.free y hy e with k | k
    · exact I.ok.has _ (.inl k)
    · exact I.ok.has _ (.inr k)
  generalize hvs : own.map (·.2) = vs at *
  generalize hT : vs ++ (t1 ++ t2) = T at *
  have vT : ∀ i, i ∈ vs → i ∈ T := fun i h => hT ▸ subL h
  have t1T : ∀ i, i ∈ t1 → i ∈ T := fun i h => hT ▸ subR (subL h)
  have t2T : ∀ i, i ∈ t2 → i ∈ T := fun i h => hT ▸ subR (subR h)
  refine wpAny_GeneratorExp_make hco (L2.closure_ok hfree) hcell hdot ok.kind hd ?_ hs
  refine wpAny_mono (hi.run pins s σ H (fun J H' => ∃ F' S, Po X.K t0 [] H σ ρ F H' σ ρ1 F' ∧ Wk X.K J ds S H' ∧ ∀ a, S a → ∃ i, r = some i ∧ F' i a) I ⟨ρ, F, ds, ρ1, hE, e, fun J H' F' S P W hS => ⟨F', S, P, W, hS⟩⟩) (fun xv s1 h1 => wpAny_mono h1 (fun itv s2 h2 => ?_) fun _ _ z => z) fun _ _ z => z
  obtain ⟨it, fp, tn, J, H2, rfl, I2, Tn, st2, f2, F2, S, P2, ⟨Gw, g0, gk, gs, gi⟩, hS⟩ := h2
  refine ⟨I2.nolimit, ?_⟩
  obtain ⟨ps, hP, htr⟩ := P2.env.tab P ⟨c, hK⟩
  have hPs : s2.heap.get? P = some { cls := .none, data := .fields ps } := I2.hok P _ hP
  have cd : PySem.W.CodeHd s2.heap c P := TB.code.keeps fun b u e => I2.bk b u e
  have cont : ∀ (code : Value) (h3 : Heap) (tk : Nat) (more : Array Value), Heap.ExtBut P s2.heap h3 → h3.get? P = some { cls := .none, data := .fields (ps ++ more) } → TriplesOk (ps ++ more).toList →
      wpAny (model X.prog X.w) X.A (builtinsFor X.env.globals X.env.builtins) (fun bi s₄ => ∀ h', h'.Ns s₄.heap.objs.size (fun y => if y = ".0" then some (.ref it) else none) → Heap.SameBut s₄.heap.objs.size (s₄.heap.push { cls := .type "frame", data := .dict #[] }) h' →
          Q' (.ref h'.objs.size) { s₄ with
            gens := s₄.gens.push (.fresh (.compStart (.GeneratorExp elt [⟨tg, iter, ifs, 0⟩] scope pos) 0 (.ref it) .none (genEnv scope (cloFrom X.env.cells scope.names []) s₄.heap.objs.size code bi X.env))),
            toks := s₄.toks + 1 + 1 + 1,
            heap := h'.push { cls := .type "generator", data := .fields #[.int s₄.gens.size 0, .str "<genexpr>" (s₄.toks + 1), .str (X.env.qual ++ "<genexpr>") (s₄.toks + 1 + 1)] } }) X.xe { s2 with heap := h3, toks := tk } := by
    intro code h3 tk more hx hP3 ht3
    obtain ⟨bm, ob, e1, e2, e3, e4, e5, e6, e7, e8⟩ := TB.bm
    have keep3 : ∀ b u, b ≠ P → s2.heap.get? b = some u → h3.get? b = some u := fun b u hb e => hx b u hb e
    refine wpAny_builtinsFor (m := X.mg) (by rw [I2.ok.glob]; exact ((I2.mod.glob.keeps I2.bk)).extBut hx TB.gP) e1 e2 (keep3 _ _ e4 (I2.bk _ _ e5)) e6 e7 e8 ?_
    intro h' ns hsb
    have I4 : Inv X pins σ (upd H2 P (.tbl (ps ++ more))) { s2 with heap := h3, gens := s2.gens, drawn := s2.drawn, toks := tk } := GxR.inv_tab I2 hP keep3 hP3 I2.bare
    have P4 := P2.tbl0 hP ht3
    generalize hs4 : ({ s2 with heap := h3, toks := tk } : Shared) = s4 at *
    have hg4 : s4.gens = s2.gens := by rw [← hs4]
    have hh4 : s4.heap = h3 := by rw [← hs4]
    have I4 : Inv X pins σ (upd H2 P (.tbl (ps ++ more))) s4 := hs4 ▸ I4
    generalize hH4 : upd H2 P (.tbl (ps ++ more)) = H4 at *
    have kp1 : ∀ b o, s4.heap.get? b = some o → h'.get? b = some o := fun b o e => hsb.extBut b o (Nat.ne_of_lt (Heap.lt_size e)) (Heap.get?_push_of_some _ e)
    have hsz : h'.objs.size = s4.heap.objs.size + 1 := by rw [hsb.1, Heap.size_push]
    generalize hga : ({ cls := .type "generator", data := .fields #[.int s4.gens.size 0, .str "<genexpr>" (s4.toks + 1), .str (X.env.qual ++ "<genexpr>") (s4.toks + 1 + 1)] } : Obj) = ga
    have kp : ∀ b o, s4.heap.get? b = some o → (h'.push ga).get? b = some o := fun b o e => Heap.get?_push_of_some _ (kp1 b o e)
    have gat : (h'.push ga).get? h'.objs.size = some ga := Heap.get?_push_size _ (by rw [← hga]; rfl)
    have fpP : ∀ b ∈ fp, b ≠ P := fun b hb z => by
      have := (f2 b hb).1
      rw [z, hP] at this
      cases this
    have tn3 : tn 0 s4.heap := Tn.keep _ _ _ st2 fun b hb o e => by rw [hh4]; exact keep3 b o (fpP b hb) e
    have f4 : ∀ b ∈ fp, FpOk X pins H4 b ∧ b < s4.heap.objs.size := fun b hb => by
      obtain ⟨o, e, _⟩ := Tn.obj _ _ tn3 b hb
      refine ⟨⟨?_, (f2 b hb).2⟩, Heap.lt_size e⟩
      rw [← hH4, L2.upd_ne (fpP b hb)]
      exact (f2 b hb).1
    have stP : Stb H2 H4 := by
      rw [← hH4]
      exact ⟨fun b xs e => by rw [L2.upd_ne fun z => by rw [z, hP] at e; cases e]; exact e, fun b o u e => by rw [L2.upd_ne fun z => by rw [z, hP] at e; cases e]; exact e⟩
    have G4 : Gw H4 := gk H2 H4 g0 stP fun b xs _ e => by rw [← hH4, L2.upd_ne fun z => by rw [z, hP] at e; cases e]; exact e
    have E4 := P4.env.wiped (vs := vs)
    have st5 : ∀ g' t', AllBare g' → Inv (gx X A1.in1 s4 H4 (genEnv scope (cloFrom X.env.cells scope.names []) s4.heap.objs.size code builtinsNs X.env) fp) [(h'.objs.size, ga)] (wipe σ vs) H4 { s4 with heap := h'.push ga, gens := g', toks := t' } := fun g' t' hb => by
      have := gen_start (code := code) (a := h'.objs.size) (ga := ga) (g' := g') (t' := t') I4 ok hN hcell f4 (show A1.in1.handled = none from hh) (show A1.in1.frames = some X.stack from hfr) (ns.push ga) kp gat (by rw [hsz]; exact Nat.lt_succ_self _) (fun v z => by rw [← hga] at z; cases z) hb
      rw [hvs] at this
      exact this
    have hb0 : AllBare (s4.gens.push (.fresh (.compStart (.GeneratorExp elt [⟨tg, iter, ifs, 0⟩] scope pos) 0 (.ref it) .none (genEnv scope (cloFrom X.env.cells scope.names []) s4.heap.objs.size code builtinsNs X.env)))) := I4.bare.push rfl
    have tn5 : tn 0 (h'.push ga) := Tn.keep _ _ _ tn3 fun b _ o e => kp b o e
    have hfa : ∀ b ∈ fp, b ≠ h'.objs.size := fun b hb => Nat.ne_of_lt (Nat.lt_trans (f4 b hb).2 (by rw [hsz]; exact Nat.lt_succ_self _))
    have nfp : ∀ b ∈ fp, H4 b = none := fun b hb => (f4 b hb).1.1
    have idle : GIdle (gx X A1.in1 s4 H4 (genEnv scope (cloFrom X.env.cells scope.names []) s4.heap.objs.size code builtinsNs X.env) fp) fp tn Gw h'.objs.size ga [] T H4 (wipe σ vs) (wip vs ρ1) (fun j a => j ∉ vs ∧ F2 j a) ds ds (wip vs ρ1) (fun _ => True)
        { s4 with heap := h'.push ga, gens := s4.gens.push (.fresh (.compStart (.GeneratorExp elt [⟨tg, iter, ifs, 0⟩] scope pos) 0 (.ref it) .none (genEnv scope (cloFrom X.env.cells scope.names []) s4.heap.objs.size code builtinsNs X.env))), toks := s4.toks + 1 + 1 + 1 } :=
      ⟨0, H4, _, st5 _ _ hb0, tn5, nfp, G4, Po.refl E4, by simp, Nat.zero_le _, trivial, fun b hb p hp => by
        have hp : p = (h'.objs.size, ga) := by simpa using hp
        rw [hp]
        exact (hfa b hb).symm⟩
    refine hQ _ _ ⟨h'.objs.size, s4.gens.size, gx X A1.in1 s4 H4 (genEnv scope (cloFrom X.env.cells scope.names []) s4.heap.objs.size code builtinsNs X.env) fp, fp, ga, tn, Gw, T, H4, wipe σ vs, _, ds.length + 1, rfl, rfl, rfl, rfl, fun h e => ?_, Tn.keep, fun b hb => Nat.lt_trans (f4 b hb).2 (by rw [Heap.size_push, hsz]; exact Nat.lt_succ_of_lt (Nat.lt_succ_self _)), rfl, Nat.lt_succ_self _, idle, ⟨_, Array.getElem?_push_size .., fun So s'' ex hx6 id2 hc' => ⟨rfl, ?_⟩⟩, fun ex ρ' s' hdn => ?_⟩
    · rw [← hga] at e
      exact ⟨_, _, _, e, rfl, rfl, rfl⟩
    · have tn6 : tn 0 s''.heap := by
        obtain ⟨i6, H6, F6, I6, t6, _, _, _, e6, l6, _⟩ := id2
        by_cases z : i6 = 0
        · rw [z] at t6; exact t6
        · have := congrArg List.length e6
          rw [List.length_drop] at this
          omega
      refine seg_gen0 (Y := gx X A1.in1 s4 H4 (genEnv scope (cloFrom X.env.cells scope.names []) s4.heap.objs.size code builtinsNs X.env) fp) (A0 := A1.in1) hh rfl hc rfl rfl rfl hco Tn ?_ tn6
      exact seg_gen (Y := gx X A1.in1 s4 H4 (genEnv scope (cloFrom X.env.cells scope.names []) s4.heap.objs.size code builtinsNs X.env) fp) (A0 := A1.in1) (S := S) (r := r) (ga := ga) rfl hc rfl rfl rfl hco Tn gk gs gi
        (fun b hb => by
          obtain ⟨i, h1, h2⟩ := hS b hb
          have n : i ∉ vs := fun z => hr i h1 (vT i z)
          exact ⟨i, h1, n, n, h2⟩) hr (hg s4 H4 code fp) (ht s4 H4 code fp) (he s4 H4 code fp) h0 wipe_twice hsub vT t1T t2T E4 ds.length ex ds (wip vs ρ1) (ds.length + 1) ds (wip vs ρ1) s'' s'' hx6 rfl (Nat.lt_succ_self _) (Nat.le_refl _) (by rw [Nat.sub_self]; rfl) rfl hc' id2
    · obtain ⟨H', F', I', P'⟩ := hdn
      refine ⟨H', _, I4.call' (ch := fp) I'.os I'.base I'.hok I'.bare fun b hb => ⟨(f4 b hb).1.2.2.2.1, (f4 b hb).1.2.1, (f4 b hb).1.2.2.2.2.1, (f4 b hb).1.2.2.2.2.2⟩, Po.seqE hE P4 (Po.rst P4.env P' vT)⟩
  cases hf : codeAmong pos ps.toList with
  | none =>
    refine wpAny_genexprCodeX hcode (cd.code hPs htr) (cd.tab hPs) hf fun c' h' tk hx hge hlt hco' _ htab' _ => ?_
    obtain ⟨o1, vs', f1, tf, fl, tg', inF, tx, tt, op, _, _, _, _, _, _, _, _, _, htr', _⟩ := hco'
    exact cont _ h' tk _ hx htab'.2 htr'
  | some cv =>
    refine wpAny_genexprCode_hit hcode (cd.code hPs htr) hf ?_
    exact cont cv s2.heap s2.toks #[] (Heap.ExtBut.refl _ _) (by simpa using hPs) (by simpa using htr)
end
/-! ### all, any -/
/-- ends at the first item that is q -/
def quitG (q : Bool) (f : D → Env → R (Option D)) : List D → Env → R Bool
  | [], ρ => .ok (!q) ρ
  | d :: ds, ρ => bd (f d ρ) fun o ρ => (match o with
    | none => quitG q f ds ρ
    | some (.bl b) => if b = q then .ok q ρ else quitG q f ds ρ
    | _ => .no)
theorem quit_nxt {q : Bool} {f : D → Env → R (Option D)} {b : Bool} {ρ' : Env} : ∀ {ds : List D} {ρ : Env}, quitG q f ds ρ = .ok b ρ' → ∃ o ρ2, nxt f ds ρ = .ok o ρ2 ∧ (match o with
    | none => b = (!q) ∧ ρ' = ρ2
    | some (x, rest) => ∃ k, x = .bl k ∧ if k = q then b = q ∧ ρ' = ρ2 else quitG q f rest ρ2 = .ok b ρ')
  | [], ρ, h => by
    simp only [quitG] at h
    cases h
    exact ⟨none, _, rfl, rfl, rfl⟩
  | d :: ds, ρ, h => by
    unfold quitG at h
    obtain ⟨o, ρ1, e1, e2⟩ := bd_ok h
    have en : nxt f (d :: ds) ρ = bd (.ok o ρ1) fun o ρ => (match o with
      | some x => .ok (some (x, ds)) ρ
      | none => nxt f ds ρ) := by
      rw [← e1]
      rfl
    cases o with
    | none => rw [en]; exact quit_nxt e2
    | some x =>
      rw [en]
      cases x with
      | bl k =>
        dsimp only at e2
        refine ⟨_, _, rfl, k, rfl, ?_⟩
        by_cases hk : k = q
        · rw [if_pos hk] at e2 ⊢
          cases e2
          exact ⟨rfl, rfl⟩
        · rw [if_neg hk] at e2 ⊢
          exact e2
      | _ => cases e2
def quitV (q : Bool) (own : List Nat) (fw : Env → R (List D)) (gg : W → Env → Option Env) (ft : Env → R Bool) (fe : Env → R W) (ρ : Env) : R W :=
  bd (fw ρ) fun ds ρ0 => bd (quitG q (eltV own gg ft fe) ds (wip own ρ0)) fun b ρ => .ok (.bl b, 0) (rst own ρ0 ρ)
section
variable {Y : Cx} {A : Around} {fp : List Addr} {a : Addr} {g : Nat} {ga : Obj} {tn : Nat → Heap → Prop} {Gw : Hp → Prop} {T : List Nat} {H1 : Hp} {σ : Sg} {ρ1 : Env} {F1 : FS} {ds : List D} {f : D → Env → R (Option D)} {N0 : Nat} {R : Result → Shared → Prop} {So : Option Addr} {ex : List (Addr × Obj)}
theorem val_bl {rest : List D} {ρ : Env} {k : Bool} {v : Value} {s : Shared} (h : GIdle Y fp tn Gw a ga ex T H1 σ ρ1 F1 ds rest ρ (fun H => ∃ x, Rf Y.K H (.bl k) x ∧ L2.RelV x v) s) : v = .bool k := by
  obtain ⟨i, H, F, I, _, _, _, _, _, _, ⟨x, rf, rv⟩, _⟩ := h
  simp only [Rf] at rf
  subst rf
  exact rv
theorem all_loop (hh : A.handled = none) (hd : A.depth < recursionLimit) (hgen : ∀ h : Heap, h.get? a = some ga → h.IsGen a g) {b : Bool} {ρ' : Env} (hR : ∀ s', GDone Y a ga ex T H1 σ ρ1 F1 ρ' s' → R (.ok (.ret (.bool b))) s') :
    ∀ (k : Nat) (j : Nat) (rest : List D) (ρ : Env) (s : Shared), rest.length = k → GAt So Y A.in1 fp a g ga ex tn Gw T H1 σ ρ1 F1 ds f N0 j rest ρ s → quitG false f rest ρ = .ok b ρ' → codeAny (model Y.prog Y.w) A (.builtin "all.loop" ⟨[.ref a], []⟩) R s := by
  intro k
  induction k using Nat.strongRecOn with
  | _ k ih =>
    intro j rest ρ s hk G e
    obtain ⟨o, ρ2, en, hm⟩ := quit_nxt e
    refine codeAny_builtin PySem.F.entry_all_loop ?_
    rw [Around.under_plainId PySem.F.plain_all_loop _]
    show wpAny _ A.in1 (pyNext (.ref a) >>= _) _ _ s
    refine wpAny_bind (gen_next hh hd hgen G en (fun d rest' v s' ho G' id' => ?_) (fun ho s' hdn => ?_))
    · subst ho
      obtain ⟨kb, rfl, hk2⟩ := hm
      obtain rfl := val_bl id'
      refine wpAny_bind (wpAny_holding (wpAny_truthy_bool ?_))
      refine wpAny_bind (wpAny_letGo ?_)
      cases kb with
      | true =>
        rw [if_neg (by decide)] at hk2
        simp only [if_true]
        exact wpAny_pure ⟨plainId_quiet PySem.F.plain_all_loop _, ih rest'.length (by rw [← hk]; exact nxt_len en) (j + 1) rest' ρ2 s' rfl G' hk2⟩
      | false =>
        rw [if_pos rfl] at hk2
        simp only [Bool.false_eq_true, if_false]
        refine wpAny_bind (wpAny_rule (wpAny_pure ?_))
        obtain ⟨rfl, rfl⟩ := hk2
        exact hR s' id'.done
    · subst ho
      obtain ⟨rfl, rfl⟩ := hm
      refine wpAny_bind (wpAny_rule (wpAny_pure ?_))
      exact hR s' hdn
theorem any_loop (hh : A.handled = none) (hd : A.depth < recursionLimit) (hgen : ∀ h : Heap, h.get? a = some ga → h.IsGen a g) {b : Bool} {ρ' : Env} (hR : ∀ s', GDone Y a ga ex T H1 σ ρ1 F1 ρ' s' → R (.ok (.ret (.bool b))) s') :
    ∀ (k : Nat) (j : Nat) (rest : List D) (ρ : Env) (s : Shared), rest.length = k → GAt So Y A.in1 fp a g ga ex tn Gw T H1 σ ρ1 F1 ds f N0 j rest ρ s → quitG true f rest ρ = .ok b ρ' → codeAny (model Y.prog Y.w) A (.builtin "any.loop" ⟨[.ref a], []⟩) R s := by
  intro k
  induction k using Nat.strongRecOn with
  | _ k ih =>
    intro j rest ρ s hk G e
    obtain ⟨o, ρ2, en, hm⟩ := quit_nxt e
    refine codeAny_builtin PySem.F.entry_any_loop ?_
    rw [Around.under_plainId PySem.F.plain_any_loop _]
    show wpAny _ A.in1 (pyNext (.ref a) >>= _) _ _ s
    refine wpAny_bind (gen_next hh hd hgen G en (fun d rest' v s' ho G' id' => ?_) (fun ho s' hdn => ?_))
    · subst ho
      obtain ⟨kb, rfl, hk2⟩ := hm
      obtain rfl := val_bl id'
      refine wpAny_bind (wpAny_holding (wpAny_truthy_bool ?_))
      refine wpAny_bind (wpAny_letGo ?_)
      cases kb with
      | false =>
        rw [if_neg (by decide)] at hk2
        simp only [Bool.false_eq_true, if_false]
        exact wpAny_pure ⟨plainId_quiet PySem.F.plain_any_loop _, ih rest'.length (by rw [← hk]; exact nxt_len en) (j + 1) rest' ρ2 s' rfl G' hk2⟩
      | true =>
        rw [if_pos rfl] at hk2
        simp only [if_true]
        refine wpAny_bind (wpAny_rule (wpAny_pure ?_))
        obtain ⟨rfl, rfl⟩ := hk2
        exact hR s' id'.done
    · subst ho
      obtain ⟨rfl, rfl⟩ := hm
      refine wpAny_bind (wpAny_rule (wpAny_pure ?_))
      exact hR s' hdn
end
section
variable {X : Cx} {tg iter elt : Expr} {ifs : List Expr} {gpos p pos : Pos} {t0 t1 t2 sg : List Nat} {r : Option Nat} {fw : Env → R (List D)} {gg : W → Env → Option Env} {ft : Env → R Bool} {fe : Env → R W} {own : List (Str × Nat)} {scope : Scope} {c P : Addr} {k : Nat}
/-- what a generator expression asks of its place -/
structure GenOk (X : Cx) (k : Nat) (c P : Addr) (scope : Scope) (own : List (Str × Nat)) (iter : Expr) : Prop where
  room : Room k X.A
  calm : X.calm = true
  nd : X.N.Nodup
  tab : GxR.TabB X.base X.mg c P
  code : X.env.code = .ref c
  inK : PySem.W.codeHdIn X.K c P = true
  co : scope.isCoroutine = false
  cell : ∀ y ∈ scope.names, y.2 ≠ .cell
  dot : scope.names.lookup (".0" : Str) = some NameKind.local
  blk : BlkOk X.N X.env.scope scope own
  fold : ∀ x, genFold iter X.env x = pure x
theorem vt_all (G : GenOk X k c P scope own iter) (hgl : Gl X "all") (hm : X.mg "all" = none) (hb : bootBuiltins "all" = some (.builtin "all")) (hi : PI X tg iter (WT X.K t0 r fw))
    (hg : ∀ (s : Shared) (H : Hp) (code : Value) (fp : List Addr), PG (gx X X.A.in1.in1 s H (genEnv scope (cloFrom X.env.cells scope.names []) s.heap.objs.size code builtinsNs X.env) fp) tg (GT X.K sg gg))
    (ht : ∀ (s : Shared) (H : Hp) (code : Value) (fp : List Addr), PTs (gx X X.A.in1.in1 s H (genEnv scope (cloFrom X.env.cells scope.names []) s.heap.objs.size code builtinsNs X.env) fp) ifs (BT X.K t1 ft))
    (he : ∀ (s : Shared) (H : Hp) (code : Value) (fp : List Addr), PE (gx X X.A.in1.in1 s H (genEnv scope (cloFrom X.env.cells scope.names []) s.heap.objs.size code builtinsNs X.env) fp) elt (VT X.K t2 none fe))
    (h0 : ∀ ρ w ρ', fe ρ = .ok w ρ' → w.2 = 0) (hsub : ∀ i, i ∈ sg → i ∈ own.map (·.2)) (hr : ∀ i, r = some i → i ∉ own.map (·.2) ++ (t1 ++ t2))
    (hst : starEach [.GeneratorExp elt [⟨tg, iter, ifs, 0⟩] scope gpos] X.env = (false, eval (.GeneratorExp elt [⟨tg, iter, ifs, 0⟩] scope gpos) X.env) :: starEach [] X.env) :
    PE X (.Call (.Name "all" p) [.GeneratorExp elt [⟨tg, iter, ifs, 0⟩] scope gpos] [] pos) (VT X.K (t0 ++ (own.map (·.2) ++ (t1 ++ t2))) none (quitV false (own.map (·.2)) fw gg ft fe)) := by
  refine ⟨fun pins s σ H Q I h => ?_⟩
  obtain ⟨ρ, F, w, ρ', hE, e, q⟩ := h
  obtain ⟨ds, ρ1, e1, e⟩ := bd_ok e
  obtain ⟨b, ρ2, e2, e⟩ := bd_ok e
  cases e
  refine wpAny_Call_Name_kw (L2.ld_blt I hgl hm hb ?_)
  refine PyProof.Rows.callWith_builtin1 ?_ hst (by rfl)
  rw [hst]
  show wpAny _ _ (spliced ((false, eval (.GeneratorExp elt [⟨tg, iter, ifs, 0⟩] scope gpos) X.env) :: backTo pos (starEach [] X.env))) _ _ s
  have hd := G.room.depth
  refine Calls.spliced_cons (gen_make (A1 := X.A.in1) hd (G.room.hd) I.ok.frames G.calm G.nd G.tab G.code G.inK G.co G.cell G.dot hi G.blk hg ht he h0 G.fold hsub hr I hE e1 fun u s5 ⟨a, g, Y, fp, ga, tn, Gw, T1, H1, σ1, F1, N0, hu, hY1, hY2, hY3, hgen, hkp, hfpl, hpn, hlt, hid, ⟨gs, hgs, hgo⟩, hdone⟩ => ?_)
  subst hu
  refine Calls.spliced_nil ?_
  refine call_function_tree PySem.F.kind_all PySem.F.plain_all PySem.F.entry_all (PySem.F.args_all1 _) ?_
  unfold Builtin.«all»
  refine wpAny_bind (m := oneArg "all" _) (wpAny_pure ?_)
  obtain ⟨i5, H5, F5, I5, _⟩ := id hid
  refine wpAny_bind (wpAny_pyIter_gen (hgen _ (I5.pin (a, ga) (by simp)).1) ?_)
  refine wpAny_pure ⟨plainId_quiet PySem.F.plain_all_loop _, ?_⟩
  rw [← hY1, ← hY2]
  refine all_loop (A := X.A) G.room.hd hd hgen (ρ' := ρ2) (b := b) (fun s' hdn => ?_) _ 0 ds _ s5 rfl ⟨hlt, rfl, hid, (show Sx none [] s5 from rfl), gs, hgs, hgo none⟩ e2
  obtain ⟨H', F', I', P'⟩ := hdone _ ρ2 s' hdn
  exact ⟨.bl b, H', I', rfl, q _ H' F' _ P' (Pv.rf (by simp only [Rf]))⟩
theorem vt_any (G : GenOk X k c P scope own iter) (hgl : Gl X "any") (hm : X.mg "any" = none) (hi : PI X tg iter (WT X.K t0 r fw))
    (hg : ∀ (s : Shared) (H : Hp) (code : Value) (fp : List Addr), PG (gx X X.A.in1.in1 s H (genEnv scope (cloFrom X.env.cells scope.names []) s.heap.objs.size code builtinsNs X.env) fp) tg (GT X.K sg gg))
    (ht : ∀ (s : Shared) (H : Hp) (code : Value) (fp : List Addr), PTs (gx X X.A.in1.in1 s H (genEnv scope (cloFrom X.env.cells scope.names []) s.heap.objs.size code builtinsNs X.env) fp) ifs (BT X.K t1 ft))
    (he : ∀ (s : Shared) (H : Hp) (code : Value) (fp : List Addr), PE (gx X X.A.in1.in1 s H (genEnv scope (cloFrom X.env.cells scope.names []) s.heap.objs.size code builtinsNs X.env) fp) elt (VT X.K t2 none fe))
    (h0 : ∀ ρ w ρ', fe ρ = .ok w ρ' → w.2 = 0) (hsub : ∀ i, i ∈ sg → i ∈ own.map (·.2)) (hr : ∀ i, r = some i → i ∉ own.map (·.2) ++ (t1 ++ t2))
    (hst : starEach [.GeneratorExp elt [⟨tg, iter, ifs, 0⟩] scope gpos] X.env = (false, eval (.GeneratorExp elt [⟨tg, iter, ifs, 0⟩] scope gpos) X.env) :: starEach [] X.env) :
    PE X (.Call (.Name "any" p) [.GeneratorExp elt [⟨tg, iter, ifs, 0⟩] scope gpos] [] pos) (VT X.K (t0 ++ (own.map (·.2) ++ (t1 ++ t2))) none (quitV true (own.map (·.2)) fw gg ft fe)) := by
  refine ⟨fun pins s σ H Q I h => ?_⟩
  obtain ⟨ρ, F, w, ρ', hE, e, q⟩ := h
  obtain ⟨ds, ρ1, e1, e⟩ := bd_ok e
  obtain ⟨b, ρ2, e2, e⟩ := bd_ok e
  cases e
  refine wpAny_Call_Name_kw (L2.ld_blt I hgl hm boot_any ?_)
  refine PyProof.Rows.callWith_builtin1 ?_ hst (by rfl)
  rw [hst]
  show wpAny _ _ (spliced ((false, eval (.GeneratorExp elt [⟨tg, iter, ifs, 0⟩] scope gpos) X.env) :: backTo pos (starEach [] X.env))) _ _ s
  have hd := G.room.depth
  refine Calls.spliced_cons (gen_make (A1 := X.A.in1) hd (G.room.hd) I.ok.frames G.calm G.nd G.tab G.code G.inK G.co G.cell G.dot hi G.blk hg ht he h0 G.fold hsub hr I hE e1 fun u s5 ⟨a, g, Y, fp, ga, tn, Gw, T1, H1, σ1, F1, N0, hu, hY1, hY2, hY3, hgen, hkp, hfpl, hpn, hlt, hid, ⟨gs, hgs, hgo⟩, hdone⟩ => ?_)
  subst hu
  refine Calls.spliced_nil ?_
  refine call_function_tree PySem.F.kind_any PySem.F.plain_any PySem.F.entry_any (PySem.F.args_any1 _) ?_
  unfold Builtin.«any»
  refine wpAny_bind (m := oneArg "any" _) (wpAny_pure ?_)
  obtain ⟨i5, H5, F5, I5, _⟩ := id hid
  refine wpAny_bind (wpAny_pyIter_gen (hgen _ (I5.pin (a, ga) (by simp)).1) ?_)
  refine wpAny_pure ⟨plainId_quiet PySem.F.plain_any_loop _, ?_⟩
  rw [← hY1, ← hY2]
  refine any_loop (A := X.A) G.room.hd hd hgen (ρ' := ρ2) (b := b) (fun s' hdn => ?_) _ 0 ds _ s5 rfl ⟨hlt, rfl, hid, (show Sx none [] s5 from rfl), gs, hgs, hgo none⟩ e2
  obtain ⟨H', F', I', P'⟩ := hdone _ ρ2 s' hdn
  exact ⟨.bl b, H', I', rfl, q _ H' F' _ P' (Pv.rf (by simp only [Rf]))⟩
end
end Q
end
section
set_option Elab.async false
set_option linter.all false
set_option maxRecDepth 100000
set_option maxHeartbeats 4000000
/-! QU: sum, tuple of generator expressions. -/
namespace Q
open PySem PySem.Spec PyProof.Rows
open L2 (V Hp HO TE TT TA TS TG TGs TI VK XK Sp upd SqL SqT Rd Inv Cx PE PA PK PT PW PG PGs PS PSs PI It R2 OpR CallR FnOk Ends FunD FnScope CX0 Binds KBn Vals Room Gl cxOf pass0 wipe PTs BlkOk cloFrom FpOk frs)
section
variable {Y : Cx} {A : Around} {fp : List Addr} {a S : Addr} {g : Nat} {ga : Obj} {tn : Nat → Heap → Prop} {Gw : Hp → Prop} {T : List Nat} {H1 : Hp} {σ : Sg} {ρ1 : Env} {F1 : FS} {ds : List D} {f : D → Env → R (Option D)} {N0 : Nat}
/-- the consumer changes its own object -/
theorem GIdle.sput {rest : List D} {ρ : Env} {R : Hp → Prop} {s : Shared} {o o' : Obj} {h' : Heap} {t' : Nat} (hk : ∀ i h h', tn i h → (∀ b ∈ fp, ∀ o, h.get? b = some o → h'.get? b = some o) → tn i h') (h : GIdle Y fp tn Gw a ga [(S, o)] T H1 σ ρ1 F1 ds rest ρ R s) (hS : Y.s_0.heap.objs.size ≤ S) (hpn : Y.pn = []) (ha : a ≠ S)
    (kp : ∀ b u, b ≠ S → s.heap.get? b = some u → h'.get? b = some u) (ho : h'.get? S = some o') (hd : ∀ v, o'.data ≠ .cell v) : GIdle Y fp tn Gw a ga [(S, o')] T H1 σ ρ1 F1 ds rest ρ R { s with heap := h', toks := t' } := by
  obtain ⟨i, H, F, I, st, fr, hG, P, e, l, r, pf⟩ := h
  obtain ⟨p1, p2, p3, p4, p5⟩ := I.pin (S, o) (by simp)
  have nS : ∀ b ∈ fp, S ≠ b := fun b hb => pf b hb (S, o) (by simp)
  have I0 : Inv Y [(a, ga)] σ H s := I.pins_of fun p hp => I.pin p (List.mem_append_right _ (by
    have hp : p = (a, ga) := by simpa using hp
    rw [hp]; simp))
  have I1 : Inv Y [(a, ga)] σ H { s with heap := h', toks := t' } := I0.turned kp p2 p3 (.inr hS) (fun x c e z => by
    obtain ⟨v, oc, hc, hd'⟩ := I.cell x c e
    rw [z, p1] at hc
    cases hc
    exact p5 _ hd') fun p hp z => by
      rw [hpn] at hp
      have hp : p = (a, ga) := by simpa using hp
      rw [hp] at z
      exact ha z
  refine ⟨i, H, F, I1.pins_of fun p hp => ?_, hk _ _ _ st fun b hb u e => kp b u (nS b hb).symm e, fr, hG, P, e, l, r, fun b hb p hp => ?_⟩
  · have hp : p = (a, ga) ∨ p = (S, o') := by simpa using hp
    rcases hp with rfl | rfl
    · exact I1.pin _ (by simp)
    · exact ⟨ho, p2, p3, p4, hd⟩
  · have hp : p = (a, ga) ∨ p = (S, o') := by simpa using hp
    rcases hp with rfl | rfl
    · exact pf b hb _ (by simp)
    · exact nS b hb
/-- .. and makes it -/
theorem GIdle.snew {rest : List D} {ρ : Env} {R : Hp → Prop} {s : Shared} {o : Obj} {t' : Nat} (hk : ∀ i h h', tn i h → (∀ b ∈ fp, ∀ o, h.get? b = some o → h'.get? b = some o) → tn i h') (h : GIdle Y fp tn Gw a ga [] T H1 σ ρ1 F1 ds rest ρ R s) (hfp : ∀ b ∈ fp, b < s.heap.objs.size)
    (ho : o.isFreed = false) (hd : ∀ v, o.data ≠ .cell v) : GIdle Y fp tn Gw a ga [(s.heap.objs.size, o)] T H1 σ ρ1 F1 ds rest ρ R { s with heap := s.heap.push o, toks := t' } := by
  obtain ⟨i, H, F, I, st, fr, hG, P, e, l, r, pf⟩ := h
  have kp : ∀ b u, s.heap.get? b = some u → (s.heap.push o).get? b = some u := fun b u e => Heap.get?_push_of_some _ e
  have I1 := I.kept (t' := t') kp
  refine ⟨i, H, F, I1.pins_of fun p hp => ?_, hk _ _ _ st fun b hb u e => kp b u e, fr, hG, P, e, l, r, fun b hb p hp => ?_⟩
  · have hp : p = (a, ga) ∨ p = (s.heap.objs.size, o) := by simpa using hp
    rcases hp with rfl | rfl
    · exact I1.pin _ (by simp)
    · exact ⟨Heap.get?_push_size _ ho, I.hok.fresh (Nat.le_refl _), Nat.ne_of_gt I.lt, I.nofs (Nat.le_refl _), hd⟩
  · have hp : p = (a, ga) ∨ p = (s.heap.objs.size, o) := by simpa using hp
    rcases hp with rfl | rfl
    · exact pf b hb _ (by simp)
    · exact (Nat.ne_of_lt (hfp b hb)).symm
end
/-! ### sum -/
def sumG (f : D → Env → R (Option D)) : List D → Int → Env → R Int
  | [], n, ρ => .ok n ρ
  | d :: ds, n, ρ => bd (f d ρ) fun o ρ => (match o with
    | none => sumG f ds n ρ
    | some (.int i) => if (-(2 ^ 63) ≤ i ∧ i < 2 ^ 63) ∧ -(2 ^ 63) ≤ n + i ∧ n + i < 2 ^ 63 then sumG f ds (n + i) ρ else .no
    | _ => .no)
theorem sum_nxt {f : D → Env → R (Option D)} {b : Int} {ρ' : Env} : ∀ {ds : List D} {n : Int} {ρ : Env}, sumG f ds n ρ = .ok b ρ' → ∃ o ρ2, nxt f ds ρ = .ok o ρ2 ∧ (match o with
    | none => b = n ∧ ρ' = ρ2
    | some (x, rest) => ∃ i, x = .int i ∧ ((-(2 ^ 63) ≤ i ∧ i < 2 ^ 63) ∧ -(2 ^ 63) ≤ n + i ∧ n + i < 2 ^ 63) ∧ sumG f rest (n + i) ρ2 = .ok b ρ')
  | [], n, ρ, h => by
    simp only [sumG] at h
    cases h
    exact ⟨none, _, rfl, rfl, rfl⟩
  | d :: ds, n, ρ, h => by
    unfold sumG at h
    obtain ⟨o, ρ1, e1, e2⟩ := bd_ok h
    have en : nxt f (d :: ds) ρ = bd (.ok o ρ1) fun o ρ => (match o with
      | some x => .ok (some (x, ds)) ρ
      | none => nxt f ds ρ) := by
      rw [← e1]
      rfl
    cases o with
    | none => rw [en]; exact sum_nxt e2
    | some x =>
      rw [en]
      cases x with
      | int k =>
        dsimp only at e2
        refine ⟨_, _, rfl, k, rfl, ?_⟩
        split at e2
        · rename_i hk
          exact ⟨hk, e2⟩
        · cases e2
      | _ => cases e2
def sumV (own : List Nat) (fw : Env → R (List D)) (gg : W → Env → Option Env) (ft : Env → R Bool) (fe : Env → R W) (ρ : Env) : R W :=
  bd (fw ρ) fun ds ρ0 => bd (sumG (eltV own gg ft fe) ds 0 (wip own ρ0)) fun n ρ => .ok (.int n, 0) (rst own ρ0 ρ)
section
variable {Y : Cx} {A : Around} {fp : List Addr} {a S : Addr} {g : Nat} {ga : Obj} {tn : Nat → Heap → Prop} {Gw : Hp → Prop} {T : List Nat} {H1 : Hp} {σ : Sg} {ρ1 : Env} {F1 : FS} {ds : List D} {f : D → Env → R (Option D)} {N0 : Nat} {R : Result → Shared → Prop}
theorem val_int {ex : List (Addr × Obj)} {rest : List D} {ρ : Env} {k : Int} {v : Value} {s : Shared} (h : GIdle Y fp tn Gw a ga ex T H1 σ ρ1 F1 ds rest ρ (fun H => ∃ x, Rf Y.K H (.int k) x ∧ L2.RelV x v) s) : ∃ t, v = .int k t := by
  obtain ⟨i, H, F, I, _, _, _, _, _, _, ⟨x, rf, rv⟩, _⟩ := h
  simp only [Rf] at rf
  subst rf
  exact rv
theorem GAt.sput {j : Nat} {rest : List D} {ρ : Env} {s : Shared} {o o' : Obj} {h' : Heap} {t' : Nat} (hk : ∀ i h h', tn i h → (∀ b ∈ fp, ∀ o, h.get? b = some o → h'.get? b = some o) → tn i h') (h : GAt (some S) Y A fp a g ga [(S, o)] tn Gw T H1 σ ρ1 F1 ds f N0 j rest ρ s) (hS : Y.s_0.heap.objs.size ≤ S) (hpn : Y.pn = []) (ha : a ≠ S)
    (kp : ∀ b u, b ≠ S → s.heap.get? b = some u → h'.get? b = some u) (ho : h'.get? S = some o') (hd : ∀ v, o'.data ≠ .cell v) : GAt (some S) Y A fp a g ga [(S, o')] tn Gw T H1 σ ρ1 F1 ds f N0 j rest ρ { s with heap := h', toks := t' } :=
  ⟨h.lt, h.at', h.idle.sput hk hS hpn ha kp ho hd, ⟨o', rfl, ho⟩, h.gen⟩
theorem sum_loop (hh : A.handled = none) (hd : A.depth < recursionLimit) (hgen : ∀ h : Heap, h.get? a = some ga → h.IsGen a g) (hk : ∀ i h h', tn i h → (∀ b ∈ fp, ∀ o, h.get? b = some o → h'.get? b = some o) → tn i h') (hS : Y.s_0.heap.objs.size ≤ S) (hpn : Y.pn = []) (ha : a ≠ S) {b : Int} {ρ' : Env}
    (hR : ∀ t ex s', GDone Y a ga ex T H1 σ ρ1 F1 ρ' s' → R (.ok (.ret (.int b t))) s') :
    ∀ (k : Nat) (j : Nat) (rest : List D) (ρ : Env) (s : Shared) (n : Int) (tA : Tok) (c : Nat), rest.length = k → GAt (some S) Y A.in1 fp a g ga [(S, { cls := .type "list", dict := none, data := .seq #[.int n tA] c, slots := #[] })] tn Gw T H1 σ ρ1 F1 ds f N0 j rest ρ s → sumG f rest n ρ = .ok b ρ' →
      codeAny (model Y.prog Y.w) A (.builtin "sum.loop" ⟨[.ref a, .ref S, rawInt 0, rawInt 0], []⟩) R s := by
  intro k
  induction k using Nat.strongRecOn with
  | _ k ih =>
    intro j rest ρ s n tA c hkl G e
    obtain ⟨o, ρ2, en, hm⟩ := sum_nxt e
    obtain ⟨o1, he1, hS1⟩ := G.sx
    cases he1
    refine codeAny_builtin PySem.F.entry_sum_loop ?_
    rw [Around.under_plainId PySem.F.plain_sum_loop _]
    show wpAny _ A.in1 (seqItems? (.ref S) >>= _) _ _ s
    refine wpAny_bind (wpAny_seqItems hS1 rfl ?_)
    show wpAny _ A.in1 (tryCatch (pyNext (.ref a)) _ >>= _) _ _ s
    refine wpAny_bind (wpAny_tryCatch (gen_next hh hd hgen G en (fun d rest' v s' ho G' id' => ?_) (fun ho s' hdn => ?_)))
    · subst ho
      obtain ⟨i, rfl, hf, hk2⟩ := hm
      obtain ⟨t, rfl⟩ := val_int id'
      obtain ⟨o2, he2, hS2⟩ := G'.sx
      cases he2
      have hc : ((decide (-(2 ^ 63) ≤ i) && decide (i < 2 ^ 63)) && (decide (-(2 ^ 63) ≤ n + i) && decide (n + i < 2 ^ 63))) = true := by
        simp only [Bool.and_eq_true, decide_eq_true_eq]
        exact hf
      show wpAny _ A.in1 (if (_ : Bool) = true then (mkInt (n + i) >>= _) else _) _ _ _
      split
      · refine wpAny_bind (wpAny_mkInt ?_)
        show wpAny _ A.in1 (updateSeq S (fun _ => #[.int (n + i) s'.toks]) >>= _) _ _ _
        refine wpAny_bind ?_
        refine wpAny_updateSeq hS2 rfl (wpAny_pure ⟨plainId_quiet PySem.F.plain_sum_loop _, ?_⟩)
        have hS3 := Heap.get?_update_self (Obj.mapSeq fun _ => (#[.int (n + i) s'.toks] : Array Value)) hS2 rfl
        have G3 := G'.sput (t' := s'.toks + 1) hk hS hpn ha (fun b u hb e => (Heap.get?_update_other _ (Obj.mapSeq fun _ => (#[.int (n + i) s'.toks] : Array Value)) (Ne.symm hb)).trans e) hS3 fun v z => by cases z
        exact ih rest'.length (by rw [← hkl]; exact nxt_len en) (j + 1) rest' ρ2 _ (n + i) s'.toks _ rfl G3 hk2
      · rename_i hneg
        exact absurd hc hneg
    · subst ho
      obtain ⟨rfl, rfl⟩ := hm
      exact wpAny_pure (hR tA _ s' hdn)
end
section
variable {X : Cx} {tg iter elt : Expr} {ifs : List Expr} {gpos p pos : Pos} {t0 t1 t2 sg : List Nat} {r : Option Nat} {fw : Env → R (List D)} {gg : W → Env → Option Env} {ft : Env → R Bool} {fe : Env → R W} {own : List (Str × Nat)} {scope : Scope} {c P : Addr} {k : Nat}
theorem vt_sumG (G : GenOk X k c P scope own iter) (hgl : Gl X "sum") (hm : X.mg "sum" = none) (hb : bootBuiltins "sum" = some (.builtin "sum")) (hi : PI X tg iter (WT X.K t0 r fw))
    (hg : ∀ (s : Shared) (H : Hp) (code : Value) (fp : List Addr), PG (gx X X.A.in1.in1 s H (genEnv scope (cloFrom X.env.cells scope.names []) s.heap.objs.size code builtinsNs X.env) fp) tg (GT X.K sg gg))
    (ht : ∀ (s : Shared) (H : Hp) (code : Value) (fp : List Addr), PTs (gx X X.A.in1.in1 s H (genEnv scope (cloFrom X.env.cells scope.names []) s.heap.objs.size code builtinsNs X.env) fp) ifs (BT X.K t1 ft))
    (he : ∀ (s : Shared) (H : Hp) (code : Value) (fp : List Addr), PE (gx X X.A.in1.in1 s H (genEnv scope (cloFrom X.env.cells scope.names []) s.heap.objs.size code builtinsNs X.env) fp) elt (VT X.K t2 none fe))
    (h0 : ∀ ρ w ρ', fe ρ = .ok w ρ' → w.2 = 0) (hsub : ∀ i, i ∈ sg → i ∈ own.map (·.2)) (hr : ∀ i, r = some i → i ∉ own.map (·.2) ++ (t1 ++ t2))
    (hst : starEach [.GeneratorExp elt [⟨tg, iter, ifs, 0⟩] scope gpos] X.env = (false, eval (.GeneratorExp elt [⟨tg, iter, ifs, 0⟩] scope gpos) X.env) :: starEach [] X.env) :
    PE X (.Call (.Name "sum" p) [.GeneratorExp elt [⟨tg, iter, ifs, 0⟩] scope gpos] [] pos) (VT X.K (t0 ++ (own.map (·.2) ++ (t1 ++ t2))) none (sumV (own.map (·.2)) fw gg ft fe)) := by
  refine ⟨fun pins s σ H Q I h => ?_⟩
  obtain ⟨ρ, F, w, ρ', hE, e, q⟩ := h
  obtain ⟨ds, ρ1, e1, e⟩ := bd_ok e
  obtain ⟨b, ρ2, e2, e⟩ := bd_ok e
  cases e
  refine wpAny_Call_Name_kw (L2.ld_blt I hgl hm hb ?_)
  refine PyProof.Rows.callWith_builtin1 ?_ hst (by rfl)
  rw [hst]
  show wpAny _ _ (spliced ((false, eval (.GeneratorExp elt [⟨tg, iter, ifs, 0⟩] scope gpos) X.env) :: backTo pos (starEach [] X.env))) _ _ s
  have hd := G.room.depth
  refine Calls.spliced_cons (gen_make (A1 := X.A.in1) hd (G.room.hd) I.ok.frames G.calm G.nd G.tab G.code G.inK G.co G.cell G.dot hi G.blk hg ht he h0 G.fold hsub hr I hE e1 fun u s5 ⟨a, g, Y, fp, ga, tn, Gw, T1, H1, σ1, F1, N0, hu, hY1, hY2, hY3, hgen, hkp, hfpl, hpn, hlt, hid, ⟨gs, hgs, hgo⟩, hdone⟩ => ?_)
  subst hu
  refine Calls.spliced_nil ?_
  refine call_function_tree PySem.F.kind_sum PySem.F.plain_sum PySem.F.entry_sum (PySem.F.args_sum1 _) ?_
  unfold Builtin.«sum»
  simp only [List.length_cons, List.length_nil]
  rw [if_neg (by decide)]
  refine wpAny_bind (wpAny_of_eq (show Builtin.Builtins.bindParams "sum" ["start"] 0 { } = pure [none] from rfl) ?_)
  obtain ⟨i5, H5, F5, I5, _⟩ := id hid
  have hga := (I5.pin (a, ga) (by simp)).1
  refine wpAny_bind (wpAny_pyIter_gen (hgen _ hga) ?_)
  refine wpAny_bind (wpAny_mkInt ?_)
  refine wpAny_bind (wpAny_pure ?_)
  simp only [List.forIn_cons, List.forIn_nil]
  refine wpAny_bind (wpAny_bind (wpAny_bind (wpAny_isInstance (T := "int") (b := false) (typeIs_int _ _ _) PySem.sub_int_str ?_)))
  simp only [Bool.false_eq_true, if_false]
  refine wpAny_pure (wpAny_bind (wpAny_bind (wpAny_isInstance (T := "int") (b := false) (typeIs_int _ _ _) PySem.sub_int_bytes ?_)))
  simp only [Bool.false_eq_true, if_false]
  refine wpAny_pure (wpAny_bind (wpAny_bind (wpAny_isInstance (T := "int") (b := false) (typeIs_int _ _ _) PySem.sub_int_bytearray ?_)))
  simp only [Bool.false_eq_true, if_false]
  refine wpAny_pure (wpAny_pure ?_)
  refine wpAny_bind (wpAny_newObj_type ?_)
  refine wpAny_pure ⟨plainId_quiet PySem.F.plain_sum_loop _, ?_⟩
  rw [← hY1, ← hY2]
  have hid2 := hid.snew (o := { cls := .type "list", data := .seq #[.int 0 s5.toks] }) (t' := s5.toks + 1) hkp hfpl rfl fun v z => by cases z
  have hat : GAt (some s5.heap.objs.size) Y X.A.in1 fp a g ga [(s5.heap.objs.size, { cls := .type "list", dict := none, data := .seq #[.int 0 s5.toks] 0, slots := #[] })] tn Gw T1 H1 σ1 (wip (own.map (·.2)) ρ1) F1 ds (eltV (own.map (·.2)) gg ft fe) N0 0 ds (wip (own.map (·.2)) ρ1) { s5 with heap := s5.heap.push { cls := .type "list", data := .seq #[.int 0 s5.toks] }, toks := s5.toks + 1 } :=
    ⟨hlt, rfl, hid2, ⟨_, rfl, Heap.get?_push_size _ rfl⟩, gs, hgs, hgo _⟩
  refine sum_loop (A := X.A) (S := s5.heap.objs.size) G.room.hd hd hgen hkp I5.sz hpn (Nat.ne_of_lt (Heap.lt_size hga)) (ρ' := ρ2) (b := b) (fun t ex s' hdn => ?_) _ 0 ds _ _ 0 _ _ rfl hat e2
  obtain ⟨H', F', I', P'⟩ := hdone _ ρ2 s' hdn
  exact ⟨.int b, H', I', ⟨t, rfl⟩, q _ H' F' _ P' (Pv.rf (by simp only [Rf]))⟩
end
end Q
end
section
set_option Elab.async false
set_option linter.all false
set_option maxRecDepth 100000
set_option maxHeartbeats 4000000
/-! QV: the readings under names, their side conditions by computation. -/
namespace Q
open PySem PySem.Spec PyProof.Rows
open L2 (V Hp HO TE TT TA TS TG TGs TI VK XK Sp upd SqL SqT Rd Inv Cx PE PA PK PT PW PG PGs PS PSs PI It R2 OpR CallR FnOk Ends FunD FnScope CX0 Binds KBn Vals Room Gl Vis cxOf pass0 wipe PTs BlkOk cloFrom FpOk frs)
def nrB (r : Option Nat) (t : List Nat) : Bool := match r with
  | none => true
  | some i => !t.contains i
theorem nr_of {r : Option Nat} {t : List Nat} (h : nrB r t = true) : ∀ i, r = some i → i ∉ t := fun i e z => by
  subst e
  simp [nrB] at h
  exact h z
def inB (s t : List Nat) : Bool := s.all t.contains
theorem in_of {s t : List Nat} (h : inB s t = true) : ∀ i, i ∈ s → i ∈ t := fun i hi => by
  have := List.all_eq_true.mp h i hi
  simpa using this
/-! ### what they are worth -/
def varV (i : Nat) (ρ : Env) : R W := match gt ρ i with
  | some w => .ok w ρ
  | none => .no
def mvV (i : Nat) (ρ : Env) : R W := match gt ρ i with
  | some w => .ok w (ρ.set i none)
  | none => .no
def fzV (i : Nat) (ρ : Env) : R W := match gt ρ i with
  | some w => .ok (w.1, 0) (ρ.set i (some (w.1, 0)))
  | none => .no
def cV (d : D) (ρ : Env) : R W := .ok (d, 0) ρ
def ecV (f : Env → R W) (ρ : Env) : R W := bd (f ρ) ec
def coV (m : Nat) (f : Env → R W) (ρ : Env) : R W := bd (f ρ) (co m)
def binV (sem : W → W → Option W) (f g : Env → R W) (ρ : Env) : R W := bd (f ρ) fun x ρ => bd (g ρ) fun y ρ => (match sem x y with
  | some w => .ok w ρ
  | none => .no)
def cmpV (o : Cop) (f g : Env → R W) (ρ : Env) : R W := bd (f ρ) fun x ρ => bd (g ρ) fun y ρ => (match cop o x.1 y.1 with
  | some k => .ok (.bl k, 0) ρ
  | none => .no)
def chainV (o o' : Cop) (f g h : Env → R W) (ρ : Env) : R W := bd (f ρ) fun x ρ => bd (g ρ) fun y ρ => (match cop o x.1 y.1 with
  | some true => bd (h ρ) fun u ρ => (match cop o' y.1 u.1 with
    | some k => .ok (.bl k, 0) ρ
    | none => .no)
  | some false => .ok (.bl false, 0) ρ
  | none => .no)
def truB (f : Env → R W) (ρ : Env) : R Bool := bd (f ρ) tru
def notB (p : Env → R Bool) (ρ : Env) : R Bool := bd (p ρ) fun k ρ => .ok (!k) ρ
def andB1 (p : Env → R Bool) (ρ : Env) : R Bool := bd (p ρ) fun k ρ => (match k with
  | true => .ok true ρ
  | false => .ok false ρ)
def andB (p q : Env → R Bool) (ρ : Env) : R Bool := bd (p ρ) fun k ρ => (match k with
  | true => q ρ
  | false => .ok false ρ)
def orB (p q : Env → R Bool) (ρ : Env) : R Bool := bd (p ρ) fun k ρ => (match k with
  | true => .ok true ρ
  | false => q ρ)
def ifV (p : Env → R Bool) (f g : Env → R W) (ρ : Env) : R W := bd (p ρ) fun k ρ => (match k with
  | true => f ρ
  | false => g ρ)
def notV (f : Env → R W) (ρ : Env) : R W := bd (f ρ) fun x ρ => (match truth x.1 with
  | some k => .ok (.bl (!k), 0) ρ
  | none => .no)
def negV (f : Env → R W) (ρ : Env) : R W := bd (f ρ) fun x ρ => (match x with
  | (.int i, _) => .ok (.int (-i), 0) ρ
  | _ => .no)
def andV (f g : Env → R W) (ρ : Env) : R W := bd (f ρ) fun x ρ => (match x.1 with
  | .bl true => g ρ
  | .bl false => .ok (.bl false, 0) ρ
  | _ => .no)
def orV (f g : Env → R W) (ρ : Env) : R W := bd (f ρ) fun x ρ => (match x.1 with
  | .bl true => .ok (.bl true, 0) ρ
  | .bl false => g ρ
  | _ => .no)
def subV (f g : Env → R W) (ρ : Env) : R W := bd (f ρ) fun x ρ => bd (g ρ) fun j ρ => (match item x j.1 with
  | some w => .ok w ρ
  | none => .no)
def noO (ρ : Env) : R (Option Int) := .ok none ρ
def yesO (f : Env → R W) (ρ : Env) : R (Option Int) := bd (f ρ) fun x ρ => (match x.1 with
  | .int i => .ok (some i) ρ
  | _ => .no)
def slcV (f : Env → R W) (g h : Env → R (Option Int)) (ρ : Env) : R W := bd (f ρ) fun x ρ => bd (g ρ) fun l ρ => bd (h ρ) fun u ρ => (match slice x l u with
  | some w => .ok w ρ
  | none => .no)
def tupV (g : Env → R (List W)) (ρ : Env) : R W := bd (g ρ) fun ws ρ => if ws.length ≤ line then .ok (.tup (ws.map (·.1)), 0) ρ else .no
def lstV (m : Nat) (g : Env → R (List W)) (ρ : Env) : R W := bd (g ρ) fun ws ρ => if ws.length ≤ line then .ok (.lst (ws.map (·.1)), m + 1) ρ else .no
def bltV (sem : List W → Option W) (g : Env → R (List W)) (ρ : Env) : R W := bd (g ρ) fun ws ρ => (match sem ws with
  | some w => .ok w ρ
  | none => .no)
def consV (f : Env → R W) (g : Env → R (List W)) (ρ : Env) : R (List W) := bd (f ρ) fun x ρ => bd (g ρ) fun xs ρ => .ok (x :: xs) ρ
def consA (f : Env → R W) (g : Env → R (List (Option W))) (ρ : Env) : R (List (Option W)) := bd (f ρ) fun x ρ => bd (g ρ) fun xs ρ => .ok (some x :: xs) ρ
def consI (i : Nat) (g : Env → R (List (Option W))) (ρ : Env) : R (List (Option W)) := match gt ρ i with
  | some _ => bd (g ρ) fun xs ρ => .ok (none :: xs) ρ
  | none => .no
def yesB (ρ : Env) : R Bool := .ok true ρ
def itemsV (f : Env → R W) (ρ : Env) : R (List D) := bd (f ρ) itemsR
def rngV (g : Env → R (List W)) (ρ : Env) : R (List D) := bd (g ρ) rngR
def plV (i : Nat) (ρ : Env) : R (List D) := match gt ρ i with
  | some _ => .ok [] ρ
  | none => .no
def plS (i : Nat) (f : Env → R (List D)) (g : Env → R W) (ρ : Env) : R (List D) := bd (f ρ) fun p ρ => bd (g ρ) fun j ρ => plStep i p j.1 ρ
def gN (i : Nat) (w : W) (ρ : Env) : Option Env := if i < ρ.length then some (ρ.set i (some w)) else none
def gT (h : List D → Env → Option Env) (w : W) (ρ : Env) : Option Env := match w with
  | (.tup ds, _) => h ds ρ
  | _ => none
def gNil (ds : List D) (ρ : Env) : Option Env := match ds with
  | [] => some ρ
  | _ => none
def gCons (g : W → Env → Option Env) (h : List D → Env → Option Env) (ds : List D) (ρ : Env) : Option Env := match ds with
  | d :: ds => (match g (d, 0) ρ with
    | some ρ' => h ds ρ'
    | none => none)
  | [] => none
def doneS (ρ : Env) : R Fl := .ok .nx ρ
def exS (f : Env → R W) (ρ : Env) : R Fl := bd (f ρ) fun _ ρ => .ok .nx ρ
def retS (f : Env → R W) (ρ : Env) : R Fl := bd (f ρ) fun w ρ => .ok (.rt w) ρ
def brkS (ρ : Env) : R Fl := .ok .bk ρ
def cntS (ρ : Env) : R Fl := .ok .ct ρ
def ifS (p : Env → R Bool) (f g : Env → R Fl) (ρ : Env) : R Fl := bd (p ρ) fun k ρ => (match k with
  | true => f ρ
  | false => g ρ)
def asgS (f : Env → R W) (g : W → Env → Option Env) (ρ : Env) : R Fl := bd (f ρ) fun w ρ => (match g w ρ with
  | some ρ' => .ok .nx ρ'
  | none => .no)
def augS (i : Nat) (sem : W → W → Option W) (f : Env → R W) (ρ : Env) : R Fl := match gt ρ i with
  | none => .no
  | some _ => bd (f ρ) fun y ρ => (match gt ρ i with
    | some x => if x.1.leaf then (match sem x y with
      | some w => .ok .nx (ρ.set i (some w))
      | none => .no) else .no
    | none => .no)

/-! ### depths -/
def D1 (m : Nat) (f : Env → R W) : Prop := ∀ ρ w ρ', f ρ = .ok w ρ' → w.2 = m
def Dn (m n : Nat) (g : Env → R (List W)) : Prop := ∀ ρ ws ρ', g ρ = .ok ws ρ' → ws.length = n ∧ ∀ w ∈ ws, w.2 = m
theorem d1_co {m : Nat} {f : Env → R W} : D1 m (coV m f) := fun ρ w ρ' h => by
  obtain ⟨x, ρ1, _, e⟩ := bd_ok h
  unfold co coe at e
  by_cases hm : m = 0
  · rw [if_pos hm] at e; cases e; exact hm.symm
  · rw [if_neg hm] at e
    by_cases hl : x.1.leaf = true
    · rw [if_pos hl] at e; cases e; rfl
    · rw [if_neg hl] at e
      by_cases h2 : x.2 = m
      · rw [if_pos h2] at e; cases e; exact h2
      · rw [if_neg h2] at e; cases e
theorem dn_nil {m : Nat} : Dn m 0 okNil := fun ρ ws ρ' h => by cases h; exact ⟨rfl, fun _ z => by cases z⟩
theorem dn_cons {m n : Nat} {f : Env → R W} {g : Env → R (List W)} (h1 : D1 m f) (h2 : Dn m n g) : Dn m (n + 1) (consV f g) := fun ρ ws ρ' h => by
  obtain ⟨x, ρ1, e1, e⟩ := bd_ok h
  obtain ⟨xs, ρ2, e2, e⟩ := bd_ok e
  cases e
  obtain ⟨l, a⟩ := h2 _ _ _ e2
  exact ⟨by simp [l], fun w hw => (List.mem_cons.mp hw).elim (fun z => z ▸ h1 _ _ _ e1) (a w)⟩
/-- items of the depth m -/
structure PAm (X : Cx) (es : List Expr) (t : List Nat) (m n : Nat) (g : Env → R (List W)) : Prop where
  pa : PA X es (AT X.K t g)
  dn : Dn m n g
structure PKm (X : Cx) (kws : List Keyword) (t : List Nat) (n : Nat) (g : Env → R (List W)) : Prop where
  pk : PK X kws (KA X.K t g)
  dn : Dn 0 n g
section
variable {X : Cx} {e a b c l o elt tg iter : Expr} {es ifs : List Expr} {st : Stmt} {rest body els : List Stmt} {pos p p2 tpos : Pos} {x : Str} {t t1 t2 t3 s s1 s2 sg : List Nat} {r r1 r2 r3 : Option Nat} {f g h fe fj : Env → R W} {q1 q2 : Env → R Bool} {ga : Env → R (List W)} {k n m i : Nat} {j j2}
theorem q_v (i : Nat) (hN : X.N[i]? = some x := by rfl) (hv : Vis X.env.scope x := by first | exact Or.inl rfl | exact Or.inr (Or.inl rfl) | exact Or.inr (Or.inr rfl)) (hd : (x == ("__debug__" : Str)) = false := by decide) (hcd : (x == ("__classdict__" : Str)) = false := by decide) : PE X (.Name x pos) (VT X.K [] (some i) (varV i)) := vt_var (L2.pe_var hN hv hd hcd)
theorem q_mv (i : Nat) (hN : X.N[i]? = some x := by rfl) (hv : Vis X.env.scope x := by first | exact Or.inl rfl | exact Or.inr (Or.inl rfl) | exact Or.inr (Or.inr rfl)) (hd : (x == ("__debug__" : Str)) = false := by decide) (hcd : (x == ("__classdict__" : Str)) = false := by decide) : PE X (.Name x pos) (VT X.K [i] none (mvV i)) := vt_mv (L2.pe_var hN hv hd hcd)
theorem q_fz (i : Nat) (hN : X.N[i]? = some x := by rfl) (hv : Vis X.env.scope x := by first | exact Or.inl rfl | exact Or.inr (Or.inl rfl) | exact Or.inr (Or.inr rfl)) (hd : (x == ("__debug__" : Str)) = false := by decide) (hcd : (x == ("__classdict__" : Str)) = false := by decide) : PE X (.Name x pos) (VT X.K [i] none (fzV i)) := vt_fz (L2.pe_var hN hv hd hcd)
theorem q_int {i : Int} : PE X (.Constant (.int i) j pos) (VT X.K [] none (cV (.int i))) := vt_flat L2.pe_int fun _ => by simp only [Rf]
theorem q_bl {i : Bool} : PE X (.Constant (.bool i) j pos) (VT X.K [] none (cV (.bl i))) := vt_flat L2.pe_bl fun _ => by simp only [Rf]
theorem q_str {i : Str} : PE X (.Constant (.str i) j pos) (VT X.K [] none (cV (.str i))) := vt_flat L2.pe_str fun _ => by simp only [Rf]
theorem q_non : PE X (.Constant .none j pos) (VT X.K [] none (cV .non)) := vt_flat L2.pe_non fun _ => by simp only [Rf]
theorem q_gi {i : Int} (hm : ∃ t, X.mg x = some (.int i t)) (hg : Gl X x := by rfl) (hd : (x == ("__debug__" : Str)) = false := by decide) : PE X (.Name x pos) (VT X.K [] none (cV (.int i))) := by
  obtain ⟨t, hm⟩ := hm
  exact vt_flat (L2.pe_glob (v := .int i) hg hm ⟨t, rfl⟩ hd) fun _ => by simp only [Rf]
theorem q_gs {i : Str} (hm : ∃ t, X.mg x = some (.str i t)) (hg : Gl X x := by rfl) (hd : (x == ("__debug__" : Str)) = false := by decide) : PE X (.Name x pos) (VT X.K [] none (cV (.str i))) := by
  obtain ⟨t, hm⟩ := hm
  exact vt_flat (L2.pe_glob (v := .str i) hg hm ⟨t, rfl⟩ hd) fun _ => by simp only [Rf]
theorem q_ec (h : PE X e (VT X.K t r f)) : PE X e (VT X.K t none (ecV f)) := vt_ec h
theorem q_co (m : Nat) (h : PE X e (VT X.K t none f)) : PE X e (VT X.K t none (coV m f)) := vt_co h
theorem q_bin {op : Operator} {sem : W → W → Option W} (ho : OpR X (binaryOp op) (RB X.K sem)) (ha : PE X a (VT X.K t1 r1 f)) (hb : PE X b (VT X.K t2 r2 g)) (hr : nrB r1 t2 = true := by rfl) : PE X (.BinOp a op b pos) (VT X.K (t1 ++ t2) none (binV sem f g)) := vt_bin ho ha hb (nr_of hr)
theorem q_cmp (o : Cop) (rm : Room n X.A) (ha : PE X a (VT X.K t1 r1 f)) (hb : PE X b (VT X.K t2 r2 g)) (hr : nrB r1 t2 = true := by rfl) (hp : plainX b = true := by rfl) : PE X (.Compare a [pyCop o] [b] pos) (VT X.K (t1 ++ t2) none (cmpV o f g)) := vt_cmp hp (oc n rm o) ha hb (nr_of hr)
theorem q_cmpB (o : Cop) (rm : Room n X.A) (ha : PE X a (VT X.K t1 r1 f)) (hb : PE X b (VT X.K t2 r2 g)) (hr : nrB r1 t2 = true := by rfl) (hp : plainX b = true := by rfl) : PT X (.Compare a [pyCop o] [b] pos) (BT X.K (t1 ++ t2) (truB (cmpV o f g))) := bt_cmp hp (oc n rm o) ha hb (nr_of hr)
theorem q_chain (o o' : Cop) (rm : Room n X.A) (pa : PE X a (VT X.K t1 r1 f)) (pb : PE X b (VT X.K t2 r2 g)) (pc : PE X c (VT X.K t3 r3 h)) (hr1 : nrB r1 t2 = true := by rfl) (hr2 : nrB r2 t3 = true := by rfl) (hb : plainX b = true := by rfl) (hc : plainX c = true := by rfl) :
    PE X (.Compare a [pyCop o, pyCop o'] [b, c] pos) (VT X.K (t1 ++ (t2 ++ t3)) none (chainV o o' f g h)) := vt_chain hb hc (oc n rm o) (oc n rm o') pa pb pc (nr_of hr1) (nr_of hr2)
theorem q_chainB (o o' : Cop) (rm : Room n X.A) (pa : PE X a (VT X.K t1 r1 f)) (pb : PE X b (VT X.K t2 r2 g)) (pc : PE X c (VT X.K t3 r3 h)) (hr1 : nrB r1 t2 = true := by rfl) (hr2 : nrB r2 t3 = true := by rfl) (hb : plainX b = true := by rfl) (hc : plainX c = true := by rfl) :
    PT X (.Compare a [pyCop o, pyCop o'] [b, c] pos) (BT X.K (t1 ++ (t2 ++ t3)) (truB (chainV o o' f g h))) := bt_chain hb hc (oc n rm o) (oc n rm o') pa pb pc (nr_of hr1) (nr_of hr2)
theorem q_tru (h : PE X e (VT X.K t r f)) (hv : valX e = true := by rfl) : PT X e (BT X.K t (truB f)) := bt_val hv h
theorem q_notB (h : PT X e (BT X.K t q1)) : PT X (.UnaryOp .Not e pos) (BT X.K t (notB q1)) := bt_not h
theorem w_and1 (h : PT X e (BT X.K t q1)) : PW X (.BoolOp .And [e] pos) (BT X.K (t ++ []) (andB1 q1)) := bw_and1 h
theorem w_or1 (h : PT X e (BT X.K t q1)) : PW X (.BoolOp .Or [e] pos) (BT X.K (t ++ []) (andB1 q1)) := bw_or1 h
theorem w_and (h : PT X a (BT X.K t1 q1)) (h2 : PW X (.BoolOp .And (b :: es) pos) (BT X.K t2 q2)) : PW X (.BoolOp .And (a :: b :: es) pos) (BT X.K (t1 ++ t2) (andB q1 q2)) := bw_and h h2
theorem w_or (h : PT X a (BT X.K t1 q1)) (h2 : PW X (.BoolOp .Or (b :: es) pos) (BT X.K t2 q2)) : PW X (.BoolOp .Or (a :: b :: es) pos) (BT X.K (t1 ++ t2) (orB q1 q2)) := bw_or h h2
theorem q_if (hc : PT X c (BT X.K t1 q1)) (ha : PE X a (VT X.K t2 none f)) (hb : PE X b (VT X.K t3 none g)) : PE X (.IfExp c a b pos) (VT X.K (t1 ++ (t2 ++ t3)) none (ifV q1 f g)) := vt_if hc ha hb
theorem q_not (h : PE X e (VT X.K t r f)) : PE X (.UnaryOp .Not e pos) (VT X.K t none (notV f)) := vt_not h
theorem q_neg (h : PE X e (VT X.K t r f)) : PE X (.UnaryOp .USub e pos) (VT X.K t none (negV f)) := vt_neg h
theorem q_one {op : BoolOp} (h : PE X e (VT X.K t r f)) : PE X (.BoolOp op [e] pos) (VT X.K t r f) := L2.pe_one h
theorem q_and (h : PE X a (VT X.K t1 r f)) (h2 : PE X (.BoolOp .And (b :: es) pos) (VT X.K t2 none g)) : PE X (.BoolOp .And (a :: b :: es) pos) (VT X.K (t1 ++ t2) none (andV f g)) := vt_and h h2
theorem q_or (h : PE X a (VT X.K t1 r f)) (h2 : PE X (.BoolOp .Or (b :: es) pos) (VT X.K t2 none g)) : PE X (.BoolOp .Or (a :: b :: es) pos) (VT X.K (t1 ++ t2) none (orV f g)) := vt_or h h2
theorem q_sub (ha : PE X a (VT X.K t1 r1 f)) (hb : PE X b (VT X.K t2 r2 g)) (hr : nrB r1 t2 = true := by rfl) (hp : plainX b = true := by rfl) : PE X (.Subscript a b pos) (VT X.K (t1 ++ t2) r1 (subV f g)) := vt_sub hp ha hb (nr_of hr)
theorem o_no : L2.PO X none (PT0 X.K [] noO) := po_no
theorem o_yes (h : PE X a (VT X.K t r f)) : L2.PO X (some a) (PT0 X.K t (yesO f)) := po_yes h
theorem q_slc {lo hi : Option Expr} {fl fh : Env → R (Option Int)} (he : PE X a (VT X.K t1 r1 f)) (hl : L2.PO X lo (PT0 X.K t2 fl)) (hh : L2.PO X hi (PT0 X.K t3 fh)) (hr : nrB r1 (t2 ++ t3) = true := by rfl) : PE X (.Subscript a (.Slice lo hi none p2) pos) (VT X.K (t1 ++ (t2 ++ t3)) none (slcV f fl fh)) := vt_slc he hl hh (nr_of hr)
theorem m_nil : PAm X [] [] m 0 okNil := ⟨at_nil, dn_nil⟩
theorem m_cons (h : PE X e (VT X.K t1 none f)) (hs : PAm X es t2 m n ga) (hp : plainX e = true := by rfl) : PAm X (e :: es) (t1 ++ t2) m (n + 1) (consV (coV m f) ga) := ⟨at_cons hp (vt_co h) hs.pa, dn_cons d1_co hs.dn⟩
theorem q_tup (h : PAm X es t 0 n ga) : PE X (.Tuple es k pos) (VT X.K t none (tupV ga)) := vt_tup h.pa fun _ _ _ e => (h.dn _ _ _ e).2
theorem q_lst (h : PAm X es t m n ga) : PE X (.List es pos) (VT X.K t none (lstV m ga)) := vt_lst h.pa fun _ _ _ e => (h.dn _ _ _ e).2
theorem b_nil : PA X [] (BA X.K [] [] okNil) := ba_end L2.pa_nil
/-- the second argument of isinstance -/
theorem b_ty {T : String} (hm : X.mg x = none) (hv : bootBuiltins x = some (.type T)) (hg : Gl X x := by rfl) (hn : x ≠ "__name__" := by decide) (hd : (x == ("__debug__" : Str)) = false := by decide) : PA X [.Name x p] (BA X.K [] [.ty T] okNil) :=
  ba_end (PA_imp (L2.pa_cons (L2.pe_bltn (v := .ty T) hg hm hv rfl hn hd) L2.pa_nil) fun σ H Q h => h)
theorem b_cons {ext : List V} (h : PE X e (VT X.K t1 r f)) (hs : PA X es (BA X.K t2 ext ga)) (hr : nrB r t2 = true := by rfl) (hp : plainX e = true := by rfl) : PA X (e :: es) (BA X.K (t1 ++ t2) ext (consV f ga)) := ba_cons hp h hs (nr_of hr)
theorem q_bltB {id : String} {ext : List V} {sem : List W → Option W} (hc : CallR X (.builtin id) (CB X.K ext sem)) (hm : X.mg x = none) (hv : bootBuiltins x = some (.builtin id)) (ha : PA X (e :: es) (BA X.K t ext ga)) (hg : Gl X x := by rfl) (hp : (e :: es).all plainX = true := by rfl)
    (hn : x ≠ "__name__" := by decide) (hdb : (x == ("__debug__" : Str)) = false := by decide) : PE X (.Call (.Name x p) (e :: es) [] pos) (VT X.K t none (bltV sem ga)) := vt_bltB hc hg hm hv hp ha hn hdb
theorem q_bltT {T : String} {ext : List V} {sem : List W → Option W} (hc : CallR X (.type T) (CB X.K ext sem)) (hm : X.mg x = none) (hv : bootBuiltins x = some (.type T)) (ha : PA X (e :: es) (BA X.K t ext ga)) (hg : Gl X x := by rfl) (hp : (e :: es).all plainX = true := by rfl)
    (hn : x ≠ "__name__" := by decide) (hdb : (x == ("__debug__" : Str)) = false := by decide) : PE X (.Call (.Name x p) (e :: es) [] pos) (VT X.K t none (bltV sem ga)) := vt_bltT hc hg hm hv hp ha hn hdb
end
end Q
end
section
set_option Elab.async false
set_option linter.all false
set_option maxRecDepth 100000
set_option maxHeartbeats 4000000
/-! QW: calls, comprehensions, statements under names. -/
namespace Q
open PySem PySem.Spec PyProof.Rows
open L2 (V Hp HO TE TT TA TS TG TGs TI VK XK Sp upd SqL SqT Rd Inv Cx PE PA PK PT PW PG PGs PS PSs PI It R2 OpR CallR FnOk Ends FunD FnScope CX0 Binds KBn Vals Room Gl Vis cxOf pass0 wipe PTs BlkOk cloFrom FpOk frs)
/-- arguments of a def -/
theorem c_nil {X : Cx} : PA X [] (CA X.K [] [] okNilA) := ca_nil
section
variable {X : Cx} {e a b c l o elt tg iter : Expr} {es ifs : List Expr} {st : Stmt} {rest body els : List Stmt} {pos p p2 tpos gpos : Pos} {x : Str} {t t0 t1 t2 t3 s s1 s2 sg : List Nat} {r r1 r2 r3 : Option Nat} {f g h fe fj : Env → R W} {q1 q2 ft : Env → R Bool} {ga : Env → R (List W)} {fa : Env → R (List (Option W))} {k n m i : Nat} {j j2} {ss : List (Option Nat)} {fs gs : Env → R Fl} {fw : Env → R (List D)} {gg : W → Env → Option Env}
theorem c_val (h : PE X e (VT X.K t1 none f)) (hs : PA X es (CA X.K t2 ss fa)) (hp : plainX e = true := by rfl) : PA X (e :: es) (CA X.K (t1 ++ t2) (none :: ss) (consA (coV 0 f) fa)) := ca_val hp (vt_co h) d1_co hs
theorem c_io (i : Nat) (hs : PA X es (CA X.K t2 ss fa)) (hN : X.N[i]? = some x := by rfl) (hv : Vis X.env.scope x := by first | exact Or.inl rfl | exact Or.inr (Or.inl rfl) | exact Or.inr (Or.inr rfl)) (hd : (x == ("__debug__" : Str)) = false := by decide) (hcd : (x == ("__classdict__" : Str)) = false := by decide) :
    PA X (.Name x pos :: es) (CA X.K (t2) (some i :: ss) (consI i fa)) := ca_io rfl (L2.pe_var hN hv hd hcd) hs
theorem k_nil : PKm X [] [] 0 okNil := ⟨ka_nil, dn_nil⟩
theorem k_cons {nm : Option Str} {kpos : Pos} {kws : List Keyword} (h : PE X e (VT X.K t1 none f)) (hs : PKm X kws t2 n ga) : PKm X (⟨nm, e, kpos⟩ :: kws) (t1 ++ t2) (n + 1) (consV (coV 0 f) ga) := ⟨ka_cons (vt_co h) d1_co hs.pk, dn_cons d1_co hs.dn⟩
theorem nd_of {l : List Nat} (h : decide l.Nodup = true) : l.Nodup := of_decide_eq_true h
section
variable {fn : Addr} {fd : FuncData} {ps ks : List Str} {cr : Nat → List Ar → CR} {ix : Nat} {pm : List Nat} {kws : List Keyword}
theorem q_call (F : FnOk X.prog X.w X.K X.mg X.base CX0 k fn fd ps (FSp X.K cr ix)) (hr : Room k X.A) (hm : X.mg x = some (.ref fn)) (hk : PySem.W.keepIn X.K (.ref fn) = true) (hb : Binds X.K fd ps []) (ha : PA X (e :: es) (CA X.K t ss fa)) (nd : decide (given ss).Nodup = true := by rfl)
    (hg : Gl X x := by rfl) (hp : plainX e = true := by rfl) (hps : es.all plainX = true := by rfl) (hdb : (x == ("__debug__" : Str)) = false := by decide) : PE X (.Call (.Name x p) (e :: es) [] pos) (VT X.K (t ++ ([] ++ given ss)) none (callV cr ix [] ss fa okNil)) := vt_call F hr hg hm hk hb (nd_of nd) ha hp hps hdb
theorem q_call0 (F : FnOk X.prog X.w X.K X.mg X.base CX0 k fn fd ps (FSp X.K cr ix)) (hr : Room k X.A) (hm : X.mg x = some (.ref fn)) (hk : PySem.W.keepIn X.K (.ref fn) = true) (hb : Binds X.K fd ps [])
    (hg : Gl X x := by rfl) (hdb : (x == ("__debug__" : Str)) = false := by decide) : PE X (.Call (.Name x p) [] [] pos) (VT X.K ([] ++ ([] ++ given [])) none (callV cr ix [] [] okNilA okNil)) := vt_call0 F hr hg hm hk hb hdb
theorem q_callK (pm : List Nat) (F : FnOk X.prog X.w X.K X.mg X.base CX0 k fn fd ps (FSp X.K cr ix)) (hr : Room k X.A) (hm : X.mg x = some (.ref fn)) (hk : PySem.W.keepIn X.K (.ref fn) = true) (hb : KBn X.K fd ps ss.length ks (fun us ws => us ++ pick pm ws) (fun us ws => us ++ pick pm ws)) (ha : PA X (e :: es) (CA X.K t ss fa)) (hkw : PKm X kws t2 ks.length ga)
    (nd : decide (given ss).Nodup = true := by rfl) (hg : Gl X x := by rfl) (hp : plainX e = true := by rfl) (hps : es.all plainX = true := by rfl) (hdb : (x == ("__debug__" : Str)) = false := by decide)
    (hall : (backToKw pos (keywordEach kws X.env)).all (·.1.isSome) = true := by rfl) (hks : (backToKw pos (keywordEach kws X.env)).filterMap (·.1) = ks := by rfl) (hpl : ((backTo pos (starEach (e :: es) X.env)).any (·.1) || (backToKw pos (keywordEach kws X.env)).any (·.1.isNone)) = false := by rfl) :
    PE X (.Call (.Name x p) (e :: es) kws pos) (VT X.K (t ++ (t2 ++ given ss)) none (callV cr ix pm ss fa ga)) := vt_callK F hr hg hm hk hb (nd_of nd) ha hkw.pk (fun _ _ _ e => (hkw.dn _ _ _ e).1) hp hps hdb hall hks hpl
theorem q_callKK (pm : List Nat) (F : FnOk X.prog X.w X.K X.mg X.base CX0 k fn fd ps (FSp X.K cr ix)) (hr : Room k X.A) (hm : X.mg x = some (.ref fn)) (hk : PySem.W.keepIn X.K (.ref fn) = true) (hb : KBn X.K fd ps 0 ks (fun us ws => us ++ pick pm ws) (fun us ws => us ++ pick pm ws)) (hkw : PKm X kws t2 ks.length ga)
    (hg : Gl X x := by rfl) (hdb : (x == ("__debug__" : Str)) = false := by decide)
    (hall : (backToKw pos (keywordEach kws X.env)).all (·.1.isSome) = true := by rfl) (hks : (backToKw pos (keywordEach kws X.env)).filterMap (·.1) = ks := by rfl) (hpl : ((backTo pos (starEach [] X.env)).any (·.1) || (backToKw pos (keywordEach kws X.env)).any (·.1.isNone)) = false := by rfl) :
    PE X (.Call (.Name x p) [] kws pos) (VT X.K ([] ++ (t2 ++ given [])) none (callV cr ix pm [] okNilA ga)) := vt_callKK F hr hg hm hk hb hkw.pk (fun _ _ _ e => (hkw.dn _ _ _ e).1) hdb hall hks hpl
end
/-! ### places -/
theorem l_v (i : Nat) (hN : X.N[i]? = some x := by rfl) (hv : Vis X.env.scope x := by first | exact Or.inl rfl | exact Or.inr (Or.inl rfl) | exact Or.inr (Or.inr rfl)) (hd : (x == ("__debug__" : Str)) = false := by decide) (hcd : (x == ("__classdict__" : Str)) = false := by decide) : PE X (.Name x pos) (PlT X.K [] i (plV i)) := pl_var (L2.pe_var hN hv hd hcd)
theorem l_sub (ha : PE X a (PlT X.K t1 i fw)) (hb : PE X b (VT X.K t2 r2 g)) (hi : t2.contains i = false := by rfl) (hp : plainX b = true := by rfl) : PE X (.Subscript a b pos) (PlT X.K (t1 ++ t2) i (plS i fw g)) := pl_sub hp ha hb (by simpa using hi)
section
variable {apos cpos : Pos}
theorem few_one {e : Expr} {env : PySem.Env} (h : plainX e = true) : ((backTo cpos (starEach [e] env)).all (fun x => !x.1) && (backToKw cpos (keywordEach [] env)).all (fun x => x.1.isSome)
      && decide ([e].length + ([] : List Keyword).length + (if ([] : List Keyword).isEmpty then 0 else 1) < 30)) = true := by
  rw [star_of h]
  rfl
theorem q_append (m : Nat) (ho : PE X o (PlT X.K t1 i fw)) (he : PE X e (VT X.K t2 none f)) (hi : (t2 ++ []).contains i = false := by rfl) (hp : plainX e = true := by rfl) (hbase : attributeBase o "append" X.env (eval o X.env) = eval o X.env := by rfl) (hline : (apos.endLine == cpos.line) = true := by rfl) :
    PE X (.Call (.Attribute o "append" apos) [e] [] cpos) (VT X.K (t1 ++ (t2 ++ []) ++ [i]) none (mutV (.append m) i fw (consV (coV m f) okNil))) :=
  have z := m_cons (m := m) he m_nil hp
  vt_append (by simpa using hi) hp rfl (by decide) ho z.pa (fun _ _ _ e => (z.dn _ _ _ e).2) hbase (few_one hp) hline
theorem q_popAt (ho : PE X o (PlT X.K t1 i fw)) (he : PE X e (VT X.K t2 none f)) (hi : (t2 ++ []).contains i = false := by rfl) (hp : plainX e = true := by rfl) (hbase : attributeBase o "pop" X.env (eval o X.env) = eval o X.env := by rfl) (hline : (apos.endLine == cpos.line) = true := by rfl) :
    PE X (.Call (.Attribute o "pop" apos) [e] [] cpos) (VT X.K (t1 ++ (t2 ++ []) ++ [i]) none (mutV .popAt i fw (consV (coV 0 f) okNil))) :=
  have z := m_cons (m := 0) he m_nil hp
  PE_imp (L2.pe_bm PySem.F.plainAttrs_list PySem.F.slot_list_pop PySem.F.type_list_pop L2.mt_popAt ho z.pa hbase (few_one hp) hline (star_of hp) (back_plain rfl)) fun σ H Q h => mut_imp (by simpa using hi) mr_popAt (fun _ _ _ e => (z.dn _ _ _ e).2) h
theorem at0_imp {K : Fg} {σ : Sg} {H : Hp} {Q : List V → Hp → Prop} (h : AT K [] okNil σ H Q) : Q [] H := by
  obtain ⟨ρ, F, ws, ρ', hE, e, q⟩ := h
  cases e
  exact q [] H F (fun _ _ => False) (Po.refl hE) ⟨rfl, fun k w v h => by simp at h, fun _ _ _ z => z.elim, fun _ _ _ z => z.elim⟩
theorem mut0_imp {m : Mut} {rr : V → List V → Hp → VK → Prop} {K : Fg} {σ : Sg} {H : Hp} {Q : VK} (hr : MutR K m rr) (h : VT K (t1 ++ [] ++ [i]) none (mutV m i fw okNil) σ H Q) : L2.tBM0 K "list" rr (PlT K t1 i fw) σ H Q := by
  have := mut_imp (t2 := []) (by simp) hr (fun _ _ _ e => (dn_nil _ _ _ e).2) h
  obtain ⟨ρ, F, p, ρ', hE, e, q⟩ := this
  exact ⟨ρ, F, p, ρ', hE, e, fun v H' F' P hh => let ⟨a, b⟩ := q v H' F' P hh; ⟨a, at0_imp b⟩⟩
theorem q_pop (ho : PE X o (PlT X.K t1 i fw)) (hbase : attributeBase o "pop" X.env (eval o X.env) = eval o X.env := by rfl) (hline : (apos.endLine == cpos.line) = true := by rfl) :
    PE X (.Call (.Attribute o "pop" apos) [] [] cpos) (VT X.K (t1 ++ [] ++ [i]) none (mutV .pop i fw okNil)) :=
  PE_imp (L2.pe_bm0 PySem.F.plainAttrs_list PySem.F.slot_list_pop PySem.F.type_list_pop L2.mt_pop ho hbase hline) fun σ H Q h => mut0_imp mr_pop h
theorem q_reverse (ho : PE X o (PlT X.K t1 i fw)) (hbase : attributeBase o "reverse" X.env (eval o X.env) = eval o X.env := by rfl) (hline : (apos.endLine == cpos.line) = true := by rfl) :
    PE X (.Call (.Attribute o "reverse" apos) [] [] cpos) (VT X.K (t1 ++ [] ++ [i]) none (mutV .reverse i fw okNil)) :=
  PE_imp (L2.pe_bm0 PySem.F.plainAttrs_list PySem.F.slot_list_reverse PySem.F.type_list_reverse L2.mt_reverse ho hbase hline) fun σ H Q h => mut0_imp mr_reverse h
end
/-! ### what is walked, targets -/
theorem w_slot (h : PE X e (VT X.K t (some i) f)) : PI X tg e (WT X.K t (some i) (itemsV f)) := wt_seq h fun z => nomatch z
theorem w_any (h : PE X e (VT X.K t none f)) : PI X tg e (WT X.K t none (itemsV (coV 0 f))) := wt_seq (vt_co h) fun _ => d1_co
theorem w_rng1 (hm : X.mg "range" = none) (h : PAm X [a] t 0 1 ga) (hg : Gl X "range" := by rfl) (hp : plainX a = true := by rfl) : PI X tg (.Call (.Name "range" p) [a] [] pos) (WT X.K t none (rngV ga)) := wt_rng1 hg hm hp h.pa h.dn
theorem w_rng2 (hm : X.mg "range" = none) (h : PAm X [a, b] t 0 2 ga) (hg : Gl X "range" := by rfl) (hp : plainX a = true := by rfl) (hp2 : plainX b = true := by rfl) : PI X tg (.Call (.Name "range" p) [a, b] [] pos) (WT X.K t none (rngV ga)) := wt_rng2 hg hm hp hp2 h.pa h.dn
theorem t_n (i : Nat) (hN : X.N.Nodup) (hi : X.N[i]? = some x := by rfl) (hx : L2.Loc X.env.scope x := by first | exact Or.inl rfl | exact Or.inr rfl) (hf : X.fn x = true ∨ X.env.scope.names.lookup x = some .local := by first | exact .inl rfl | exact .inr rfl) : PG X (.Name x pos) (GT X.K [i] (gN i)) := gt_name (L2.pg_name hN hi hx hf)
/-- targets in a row: n of them -/
structure PGm (X : Cx) (es : List Expr) (s : List Nat) (n : Nat) (h : List D → Env → Option Env) : Prop where
  pg : PGs X es (GTs X.K s h)
  ln : ∀ ds ρ ρ', h ds ρ = some ρ' → ds.length = n
  pl : es.all plainX = true ∧ es.length = n
theorem t_nil : PGm X [] [] 0 gNil := ⟨gts_nil, fun ds ρ ρ' e => (by
  cases ds with
  | nil => rfl
  | cons _ _ => cases e), ⟨rfl, rfl⟩⟩
theorem t_cons {hh : List D → Env → Option Env} (h1 : PG X e (GT X.K s1 gg)) (h2 : PGm X es s2 n hh) (hp : plainX e = true := by rfl) : PGm X (e :: es) (s1 ++ s2) (n + 1) (gCons gg hh) := ⟨gts_cons hp h1 h2.pg, fun ds ρ ρ' e => (by
  cases ds with
  | nil => cases e
  | cons d ds =>
    simp only [gCons] at e
    split at e
    · simp [h2.ln _ _ _ e]
    · cases e), ⟨by simp [hp, h2.pl.1], by simp [h2.pl.2]⟩⟩
theorem t_tup {hh : List D → Env → Option Env} (h : PGm X es s n hh) (hc : X.calm = true := by rfl) : PG X (.Tuple es k pos) (GT X.K s (gT hh)) := gt_tup hc h.pl.1 (fun ds ρ ρ' e => (h.ln ds ρ ρ' e).trans h.pl.2.symm) h.pg
/-! ### comprehensions -/
theorem q_lc {own : List (Str × Nat)} {scope : Scope} (m : Nat) (hN : X.N.Nodup) (hi : PI X tg iter (WT X.K t0 r fw)) (ok : L2.blkC X.N X.env.scope scope own = true)
    (hg : ∀ (s : Shared) (H : Hp) (C : Addr) (cl : List (Str × Addr)) (fp : List Addr), PG (X.blk s H scope (compEnvC scope cl C X.env) fp) tg (GT X.K sg gg))
    (ht : ∀ (s : Shared) (H : Hp) (C : Addr) (cl : List (Str × Addr)) (fp : List Addr), PTs (X.blk s H scope (compEnvC scope cl C X.env) fp) ifs (BT X.K t1 ft))
    (he : ∀ (s : Shared) (H : Hp) (C : Addr) (cl : List (Str × Addr)) (fp : List Addr), PE (X.blk s H scope (compEnvC scope cl C X.env) fp) elt (VT X.K t2 none fe))
    (hs : ∀ x, foldedSetIterable iter X.env x = pure x := by intro _; rfl) (hsub : inB sg (own.map (·.2)) = true := by rfl) (hr : nrB r (own.map (·.2) ++ (t1 ++ t2)) = true := by rfl) (hc : X.calm = true := by rfl) :
    PE X (.ListComp elt [⟨tg, iter, ifs, 0⟩] scope pos) (VT X.K (t0 ++ (own.map (·.2) ++ (t1 ++ t2))) none (lcV m (own.map (·.2)) fw gg ft (coV m fe))) := vt_lc hc hN hi (L2.blkOk_by ok) hg ht (fun s H C cl fp => vt_co (he s H C cl fp)) d1_co hs (in_of hsub) (nr_of hr)
theorem x_nil : PTs X [] (BT X.K [] yesB) := bts_nil
theorem x_one (h : PT X c (BT X.K t q1)) : PTs X [c] (BT X.K t q1) := bts_one h
/-! ### statements -/
theorem s_nil : PSs X [] (ST X.K [] [] doneS) := st_nil
theorem s_cons (h1 : PS X st (ST X.K t1 s1 fs)) (h2 : PSs X rest (ST X.K t2 s2 gs)) : PSs X (st :: rest) (ST X.K (t1 ++ t2) (s1 ++ s2) (thenS fs gs)) := st_cons h1 h2
theorem s_ex (h : PE X e (VT X.K t r f)) (hs : swapsWith e none pos.line X.env = pure false := by rfl) : PS X (.Expr e pos) (ST X.K t [] (exS f)) := st_expr h hs
theorem s_ret (h : PE X e (VT X.K t none f)) : PS X (.Return (some e) pos) (ST X.K t [] (retS f)) := st_ret h
theorem s_brk : PS X (.Break pos) (ST X.K [] [] brkS) := st_brk
theorem s_cnt : PS X (.Continue pos) (ST X.K [] [] cntS) := st_cnt
theorem s_pass : PS X (.Pass pos) (ST X.K [] [] doneS) := st_pass
theorem s_if (hc : PT X c (BT X.K t1 q1)) (ha : PSs X body (ST X.K t2 s1 fs)) (hb : PSs X els (ST X.K t3 s2 gs)) : PS X (.If c body els pos) (ST X.K (t1 ++ (t2 ++ t3)) (s1 ++ s2) (ifS q1 fs gs)) := st_if hc ha hb
theorem s_asg (he : PE X e (VT X.K t none f)) (hg : PG X tg (GT X.K s gg)) (hs : swapsWithSole [tg] e pos.line X.env = pure false := by rfl) (hw : swappedStores [tg] e X.env = pure none := by rfl) (h1 : (assignEach [tg] X.env).map (·.2) = [assign tg X.env] := by rfl) :
    PS X (.Assign [tg] e pos) (ST X.K (t ++ s) s (asgS f gg)) := st_asg he hg hs hw h1
theorem s_aug {sem : W → W → Option W} {op : Operator} (i : Nat) (hN : X.N.Nodup) (ho : OpR X (inplaceOp op) (fun x y H Q => ∃ wx : W, wx.1.leaf = true ∧ ∃ (wy : W) (S S' : AS) (w : W), Rep X.K H wx.2 wx.1 x S ∧ Rep X.K H wy.2 wy.1 y S' ∧ sem wx wy = some w ∧ ∀ v H' T, Nv X.K H H' w v T → Q v H'))
    (he : PE X e (VT X.K t r f)) (hi : X.N[i]? = some x := by rfl) (hx : L2.Loc X.env.scope x := by first | exact Or.inl rfl | exact Or.inr rfl) (hf : X.fn x = true ∨ X.env.scope.names.lookup x = some .local := by first | exact .inl rfl | exact .inr rfl) :
    PS X (.AugAssign (.Name x p) op e pos) (ST X.K (t ++ [i]) [i] (augS i sem f)) := st_aug hN hi hx hf ho he
theorem s_par2 {y : Str} {px py pt : Pos} {kt k2 pt2} (i j : Nat) (hN : X.N.Nodup) (ha : PA X [a, b] (AT X.K t ga)) (hi : X.N[i]? = some x := by rfl) (hj : X.N[j]? = some y := by rfl) (hij : i ≠ j := by decide) (hx : X.env.scope.names.lookup x = some .local := by rfl) (hy : X.env.scope.names.lookup y = some .local := by rfl)
    (hw : swappedStores [.Tuple [.Name x px, .Name y py] kt pt] (.Tuple [a, b] k2 pt2) X.env = pure (some [x, y]) := by rfl) (hs : swapsWithSole [.Tuple [.Name x px, .Name y py] kt pt] (.Tuple [a, b] k2 pt2) pos.line X.env = pure false := by rfl) (hc : X.calm = true := by rfl) :
    PS X (.Assign [.Tuple [.Name x px, .Name y py] kt pt] (.Tuple [a, b] k2 pt2) pos) (ST X.K (t ++ [i] ++ [j]) ([] ++ [i] ++ [j]) (par2V i j ga)) := st_par2 hc hN hi hj hij hx hy ha hw hs
theorem s_par3 {y z : Str} {px py pz pt : Pos} {kt k2 pt2} (i j l : Nat) (hN : X.N.Nodup) (ha : PA X [a, b, c] (AT X.K t ga)) (hi : X.N[i]? = some x := by rfl) (hj : X.N[j]? = some y := by rfl) (hl : X.N[l]? = some z := by rfl) (hij : i ≠ j := by decide) (hil : i ≠ l := by decide) (hjl : j ≠ l := by decide)
    (hx : X.env.scope.names.lookup x = some .local := by rfl) (hy : X.env.scope.names.lookup y = some .local := by rfl) (hz : X.env.scope.names.lookup z = some .local := by rfl)
    (hw : swappedStores [.Tuple [.Name x px, .Name y py, .Name z pz] kt pt] (.Tuple [a, b, c] k2 pt2) X.env = pure (some [x, y, z]) := by rfl) (hs : swapsWithSole [.Tuple [.Name x px, .Name y py, .Name z pz] kt pt] (.Tuple [a, b, c] k2 pt2) pos.line X.env = pure false := by rfl) (hc : X.calm = true := by rfl) :
    PS X (.Assign [.Tuple [.Name x px, .Name y py, .Name z pz] kt pt] (.Tuple [a, b, c] k2 pt2) pos) (ST X.K (t ++ [i] ++ [j] ++ [l]) ([] ++ [i] ++ [j] ++ [l]) (par3V i j l ga)) := st_par3 hc hN hi hj hl hij hil hjl hx hy hz ha hw hs
theorem p_nil : PA X [] (AT X.K [] okNil) := at_nil
theorem p_cons (h : PE X e (VT X.K t1 none f)) (hs : PA X es (AT X.K t2 ga)) (hp : plainX e = true := by rfl) : PA X (e :: es) (AT X.K (t1 ++ t2) (consV f ga)) := at_cons hp h hs
theorem s_set {fp : Env → R (List D)} {jx : Expr} (m : Nat) (he : PE X e (VT X.K t none fe)) (ho : PE X o (PlT X.K t1 i fp)) (hj : PE X jx (VT X.K t2 r fj)) (hi : t2.contains i = false := by rfl) (hs : swapsWithSole [.Subscript o jx tpos] e pos.line X.env = pure false := by rfl) (hw : swappedStores [.Subscript o jx tpos] e X.env = pure none := by rfl)
    (h1 : (assignEach [.Subscript o jx tpos] X.env).map (·.2) = [assign (.Subscript o jx tpos) X.env] := by rfl) (hv : ∀ v, assign (.Subscript o jx tpos) X.env v = (do
      let ov ← holding [v] (eval o X.env)
      let iv ← holding [v, ov] (eval jx X.env)
      standAt tpos
      holding [v, ov, iv] (setItem ov iv v)
      release [v, ov, iv] []) := by intro _; rfl) : PS X (.Assign [.Subscript o jx tpos] e pos) (ST X.K (t ++ t1 ++ t2 ++ [i]) [] (setV i m (coV m fe) fp fj)) :=
  st_set (vt_co he) d1_co ho hj (by simpa using hi) (fun _ _ z => nomatch z) hs hw h1 hv
theorem s_for (hi : PI X tg iter (WT X.K t0 r fw)) (hg : PG X tg (GT X.K sg gg)) (hb : PSs X body (ST X.K t s fs)) (hr : nrB r (sg ++ t) = true := by rfl) (hs : ∀ x, foldedSetIterable iter X.env x = pure x := by intro _; rfl) (hp : PassesOwn (model X.prog X.w) X.A X.env X.xe := by exact PySem.PassesOwn.never) (hc : X.calm = true := by rfl) :
    PS X (.For tg iter body [] pos) (ST X.K (t0 ++ (sg ++ t)) (sg ++ s) (forV fw gg fs)) := st_for hp hc hi hg hb hs (nr_of hr)
theorem s_whl (n : Nat) (hc : PT X c (BT X.K t0 q1)) (hb : PSs X body (ST X.K t s fs)) (hp : PassesOwn (model X.prog X.w) X.A X.env X.xe := by exact PySem.PassesOwn.never) : PS X (.While c body [] pos) (ST X.K (t0 ++ t) s (whL q1 fs n)) := st_whl hp hc hb
section
variable {own : List (Str × Nat)} {scope : Scope} {cc PP : Addr}
/-- the place of a generator expression, by computation -/
structure GenP (X : Cx) (k : Nat) (cc PP : Addr) : Prop where
  room : Room k X.A
  nd : X.N.Nodup
  tab : GxR.TabB X.base X.mg cc PP
  code : X.env.code = .ref cc
  inK : PySem.W.codeHdIn X.K cc PP = true
def genC (scope : Scope) : Bool := !scope.isCoroutine && scope.names.all (fun y => !decide (y.2 = .cell)) && decide (scope.names.lookup (".0" : Str) = some NameKind.local)
theorem genOk {X : Cx} (G : GenP X k cc PP) (hb : L2.blkC X.N X.env.scope scope own = true) (hc : genC scope = true) (hf : ∀ x, genFold iter X.env x = pure x) (hcm : X.calm = true) : GenOk X k cc PP scope own iter := by
  unfold genC at hc
  simp only [Bool.and_eq_true, Bool.not_eq_true', List.all_eq_true, decide_eq_true_eq, decide_eq_false_iff_not] at hc
  exact ⟨G.room, hcm, G.nd, G.tab, G.code, G.inK, hc.1.1, hc.1.2, hc.2, L2.blkOk_by hb, hf⟩
theorem q_all (G : GenP X k cc PP) (hm : X.mg "all" = none) (hi : PI X tg iter (WT X.K t0 r fw)) (hb : L2.blkC X.N X.env.scope scope own = true)
    (hg : ∀ (s : Shared) (H : Hp) (code : Value) (fp : List Addr), PG (gx X X.A.in1.in1 s H (genEnv scope (cloFrom X.env.cells scope.names []) s.heap.objs.size code builtinsNs X.env) fp) tg (GT X.K sg gg))
    (ht : ∀ (s : Shared) (H : Hp) (code : Value) (fp : List Addr), PTs (gx X X.A.in1.in1 s H (genEnv scope (cloFrom X.env.cells scope.names []) s.heap.objs.size code builtinsNs X.env) fp) ifs (BT X.K t1 ft))
    (he : ∀ (s : Shared) (H : Hp) (code : Value) (fp : List Addr), PE (gx X X.A.in1.in1 s H (genEnv scope (cloFrom X.env.cells scope.names []) s.heap.objs.size code builtinsNs X.env) fp) elt (VT X.K t2 none fe))
    (hbt : bootBuiltins "all" = some (.builtin "all") := by kernel_rfl) (hgl : Gl X "all" := by rfl) (hgc : genC scope = true := by rfl) (hf : ∀ x, genFold iter X.env x = pure x := by intro _; rfl) (hcm : X.calm = true := by rfl) (hsub : inB sg (own.map (·.2)) = true := by rfl) (hr : nrB r (own.map (·.2) ++ (t1 ++ t2)) = true := by rfl) :
    PE X (.Call (.Name "all" p) [.GeneratorExp elt [⟨tg, iter, ifs, 0⟩] scope gpos] [] pos) (VT X.K (t0 ++ (own.map (·.2) ++ (t1 ++ t2))) none (quitV false (own.map (·.2)) fw gg ft (coV 0 fe))) :=
  vt_all (genOk G hb hgc hf hcm) hgl hm hbt hi hg ht (fun s H code fp => vt_co (he s H code fp)) d1_co (in_of hsub) (nr_of hr) rfl
theorem q_any (G : GenP X k cc PP) (hm : X.mg "any" = none) (hi : PI X tg iter (WT X.K t0 r fw)) (hb : L2.blkC X.N X.env.scope scope own = true)
    (hg : ∀ (s : Shared) (H : Hp) (code : Value) (fp : List Addr), PG (gx X X.A.in1.in1 s H (genEnv scope (cloFrom X.env.cells scope.names []) s.heap.objs.size code builtinsNs X.env) fp) tg (GT X.K sg gg))
    (ht : ∀ (s : Shared) (H : Hp) (code : Value) (fp : List Addr), PTs (gx X X.A.in1.in1 s H (genEnv scope (cloFrom X.env.cells scope.names []) s.heap.objs.size code builtinsNs X.env) fp) ifs (BT X.K t1 ft))
    (he : ∀ (s : Shared) (H : Hp) (code : Value) (fp : List Addr), PE (gx X X.A.in1.in1 s H (genEnv scope (cloFrom X.env.cells scope.names []) s.heap.objs.size code builtinsNs X.env) fp) elt (VT X.K t2 none fe))
    (hgl : Gl X "any" := by rfl) (hgc : genC scope = true := by rfl) (hf : ∀ x, genFold iter X.env x = pure x := by intro _; rfl) (hcm : X.calm = true := by rfl) (hsub : inB sg (own.map (·.2)) = true := by rfl) (hr : nrB r (own.map (·.2) ++ (t1 ++ t2)) = true := by rfl) :
    PE X (.Call (.Name "any" p) [.GeneratorExp elt [⟨tg, iter, ifs, 0⟩] scope gpos] [] pos) (VT X.K (t0 ++ (own.map (·.2) ++ (t1 ++ t2))) none (quitV true (own.map (·.2)) fw gg ft (coV 0 fe))) :=
  vt_any (genOk G hb hgc hf hcm) hgl hm hi hg ht (fun s H code fp => vt_co (he s H code fp)) d1_co (in_of hsub) (nr_of hr) rfl
theorem q_sumG (G : GenP X k cc PP) (hm : X.mg "sum" = none) (hi : PI X tg iter (WT X.K t0 r fw)) (hb : L2.blkC X.N X.env.scope scope own = true)
    (hg : ∀ (s : Shared) (H : Hp) (code : Value) (fp : List Addr), PG (gx X X.A.in1.in1 s H (genEnv scope (cloFrom X.env.cells scope.names []) s.heap.objs.size code builtinsNs X.env) fp) tg (GT X.K sg gg))
    (ht : ∀ (s : Shared) (H : Hp) (code : Value) (fp : List Addr), PTs (gx X X.A.in1.in1 s H (genEnv scope (cloFrom X.env.cells scope.names []) s.heap.objs.size code builtinsNs X.env) fp) ifs (BT X.K t1 ft))
    (he : ∀ (s : Shared) (H : Hp) (code : Value) (fp : List Addr), PE (gx X X.A.in1.in1 s H (genEnv scope (cloFrom X.env.cells scope.names []) s.heap.objs.size code builtinsNs X.env) fp) elt (VT X.K t2 none fe))
    (hbt : bootBuiltins "sum" = some (.builtin "sum") := by kernel_rfl) (hgl : Gl X "sum" := by rfl) (hgc : genC scope = true := by rfl) (hf : ∀ x, genFold iter X.env x = pure x := by intro _; rfl) (hcm : X.calm = true := by rfl) (hsub : inB sg (own.map (·.2)) = true := by rfl) (hr : nrB r (own.map (·.2) ++ (t1 ++ t2)) = true := by rfl) :
    PE X (.Call (.Name "sum" p) [.GeneratorExp elt [⟨tg, iter, ifs, 0⟩] scope gpos] [] pos) (VT X.K (t0 ++ (own.map (·.2) ++ (t1 ++ t2))) none (sumV (own.map (·.2)) fw gg ft (coV 0 fe))) :=
  vt_sumG (genOk G hb hgc hf hcm) hgl hm hbt hi hg ht (fun s H code fp => vt_co (he s H code fp)) d1_co (in_of hsub) (nr_of hr) rfl
theorem room_gx {A : Around} {env : PySem.Env} {k : Nat} (h : Room (k + 1) A) : Room k (A.in1.in1.deeper env) := ⟨h.hd, by
    have := h.dp
    show A.depth + 1 + 3 * k + 5 < _
    omega, by
    have := h.un
    show A.units + 1 + 1 + 3 + 16 * k + 200 < _
    omega⟩
end
end
end Q
end
section
set_option Elab.async false
set_option linter.all false
set_option maxRecDepth 100000
set_option maxHeartbeats 4000000
/-! QX: what the printed readings ask. -/
namespace Q
open PySem PySem.Spec PyProof.Rows
open L2 (V Hp HO TE TT TA TS TG TGs TI VK XK Sp upd SqL SqT Rd Inv Cx PE PA PK PT PW PG PGs PS PSs PI It R2 OpR CallR FnOk Ends FunD FnScope CX0 Binds KBn Vals Room Gl Vis cxOf pass0 wipe PTs BlkOk cloFrom FpOk frs)
theorem bt_len : bootBuiltins "len" = some (.builtin "len") := by kernel_rfl
theorem bt_abs : bootBuiltins "abs" = some (.builtin "abs") := by kernel_rfl
theorem bt_max : bootBuiltins "max" = some (.builtin "max") := by kernel_rfl
theorem bt_min : bootBuiltins "min" = some (.builtin "min") := by kernel_rfl
theorem bt_sum : bootBuiltins "sum" = some (.builtin "sum") := by kernel_rfl
theorem bt_sorted : bootBuiltins "sorted" = some (.builtin "sorted") := by kernel_rfl
theorem bt_isinstance : bootBuiltins "isinstance" = some (.builtin "isinstance") := by kernel_rfl
theorem bt_int : bootBuiltins "int" = some (.type "int") := by kernel_rfl
theorem bt_bool : bootBuiltins "bool" = some (.type "bool") := by kernel_rfl
theorem bt_str : bootBuiltins "str" = some (.type "str") := by kernel_rfl
theorem bt_tuple : bootBuiltins "tuple" = some (.type "tuple") := by kernel_rfl
theorem bt_list : bootBuiltins "list" = some (.type "list") := by kernel_rfl
def psOf (d : He.DefD) : List Str := d.params.args.map (·.arg)
theorem room_dn {k : Nat} {A : Around} (h : Room (k + 1) A) : Room k A := h.mono (Nat.le_succ _)
theorem genP {X : Cx} {k : Nat} {cc PP : Addr} {fd : FuncData} (hr : Room k X.A) (nd : X.N.Nodup) (hcode : X.env.code = .ref cc) (h : fd.code = .ref cc ∧ PySem.W.codeHdIn X.K cc PP = true ∧ GxR.TabB X.base X.mg cc PP) : GenP X k cc PP := ⟨hr, nd, h.2.2, hcode, h.2.1⟩
def addI : W → W → Option W
  | (.int i, _), (.int j, _) => some (.int (i + j), 0)
  | _, _ => none
def subI : W → W → Option W
  | (.int i, _), (.int j, _) => some (.int (i - j), 0)
  | _, _ => none
theorem oi_add {X : Cx} : OpR X (inplaceOp .Add) (fun x y H Q => ∃ wx : W, wx.1.leaf = true ∧ ∃ (wy : W) (S S' : AS) (w : W), Rep X.K H wx.2 wx.1 x S ∧ Rep X.K H wy.2 wy.1 y S' ∧ addI wx wy = some w ∧ ∀ v H' T, Nv X.K H H' w v T → Q v H') := by
  intro pins s σ H x y v u Q I rx ry ⟨wx, _, wy, S, S', w, hx, hy, e, q⟩
  unfold addI at e
  split at e
  · cases e
    cases hx.int
    cases hy.int
    exact L2.ip_add pins s σ H _ _ v u Q I rx ry ⟨_, _, rfl, rfl, flatI q⟩
  · cases e
theorem oi_sub {X : Cx} : OpR X (inplaceOp .Sub) (fun x y H Q => ∃ wx : W, wx.1.leaf = true ∧ ∃ (wy : W) (S S' : AS) (w : W), Rep X.K H wx.2 wx.1 x S ∧ Rep X.K H wy.2 wy.1 y S' ∧ subI wx wy = some w ∧ ∀ v H' T, Nv X.K H H' w v T → Q v H') := by
  intro pins s σ H x y v u Q I rx ry ⟨wx, _, wy, S, S', w, hx, hy, e, q⟩
  unfold subI at e
  split at e
  · cases e
    cases hx.int
    cases hy.int
    exact L2.ip_sub pins s σ H _ _ v u Q I rx ry ⟨_, _, rfl, rfl, flatI q⟩
  · cases e
def lrngV (g : Env → R (List W)) (ρ : Env) : R W := bd (g ρ) fun ws ρ => (match rngD (ws.map (·.1)) with
  | some ds => if ds.length ≤ line then .ok (.lst ds, 1) ρ else .no
  | none => .no)
theorem rfs_rng {K : Fg} {H : Hp} {i : Int} : ∀ {n : Nat}, Rfs K H ((List.range n).map fun (k : Nat) => D.int (i + k)) ((List.range n).map fun (k : Nat) => V.int (i + k)) := fun {n} => Rfs.iff.mpr ⟨by simp, fun k d x e1 e2 => by
  rw [List.getElem?_map] at e1 e2
  cases h : (List.range n)[k]? with
  | none => rw [h] at e1; cases e1
  | some j =>
    rw [h] at e1 e2
    cases e1
    cases e2
    simp only [Rf]⟩
section
variable {X : Cx} {a b : Expr} {p p2 pos : Pos} {t : List Nat} {r : Option Nat} {f : Env → R W}
theorem q_lrng1 (hl : X.mg "list" = none) (hm : X.mg "range" = none) (h : PE X a (VT X.K t none f)) (hg : Gl X "list" := by rfl) (hg2 : Gl X "range" := by rfl) (hp : plainX a = true := by rfl) (hc : X.calm = true := by rfl) :
    PE X (.Call (.Name "list" p) [.Call (.Name "range" p2) [a] [] pos] [] pos2) (VT X.K t none (lrngV (consV (coV 0 f) okNil))) :=
  PE_imp (L2.pe_listRg hc hg hl (L2.prg_1 hg2 hm (vt_co (m := 0) h) (star_of hp)) rfl) fun σ H Q ⟨ρ, F, w, ρ', hE, e, q⟩ => by
    obtain ⟨ws, ρ1, e1, e⟩ := bd_ok e
    obtain ⟨x, ρ2, e2, e1⟩ := bd_ok e1
    cases e1
    obtain ⟨d, n⟩ := x
    simp only [List.map_cons, List.map_nil] at e
    refine ⟨ρ, F, _, _, hE, e2, fun v H1 F1 S P V => ?_⟩
    cases d with
    | int j =>
      have hv : v = .int j := Rep.int (n := n) (S := S) (show Rep X.K H1 n (.int j) v S from V.rep)
      subst hv
      simp only [rngD] at e
      split at e
      · rename_i ds hd
        split at hd
        · rename_i hj
          cases hd
          split at e
          · rename_i hl
            cases e
            simp only [List.length_map, List.length_range] at hl
            refine ⟨j, rfl, ⟨by decide, by decide, hj.1, hj.2, by rw [Int.sub_zero]; exact hl⟩, fun p hp => ?_⟩
            have rr := rfs_rng (K := X.K) (H := H1) (i := 0) (n := j.toNat)
            simp only [Int.zero_add] at rr
            have e3 : L2.rgV 0 j = (List.range j.toNat).map fun (k : Nat) => L2.V.int k := by unfold L2.rgV; simp
            rw [e3]
            have nv := Nv.lst1 (K := X.K) hp rr
            exact q _ _ F1 _ (P.adds nv.add) (nv.pv hE P)
          · cases e
        · cases hd
      · cases e
    | _ => simp only [rngD] at e; cases e
end
theorem vals_pick {zs : List V} {ws : List Value} (h : Vals zs ws) : ∀ pm : List Nat, Vals (pick pm zs) (pick pm ws)
  | [] => .nil
  | j :: r => by
    unfold pick
    rw [List.filterMap_cons, List.filterMap_cons]
    cases e : zs[j]? with
    | none =>
      have : ws[j]? = none := by
        rw [List.getElem?_eq_none_iff] at e ⊢
        rw [← h.length]; exact e
      rw [this]
      exact vals_pick h r
    | some z =>
      obtain ⟨u, e2, rv⟩ := h.get e
      rw [e2]
      exact .cons rv (vals_pick h r)
/-- how keywords bind -/
theorem kbn {K : Fg} {x qual : Str} {params : Arguments} {body : List Stmt} {scope : Scope} {f : Addr} {fd : FuncData} {ps ks : List Str} {n : Nat} {pm : List Nat} (F : FunD K x qual params body scope [] [] f fd)
    (h : ∀ (kV doc pm' : Value) (an : Option Addr) (cdv ct : Value) (us ws : List Value), us.length = n → ws.length = ks.length → bindArgs (PySem.W.fnOf x qual params body scope .none kV doc pm' an cdv ct) ⟨us, ks.zip ws⟩ = pure (ps.zip (us ++ pick pm ws))) :
    KBn K fd ps n ks (fun us ws => us ++ pick pm ws) (fun us ws => us ++ pick pm ws) := by
  obtain ⟨oc, od, dV, kV, doc, pm', an, cdv, ct, osl, rfl, lk, hcd, hD, hK⟩ := F.ex
  rcases hD with ⟨_, rfl⟩ | ⟨e, _⟩
  · exact ⟨fun s us ws _ h1 h2 => .of_eq (h kV doc pm' an cdv ct us ws h1 h2), fun {vs us zs ws} r1 r2 => r1.append (vals_pick r2 pm)⟩
  · exact absurd rfl e
/-- a def's promise; its code object is known -/
theorem def_okC {P : Program} {w : World} {K : Fg} {mg : Str → Option Value} {base : Heap} {x : Str} {params : Arguments} {body : List Stmt} {scope : Scope} {f : Addr} {fd : FuncData} {N ps : List Str} {k ix : Nat} {c : C} {fn : Fn} {g : Nat → List Ar → CR} {s : List Nat} {cc : Addr}
    (F : FunD K x x params body scope [] [] f fd) (S : FnScope N ps scope) (hN : N.length = fn.n) (hio : fn.io.length = ps.length) (hg : ∀ as, g ix as = callB c fn as) (hcd : fd.code = .ref cc)
    (hb : ∀ (A : Around) (outer : List PySem.Env) (s0 : Shared) (H : Hp) (E : XK), Room k (A.deeper (envOfC x scope s0.heap.objs.size f (.ref cc))) → ∃ t, PSs (cxOf CX0 P w K mg base N x scope f (.ref cc) A outer s0 H E).nox body (ST K t s (fn.body c)))
    (hs : (List.range fn.io.length).all (fun k => !(decide (fn.io[k]? = some true)) || !s.contains k) = true) :
    FnOk P w K mg base CX0 (k + 1) f fd ps (FSp K g ix) := by
  have hs : ∀ k : Nat, fn.io[k]? = some true → k ∉ s := fun k e z => by
    have hk : k < fn.io.length := (List.getElem?_eq_some_iff.mp e).1
    have := List.all_eq_true.mp hs k (List.mem_range.mpr hk)
    simp [e] at this
    exact this z
  obtain ⟨oc, od, dV, kV, doc, pm, an, cdv, ct, osl, rfl, lk, hcd2, _, _⟩ := F.ex
  have hcd : cdv = .ref cc := hcd
  subst hcd
  refine L2.fn_of lk hcd2 S (fun vs H Q E h => ?_) fun A outer s0 H vs Q E hr h => ?_
  · obtain ⟨as, F', w', outs, a, e, _⟩ := h
    rw [hg] at e
    unfold callB at e
    split at e
    · rename_i hc
      rw [← a.len, ← hio, ← hc.1, List.length_map]
    · cases e
  · obtain ⟨as, F', w', outs, a, e, q⟩ := h
    rw [hg] at e
    obtain ⟨t, h⟩ := hb A outer s0 H E hr
    exact ⟨_, h.nox, body_spec hN a e hs q E⟩
/-! ### name = [..] on one line -/
theorem PS_gh {X : Cx} {st : Stmt} {u : TS} (h : PS X st u) : PS X st fun D σ H => u { D with nx := fun σ' H' => Gh (D.nx σ') H' } σ H := ⟨fun pins s σ H D I q => L2.thn (h.run pins s σ H _ I q) fun f s1 z => by
  cases f with
  | next => obtain ⟨σ', H', I', g⟩ := z; obtain ⟨H2, I2, q2⟩ := inv_gh I' g; exact ⟨σ', H2, I2, q2⟩
  | brk => exact z
  | cont => exact z
  | ret u => exact z⟩
section
variable {X : Cx} {elt tg iter : Expr} {ifs : List Expr} {pos spos py : Pos} {y : Str} {t0 t1 t2 sg : List Nat} {r : Option Nat} {fw : Env → R (List D)} {gg : W → Env → Option Env} {ft : Env → R Bool} {fe : Env → R W} {own : List (Str × Nat)} {m i : Nat} {scope : Scope}
theorem s_setLc (m i : Nat) (hN : X.N.Nodup) (hi : PI X tg iter (WT X.K t0 r fw)) (ok : L2.blkC X.N X.env.scope scope own = true)
    (hg : ∀ (s : Shared) (H : Hp) (C : Addr) (cl : List (Str × Addr)) (fp : List Addr), PG (X.blk s H scope (compEnvC scope cl C X.env) fp) tg (GT X.K sg gg))
    (ht : ∀ (s : Shared) (H : Hp) (C : Addr) (cl : List (Str × Addr)) (fp : List Addr), PTs (X.blk s H scope (compEnvC scope cl C X.env) fp) ifs (BT X.K t1 ft))
    (he : ∀ (s : Shared) (H : Hp) (C : Addr) (cl : List (Str × Addr)) (fp : List Addr), PE (X.blk s H scope (compEnvC scope cl C X.env) fp) elt (VT X.K t2 none fe))
    (hy : X.N[i]? = some y := by rfl) (hyl : X.env.scope.names.lookup y = some .local := by rfl) (hk : X.env.scope.kind = .function := by rfl) (hl : (py.line == pos.line) = true := by rfl) (ha : (scope.names.any fun (n, k) => n == y && (k == .local || k == .cell)) = false := by rfl)
    (hs : ∀ x, foldedSetIterable iter X.env x = pure x := by intro _; rfl) (hsub : inB sg (own.map (·.2)) = true := by rfl) (hr : nrB r (own.map (·.2) ++ (t1 ++ t2)) = true := by rfl) (hc : X.calm = true := by rfl) :
    PS X (.Assign [.Name y py] (.ListComp elt [⟨tg, iter, ifs, 0⟩] scope pos) spos) (ST X.K ((t0 ++ (own.map (·.2) ++ (t1 ++ t2))) ++ [i]) [i] (asgS (coV 0 (lcV m (own.map (·.2)) fw gg ft (coV m fe))) (gN i))) :=
  PS_imp (PS_gh (L2.ps_setLc hc hN hy hyl (L2.sw_true hk hyl hl ha) hi (L2.blkOk_by ok) hg ht (fun s H C cl fp => vt_co (m := m) (he s H C cl fp)) hs)) fun D σ H ⟨ρ, F, l, ρ', hE, e, q⟩ => by
    obtain ⟨x, ρ1, e1, e⟩ := bd_ok e
    obtain ⟨x0, ρ0, e0, e1⟩ := bd_ok e1
    unfold co coe at e1
    rw [if_pos rfl] at e1
    cases e1
    unfold gN at e
    split at e
    · rename_i hlt
      split at hlt
      · rename_i hlen
        cases hlt
        cases e
        refine lc_imp d1_co (in_of hsub) (nr_of hr) ⟨ρ, F, x0, ρ1, hE, e0, fun v H1 F1 S P V => ?_⟩
        refine (gh_rep _ _ _ _ _ V.rep).imp fun H2 ⟨fr, z⟩ => ?_
        have P2 := P.fz hE z (fun i b hb => V.plc.1 i b hb) V.plc.2
        have Z := put_slot (w := (x0.1, 0)) (v := v) (S := fun _ => False) P2.env (Rep.frz0.mpr fr) (fun _ z => z.elim) (fun _ _ z => z.elim) hlen
        exact q H2 _ _ (Po.put hE P2 (fun _ z => z.elim) Z)
      · cases hlt
    · cases e
/-- .. kept as one's own -/
theorem s_setLcO (m i : Nat) (hN : X.N.Nodup) (hi : PI X tg iter (WT X.K t0 r fw)) (ok : L2.blkC X.N X.env.scope scope own = true)
    (hg : ∀ (s : Shared) (H : Hp) (C : Addr) (cl : List (Str × Addr)) (fp : List Addr), PG (X.blk s H scope (compEnvC scope cl C X.env) fp) tg (GT X.K sg gg))
    (ht : ∀ (s : Shared) (H : Hp) (C : Addr) (cl : List (Str × Addr)) (fp : List Addr), PTs (X.blk s H scope (compEnvC scope cl C X.env) fp) ifs (BT X.K t1 ft))
    (he : ∀ (s : Shared) (H : Hp) (C : Addr) (cl : List (Str × Addr)) (fp : List Addr), PE (X.blk s H scope (compEnvC scope cl C X.env) fp) elt (VT X.K t2 none fe))
    (hy : X.N[i]? = some y := by rfl) (hyl : X.env.scope.names.lookup y = some .local := by rfl) (hk : X.env.scope.kind = .function := by rfl) (hl : (py.line == pos.line) = true := by rfl) (ha : (scope.names.any fun (n, k) => n == y && (k == .local || k == .cell)) = false := by rfl)
    (hs : ∀ x, foldedSetIterable iter X.env x = pure x := by intro _; rfl) (hsub : inB sg (own.map (·.2)) = true := by rfl) (hr : nrB r (own.map (·.2) ++ (t1 ++ t2)) = true := by rfl) (hc : X.calm = true := by rfl) :
    PS X (.Assign [.Name y py] (.ListComp elt [⟨tg, iter, ifs, 0⟩] scope pos) spos) (ST X.K ((t0 ++ (own.map (·.2) ++ (t1 ++ t2))) ++ [i]) [i] (asgS (lcV m (own.map (·.2)) fw gg ft (coV m fe)) (gN i))) :=
  PS_imp (L2.ps_setLc hc hN hy hyl (L2.sw_true hk hyl hl ha) hi (L2.blkOk_by ok) hg ht (fun s H C cl fp => vt_co (m := m) (he s H C cl fp)) hs) fun D σ H ⟨ρ, F, l, ρ', hE, e, q⟩ => by
    obtain ⟨x0, ρ1, e0, e⟩ := bd_ok e
    unfold gN at e
    split at e
    · rename_i hlt
      split at hlt
      · rename_i hlen
        cases hlt
        cases e
        refine lc_imp d1_co (in_of hsub) (nr_of hr) ⟨ρ, F, x0, ρ1, hE, e0, fun v H1 F1 S P V => ?_⟩
        have Z := put_slot (w := x0) (v := v) P.env V.rep V.own (fun i a ha => V.plc.1 i a ha) hlen
        exact q H1 _ _ (Po.put hE P V.plc.2 Z)
      · cases hlt
    · cases e
end
end Q
end
section
set_option Elab.async false
set_option linter.all false
set_option maxRecDepth 100000
set_option maxHeartbeats 4000000
/-! QY: the head: what the top leaves, with the tables of the code objects. -/
namespace Q
open PySem PySem.Spec PyProof.Rows
open L2 (V Hp HO TE TT TA TS VK XK Sp upd SqL SqT Inv Cx FnOk FunD FnScope CX0 Vals Room CXT)
def cdOf (K : Fg) (d : He.DefD) : Addr := match K.lookup (He.fAd K d.at_) with
  | some ⟨_, _, .func fd, _⟩ => (match fd.code with
    | .ref c => c
    | _ => 0)
  | _ => 0
def tbOf (g : Addr → Option Obj) (c : Addr) : Addr := match g c with
  | some ⟨_, _, .fields vs, _⟩ => (match (vs[11]? : Option Value) with
    | some (.ref P) => P
    | _ => 0)
  | _ => 0
def refCode (K : Fg) (d : He.DefD) : Bool := match K.lookup (He.fAd K d.at_) with
  | some ⟨_, _, .func fd, _⟩ => (match fd.code with
    | .ref _ => true
    | _ => false)
  | _ => false
def emptyAt (g : Addr → Option Obj) (P : Addr) : Bool := match g P with
  | some ⟨.none, none, .fields vs, sl⟩ => vs.isEmpty && sl.isEmpty
  | _ => false
def codeIn' (ts : List Addr) (o : Obj) : Bool := match o with
  | ⟨.type n, _, .fields vs, _⟩ => if n = "code" then (match (vs[11]? : Option Value) with
    | some (.ref P) => ts.contains P
    | _ => true) else true
  | _ => true
def noList (o : Obj) : Bool := match o.cls with
  | .type n => !decide (n = "list")
  | _ => true
/-- what of the heap the walk knows: all that the names lead to, but the tables -/
def fragT (n : Nat) (fn : List He.DefD) (g : Addr → Option Obj) : Fg :=
  let as := He.asD g n
  let K0 := He.frG g as
  let ts := fn.map fun d => tbOf g (cdOf K0 d)
  He.frG g (as.filter fun a => !ts.contains a && (match g a with
    | some o => codeIn' ts o && noList o
    | none => true))
def pairsT (fn : List He.DefD) (g : Addr → Option Obj) (K : Fg) : List (Addr × Addr) := fn.map fun d => (cdOf K d, tbOf g (cdOf K d))
def tabsB (fn : List He.DefD) (g : Addr → Option Obj) (K : Fg) : Bool :=
  fn.all (refCode K) && (pairsT fn g K).all (fun p => PySem.W.codeHdIn K p.1 p.2 && (emptyAt g p.2 && ((K.lookup p.2).isNone && !(p.2 == mainGlobals)))) && K.all (fun q => codeIn' ((pairsT fn g K).map (·.2)) q.2 && noList q.2)
abbrev AlQ : Type := He.AlD × Bool
def obsQG (n : Nat) (fa : List He.Fa) (fn : List He.DefD) (g : Addr → Option Obj) : AlQ := (He.obsD fa fn (fragT n fn g), tabsB fn g (fragT n fn g))
structure SaysQ (fa : List He.Fa) (fn : List He.DefD) (K : Fg) (ts : List (Addr × Addr)) (h : Heap) : Prop where
  kin : K.In h
  says : He.SaysD fa fn K
  ref : fn.all (refCode K) = true
  prs : ∀ (i : Nat) d, fn[i]? = some d → ∃ P, ts[i]? = some (cdOf K d, P)
  hd : ∀ p ∈ ts, PySem.W.codeHdIn K p.1 p.2 = true
  emp : ∀ p ∈ ts, h.get? p.2 = some { cls := .none, data := .fields #[] }
  out : ∀ p ∈ ts, K.lookup p.2 = none
  glo : ∀ p ∈ ts, mainGlobals ≠ p.2
  cov : ∀ c P, PySem.W.codeHdIn K c P = true → ∃ p ∈ ts, p.2 = P
  nol : ∀ a o, K.lookup a = some o → o.cls ≠ .type "list"
theorem mem_of_look {K : Fg} {a : Addr} {o : Obj} (h : K.lookup a = some o) : (a, o) ∈ K := by
  induction K with
  | nil => cases h
  | cons p r ih =>
    rw [List.lookup_cons] at h
    cases hb : a == p.1 with
    | true =>
      rw [hb] at h
      cases h
      have : a = p.1 := by simpa using hb
      rw [this]
      exact List.mem_cons_self
    | false =>
      rw [hb] at h
      exact List.mem_cons_of_mem _ (ih h)
def hookQ (n : Nat) (fa : List He.Fa) (fn : List He.DefD) : PySem.W.Hook where
  α := AlQ
  obs := fun s => obsQG n fa fn s.heap.get?
  val := fun _ => (He.valD fn, true)
  says := fun _ h => ∃ (K : Fg) (ts : List (Addr × Addr)), SaysQ fa fn K ts h
  of := fun _ s e => by
    have e1 : He.obsD fa fn (fragT n fn s.heap.get?) = He.valD fn := congrArg (fun z : AlQ => z.1) e
    have e2 : tabsB fn s.heap.get? (fragT n fn s.heap.get?) = true := congrArg (fun z : AlQ => z.2) e
    have kin : (fragT n fn s.heap.get?).In s.heap := He.frG_in
    generalize fragT n fn s.heap.get? = K at e1 e2 kin
    unfold tabsB at e2
    obtain ⟨e2, e3⟩ := He.ba e2
    obtain ⟨e4, e5⟩ := He.ba e2
    have e5' : ∀ p ∈ pairsT fn s.heap.get? K, PySem.W.codeHdIn K p.1 p.2 = true ∧ emptyAt s.heap.get? p.2 = true ∧ (K.lookup p.2).isNone = true ∧ (!(p.2 == mainGlobals)) = true := fun p hp => by
      obtain ⟨h1, h2⟩ := He.ba (List.all_eq_true.mp e5 p hp)
      obtain ⟨h3, h4⟩ := He.ba h2
      obtain ⟨h5, h6⟩ := He.ba h4
      exact ⟨h1, h3, h5, h6⟩
    refine ⟨K, pairsT fn s.heap.get? K, kin, e1, e4, fun i d h => ⟨tbOf s.heap.get? (cdOf K d), by unfold pairsT; rw [List.getElem?_map, h]; rfl⟩, fun p hp => (e5' p hp).1, fun p hp => ?_, fun p hp => ?_, fun p hp z => ?_, fun c P h => ?_, fun a o h z => ?_⟩
    · have h := (e5' p hp).2.1
      unfold emptyAt at h
      split at h
      · rename_i vs sl q
        obtain ⟨h1, h2⟩ := He.ba h
        rw [q, Array.isEmpty_iff.mp h1, Array.isEmpty_iff.mp h2]
      · cases h
    · have h := (e5' p hp).2.2.1
      simpa using h
    · have h := (e5' p hp).2.2.2
      rw [← z] at h
      simp at h
    · unfold PySem.W.codeHdIn at h
      split at h
      · rename_i vs _ hk
        have h2 := (He.ba (List.all_eq_true.mp e3 _ (mem_of_look hk))).1
        simp only [codeIn', if_true] at h2
        simp only [Bool.and_eq_true] at h
        obtain ⟨⟨⟨⟨⟨h3, _⟩, _⟩, _⟩, _⟩, _⟩ := h
        split at h3
        · rename_i P' hv
          rw [hv] at h2
          have hP : P' = P := by simpa using h3
          subst hP
          simp only [List.contains_iff_mem, List.mem_map] at h2
          obtain ⟨p, hp, e⟩ := h2
          exact ⟨p, hp, e⟩
        · cases h3
      · cases h
    · have h2 := (He.ba (List.all_eq_true.mp e3 _ (mem_of_look h))).2
      unfold noList at h2
      rw [z] at h2
      simp at h2
  keeps := fun _ h h' ⟨K, ts, c⟩ k => ⟨K, ts, PySem.W.Frag.In.keeps c.kin k, c.says, c.ref, c.prs, c.hd, fun p hp => k _ _ (c.emp p hp), c.out, c.glo, c.cov, c.nol⟩
theorem obsQG_eq {n : Nat} {fa : List He.Fa} {fn : List He.DefD} {g : Addr → Option Obj} {s : Shared} (h : ∀ a, g a = s.heap.get? a) : obsQG n fa fn g = (hookQ n fa fn).obs s := by
  have e : g = s.heap.get? := funext h
  rw [e] <;> rfl
theorem SaysQ.code {fa : List He.Fa} {fn : List He.DefD} {K : Fg} {ts : List (Addr × Addr)} {h : Heap} (c : SaysQ fa fn K ts h) {d : He.DefD} (hd : d ∈ fn) {fd : FuncData} {oc : Value} {od : Option Addr} {sl : Array (Option Value)} (e : K.lookup (He.fAd K d.at_) = some ⟨oc, od, .func fd, sl⟩) : fd.code = .ref (cdOf K d) := by
  have h := List.all_eq_true.mp c.ref d hd
  unfold refCode at h
  unfold cdOf
  rw [e] at h ⊢
  dsimp only at h ⊢
  split at h
  · rename_i c0 hc; rw [hc]
  · cases h
/-- the law's call: what is to be shown -/
theorem law_at {l : PySem.W.OpenLaw} {w : World} {fa : List He.Fa} {fn : List He.DefD} {K : Fg} {ts : List (Addr × Addr)} {h : Heap} {k n ix : Nat} {x : Str} {mg : Str → Option Value} {f : Addr} {fd : FuncData} {cr : Nat → List Ar → CR} (c : SaysQ fa fn K ts h)
    (hb : ∀ (s : Shared) (u : Value), BindsTo s fd ⟨[u], []⟩ [(x, u)]) (hF : ∀ base : Heap, K.In base → base.Ns mainGlobals mg → (∀ p ∈ ts, GxR.TabB base mg p.1 p.2) → FnOk l.prog w K mg base CX0 k f fd [x] (FSp K cr ix))
    (hL : ∀ (ns : List Int) (m : Nat), ns.length ≤ n → (∀ z ∈ ns, Builtin.Int.intBits z ≤ 1048576) → m ≤ 1 → ∃ outs, cr ix [((.lst (ns.map D.int), m), true)] = .ret (.bl true, 0) outs) : LamX.LawAtS l w K CX0 k n x mg f h := by
  refine ⟨fd, ts, FSp K cr ix, c.emp, c.out, fun p hp => PySem.W.codeHd_of_K c.kin (c.hd p hp), hb, fun H a ns hl hbits hT hS => ?_, fun base h1 h2 h3 => hF base h1 h2 fun p hp => ⟨(h3 p hp).code, (h3 p hp).bm, (h3 p hp).gP⟩⟩
  have tab : Tabs K H := fun P ⟨cc, hc⟩ => by
    obtain ⟨p, hp, rfl⟩ := c.cov cc P hc
    exact ⟨#[], hT p hp, trivial⟩
  have rf : Rfs K H (ns.map D.int) (ns.map V.int) := Rfs.iff.mpr ⟨by simp, fun k d y e1 e2 => by
    rw [List.getElem?_map] at e1 e2
    cases h : ns[k]? with
    | none => rw [h] at e1; cases e1
    | some j => rw [h] at e1 e2; cases e1; cases e2; simp only [Rf]⟩
  have fin : ∀ {v : V} {H' : Hp} {F' : FS} {S : AS} {outs : List W} {fl : List Bool} {vs : List V} {F : FS}, Aft K fl H vs F H' outs F' (.bl true, 0) v S → v = .bl true := fun A => (show Rep K _ 0 (.bl true) _ _ from A.rep).bl
  rcases hS with (hS | ⟨o, hS⟩) | ⟨o, its, m, hk, hc, _⟩
  · obtain ⟨outs, e⟩ := hL ns 1 hl hbits (Nat.le_refl _)
    refine ⟨[((.lst (ns.map D.int), 1), true)], fun k b => k = 0 ∧ b = a, _, outs, ⟨rfl, fun k y v e1 e2 => ?_, fun k b z => ⟨ns.map V.int, by rw [z.2]; exact hS⟩, fun i j b z1 z2 => z1.1.trans z2.1.symm, fun k b z => by rw [z.1]; rfl, tab⟩, e, fun v H' F' S A => fin A⟩
    cases k with
    | zero =>
      cases e1
      cases e2
      exact Rep.mono (fun b z => ⟨rfl, z⟩) (Rep.mk1 hS rf)
    | succ k => simp at e1
  · obtain ⟨outs, e⟩ := hL ns 0 hl hbits (Nat.zero_le _)
    refine ⟨[((.lst (ns.map D.int), 0), true)], fun _ _ => False, _, outs, ⟨rfl, fun k y v e1 e2 => ?_, fun k b z => z.elim, fun i j b z1 z2 => z1.elim, fun k b z => z.elim, tab⟩, e, fun v H' F' S A => fin A⟩
    cases k with
    | zero =>
      cases e1
      cases e2
      exact Rep.frz0.mpr (Rf.lst.mpr ⟨a, _, rfl, .inl ⟨o, hS⟩, rf⟩)
    | succ k => simp at e1
  · exact absurd hc (c.nol a o hk)
/-- the defs' function objects -/
def faQ (K : Fg) (defs : List He.DefD) (i : Nat) : Addr := match defs[i]? with
  | some d => He.fAd K d.at_
  | none => 0
def caQ (K : Fg) (defs : List He.DefD) (i : Nat) : Addr := match defs[i]? with
  | some d => cdOf K d
  | none => 0
def taQ (ts : List (Addr × Addr)) (i : Nat) : Addr := match ts[i]? with
  | some p => p.2
  | none => 0
theorem facts_of {fas : List He.Fa} {defs : List He.DefD} {K : Fg} {ts : List (Addr × Addr)} {h : Heap} (c : SaysQ fas defs K ts h) : ∃ fd : Nat → FuncData, ∀ (i : Nat) (d : He.DefD), defs[i]? = some d → d.dfl = [] → d.kwd = [] →
    FunD K d.name d.qual d.params d.body d.scope [] [] (faQ K defs i) (fd i) ∧ (fd i).code = .ref (caQ K defs i) := by
  have : ∀ i : Nat, ∃ fd : FuncData, ∀ d : He.DefD, defs[i]? = some d → d.dfl = [] → d.kwd = [] → FunD K d.name d.qual d.params d.body d.scope [] [] (faQ K defs i) fd ∧ fd.code = .ref (caQ K defs i) := fun i => by
    cases e : defs[i]? with
    | none => exact ⟨default, fun d h => nomatch h⟩
    | some d =>
      obtain ⟨fd, F⟩ := c.says.def_ i e
      refine ⟨fd, fun d' h h1 h2 => ?_⟩
      cases h
      have F2 : FunD K d.name d.qual d.params d.body d.scope [] [] (He.fAd K d.at_) fd := by
        have e1 : d.dvs K = [] := by unfold He.DefD.dvs; rw [h1]; rfl
        have e2 : d.kws K = [] := by unfold He.DefD.kws; rw [h2]; rfl
        rw [e1, e2] at F
        exact F
      unfold faQ caQ
      rw [e]
      refine ⟨F2, ?_⟩
      obtain ⟨oc, od, dV, kV, doc, pm, an, cdv, ct, osl, e1, e2, _⟩ := F2.ex
      exact c.code (List.mem_of_getElem? e) e2
  exact ⟨fun i => Classical.choose (this i), fun i d h h1 h2 => Classical.choose_spec (this i) d h h1 h2⟩
theorem glo_at {fas : List He.Fa} {defs : List He.DefD} {K : Fg} {ts : List (Addr × Addr)} {h : Heap} {mg : Str → Option Value} (c : SaysQ fas defs K ts h) (G : h.Ns mainGlobals mg) {i : Nat} {d : He.DefD} (e : defs[i]? = some d) (hf : fas[i]? = some (.glo d.name)) (ha : d.at_ = (d.name, none)) :
    mg d.name = some (.ref (faQ K defs i)) := by
  have := He.glo_ok c.kin G (c.says.fact i hf)
  unfold faQ
  rw [e]
  dsimp only
  rw [ha]
  exact this
theorem code_at {fas : List He.Fa} {defs : List He.DefD} {K : Fg} {ts : List (Addr × Addr)} {h base : Heap} {mg : Str → Option Value} (c : SaysQ fas defs K ts h) (tb : ∀ p ∈ ts, GxR.TabB base mg p.1 p.2) {i : Nat} {d : He.DefD} (e : defs[i]? = some d) :
    PySem.W.codeHdIn K (caQ K defs i) (taQ ts i) = true ∧ GxR.TabB base mg (caQ K defs i) (taQ ts i) := by
  obtain ⟨P, hP⟩ := c.prs i d e
  have hm := List.mem_of_getElem? hP
  unfold caQ taQ
  rw [e, hP]
  exact ⟨c.hd _ hm, tb _ hm⟩
end Q
end
section
set_option Elab.async false
set_option linter.all false
set_option maxRecDepth 100000
set_option maxHeartbeats 4000000
/-! QZ: plain reasoning about what the defs are worth. -/
namespace Q
def Ev {α : Type} (r : R α) (P : α → Env → Prop) : Prop := match r with
  | .ok a ρ => P a ρ
  | _ => False
def Rt (r : CR) (P : W → List W → Prop) : Prop := match r with
  | .ret w outs => P w outs
  | _ => False
section
variable {α β : Type}
@[simp] theorem ev_ok {a : α} {ρ : Env} {P : α → Env → Prop} : Ev (.ok a ρ) P = P a ρ := rfl
@[simp] theorem ev_no {P : α → Env → Prop} : Ev (.no) P = False := rfl
@[simp] theorem ev_bd {x : R α} {f : α → Env → R β} {P : β → Env → Prop} : Ev (bd x f) P = Ev x (fun a ρ => Ev (f a ρ) P) := by
  cases x <;> rfl
theorem ev_mono {x : R α} {P Q : α → Env → Prop} (h : Ev x P) (i : ∀ a ρ, P a ρ → Q a ρ) : Ev x Q := by
  cases x with
  | ok a ρ => exact i a ρ h
  | _ => exact h
theorem ev_iff {x : R α} {P : α → Env → Prop} : Ev x P ↔ ∃ a ρ, x = .ok a ρ ∧ P a ρ := by
  cases x with
  | ok a ρ => exact ⟨fun h => ⟨a, ρ, rfl, h⟩, fun ⟨a', ρ', e, h⟩ => by cases e; exact h⟩
  | ex _ _ => exact ⟨fun h => h.elim, fun ⟨_, _, e, _⟩ => by cases e⟩
  | no => exact ⟨fun h => h.elim, fun ⟨_, _, e, _⟩ => by cases e⟩
end
theorem rt_mono {r : CR} {P Q : W → List W → Prop} (h : Rt r P) (i : ∀ w o, P w o → Q w o) : Rt r Q := by
  cases r with
  | ret w o => exact i w o h
  | _ => exact h
theorem rt_iff {r : CR} {P : W → List W → Prop} : Rt r P ↔ ∃ w o, r = .ret w o ∧ P w o := by
  cases r with
  | ret a ρ => exact ⟨fun h => ⟨a, ρ, rfl, h⟩, fun ⟨a', ρ', e, h⟩ => by cases e; exact h⟩
  | ex _ _ => exact ⟨fun h => h.elim, fun ⟨_, _, e, _⟩ => by cases e⟩
  | no => exact ⟨fun h => h.elim, fun ⟨_, _, e, _⟩ => by cases e⟩
@[simp] theorem gt_0 {x : Option W} {r : Env} : gt (x :: r) 0 = x := rfl
@[simp] theorem gt_s {x : Option W} {r : Env} {n : Nat} : gt (x :: r) (n + 1) = gt r n := rfl
/-- a call -/
theorem ev_callV {cr : Nat → List Ar → CR} {ix : Nat} {pm : List Nat} {ss : List (Option Nat)} {fa : Env → R (List (Option W))} {fk : Env → R (List W)} {ρ : Env} {P : W → Env → Prop} :
    Ev (callV cr ix pm ss fa fk ρ) P = Ev (fa ρ) fun ws ρ => Ev (fk ρ) fun zs ρ => (match fill ss ws ρ with
      | some us => Rt (cr ix (us ++ (pick pm zs).map fun z => (z, false))) fun w outs => (match back ss outs ρ with
        | some ρ' => P w ρ'
        | none => False)
      | none => False) := by
  unfold callV
  rw [ev_bd]
  congr 1
  funext ws ρ1
  rw [ev_bd]
  congr 1
  funext zs ρ2
  cases fill ss ws ρ2 with
  | none => rfl
  | some us =>
    dsimp only
    cases cr ix (us ++ (pick pm zs).map fun z => (z, false)) with
    | ret w outs =>
      dsimp only [Rt]
      cases back ss outs ρ2 <;> rfl
    | ex x outs =>
      dsimp only [Rt]
      cases back ss outs ρ2 <;> rfl
    | no => rfl
/-- what a def's end must give -/
def Rp (io : List Bool) (P : W → List W → Prop) : Fl → Env → Prop
  | .rt w, ρ => (match outsOf io ρ with
    | some outs => P w outs
    | none => False)
  | .nx, ρ => (match outsOf io ρ with
    | some outs => P (.non, 0) outs
    | none => False)
  | _, _ => False
@[simp] theorem rp_rt {io : List Bool} {P : W → List W → Prop} {w : W} {ρ : Env} : Rp io P (.rt w) ρ = (match outsOf io ρ with
    | some outs => P w outs
    | none => False) := rfl
@[simp] theorem rp_nx {io : List Bool} {P : W → List W → Prop} {ρ : Env} : Rp io P .nx ρ = (match outsOf io ρ with
    | some outs => P (.non, 0) outs
    | none => False) := rfl
/-- a def is called -/
theorem rt_call {tab : List Fn} {n ix : Nat} {fn : Fn} {as : List Ar} {P : W → List W → Prop} (h : tab[ix]? = some fn) (hf : as.map (·.2) = fn.io) (h0 : ∀ a ∈ as, a.2 = false → a.1.2 = 0) (hn : as.length ≤ fn.n)
    (hb : Ev (fn.body (calls tab n) (as.map (fun a => some a.1) ++ List.replicate (fn.n - as.length) none)) (Rp fn.io P)) : Rt (hd (calls tab (n + 1)) ix as) P := by
  show Rt (match tab[ix]? with
    | some fn => callB (calls tab n) fn as
    | none => .no) P
  rw [h]
  dsimp only
  unfold callB
  rw [if_pos ⟨hf, h0, hn⟩]
  obtain ⟨l, ρ, e, hp⟩ := ev_iff.mp hb
  rw [e]
  cases l with
  | rt w =>
    rw [rp_rt] at hp
    dsimp only
    cases e2 : outsOf fn.io ρ with
    | none => rw [e2] at hp; exact hp.elim
    | some outs => rw [e2] at hp; exact hp
  | nx =>
    rw [rp_nx] at hp
    dsimp only
    cases e2 : outsOf fn.io ρ with
    | none => rw [e2] at hp; exact hp.elim
    | some outs => rw [e2] at hp; exact hp
  | _ => exact hp.elim
theorem ev_forL {f : D → Env → R Fl} {P : Fl → Env → Prop} (I : Nat → Env → Prop) : ∀ {ds : List D} {k : Nat} {all : List D} {ρ : Env}, ds = all.drop k → k ≤ all.length → I k ρ → (∀ k d ρ, all[k]? = some d → I k ρ → Ev (f d ρ) fun l ρ' => (match l with
      | .nx => I (k + 1) ρ'
      | .ct => I (k + 1) ρ'
      | .bk => P .nx ρ'
      | .rt w => P (.rt w) ρ')) → (∀ ρ, I all.length ρ → P .nx ρ) → Ev (forL f ds ρ) P
  | [], k, all, ρ, hd, hk, hI, _, he => by
    have : k = all.length := by
      have := congrArg List.length hd
      simp at this
      omega
    rw [this] at hI
    exact he ρ hI
  | d :: ds, k, all, ρ, hd, hk, hI, hs, he => by
    have hlt : k < all.length := by
      have := congrArg List.length hd
      simp at this
      omega
    rw [List.drop_eq_getElem_cons hlt] at hd
    injection hd with h1 h2
    unfold forL
    rw [ev_bd]
    refine ev_mono (hs k d ρ (by rw [h1]; exact List.getElem?_eq_getElem hlt) hI) fun l ρ' h => ?_
    cases l with
    | nx => exact ev_forL I h2 hlt h hs he
    | ct => exact ev_forL I h2 hlt h hs he
    | bk => exact h
    | rt w => exact h
theorem ev_for {f : D → Env → R Fl} {P : Fl → Env → Prop} {ds : List D} {ρ : Env} (I : Nat → Env → Prop) (h0 : I 0 ρ) (hs : ∀ k d ρ, ds[k]? = some d → I k ρ → Ev (f d ρ) fun l ρ' => (match l with
      | .nx => I (k + 1) ρ'
      | .ct => I (k + 1) ρ'
      | .bk => P .nx ρ'
      | .rt w => P (.rt w) ρ')) (he : ∀ ρ, I ds.length ρ → P .nx ρ) : Ev (forL f ds ρ) P := ev_forL I (k := 0) rfl (Nat.zero_le _) h0 hs he
/-- a comprehension: I by the turn, what is made so far -/
theorem ev_lcL {f : D → Env → R (Option D)} (I : Nat → List D → Env → Prop) : ∀ {ds : List D} {k : Nat} {all done : List D} {ρ : Env} {P : List D → Env → Prop}, ds = all.drop k → k ≤ all.length → I k done ρ → (∀ k d done ρ, all[k]? = some d → I k done ρ → Ev (f d ρ) fun o ρ' => (match o with
      | some x => I (k + 1) (done ++ [x]) ρ'
      | none => I (k + 1) done ρ')) → (∀ rest ρ, I all.length (done ++ rest) ρ → P rest ρ) → Ev (lcL f ds ρ) P
  | [], k, all, done, ρ, P, hd, hk, hI, _, he => by
    have : k = all.length := by
      have := congrArg List.length hd
      simp at this
      omega
    rw [this] at hI
    exact he [] ρ (by rw [List.append_nil]; exact hI)
  | d :: ds, k, all, done, ρ, P, hd, hk, hI, hs, he => by
    have hlt : k < all.length := by
      have := congrArg List.length hd
      simp at this
      omega
    rw [List.drop_eq_getElem_cons hlt] at hd
    injection hd with h1 h2
    unfold lcL
    rw [ev_bd]
    refine ev_mono (hs k d done ρ (by rw [h1]; exact List.getElem?_eq_getElem hlt) hI) fun o ρ' h => ?_
    rw [ev_bd]
    cases o with
    | none => exact ev_lcL I h2 hlt h hs fun rest ρ h => by rw [ev_ok]; exact he rest ρ h
    | some x =>
      refine ev_lcL I h2 hlt h hs fun rest ρ h => ?_
      rw [ev_ok]
      exact he (x :: rest) ρ (by rw [List.append_assoc] at h; exact h)
theorem ev_lc {f : D → Env → R (Option D)} {ds : List D} {ρ : Env} {P : List D → Env → Prop} (I : Nat → List D → Env → Prop) (h0 : I 0 [] ρ) (hs : ∀ k d done ρ, ds[k]? = some d → I k done ρ → Ev (f d ρ) fun o ρ' => (match o with
      | some x => I (k + 1) (done ++ [x]) ρ'
      | none => I (k + 1) done ρ')) (he : ∀ l ρ, I ds.length l ρ → P l ρ) : Ev (lcL f ds ρ) P := ev_lcL I (k := 0) (done := []) rfl (Nat.zero_le _) h0 hs he
/-- all, any: the tests v k are known, the slots stay as they were -/
theorem ev_quit {q : Bool} {f : D → Env → R (Option D)} {ρ : Env} (v : D → Bool) : ∀ {ds : List D} {P : Bool → Env → Prop}, (∀ d ∈ ds, Ev (f d ρ) fun o ρ' => o = some (.bl (v d)) ∧ ρ' = ρ) → P (if ds.any (fun d => v d == q) then q else !q) ρ → Ev (quitG q f ds ρ) P
  | [], P, _, h => h
  | d :: ds, P, hs, h => by
    unfold quitG
    rw [ev_bd]
    refine ev_mono (hs d List.mem_cons_self) fun o ρ' ⟨h1, h2⟩ => ?_
    subst h1 h2
    dsimp only
    by_cases hk : v d = q
    · rw [if_pos hk]
      rw [List.any_cons, show (v d == q) = true by simpa using hk, Bool.true_or, if_pos rfl] at h
      exact h
    · rw [if_neg hk]
      rw [List.any_cons, show (v d == q) = false by simpa using hk, Bool.false_or] at h
      exact ev_quit v (fun d hd => hs d (List.mem_cons_of_mem _ hd)) h
theorem ev_sumG {f : D → Env → R (Option D)} {ρ : Env} (v : D → Int) : ∀ {ds : List D} {n : Int} {P : Int → Env → Prop}, (∀ d ∈ ds, Ev (f d ρ) fun o ρ' => o = some (.int (v d)) ∧ ρ' = ρ ∧ 0 ≤ v d) → 0 ≤ n → n + (ds.map v).sum < 2 ^ 62 → P (n + (ds.map v).sum) ρ → Ev (sumG f ds n ρ) P
  | [], n, P, _, _, _, h => by simpa [sumG] using h
  | d :: ds, n, P, hs, h0, hl, h => by
    unfold sumG
    rw [ev_bd]
    refine ev_mono (hs d List.mem_cons_self) fun o ρ' ⟨h1, h2, h3⟩ => ?_
    subst h1 h2
    dsimp only
    have hpos : 0 ≤ (ds.map v).sum := by
      have : ∀ l : List D, (∀ d ∈ l, 0 ≤ v d) → 0 ≤ (l.map v).sum := fun l => by
        induction l with
        | nil => intro _; simp
        | cons x r ih => intro hx; rw [List.map_cons, List.sum_cons]; have := hx x List.mem_cons_self; have := ih fun d hd => hx d (List.mem_cons_of_mem _ hd); omega
      refine this ds fun d hd => ?_
      obtain ⟨o, ρ2, _, hh⟩ := ev_iff.mp (hs d (List.mem_cons_of_mem _ hd))
      exact hh.2.2
    rw [List.map_cons, List.sum_cons] at hl h
    rw [if_pos ⟨⟨by omega, by omega⟩, by omega, by omega⟩]
    exact ev_sumG v (fun d hd => hs d (List.mem_cons_of_mem _ hd)) (by omega) (by omega) (by rw [Int.add_assoc]; exact h)
/-! ### the combinators at known slots -/
@[simp] theorem varV_e {i : Nat} {x0 : Option W} {r0 : Env} : varV i (x0 :: r0) = (fun (ρ : Env) => (match gt ρ i with
  | some w => .ok w ρ
  | none => .no : R W)) (x0 :: r0) := rfl
@[simp] theorem mvV_e {i : Nat} {x0 : Option W} {r0 : Env} : mvV i (x0 :: r0) = (fun (ρ : Env) => (match gt ρ i with
  | some w => .ok w (ρ.set i none)
  | none => .no : R W)) (x0 :: r0) := rfl
@[simp] theorem fzV_e {i : Nat} {x0 : Option W} {r0 : Env} : fzV i (x0 :: r0) = (fun (ρ : Env) => (match gt ρ i with
  | some w => .ok (w.1, 0) (ρ.set i (some (w.1, 0)))
  | none => .no : R W)) (x0 :: r0) := rfl
@[simp] theorem cV_e {d : D} {x0 : Option W} {r0 : Env} : cV d (x0 :: r0) = (fun (ρ : Env) => (.ok (d, 0) ρ : R W)) (x0 :: r0) := rfl
@[simp] theorem ecV_e {f : Env → R W} {x0 : Option W} {r0 : Env} : ecV f (x0 :: r0) = (fun (ρ : Env) => (bd (f ρ) ec : R W)) (x0 :: r0) := rfl
@[simp] theorem coV_e {m : Nat} {f : Env → R W} {x0 : Option W} {r0 : Env} : coV m f (x0 :: r0) = (fun (ρ : Env) => (bd (f ρ) (co m) : R W)) (x0 :: r0) := rfl
@[simp] theorem binV_e {sem : W → W → Option W} {f g : Env → R W} {x0 : Option W} {r0 : Env} : binV sem f g (x0 :: r0) = (fun (ρ : Env) => (bd (f ρ) fun x ρ => bd (g ρ) fun y ρ => (match sem x y with
  | some w => .ok w ρ
  | none => .no) : R W)) (x0 :: r0) := rfl
@[simp] theorem cmpV_e {o : Cop} {f g : Env → R W} {x0 : Option W} {r0 : Env} : cmpV o f g (x0 :: r0) = (fun (ρ : Env) => (bd (f ρ) fun x ρ => bd (g ρ) fun y ρ => (match cop o x.1 y.1 with
  | some k => .ok (.bl k, 0) ρ
  | none => .no) : R W)) (x0 :: r0) := rfl
@[simp] theorem chainV_e {o o' : Cop} {f g h : Env → R W} {x0 : Option W} {r0 : Env} : chainV o o' f g h (x0 :: r0) = (fun (ρ : Env) => (bd (f ρ) fun x ρ => bd (g ρ) fun y ρ => (match cop o x.1 y.1 with
  | some true => bd (h ρ) fun u ρ => (match cop o' y.1 u.1 with
    | some k => .ok (.bl k, 0) ρ
    | none => .no)
  | some false => .ok (.bl false, 0) ρ
  | none => .no) : R W)) (x0 :: r0) := rfl
@[simp] theorem truB_e {f : Env → R W} {x0 : Option W} {r0 : Env} : truB f (x0 :: r0) = (fun (ρ : Env) => (bd (f ρ) tru : R Bool)) (x0 :: r0) := rfl
@[simp] theorem notB_e {p : Env → R Bool} {x0 : Option W} {r0 : Env} : notB p (x0 :: r0) = (fun (ρ : Env) => (bd (p ρ) fun k ρ => .ok (!k) ρ : R Bool)) (x0 :: r0) := rfl
@[simp] theorem andB1_e {p : Env → R Bool} {x0 : Option W} {r0 : Env} : andB1 p (x0 :: r0) = (fun (ρ : Env) => (bd (p ρ) fun k ρ => (match k with
  | true => .ok true ρ
  | false => .ok false ρ) : R Bool)) (x0 :: r0) := rfl
@[simp] theorem andB_e {p q : Env → R Bool} {x0 : Option W} {r0 : Env} : andB p q (x0 :: r0) = (fun (ρ : Env) => (bd (p ρ) fun k ρ => (match k with
  | true => q ρ
  | false => .ok false ρ) : R Bool)) (x0 :: r0) := rfl
@[simp] theorem orB_e {p q : Env → R Bool} {x0 : Option W} {r0 : Env} : orB p q (x0 :: r0) = (fun (ρ : Env) => (bd (p ρ) fun k ρ => (match k with
  | true => .ok true ρ
  | false => q ρ) : R Bool)) (x0 :: r0) := rfl
@[simp] theorem ifV_e {p : Env → R Bool} {f g : Env → R W} {x0 : Option W} {r0 : Env} : ifV p f g (x0 :: r0) = (fun (ρ : Env) => (bd (p ρ) fun k ρ => (match k with
  | true => f ρ
  | false => g ρ) : R W)) (x0 :: r0) := rfl
@[simp] theorem notV_e {f : Env → R W} {x0 : Option W} {r0 : Env} : notV f (x0 :: r0) = (fun (ρ : Env) => (bd (f ρ) fun x ρ => (match truth x.1 with
  | some k => .ok (.bl (!k), 0) ρ
  | none => .no) : R W)) (x0 :: r0) := rfl
@[simp] theorem negV_e {f : Env → R W} {x0 : Option W} {r0 : Env} : negV f (x0 :: r0) = (fun (ρ : Env) => (bd (f ρ) fun x ρ => (match x with
  | (.int i, _) => .ok (.int (-i), 0) ρ
  | _ => .no) : R W)) (x0 :: r0) := rfl
@[simp] theorem andV_e {f g : Env → R W} {x0 : Option W} {r0 : Env} : andV f g (x0 :: r0) = (fun (ρ : Env) => (bd (f ρ) fun x ρ => (match x.1 with
  | .bl true => g ρ
  | .bl false => .ok (.bl false, 0) ρ
  | _ => .no) : R W)) (x0 :: r0) := rfl
@[simp] theorem orV_e {f g : Env → R W} {x0 : Option W} {r0 : Env} : orV f g (x0 :: r0) = (fun (ρ : Env) => (bd (f ρ) fun x ρ => (match x.1 with
  | .bl true => .ok (.bl true, 0) ρ
  | .bl false => g ρ
  | _ => .no) : R W)) (x0 :: r0) := rfl
@[simp] theorem subV_e {f g : Env → R W} {x0 : Option W} {r0 : Env} : subV f g (x0 :: r0) = (fun (ρ : Env) => (bd (f ρ) fun x ρ => bd (g ρ) fun j ρ => (match item x j.1 with
  | some w => .ok w ρ
  | none => .no) : R W)) (x0 :: r0) := rfl
@[simp] theorem noO_e  {x0 : Option W} {r0 : Env} : noO  (x0 :: r0) = (fun (ρ : Env) => (.ok none ρ : R (Option Int))) (x0 :: r0) := rfl
@[simp] theorem yesO_e {f : Env → R W} {x0 : Option W} {r0 : Env} : yesO f (x0 :: r0) = (fun (ρ : Env) => (bd (f ρ) fun x ρ => (match x.1 with
  | .int i => .ok (some i) ρ
  | _ => .no) : R (Option Int))) (x0 :: r0) := rfl
@[simp] theorem slcV_e {f : Env → R W} {g h : Env → R (Option Int)} {x0 : Option W} {r0 : Env} : slcV f g h (x0 :: r0) = (fun (ρ : Env) => (bd (f ρ) fun x ρ => bd (g ρ) fun l ρ => bd (h ρ) fun u ρ => (match slice x l u with
  | some w => .ok w ρ
  | none => .no) : R W)) (x0 :: r0) := rfl
@[simp] theorem tupV_e {g : Env → R (List W)} {x0 : Option W} {r0 : Env} : tupV g (x0 :: r0) = (fun (ρ : Env) => (bd (g ρ) fun ws ρ => if ws.length ≤ line then .ok (.tup (ws.map (·.1)), 0) ρ else .no : R W)) (x0 :: r0) := rfl
@[simp] theorem lstV_e {m : Nat} {g : Env → R (List W)} {x0 : Option W} {r0 : Env} : lstV m g (x0 :: r0) = (fun (ρ : Env) => (bd (g ρ) fun ws ρ => if ws.length ≤ line then .ok (.lst (ws.map (·.1)), m + 1) ρ else .no : R W)) (x0 :: r0) := rfl
@[simp] theorem bltV_e {sem : List W → Option W} {g : Env → R (List W)} {x0 : Option W} {r0 : Env} : bltV sem g (x0 :: r0) = (fun (ρ : Env) => (bd (g ρ) fun ws ρ => (match sem ws with
  | some w => .ok w ρ
  | none => .no) : R W)) (x0 :: r0) := rfl
@[simp] theorem consV_e {f : Env → R W} {g : Env → R (List W)} {x0 : Option W} {r0 : Env} : consV f g (x0 :: r0) = (fun (ρ : Env) => (bd (f ρ) fun x ρ => bd (g ρ) fun xs ρ => .ok (x :: xs) ρ : R (List W))) (x0 :: r0) := rfl
@[simp] theorem consA_e {f : Env → R W} {g : Env → R (List (Option W))} {x0 : Option W} {r0 : Env} : consA f g (x0 :: r0) = bd (f (x0 :: r0)) fun x ρ => bd (g ρ) fun xs ρ => .ok (some x :: xs) ρ := rfl
@[simp] theorem consI_e {i : Nat} {g : Env → R (List (Option W))} {x0 : Option W} {r0 : Env} : consI i g (x0 :: r0) = (match gt (x0 :: r0) i with | some _ => bd (g (x0 :: r0)) fun xs ρ => .ok (none :: xs) ρ | none => .no) := rfl
@[simp] theorem yesB_e  {x0 : Option W} {r0 : Env} : yesB  (x0 :: r0) = (fun (ρ : Env) => (.ok true ρ : R Bool)) (x0 :: r0) := rfl
@[simp] theorem itemsV_e {f : Env → R W} {x0 : Option W} {r0 : Env} : itemsV f (x0 :: r0) = (fun (ρ : Env) => (bd (f ρ) itemsR : R (List D))) (x0 :: r0) := rfl
@[simp] theorem rngV_e {g : Env → R (List W)} {x0 : Option W} {r0 : Env} : rngV g (x0 :: r0) = (fun (ρ : Env) => (bd (g ρ) rngR : R (List D))) (x0 :: r0) := rfl
@[simp] theorem plV_e {i : Nat} {x0 : Option W} {r0 : Env} : plV i (x0 :: r0) = (fun (ρ : Env) => (match gt ρ i with
  | some _ => .ok [] ρ
  | none => .no : R (List D))) (x0 :: r0) := rfl
@[simp] theorem plS_e {i : Nat} {f : Env → R (List D)} {g : Env → R W} {x0 : Option W} {r0 : Env} : plS i f g (x0 :: r0) = (fun (ρ : Env) => (bd (f ρ) fun p ρ => bd (g ρ) fun j ρ => plStep i p j.1 ρ : R (List D))) (x0 :: r0) := rfl
@[simp] theorem gN_e {i : Nat} {w : W} {x0 : Option W} {r0 : Env} : gN i w (x0 :: r0) = (fun (ρ : Env) => (if i < ρ.length then some (ρ.set i (some w)) else none : Option Env)) (x0 :: r0) := rfl
@[simp] theorem gT_e {h : List D → Env → Option Env} {w : W} {x0 : Option W} {r0 : Env} : gT h w (x0 :: r0) = (fun (ρ : Env) => (match w with
  | (.tup ds, _) => h ds ρ
  | _ => none : Option Env)) (x0 :: r0) := rfl
@[simp] theorem gNil_e {ds : List D} {x0 : Option W} {r0 : Env} : gNil ds (x0 :: r0) = (fun (ρ : Env) => (match ds with
  | [] => some ρ
  | _ => none : Option Env)) (x0 :: r0) := rfl
@[simp] theorem gCons_e {g : W → Env → Option Env} {h : List D → Env → Option Env} {ds : List D} {x0 : Option W} {r0 : Env} : gCons g h ds (x0 :: r0) = (fun (ρ : Env) => (match ds with
  | d :: ds => (match g (d, 0) ρ with
    | some ρ' => h ds ρ'
    | none => none)
  | [] => none : Option Env)) (x0 :: r0) := rfl
@[simp] theorem doneS_e  {x0 : Option W} {r0 : Env} : doneS  (x0 :: r0) = (fun (ρ : Env) => (.ok .nx ρ : R Fl)) (x0 :: r0) := rfl
@[simp] theorem exS_e {f : Env → R W} {x0 : Option W} {r0 : Env} : exS f (x0 :: r0) = (fun (ρ : Env) => (bd (f ρ) fun _ ρ => .ok .nx ρ : R Fl)) (x0 :: r0) := rfl
@[simp] theorem retS_e {f : Env → R W} {x0 : Option W} {r0 : Env} : retS f (x0 :: r0) = (fun (ρ : Env) => (bd (f ρ) fun w ρ => .ok (.rt w) ρ : R Fl)) (x0 :: r0) := rfl
@[simp] theorem brkS_e  {x0 : Option W} {r0 : Env} : brkS  (x0 :: r0) = (fun (ρ : Env) => (.ok .bk ρ : R Fl)) (x0 :: r0) := rfl
@[simp] theorem cntS_e  {x0 : Option W} {r0 : Env} : cntS  (x0 :: r0) = (fun (ρ : Env) => (.ok .ct ρ : R Fl)) (x0 :: r0) := rfl
@[simp] theorem ifS_e {p : Env → R Bool} {f g : Env → R Fl} {x0 : Option W} {r0 : Env} : ifS p f g (x0 :: r0) = (fun (ρ : Env) => (bd (p ρ) fun k ρ => (match k with
  | true => f ρ
  | false => g ρ) : R Fl)) (x0 :: r0) := rfl
@[simp] theorem asgS_e {f : Env → R W} {g : W → Env → Option Env} {x0 : Option W} {r0 : Env} : asgS f g (x0 :: r0) = (fun (ρ : Env) => (bd (f ρ) fun w ρ => (match g w ρ with
  | some ρ' => .ok .nx ρ'
  | none => .no) : R Fl)) (x0 :: r0) := rfl
@[simp] theorem augS_e {i : Nat} {sem : W → W → Option W} {f : Env → R W} {x0 : Option W} {r0 : Env} : augS i sem f (x0 :: r0) = (fun (ρ : Env) => (match gt ρ i with
  | none => .no
  | some _ => bd (f ρ) fun y ρ => (match gt ρ i with
    | some x => if x.1.leaf then (match sem x y with
      | some w => .ok .nx (ρ.set i (some w))
      | none => .no) else .no
    | none => .no) : R Fl)) (x0 :: r0) := rfl
@[simp] theorem thenS_e {f g : Env → R Fl} {x0 : Option W} {r0 : Env} : thenS f g (x0 :: r0) = (fun (ρ : Env) => (bd (f ρ) fun l ρ => (match l with
    | .nx => g ρ
    | .rt w => .ok (.rt w) ρ
    | .bk => .ok .bk ρ
    | .ct => .ok .ct ρ) : R Fl)) (x0 :: r0) := rfl
@[simp] theorem mutV_e {m : Mut} {i : Nat} {f : Env → R (List D)} {g : Env → R (List W)} {x0 : Option W} {r0 : Env} : mutV m i f g (x0 :: r0) = (fun (ρ : Env) => (bd (f ρ) fun p ρ => (match getS ρ i p with
    | some (.lst _, _ + 1) => bd (g ρ) fun ws ρ => (match getS ρ i p with
      | some w => (match mutL m w ws with
        | some (a, d) => (match putS ρ i p d with
          | some ρ' => .ok a ρ'
          | none => .no)
        | none => .no)
      | none => .no)
    | _ => .no) : R W)) (x0 :: r0) := rfl
@[simp] theorem forV_e {fw : Env → R (List D)} {gg : W → Env → Option Env} {fb : Env → R Fl} {x0 : Option W} {r0 : Env} : forV fw gg fb (x0 :: r0) = (fun (ρ : Env) => (bd (fw ρ) fun ds ρ => forL (fun d ρ => (match gg (d, 0) ρ with
    | some ρ' => fb ρ'
    | none => .no)) ds ρ : R Fl)) (x0 :: r0) := rfl
@[simp] theorem lcV_e {m : Nat} {own : List Nat} {fw : Env → R (List D)} {gg : W → Env → Option Env} {ft : Env → R Bool} {fe : Env → R W} {x0 : Option W} {r0 : Env} : lcV m own fw gg ft fe (x0 :: r0) = (fun (ρ : Env) => (  bd (fw ρ) fun ds ρ0 => bd (lcL (eltV own gg ft fe) ds (wip own ρ0)) fun l ρ => if l.length ≤ line then .ok (.lst l, m + 1) (rst own ρ0 ρ) else .no : R W)) (x0 :: r0) := rfl
@[simp] theorem par2V_e {i j : Nat} {g : Env → R (List W)} {x0 : Option W} {r0 : Env} : par2V i j g (x0 :: r0) = (fun (ρ : Env) => (bd (g ρ) fun ws ρ => (match ws with
  | [u, v] => if i < ρ.length ∧ j < ρ.length then .ok .nx ((ρ.set i (some u)).set j (some v)) else .no
  | _ => .no) : R Fl)) (x0 :: r0) := rfl
@[simp] theorem par3V_e {i j l : Nat} {g : Env → R (List W)} {x0 : Option W} {r0 : Env} : par3V i j l g (x0 :: r0) = (fun (ρ : Env) => (bd (g ρ) fun ws ρ => (match ws with
  | [u, v, w] => if i < ρ.length ∧ j < ρ.length ∧ l < ρ.length then .ok .nx (((ρ.set i (some u)).set j (some v)).set l (some w)) else .no
  | _ => .no) : R Fl)) (x0 :: r0) := rfl
@[simp] theorem setV_e {i m : Nat} {fe : Env → R W} {fp : Env → R (List D)} {fj : Env → R W} {x0 : Option W} {r0 : Env} : setV i m fe fp fj (x0 :: r0) = (fun (ρ : Env) => (bd (fe ρ) fun x ρ => bd (fp ρ) fun p ρ => bd (fj ρ) fun k ρ => (match getS ρ i p with
    | some (.lst xs, n + 1) => if m = n then (match k.1 with
      | .int q => (match ixOf xs.length q with
        | some r => (match putS ρ i p (.lst (xs.set r x.1)) with
          | some ρ' => .ok .nx ρ'
          | none => .no)
        | none => .no)
      | _ => .no) else .no
    | _ => .no) : R Fl)) (x0 :: r0) := rfl
@[simp] theorem quitV_e {q : Bool} {own : List Nat} {fw : Env → R (List D)} {gg : W → Env → Option Env} {ft : Env → R Bool} {fe : Env → R W} {x0 : Option W} {r0 : Env} : quitV q own fw gg ft fe (x0 :: r0) = (fun (ρ : Env) => (  bd (fw ρ) fun ds ρ0 => bd (quitG q (eltV own gg ft fe) ds (wip own ρ0)) fun b ρ => .ok (.bl b, 0) (rst own ρ0 ρ) : R W)) (x0 :: r0) := rfl
@[simp] theorem sumV_e {own : List Nat} {fw : Env → R (List D)} {gg : W → Env → Option Env} {ft : Env → R Bool} {fe : Env → R W} {x0 : Option W} {r0 : Env} : sumV own fw gg ft fe (x0 :: r0) = (fun (ρ : Env) => (  bd (fw ρ) fun ds ρ0 => bd (sumG (eltV own gg ft fe) ds 0 (wip own ρ0)) fun n ρ => .ok (.int n, 0) (rst own ρ0 ρ) : R W)) (x0 :: r0) := rfl
@[simp] theorem lrngV_e {g : Env → R (List W)} {x0 : Option W} {r0 : Env} : lrngV g (x0 :: r0) = (fun (ρ : Env) => (bd (g ρ) fun ws ρ => (match rngD (ws.map (·.1)) with
  | some ds => if ds.length ≤ line then .ok (.lst ds, 1) ρ else .no
  | none => .no) : R W)) (x0 :: r0) := rfl
section
variable {ρ : Env} {f g : Env → R W} {P : W → Env → Prop}
@[simp] theorem ec_0 {d : D} : ec (d, 0) ρ = .ok (d, 0) ρ := rfl
@[simp] theorem co_0 {w : W} : co 0 w ρ = .ok (w.1, 0) ρ := rfl
@[simp] theorem co_int {m : Nat} {i : Int} {n : Nat} : co m (.int i, n) ρ = .ok (.int i, m) ρ := by
  unfold co coe
  by_cases h : m = 0
  · rw [if_pos h, h]
  · rw [if_neg h, if_pos (show (D.int i).leaf = true from rfl)]
@[simp] theorem okNil_eq : okNil ρ = .ok [] ρ := rfl
@[simp] theorem okNilA_eq : okNilA ρ = .ok [] ρ := rfl
@[simp] theorem tru_bl {b : Bool} {n : Nat} : tru (.bl b, n) ρ = .ok b ρ := rfl
@[simp] theorem tru_int {i : Int} {n : Nat} : tru (.int i, n) ρ = .ok (i != 0) ρ := rfl
@[simp] theorem tru_tup {xs : List D} {n : Nat} : tru (.tup xs, n) ρ = .ok (!xs.isEmpty) ρ := rfl
@[simp] theorem tru_lst {xs : List D} {n : Nat} : tru (.lst xs, n) ρ = .ok (!xs.isEmpty) ρ := rfl
@[simp] theorem truth_bl {b : Bool} : truth (.bl b) = some b := rfl
@[simp] theorem itemsR_tup {xs : List D} {n : Nat} (h : n ≤ 1) : itemsR (.tup xs, n) ρ = .ok xs ρ := by unfold itemsR items rowOf; simp [h]
@[simp] theorem itemsR_lst {xs : List D} {n : Nat} (h : n ≤ 1) : itemsR (.lst xs, n) ρ = .ok xs ρ := by unfold itemsR items rowOf; simp [h]
theorem ok64 : ∀ (n : Nat) (d : D), okD n d = true → okD (n + 1) d = true
  | n, .non, _ => by cases n <;> rfl
  | n, .bl _, _ => by cases n <;> rfl
  | n, .int _, _ => by cases n <;> rfl
  | n, .str s, h => by cases n <;> simpa [okD] using h
  | 0, .tup _, h => by simp [okD] at h
  | 0, .lst _, h => by simp [okD] at h
  | 0, .dic _, h => by simp [okD] at h
  | n + 1, .dic _, h => by simp [okD] at h
  | n + 1, .tup xs, h => by
    simp only [okD, List.all_eq_true] at h ⊢
    exact fun x hx => ok64 n x (h x hx)
  | n + 1, .lst xs, h => by
    simp only [okD, List.all_eq_true] at h ⊢
    exact fun x hx => ok64 n x (h x hx)
@[simp] theorem ok_int {n : Nat} {i : Int} : okD n (.int i) = true := by cases n <;> rfl
@[simp] theorem ok_bl {n : Nat} {i : Bool} : okD n (.bl i) = true := by cases n <;> rfl
@[simp] theorem ok_non {n : Nat} : okD n .non = true := by cases n <;> rfl
@[simp] theorem ok_ints {n : Nat} {l : List Int} : okD (n + 1) (.lst (l.map D.int)) = true := by simp [okD]
@[simp] theorem deq_int {i j : Int} : deq (.int i) (.int j) = (i == j) := by simp [deq]
@[simp] theorem cop_eq_int {i j : Int} : cop .eq (.int i) (.int j) = some (i == j) := by simp [cop]
@[simp] theorem cop_ne_int {i j : Int} : cop .ne (.int i) (.int j) = some (!(i == j)) := by simp [cop]
@[simp] theorem cop_lt_int {i j : Int} : cop .lt (.int i) (.int j) = some (decide (i < j)) := by simp [cop]
@[simp] theorem cop_le_int {i j : Int} : cop .le (.int i) (.int j) = some (decide (i ≤ j)) := by simp [cop]
@[simp] theorem cop_gt_int {i j : Int} : cop .gt (.int i) (.int j) = some (decide (j < i)) := by simp [cop]
@[simp] theorem cop_ge_int {i j : Int} : cop .ge (.int i) (.int j) = some (decide (j ≤ i)) := by simp [cop]
@[simp] theorem addW_int {i j : Int} {m n : Nat} : addW (.int i, m) (.int j, n) = some (.int (i + j), 0) := rfl
@[simp] theorem subW_int {i j : Int} {m n : Nat} : subW (.int i, m) (.int j, n) = some (.int (i - j), 0) := rfl
@[simp] theorem modW_int {i j : Int} {m n : Nat} (h : 0 < j) : modW (.int i, m) (.int j, n) = some (.int (i % j), 0) := by simp [modW, h]
@[simp] theorem fdivW_int {i j : Int} {m n : Nat} (h : 0 < j) (h2 : j < 1073741824) : fdivW (.int i, m) (.int j, n) = some (.int (i / j), 0) := by simp [fdivW, h, h2]
@[simp] theorem addI_int {i j : Int} {m n : Nat} : addI (.int i, m) (.int j, n) = some (.int (i + j), 0) := rfl
@[simp] theorem lenW_lst {xs : List D} {n : Nat} : lenW [(.lst xs, n)] = some (.int xs.length, 0) := rfl
@[simp] theorem lenW_tup {xs : List D} {n : Nat} : lenW [(.tup xs, n)] = some (.int xs.length, 0) := rfl
@[simp] theorem intW_int {i : Int} {n : Nat} : intW [(.int i, n)] = some (.int i, 0) := rfl
@[simp] theorem isW_eq {p : D → Bool} {d : D} {n : Nat} : isW p [(d, n)] = some (.bl (p d), 0) := rfl
/-- an item by a place that is known -/
theorem item_lst {xs : List D} {n : Nat} {i : Int} {k : Nat} {d : D} (h1 : ixOf xs.length i = some k) (h2 : xs[k]? = some d) : item (.lst xs, n) (.int i) = some (sink n d) := by simp [item, h1, h2]
theorem item_tup {xs : List D} {n : Nat} {i : Int} {k : Nat} {d : D} (h1 : ixOf xs.length i = some k) (h2 : xs[k]? = some d) : item (.tup xs, n) (.int i) = some (d, 0) := by simp [item, h1, h2]
theorem ixOf_nat {n : Nat} {i : Int} (h0 : 0 ≤ i) (h : i < n) : ixOf n i = some i.toNat := by
  unfold ixOf
  rw [if_pos h0, if_pos (by omega)]
@[simp] theorem item_l0 {a : D} {r : List D} {n : Nat} : item (.lst (a :: r), n) (.int 0) = some (sink n a) := by simp [item, ixOf]
@[simp] theorem item_l1 {a b : D} {r : List D} {n : Nat} : item (.lst (a :: b :: r), n) (.int 1) = some (sink n b) := by simp [item, ixOf]
@[simp] theorem item_l2 {a b c : D} {r : List D} {n : Nat} : item (.lst (a :: b :: c :: r), n) (.int 2) = some (sink n c) := by simp [item, ixOf]
@[simp] theorem item_l3 {a b c d : D} {r : List D} {n : Nat} : item (.lst (a :: b :: c :: d :: r), n) (.int 3) = some (sink n d) := by simp [item, ixOf]
@[simp] theorem item_t0 {a : D} {r : List D} {n : Nat} : item (.tup (a :: r), n) (.int 0) = some (a, 0) := by simp [item, ixOf]
@[simp] theorem item_t1 {a b : D} {r : List D} {n : Nat} : item (.tup (a :: b :: r), n) (.int 1) = some (b, 0) := by simp [item, ixOf]
@[simp] theorem item_t2 {a b c : D} {r : List D} {n : Nat} : item (.tup (a :: b :: c :: r), n) (.int 2) = some (c, 0) := by simp [item, ixOf]
@[simp] theorem item_t3 {a b c d : D} {r : List D} {n : Nat} : item (.tup (a :: b :: c :: d :: r), n) (.int 3) = some (d, 0) := by simp [item, ixOf]
@[simp] theorem sink_int {n : Nat} {i : Int} : sink n (.int i) = (.int i, 0) := rfl
@[simp] theorem sink_bl {n : Nat} {i : Bool} : sink n (.bl i) = (.bl i, 0) := rfl
@[simp] theorem sink_non {n : Nat} : sink n .non = (.non, 0) := rfl
@[simp] theorem sink_str {n : Nat} {i : Str} : sink n (.str i) = (.str i, 0) := rfl
@[simp] theorem sink_tup {n : Nat} {i : List D} : sink n (.tup i) = (.tup i, 0) := rfl
@[simp] theorem sink_lst {n : Nat} {i : List D} : sink n (.lst i) = (.lst i, n - 1) := rfl
@[simp] theorem cop_ne_nil {l : List Int} : cop .ne (.lst (l.map D.int)) (.lst []) = some (!l.isEmpty) := by
  cases l <;> simp [cop, okD, deq, deqs]
/-- some int of a list of ints -/
theorem item_ints {l : List Int} {n : Nat} {i : Int} (h0 : 0 ≤ i) (h : i < l.length) : ∃ c, item (.lst (l.map D.int), n) (.int i) = some (.int c, 0) ∧ l[i.toNat]? = some c := by
  have hk : i.toNat < l.length := by omega
  refine ⟨l[i.toNat], ?_, List.getElem?_eq_getElem hk⟩
  rw [item_lst (k := i.toNat) (d := .int l[i.toNat]) (ixOf_nat h0 (by simpa using h)) (by rw [List.getElem?_map, List.getElem?_eq_getElem hk]; rfl)]
  rfl
@[simp] theorem mulW_int {i j : Int} {m n : Nat} (h : (-(2 ^ 64) < i ∧ i < 2 ^ 64) ∨ (-(2 ^ 64) < j ∧ j < 2 ^ 64)) : mulW (.int i, m) (.int j, n) = some (.int (i * j), 0) := by
  show (if _ then _ else _) = _
  rw [if_pos h]
@[simp] theorem mulW_mod {i j : Int} {m n : Nat} : mulW (.int (i % 2147483647), m) (.int j, n) = some (.int (i % 2147483647 * j), 0) := by
  have h1 := Int.emod_nonneg i (b := 2147483647) (by omega)
  have h2 := Int.emod_lt_of_pos i (b := 2147483647) (by omega)
  exact mulW_int (Or.inl ⟨by omega, by omega⟩)
@[simp] theorem cop_ne_app {l : List Int} {i : Int} : cop .ne (.lst (l.map D.int ++ [.int i])) (.lst []) = some true := by
  have h := @cop_ne_nil (l ++ [i])
  rw [List.map_append] at h
  rw [show [D.int i] = List.map D.int [i] from rfl, h]
  cases l <;> rfl
@[simp] theorem getS_e {x0 : Option W} {r0 : Env} {i : Nat} {p : List D} : getS (x0 :: r0) i p = (match gt (x0 :: r0) i with
  | some w => getP w p
  | none => none) := rfl
@[simp] theorem putS_e {x0 : Option W} {r0 : Env} {i : Nat} {p : List D} {x : D} : putS (x0 :: r0) i p x = (match gt (x0 :: r0) i with
  | some (d, n) => (match setP d p x with
    | some d' => some ((x0 :: r0).set i (some (d', n)))
    | none => none)
  | none => none) := rfl
@[simp] theorem plStep_e {x0 : Option W} {r0 : Env} {i : Nat} {p : List D} {j : D} : plStep i p j (x0 :: r0) = (match getS (x0 :: r0) i p with
  | some (.lst xs, _ + 1) => (match j with
    | .int q => (match ixOf xs.length q with
      | some _ => .ok (p ++ [.int q]) (x0 :: r0)
      | none => .no)
    | _ => .no)
  | _ => .no) := rfl
@[simp] theorem getP_nil {w : W} : getP w [] = some w := by
  unfold getP
  rfl
@[simp] theorem getP_cons {xs : List D} {n : Nat} {i : Int} {r : List D} : getP (.lst xs, n) (.int i :: r) = (match ixOf xs.length i with
  | some k => (match xs[k]? with
    | some d => getP (d, n - 1) r
    | none => none)
  | none => none) := rfl
@[simp] theorem setP_nil {d x : D} : setP d [] x = some x := by
  unfold setP
  rfl
@[simp] theorem setP_cons {xs : List D} {i : Int} {r : List D} {x : D} : setP (.lst xs) (.int i :: r) x = (match ixOf xs.length i with
  | some k => (match xs[k]? with
    | some d => (match setP d r x with
      | some y => some (.lst (xs.set k y))
      | none => none)
    | none => none)
  | none => none) := rfl
@[simp] theorem ixOf_0 {n : Nat} : ixOf (n + 1) 0 = some 0 := by simp [ixOf]
@[simp] theorem ixOf_1 {n : Nat} : ixOf (n + 1 + 1) 1 = some 1 := by simp [ixOf]
@[simp] theorem mutL_pop {xs : List D} {d : D} {n : Nat} : mutL .pop (.lst (xs ++ [d]), n + 1) [] = some (sink (n + 1) d, .lst xs) := by simp [mutL]
@[simp] theorem mutL_pop1 {xs : List D} {d : D} : mutL .pop (.lst (xs ++ [d]), 1) [] = some (sink 1 d, .lst xs) := mutL_pop
@[simp] theorem mutL_reverse {xs : List D} {n : Nat} : mutL .reverse (.lst xs, n + 1) [] = some ((.non, 0), .lst xs.reverse) := rfl
theorem mutL_append {xs : List D} {d : W} {n : Nat} (h : xs.length < line) : mutL (.append n) (.lst xs, n + 1) [d] = some ((.non, 0), .lst (xs ++ [d.1])) := by simp [mutL, h]
@[simp] theorem cop_ne_nn : cop .ne (.lst []) (.lst []) = some false := rfl
@[simp] theorem sink_0 {d : D} : sink 0 d = (d, 0) := by cases d <;> rfl
@[simp] theorem sink_1 {d : D} : sink 1 d = (d, 0) := by cases d <;> rfl
end
end Q
end
section
set_option Elab.async false
set_option linter.all false
set_option maxRecDepth 100000
set_option maxHeartbeats 0
/-! Q.K80: the defs of the law, read. -/
namespace Q.K80
open PySem PySem.Spec PyProof.Rows
open L2 (V Hp HO TE TT TA TS VK XK Sp Inv Cx PE PA PK PT PW PG PS PSs PI FnOk FunD FnScope CX0 Binds KBn Vals Room cxOf)
def top (i : Nat) : Stmt := PySem.Challenge.pw_alliedoffers_k80_results_and_conditions.main.body.getD i (.Pass ⟨0, 0, 0, 0⟩)
abbrev t_is_number : Stmt := top 1
def d_is_number : He.DefD := ⟨("is_number", none), "is_number", "is_number", L2.defArgs t_is_number, L2.defBody t_is_number, L2.defScope t_is_number, [], []⟩
theorem sc_is_number : FnScope ["value", "low", "high"] ["value", "low", "high"] (L2.defScope t_is_number) := ⟨rfl, rfl, rfl, by decide +kernel, rfl, by decide +kernel, by decide +kernel⟩
def f_is_number (c : C) : Env → R Fl :=
  (thenS (retS (andV (bltV (isW D.isInt) (consV (varV 0) okNil)) (andV (notV (bltV (isW D.isBl) (consV (varV 0) okNil))) (chainV .le .le (varV 1) (varV 0) (varV 2))))) doneS)
abbrev t_points_of : Stmt := top 7
def d_points_of : He.DefD := ⟨("points_of", none), "points_of", "points_of", L2.defArgs t_points_of, L2.defBody t_points_of, L2.defScope t_points_of, [], []⟩
theorem sc_points_of : FnScope ["points", "result", "grade", "subject"] ["points", "result"] (L2.defScope t_points_of) := ⟨rfl, rfl, rfl, by decide +kernel, rfl, by decide +kernel, by decide +kernel⟩
def f_points_of (c : C) : Env → R Fl :=
  (thenS (retS (sumV [3, 2] (itemsV (varV 1)) (gT (gCons (gN 3) (gCons (gN 2) gNil))) yesB (coV 0 (ecV (subV (varV 0) (varV 2)))))) doneS)
abbrev t_grades_of : Stmt := top 8
def d_grades_of : He.DefD := ⟨("grades_of", none), "grades_of", "grades_of", L2.defArgs t_grades_of, L2.defBody t_grades_of, L2.defScope t_grades_of, [], []⟩
theorem sc_grades_of : FnScope ["result", "grades", "subject", "grade"] ["result"] (L2.defScope t_grades_of) := ⟨rfl, rfl, rfl, by decide +kernel, rfl, by decide +kernel, by decide +kernel⟩
def f_grades_of (c : C) : Env → R Fl :=
  (thenS (asgS (binV mulW (lstV 0 (consV (coV 0 (negV (cV (.int 1)))) okNil)) (cV (.int 8))) (gN 1)) (thenS (forV (itemsV (varV 0)) (gT (gCons (gN 2) (gCons (gN 3) gNil))) (thenS (setV 1 0 (coV 0 (ecV (varV 3))) (plV 1) (varV 2)) doneS)) (thenS (retS (mvV 1)) doneS)))
abbrev t_holds_in : Stmt := top 9
def d_holds_in : He.DefD := ⟨("holds_in", none), "holds_in", "holds_in", L2.defArgs t_holds_in, L2.defBody t_holds_in, L2.defScope t_holds_in, [], []⟩
theorem sc_holds_in : FnScope ["condition", "grades", "reached", "kind", "part"] ["condition", "grades", "reached"] (L2.defScope t_holds_in) := ⟨rfl, rfl, rfl, by decide +kernel, rfl, by decide +kernel, by decide +kernel⟩
def f_holds_in (c : C) : Env → R Fl :=
  (thenS (asgS (coV 0 (ecV (subV (varV 0) (cV (.int 0))))) (gN 3)) (thenS (ifS (truB (cmpV .eq (varV 3) (cV (.str (PySem.Str.ofString "grade"))))) (thenS (retS (cmpV .ge (subV (varV 1) (subV (varV 0) (cV (.int 1)))) (subV (varV 0) (cV (.int 2))))) doneS) doneS) (thenS (ifS (truB (cmpV .eq (varV 3) (cV (.str (PySem.Str.ofString "points"))))) (thenS (retS (cmpV .ge (varV 2) (subV (varV 0) (cV (.int 1))))) doneS) doneS) (thenS (ifS (truB (cmpV .eq (varV 3) (cV (.str (PySem.Str.ofString "and"))))) (thenS (retS (quitV false [4] (itemsV (subV (varV 0) (cV (.int 1)))) (gN 4) yesB (coV 0 (callV (hd c) 3 [] [none, none, none] (consA (coV 0 (ecV (varV 4))) (consA (coV 0 (ecV (varV 1))) (consA (coV 0 (ecV (varV 2))) okNilA))) okNil)))) doneS) doneS) (thenS (retS (quitV true [4] (itemsV (subV (varV 0) (cV (.int 1)))) (gN 4) yesB (coV 0 (callV (hd c) 3 [] [none, none, none] (consA (coV 0 (ecV (varV 4))) (consA (coV 0 (ecV (varV 1))) (consA (coV 0 (ecV (varV 2))) okNilA))) okNil)))) doneS)))))
abbrev t_holds : Stmt := top 10
def d_holds : He.DefD := ⟨("holds", none), "holds", "holds", L2.defArgs t_holds, L2.defBody t_holds, L2.defScope t_holds, [], []⟩
theorem sc_holds : FnScope ["points", "condition", "result"] ["points", "condition", "result"] (L2.defScope t_holds) := ⟨rfl, rfl, rfl, by decide +kernel, rfl, by decide +kernel, by decide +kernel⟩
def f_holds (c : C) : Env → R Fl :=
  (thenS (retS (callV (hd c) 3 [] [none, none, none] (consA (coV 0 (ecV (varV 1))) (consA (coV 0 (callV (hd c) 2 [] [none] (consA (coV 0 (ecV (varV 2))) okNilA) okNil)) (consA (coV 0 (callV (hd c) 1 [] [none, none] (consA (coV 0 (ecV (varV 0))) (consA (coV 0 (ecV (varV 2))) okNilA)) okNil)) okNilA))) okNil)) doneS)
abbrev t_lies_under : Stmt := top 11
def d_lies_under : He.DefD := ⟨("lies_under", none), "lies_under", "lies_under", L2.defArgs t_lies_under, L2.defBody t_lies_under, L2.defScope t_lies_under, [], []⟩
theorem sc_lies_under : FnScope ["result", "other", "grades", "grade", "subject"] ["result", "other"] (L2.defScope t_lies_under) := ⟨rfl, rfl, rfl, by decide +kernel, rfl, by decide +kernel, by decide +kernel⟩
def f_lies_under (c : C) : Env → R Fl :=
  (thenS (asgS (coV 0 (callV (hd c) 2 [] [none] (consA (coV 0 (ecV (varV 1))) okNilA) okNil)) (gN 2)) (thenS (retS (quitV false [4, 3] (itemsV (varV 0)) (gT (gCons (gN 4) (gCons (gN 3) gNil))) yesB (coV 0 (cmpV .ge (subV (varV 2) (varV 4)) (varV 3))))) doneS))
abbrev t_parts_of_grade : Stmt := top 12
def d_parts_of_grade : He.DefD := ⟨("parts_of_grade", none), "parts_of_grade", "parts_of_grade", L2.defArgs t_parts_of_grade, L2.defBody t_parts_of_grade, L2.defScope t_parts_of_grade, [], []⟩
theorem sc_parts_of_grade : FnScope ["value", "right"] ["value"] (L2.defScope t_parts_of_grade) := ⟨rfl, rfl, rfl, by decide +kernel, rfl, by decide +kernel, by decide +kernel⟩
def f_parts_of_grade (c : C) : Env → R Fl :=
  (thenS (asgS (coV 0 (andV (cmpV .eq (bltV lenW (consV (varV 0) okNil)) (cV (.int 3))) (andV (callV (hd c) 0 [] [none, none, none] (consA (coV 0 (ecV (subV (varV 0) (cV (.int 1))))) (consA (coV 0 (cV (.int 0))) (consA (coV 0 (binV subW (cV (.int 8)) (cV (.int 1)))) okNilA))) okNil) (callV (hd c) 0 [] [none, none, none] (consA (coV 0 (ecV (subV (varV 0) (cV (.int 2))))) (consA (coV 0 (cV (.int 0))) (consA (coV 0 (cV (.int 6))) okNilA))) okNil)))) (gN 1)) (thenS (retS (ifV (truB (varV 1)) (cV (.int 1)) (cV (.int 0)))) doneS))
abbrev t_parts_of_points : Stmt := top 13
def d_parts_of_points : He.DefD := ⟨("parts_of_points", none), "parts_of_points", "parts_of_points", L2.defArgs t_parts_of_points, L2.defBody t_parts_of_points, L2.defScope t_parts_of_points, [], []⟩
theorem sc_parts_of_points : FnScope ["value"] ["value"] (L2.defScope t_parts_of_points) := ⟨rfl, rfl, rfl, by decide +kernel, rfl, by decide +kernel, by decide +kernel⟩
def f_parts_of_points (c : C) : Env → R Fl :=
  (thenS (retS (ifV (andB (truB (cmpV .eq (bltV lenW (consV (varV 0) okNil)) (cV (.int 2)))) (andB1 (truB (callV (hd c) 0 [] [none, none, none] (consA (coV 0 (ecV (subV (varV 0) (cV (.int 1))))) (consA (coV 0 (cV (.int 0))) (consA (coV 0 (cV (.int 480))) okNilA))) okNil)))) (cV (.int 1)) (cV (.int 0)))) doneS)
abbrev t_parts_of_many : Stmt := top 14
def d_parts_of_many : He.DefD := ⟨("parts_of_many", none), "parts_of_many", "parts_of_many", L2.defArgs t_parts_of_many, L2.defBody t_parts_of_many, L2.defScope t_parts_of_many, [], []⟩
theorem sc_parts_of_many : FnScope ["value", "levels", "many", "part", "within"] ["value", "levels"] (L2.defScope t_parts_of_many) := ⟨rfl, rfl, rfl, by decide +kernel, rfl, by decide +kernel, by decide +kernel⟩
def f_parts_of_many (c : C) : Env → R Fl :=
  (thenS (ifS (orB (truB (cmpV .ne (bltV lenW (consV (varV 0) okNil)) (cV (.int 2)))) (andB1 (notB (truB (bltV (isW D.isTup) (consV (subV (varV 0) (cV (.int 1))) okNil)))))) (thenS (retS (cV (.int 0))) doneS) doneS) (thenS (asgS (coV 0 (cV (.int 1))) (gN 2)) (thenS (forV (itemsV (subV (varV 0) (cV (.int 1)))) (gN 3) (thenS (asgS (coV 0 (callV (hd c) 9 [] [none, none] (consA (coV 0 (ecV (varV 3))) (consA (coV 0 (binV subW (varV 1) (cV (.int 1)))) okNilA)) okNil)) (gN 4)) (thenS (ifS (truB (cmpV .eq (varV 4) (cV (.int 0)))) (thenS (retS (cV (.int 0))) doneS) doneS) (thenS (augS 2 addI (varV 4)) doneS)))) (thenS (retS (ecV (varV 2))) doneS))))
abbrev t_parts_of : Stmt := top 15
def d_parts_of : He.DefD := ⟨("parts_of", none), "parts_of", "parts_of", L2.defArgs t_parts_of, L2.defBody t_parts_of, L2.defScope t_parts_of, [], []⟩
theorem sc_parts_of : FnScope ["value", "levels"] ["value", "levels"] (L2.defScope t_parts_of) := ⟨rfl, rfl, rfl, by decide +kernel, rfl, by decide +kernel, by decide +kernel⟩
def f_parts_of (c : C) : Env → R Fl :=
  (thenS (ifS (orB (truB (cmpV .eq (varV 1) (cV (.int 0)))) (orB (notB (truB (bltV (isW D.isTup) (consV (varV 0) okNil)))) (andB1 (notB (truB (varV 0)))))) (thenS (retS (cV (.int 0))) doneS) doneS) (thenS (ifS (truB (cmpV .eq (subV (varV 0) (cV (.int 0))) (cV (.str (PySem.Str.ofString "grade"))))) (thenS (retS (callV (hd c) 6 [] [none] (consA (coV 0 (ecV (varV 0))) okNilA) okNil)) doneS) doneS) (thenS (ifS (truB (cmpV .eq (subV (varV 0) (cV (.int 0))) (cV (.str (PySem.Str.ofString "points"))))) (thenS (retS (callV (hd c) 7 [] [none] (consA (coV 0 (ecV (varV 0))) okNilA) okNil)) doneS) doneS) (thenS (ifS (orB (truB (cmpV .eq (subV (varV 0) (cV (.int 0))) (cV (.str (PySem.Str.ofString "and"))))) (andB1 (truB (cmpV .eq (subV (varV 0) (cV (.int 0))) (cV (.str (PySem.Str.ofString "or"))))))) (thenS (retS (callV (hd c) 8 [] [none, none] (consA (coV 0 (ecV (varV 0))) (consA (coV 0 (ecV (varV 1))) okNilA)) okNil)) doneS) doneS) (thenS (retS (cV (.int 0))) doneS)))))
abbrev t_check_condition : Stmt := top 16
def d_check_condition : He.DefD := ⟨("check_condition", none), "check_condition", "check_condition", L2.defArgs t_check_condition, L2.defBody t_check_condition, L2.defScope t_check_condition, [], []⟩
theorem sc_check_condition : FnScope ["value"] ["value"] (L2.defScope t_check_condition) := ⟨rfl, rfl, rfl, by decide +kernel, rfl, by decide +kernel, by decide +kernel⟩
def f_check_condition (c : C) : Env → R Fl :=
  (thenS (retS (chainV .le .le (cV (.int 1)) (callV (hd c) 9 [] [none, none] (consA (coV 0 (ecV (varV 0))) (consA (coV 0 (cV (.int 6))) okNilA)) okNil) (cV (.int 20)))) doneS)
abbrev t__law_open : Stmt := top 18
def d__law_open : He.DefD := ⟨("_law_open", none), "_law_open", "_law_open", L2.defArgs t__law_open, L2.defBody t__law_open, L2.defScope t__law_open, [], []⟩
theorem sc__law_open : FnScope ["script", "cells", "great", "cell"] ["script"] (L2.defScope t__law_open) := ⟨rfl, rfl, rfl, by decide +kernel, rfl, by decide +kernel, by decide +kernel⟩
def f__law_open (c : C) : Env → R Fl :=
  (thenS (asgS (binV addW (lcV 0 [3] (itemsV (varV 0)) (gN 3) yesB (coV 0 (bltV absW (consV (bltV intW (consV (varV 3) okNil)) okNil)))) (lstV 0 (consV (coV 0 (cV (.int 11))) okNil))) (gN 1)) (thenS (asgS (lstV 0 okNil) (gN 2)) (thenS (ifS (truB (cmpV .eq (binV modW (bltV intW (consV (subV (varV 1) (cV (.int 0))) okNil)) (cV (.int 2))) (cV (.int 0)))) (thenS (asgS (lcV 0 [3] (itemsV (varV 1)) (gN 3) (truB (cmpV .ge (varV 3) (binV powW (cV (.int 10)) (cV (.int 18))))) (coV 0 (binV fdivW (varV 3) (cV (.int 2))))) (gN 2)) (thenS (exS (mutV .reverse 2 (plV 2) okNil)) doneS)) doneS) (thenS (retS (lstV 1 (consV (coV 1 (cV (.int 0))) (consV (coV 1 (mvV 2)) (consV (coV 1 (mvV 1)) (consV (coV 1 (cV (.int 0))) okNil)))))) doneS))))
abbrev t__law_n : Stmt := top 19
def d__law_n : He.DefD := ⟨("_law_n", none), "_law_n", "_law_n", L2.defArgs t__law_n, L2.defBody t__law_n, L2.defScope t__law_n, [], []⟩
theorem sc__law_n : FnScope ["bag", "many", "digit", "cell", "mixed"] ["bag", "many"] (L2.defScope t__law_n) := ⟨rfl, rfl, rfl, by decide +kernel, rfl, by decide +kernel, by decide +kernel⟩
def f__law_n (c : C) : Env → R Fl :=
  (thenS (setV 0 1 (coV 1 (binV addW (subV (varV 0) (cV (.int 3))) (cV (.int 1)))) (plV 0) (cV (.int 3))) (thenS (ifS (andB (truB (cmpV .eq (subV (varV 0) (cV (.int 0))) (cV (.int 0)))) (andB1 (truB (cmpV .ne (subV (varV 0) (cV (.int 1))) (lstV 0 okNil))))) (thenS (setV 0 1 (coV 1 (mutV .pop 0 (plS 0 (plV 0) (cV (.int 1))) okNil)) (plV 0) (cV (.int 0))) doneS) doneS) (thenS (ifS (truB (cmpV .gt (subV (varV 0) (cV (.int 0))) (cV (.int 0)))) (thenS (asgS (coV 0 (binV modW (bltV intW (consV (subV (varV 0) (cV (.int 0))) okNil)) (varV 1))) (gN 2)) (thenS (setV 0 1 (coV 1 (binV fdivW (subV (varV 0) (cV (.int 0))) (varV 1))) (plV 0) (cV (.int 0))) (thenS (retS (ecV (varV 2))) doneS))) doneS) (thenS (asgS (coV 0 (binV modW (bltV intW (consV (subV (subV (varV 0) (cV (.int 2))) (binV modW (bltV intW (consV (subV (varV 0) (cV (.int 3))) okNil)) (bltV lenW (consV (subV (varV 0) (cV (.int 2))) okNil)))) okNil)) (cV (.int 2147483647)))) (gN 3)) (thenS (asgS (coV 0 (binV modW (bltV intW (consV (binV addW (binV addW (binV mulW (varV 3) (cV (.int 69069))) (binV mulW (subV (varV 0) (cV (.int 3))) (cV (.int 40503)))) (cV (.int 7))) okNil)) (cV (.int 2147483647)))) (gN 4)) (thenS (retS (binV modW (binV fdivW (binV modW (bltV intW (consV (binV addW (binV addW (binV mulW (varV 4) (varV 4)) (binV mulW (varV 4) (cV (.int 48271)))) (binV mulW (subV (varV 0) (cV (.int 3))) (cV (.int 16807)))) okNil)) (cV (.int 2147483629))) (cV (.int 64))) (varV 1))) doneS))))))
abbrev t__law_alike : Stmt := top 20
def d__law_alike : He.DefD := ⟨("_law_alike", none), "_law_alike", "_law_alike", L2.defArgs t__law_alike, L2.defBody t__law_alike, L2.defScope t__law_alike, [], []⟩
theorem sc__law_alike : FnScope ["found", "due", "k"] ["found", "due"] (L2.defScope t__law_alike) := ⟨rfl, rfl, rfl, by decide +kernel, rfl, by decide +kernel, by decide +kernel⟩
def f__law_alike (c : C) : Env → R Fl :=
  (thenS (ifS (truB (cmpV .isN (varV 1) (cV .non))) (thenS (retS (cmpV .isN (varV 0) (cV .non))) doneS) doneS) (thenS (ifS (truB (bltV (isW D.isBl) (consV (varV 1) okNil))) (thenS (retS (andV (bltV (isW D.isBl) (consV (varV 0) okNil)) (cmpV .eq (varV 0) (varV 1)))) doneS) doneS) (thenS (ifS (truB (bltV (isW D.isInt) (consV (varV 1) okNil))) (thenS (retS (andV (bltV (isW D.isInt) (consV (varV 0) okNil)) (andV (notV (bltV (isW D.isBl) (consV (varV 0) okNil))) (cmpV .eq (varV 0) (varV 1))))) doneS) doneS) (thenS (ifS (truB (bltV (isW D.isStr) (consV (varV 1) okNil))) (thenS (retS (andV (bltV (isW D.isStr) (consV (varV 0) okNil)) (cmpV .eq (varV 0) (varV 1)))) doneS) doneS) (thenS (ifS (orB (notB (truB (bltV (isW D.isTup) (consV (varV 0) okNil)))) (andB1 (truB (cmpV .ne (bltV lenW (consV (varV 0) okNil)) (bltV lenW (consV (varV 1) okNil)))))) (thenS (retS (cV (.bl false))) doneS) doneS) (thenS (forV (rngV (consV (coV 0 (bltV lenW (consV (varV 1) okNil))) okNil)) (gN 2) (thenS (ifS (notB (truB (callV (hd c) 13 [] [none, none] (consA (coV 0 (ecV (subV (varV 0) (varV 2)))) (consA (coV 0 (ecV (subV (varV 1) (varV 2)))) okNilA)) okNil))) (thenS (retS (cV (.bl false))) doneS) doneS) doneS)) (thenS (retS (cV (.bl true))) doneS)))))))
abbrev t__law_pick : Stmt := top 21
def d__law_pick : He.DefD := ⟨("_law_pick", none), "_law_pick", "_law_pick", L2.defArgs t__law_pick, L2.defBody t__law_pick, L2.defScope t__law_pick, [], []⟩
theorem sc__law_pick : FnScope ["bag", "things"] ["bag", "things"] (L2.defScope t__law_pick) := ⟨rfl, rfl, rfl, by decide +kernel, rfl, by decide +kernel, by decide +kernel⟩
def f__law_pick (c : C) : Env → R Fl :=
  (thenS (retS (ecV (subV (varV 1) (callV (hd c) 12 [] [some 0, none] (consI 0 (consA (coV 0 (bltV lenW (consV (varV 1) okNil))) okNilA)) okNil)))) doneS)
abbrev t__law_taken : Stmt := top 22
def d__law_taken : He.DefD := ⟨("_law_taken", none), "_law_taken", "_law_taken", L2.defArgs t__law_taken, L2.defBody t__law_taken, L2.defScope t__law_taken, [], []⟩
theorem sc__law_taken : FnScope ["bag", "things", "many", "left", "k"] ["bag", "things", "many"] (L2.defScope t__law_taken) := ⟨rfl, rfl, rfl, by decide +kernel, rfl, by decide +kernel, by decide +kernel⟩
def f__law_taken (c : C) : Env → R Fl :=
  (thenS (asgS (bltV listW (consV (varV 1) okNil)) (gN 3)) (thenS (retS (lcV 0 [4] (rngV (consV (coV 0 (ecV (varV 2))) okNil)) (gN 4) yesB (coV 0 (mutV .popAt 3 (plV 3) (consV (coV 0 (callV (hd c) 12 [] [some 0, none] (consI 0 (consA (coV 0 (bltV lenW (consV (varV 3) okNil))) okNilA)) okNil)) okNil))))) doneS))
abbrev t__law_sum : Stmt := top 23
def d__law_sum : He.DefD := ⟨("_law_sum", none), "_law_sum", "_law_sum", L2.defArgs t__law_sum, L2.defBody t__law_sum, L2.defScope t__law_sum, [], []⟩
theorem sc__law_sum : FnScope ["points", "result", "grade", "subject"] ["points", "result"] (L2.defScope t__law_sum) := ⟨rfl, rfl, rfl, by decide +kernel, rfl, by decide +kernel, by decide +kernel⟩
def f__law_sum (c : C) : Env → R Fl :=
  (thenS (retS (bltV (bltD .sumL) (consV (lcV 0 [3, 2] (itemsV (varV 1)) (gT (gCons (gN 3) (gCons (gN 2) gNil))) yesB (coV 0 (ecV (subV (varV 0) (varV 2))))) okNil))) doneS)
abbrev t__law_result : Stmt := top 24
def d__law_result : He.DefD := ⟨("_law_result", none), "_law_result", "_law_result", L2.defArgs t__law_result, L2.defBody t__law_result, L2.defScope t__law_result, [], []⟩
theorem sc__law_result : FnScope ["bag", "many", "grade", "out", "subject"] ["bag", "many"] (L2.defScope t__law_result) := ⟨rfl, rfl, rfl, by decide +kernel, rfl, by decide +kernel, by decide +kernel⟩
def f__law_result (c : C) : Env → R Fl :=
  (thenS (par2V 2 3 (consV (coV 0 (callV (hd c) 12 [] [some 0, none] (consI 0 (consA (coV 0 (cV (.int 7))) okNilA)) okNil)) (consV (lstV 0 okNil) okNil))) (thenS (forV (itemsV (coV 0 (bltV (bltD .sorted) (consV (callV (hd c) 15 [] [some 0, none, none] (consI 0 (consA (coV 0 (lrngV (consV (coV 0 (cV (.int 8))) okNil))) (consA (coV 0 (ecV (varV 1))) okNilA))) okNil) okNil)))) (gN 4) (thenS (exS (mutV (.append 0) 3 (plV 3) (consV (coV 0 (tupV (consV (coV 0 (ecV (varV 4))) (consV (coV 0 (callV (hd c) 14 [] [some 0, none] (consI 0 (consA (coV 0 (lstV 0 (consV (coV 0 (cV (.int 0))) (consV (coV 0 (cV (.int 6))) (consV (coV 0 (ecV (varV 2))) (consV (coV 0 (ecV (varV 2))) (consV (coV 0 (callV (hd c) 12 [] [some 0, none] (consI 0 (consA (coV 0 (cV (.int 7))) okNilA)) okNil)) okNil))))))) okNilA)) okNil)) okNil)))) okNil))) doneS)) (thenS (retS (bltV tupleW (consV (varV 3) okNil))) doneS)))
abbrev t__law_many : Stmt := top 25
def d__law_many : He.DefD := ⟨("_law_many", none), "_law_many", "_law_many", L2.defArgs t__law_many, L2.defBody t__law_many, L2.defScope t__law_many, [], []⟩
theorem sc__law_many : FnScope ["result", "subjects", "grade", "one"] ["result", "subjects", "grade"] (L2.defScope t__law_many) := ⟨rfl, rfl, rfl, by decide +kernel, rfl, by decide +kernel, by decide +kernel⟩
def f__law_many (c : C) : Env → R Fl :=
  (thenS (retS (bltV lenW (consV (lcV 0 [3] (itemsV (varV 0)) (gN 3) (andB (truB (cmpV .mem (subV (varV 3) (cV (.int 0))) (varV 1))) (andB1 (truB (cmpV .ge (subV (varV 3) (cV (.int 1))) (varV 2))))) (coV 0 (cV (.int 1)))) okNil))) doneS)
abbrev t__law_wrapped : Stmt := top 26
def d__law_wrapped : He.DefD := ⟨("_law_wrapped", none), "_law_wrapped", "_law_wrapped", L2.defArgs t__law_wrapped, L2.defBody t__law_wrapped, L2.defScope t__law_wrapped, [], []⟩
theorem sc__law_wrapped : FnScope ["bag", "condition", "truth", "parts", "nothing", "never", "turn", "way"] ["bag", "condition", "truth"] (L2.defScope t__law_wrapped) := ⟨rfl, rfl, rfl, by decide +kernel, rfl, by decide +kernel, by decide +kernel⟩
def f__law_wrapped (c : C) : Env → R Fl :=
  (thenS (par3V 3 4 5 (consV (coV 0 (callV (hd c) 20 [] [none] (consA (coV 0 (ecV (varV 1))) okNilA) okNil)) (consV (coV 0 (tupV (consV (coV 0 (cV (.str (PySem.Str.ofString "and")))) (consV (coV 0 (tupV okNil)) okNil)))) (consV (coV 0 (tupV (consV (coV 0 (cV (.str (PySem.Str.ofString "or")))) (consV (coV 0 (tupV okNil)) okNil)))) okNil)))) (thenS (forV (rngV (consV (coV 0 (callV (hd c) 12 [] [some 0, none] (consI 0 (consA (coV 0 (binV addW (binV subW (cV (.int 6)) (callV (hd c) 21 [] [none] (consA (coV 0 (ecV (varV 1))) okNilA) okNil)) (cV (.int 1)))) okNilA)) okNil)) okNil)) (gN 6) (thenS (asgS (coV 0 (callV (hd c) 12 [] [some 0, none] (consI 0 (consA (coV 0 (cV (.int 6))) okNilA)) okNil)) (gN 7)) (thenS (ifS (orB (andB (truB (cmpV .gt (varV 7) (cV (.int 1)))) (andB1 (truB (cmpV .gt (varV 3) (cV (.int 17)))))) (orB (andB (truB (cmpV .gt (varV 7) (cV (.int 3)))) (andB1 (truB (cmpV .gt (varV 3) (cV (.int 9)))))) (andB1 (truB (cmpV .gt (varV 3) (cV (.int 18))))))) (thenS brkS doneS) doneS) (thenS (asgS (coV 0 (subV (lstV 0 (consV (coV 0 (tupV (consV (coV 0 (cV (.str (PySem.Str.ofString "and")))) (consV (coV 0 (tupV (consV (coV 0 (ecV (varV 1))) okNil))) okNil)))) (consV (coV 0 (tupV (consV (coV 0 (cV (.str (PySem.Str.ofString "or")))) (consV (coV 0 (tupV (consV (coV 0 (ecV (varV 1))) okNil))) okNil)))) (consV (coV 0 (tupV (consV (coV 0 (cV (.str (PySem.Str.ofString "and")))) (consV (coV 0 (tupV (consV (coV 0 (ecV (varV 1))) (consV (coV 0 (ecV (varV 4))) okNil)))) okNil)))) (consV (coV 0 (tupV (consV (coV 0 (cV (.str (PySem.Str.ofString "or")))) (consV (coV 0 (tupV (consV (coV 0 (ecV (varV 5))) (consV (coV 0 (ecV (varV 1))) okNil)))) okNil)))) (consV (coV 0 (tupV (consV (coV 0 (cV (.str (PySem.Str.ofString "and")))) (consV (coV 0 (tupV (consV (coV 0 (ecV (varV 1))) (consV (coV 0 (ecV (varV 1))) okNil)))) okNil)))) (consV (coV 0 (tupV (consV (coV 0 (cV (.str (PySem.Str.ofString "or")))) (consV (coV 0 (tupV (consV (coV 0 (ecV (varV 1))) (consV (coV 0 (ecV (varV 1))) okNil)))) okNil)))) okNil))))))) (varV 7))) (gN 1)) (thenS (asgS (coV 0 (callV (hd c) 20 [] [none] (consA (coV 0 (ecV (varV 1))) okNilA) okNil)) (gN 3)) doneS))))) (thenS (ifS (andB (truB (cmpV .lt (varV 3) (cV (.int 18)))) (andB (truB (cmpV .lt (callV (hd c) 21 [] [none] (consA (coV 0 (ecV (varV 1))) okNilA) okNil) (cV (.int 6)))) (andB1 (truB (cmpV .eq (callV (hd c) 12 [] [some 0, none] (consI 0 (consA (coV 0 (cV (.int 4))) okNilA)) okNil) (cV (.int 0))))))) (thenS (ifS (truB (cmpV .eq (callV (hd c) 12 [] [some 0, none] (consI 0 (consA (coV 0 (cV (.int 2))) okNilA)) okNil) (cV (.int 0)))) (thenS (retS (tupV (consV (coV 0 (tupV (consV (coV 0 (cV (.str (PySem.Str.ofString "and")))) (consV (coV 0 (tupV (consV (coV 0 (ecV (varV 5))) (consV (coV 0 (ecV (varV 1))) okNil)))) okNil)))) (consV (coV 0 (cV (.bl false))) okNil)))) doneS) doneS) (thenS (retS (tupV (consV (coV 0 (tupV (consV (coV 0 (cV (.str (PySem.Str.ofString "or")))) (consV (coV 0 (tupV (consV (coV 0 (ecV (varV 1))) (consV (coV 0 (ecV (varV 4))) okNil)))) okNil)))) (consV (coV 0 (cV (.bl true))) okNil)))) doneS)) doneS) (thenS (retS (tupV (consV (coV 0 (ecV (varV 1))) (consV (coV 0 (ecV (varV 2))) okNil)))) doneS))))
abbrev t__law_parts : Stmt := top 27
def d__law_parts : He.DefD := ⟨("_law_parts", none), "_law_parts", "_law_parts", L2.defArgs t__law_parts, L2.defBody t__law_parts, L2.defScope t__law_parts, [], []⟩
theorem sc__law_parts : FnScope ["condition", "one"] ["condition"] (L2.defScope t__law_parts) := ⟨rfl, rfl, rfl, by decide +kernel, rfl, by decide +kernel, by decide +kernel⟩
def f__law_parts (c : C) : Env → R Fl :=
  (thenS (ifS (truB (cmpV .mem (subV (varV 0) (cV (.int 0))) (tupV (consV (coV 0 (cV (.str (PySem.Str.ofString "and")))) (consV (coV 0 (cV (.str (PySem.Str.ofString "or")))) okNil))))) (thenS (retS (binV addW (cV (.int 1)) (bltV (bltD .sumL) (consV (lcV 0 [1] (itemsV (subV (varV 0) (cV (.int 1)))) (gN 1) yesB (coV 0 (callV (hd c) 20 [] [none] (consA (coV 0 (ecV (varV 1))) okNilA) okNil))) okNil)))) doneS) doneS) (thenS (retS (cV (.int 1))) doneS))
abbrev t__law_levels : Stmt := top 28
def d__law_levels : He.DefD := ⟨("_law_levels", none), "_law_levels", "_law_levels", L2.defArgs t__law_levels, L2.defBody t__law_levels, L2.defScope t__law_levels, [], []⟩
theorem sc__law_levels : FnScope ["condition", "one"] ["condition"] (L2.defScope t__law_levels) := ⟨rfl, rfl, rfl, by decide +kernel, rfl, by decide +kernel, by decide +kernel⟩
def f__law_levels (c : C) : Env → R Fl :=
  (thenS (ifS (truB (cmpV .mem (subV (varV 0) (cV (.int 0))) (tupV (consV (coV 0 (cV (.str (PySem.Str.ofString "and")))) (consV (coV 0 (cV (.str (PySem.Str.ofString "or")))) okNil))))) (thenS (retS (binV addW (cV (.int 1)) (bltV (bltD .maxL) (consV (binV addW (lstV 0 (consV (coV 0 (cV (.int 0))) okNil)) (lcV 0 [1] (itemsV (subV (varV 0) (cV (.int 1)))) (gN 1) yesB (coV 0 (callV (hd c) 21 [] [none] (consA (coV 0 (ecV (varV 1))) okNilA) okNil)))) okNil)))) doneS) doneS) (thenS (retS (cV (.int 1))) doneS))
abbrev t__law_are_held : Stmt := top 29
def d__law_are_held : He.DefD := ⟨("_law_are_held", none), "_law_are_held", "_law_are_held", L2.defArgs t__law_are_held, L2.defBody t__law_are_held, L2.defScope t__law_are_held, [], []⟩
theorem sc__law_are_held : FnScope ["bag", "result", "edge", "number", "points", "every", "total", "asked", "three", "grade", "leaves", "two", "many", "condition", "truth", "wrapped", "due", "k", "subject"] ["bag"] (L2.defScope t__law_are_held) := ⟨rfl, rfl, rfl, by decide +kernel, rfl, by decide +kernel, by decide +kernel⟩
def f__law_are_held (c : C) : Env → R Fl :=
  (thenS (par3V 1 2 3 (consV (coV 0 (callV (hd c) 17 [] [some 0, none] (consI 0 (consA (coV 0 (binV addW (cV (.int 1)) (callV (hd c) 12 [] [some 0, none] (consI 0 (consA (coV 0 (cV (.int 8))) okNilA)) okNil))) okNilA)) okNil)) (consV (coV 0 (callV (hd c) 12 [] [some 0, none] (consI 0 (consA (coV 0 (cV (.int 8))) okNilA)) okNil)) (consV (coV 0 (callV (hd c) 14 [] [some 0, none] (consI 0 (consA (coV 0 (lstV 0 (consV (coV 0 (cV (.int 1))) (consV (coV 0 (cV (.int 2))) (consV (coV 0 (cV (.int 7))) (consV (coV 0 (cV (.int 60))) okNil)))))) okNilA)) okNil)) okNil)))) (thenS (par2V 4 5 (consV (coV 0 (binV addW (binV mulW (tupV (consV (coV 0 (cV (.int 0))) okNil)) (varV 2)) (binV mulW (tupV (consV (coV 0 (ecV (varV 3))) okNil)) (binV subW (cV (.int 7)) (varV 2))))) (consV (coV 0 (lrngV (consV (coV 0 (cV (.int 8))) okNil))) okNil))) (thenS (asgS (coV 0 (binV mulW (varV 3) (callV (hd c) 18 [] [none, none, none] (consA (coV 0 (ecV (varV 1))) (consA (coV 0 (ecV (varV 5))) (consA (coV 0 (ecV (varV 2))) okNilA))) okNil))) (gN 6)) (thenS (ifS (orB (notB (truB (callV (hd c) 13 [] [none, none] (consA (coV 0 (callV (hd c) 1 [] [none, none] (consA (coV 0 (ecV (varV 4))) (consA (coV 0 (ecV (varV 1))) okNilA)) okNil)) (consA (coV 0 (ecV (varV 6))) okNilA)) okNil))) (andB1 (notB (truB (callV (hd c) 13 [] [none, none] (consA (coV 0 (callV (hd c) 1 [1, 0] [] okNilA (consV (coV 0 (ecV (varV 1))) (consV (coV 0 (ecV (varV 4))) okNil)))) (consA (coV 0 (ecV (varV 6))) okNilA)) okNil))))) (thenS (retS (cV (.bl false))) doneS) doneS) (thenS (asgS (coV 0 (lcV 0 [17] (itemsV (coV 0 (tupV (consV (coV 0 (negV (cV (.int 1)))) (consV (coV 0 (cV (.int 0))) (consV (coV 0 (cV (.int 1))) (consV (coV 0 (ecV (varV 3))) okNil))))))) (gN 17) yesB (coV 0 (tupV (consV (coV 0 (tupV (consV (coV 0 (cV (.str (PySem.Str.ofString "points")))) (consV (coV 0 (bltV max2W (consV (cV (.int 0)) (consV (bltV min2W (consV (cV (.int 480)) (consV (binV addW (varV 6) (varV 17)) okNil))) okNil)))) okNil)))) (consV (coV 0 (cmpV .le (bltV max2W (consV (cV (.int 0)) (consV (bltV min2W (consV (cV (.int 480)) (consV (binV addW (varV 6) (varV 17)) okNil))) okNil))) (varV 6))) okNil)))))) (gN 7)) (thenS (asgS (coV 0 (binV addW (varV 7) (lstV 0 (consV (coV 0 (tupV (consV (coV 0 (tupV (consV (coV 0 (cV (.str (PySem.Str.ofString "points")))) (consV (coV 0 (cV (.int 0))) okNil)))) (consV (coV 0 (cV (.bl true))) okNil)))) (consV (coV 0 (tupV (consV (coV 0 (tupV (consV (coV 0 (cV (.str (PySem.Str.ofString "points")))) (consV (coV 0 (cV (.int 480))) okNil)))) (consV (coV 0 (cmpV .eq (varV 6) (cV (.int 480)))) okNil)))) okNil))))) (gN 7)) (thenS (asgS (tupV (consV (coV 0 (callV (hd c) 15 [] [some 0, none, none] (consI 0 (consA (coV 0 (ecV (varV 5))) (consA (coV 0 (cV (.int 3))) okNilA))) okNil)) (consV (coV 0 (callV (hd c) 12 [] [some 0, none] (consI 0 (consA (coV 0 (cV (.int 7))) okNilA)) okNil)) okNil))) (gT (gCons (gN 8) (gCons (gN 9) gNil)))) (thenS (asgS (coV 0 (lcV 0 [18] (itemsV (varV 8)) (gN 18) yesB (coV 0 (tupV (consV (coV 0 (cV (.str (PySem.Str.ofString "grade")))) (consV (coV 0 (ecV (varV 18))) (consV (coV 0 (ecV (varV 9))) okNil))))))) (gN 10)) (thenS (asgS (coV 0 (tupV (consV (coV 0 (cV (.str (PySem.Str.ofString "or")))) (consV (coV 0 (tupV (consV (coV 0 (tupV (consV (coV 0 (cV (.str (PySem.Str.ofString "and")))) (consV (coV 0 (tupV (consV (coV 0 (ecV (subV (varV 10) (cV (.int 0))))) (consV (coV 0 (ecV (subV (varV 10) (cV (.int 1))))) okNil)))) okNil)))) (consV (coV 0 (tupV (consV (coV 0 (cV (.str (PySem.Str.ofString "and")))) (consV (coV 0 (tupV (consV (coV 0 (ecV (subV (varV 10) (cV (.int 1))))) (consV (coV 0 (ecV (subV (varV 10) (cV (.int 2))))) okNil)))) okNil)))) (consV (coV 0 (tupV (consV (coV 0 (cV (.str (PySem.Str.ofString "and")))) (consV (coV 0 (tupV (consV (coV 0 (ecV (subV (varV 10) (cV (.int 0))))) (consV (coV 0 (ecV (subV (varV 10) (cV (.int 2))))) okNil)))) okNil)))) okNil))))) okNil)))) (gN 11)) (thenS (asgS (coV 0 (callV (hd c) 18 [] [none, none, none] (consA (coV 0 (ecV (varV 1))) (consA (coV 0 (ecV (varV 8))) (consA (coV 0 (ecV (varV 9))) okNilA))) okNil)) (gN 12)) (thenS (asgS (coV 0 (binV addW (varV 7) (lstV 0 (consV (coV 0 (tupV (consV (coV 0 (ecV (varV 11))) (consV (coV 0 (cmpV .gt (varV 12) (cV (.int 1)))) okNil)))) (consV (coV 0 (tupV (consV (coV 0 (tupV (consV (coV 0 (cV (.str (PySem.Str.ofString "and")))) (consV (coV 0 (bltV tupleW (consV (varV 10) okNil))) okNil)))) (consV (coV 0 (cmpV .eq (varV 12) (cV (.int 3)))) okNil)))) (consV (coV 0 (tupV (consV (coV 0 (tupV (consV (coV 0 (cV (.str (PySem.Str.ofString "or")))) (consV (coV 0 (bltV tupleW (consV (varV 10) okNil))) okNil)))) (consV (coV 0 (cmpV .gt (varV 12) (cV (.int 0)))) okNil)))) (consV (coV 0 (tupV (consV (coV 0 (tupV (consV (coV 0 (cV (.str (PySem.Str.ofString "and")))) (consV (coV 0 (tupV okNil)) okNil)))) (consV (coV 0 (cV (.bl true))) okNil)))) (consV (coV 0 (tupV (consV (coV 0 (tupV (consV (coV 0 (cV (.str (PySem.Str.ofString "or")))) (consV (coV 0 (tupV okNil)) okNil)))) (consV (coV 0 (cV (.bl false))) okNil)))) okNil)))))))) (gN 7)) (thenS (forV (itemsV (varV 7)) (gT (gCons (gN 13) (gCons (gN 14) gNil))) (thenS (asgS (callV (hd c) 19 [] [some 0, none, none] (consI 0 (consA (coV 0 (ecV (varV 13))) (consA (coV 0 (ecV (varV 14))) okNilA))) okNil) (gT (gCons (gN 15) (gCons (gN 16) gNil)))) (thenS (ifS (orB (notB (truB (callV (hd c) 13 [] [none, none] (consA (coV 0 (callV (hd c) 4 [] [none, none, none] (consA (coV 0 (ecV (varV 4))) (consA (coV 0 (ecV (varV 15))) (consA (coV 0 (ecV (varV 1))) okNilA))) okNil)) (consA (coV 0 (ecV (varV 16))) okNilA)) okNil))) (andB1 (notB (truB (callV (hd c) 13 [] [none, none] (consA (coV 0 (callV (hd c) 4 [2, 1, 0] [] okNilA (consV (coV 0 (ecV (varV 1))) (consV (coV 0 (ecV (varV 13))) (consV (coV 0 (ecV (varV 4))) okNil))))) (consA (coV 0 (ecV (varV 14))) okNilA)) okNil))))) (thenS (retS (cV (.bl false))) doneS) doneS) (thenS (ifS (notB (truB (callV (hd c) 13 [] [none, none] (consA (coV 0 (callV (hd c) 10 [] [none] (consA (coV 0 (ecV (varV 15))) okNilA) okNil)) (consA (coV 0 (cV (.bl true))) okNilA)) okNil))) (thenS (retS (cV (.bl false))) doneS) doneS) doneS)))) (thenS (retS (cV (.bl true))) doneS)))))))))))))
abbrev t__law_leaf : Stmt := top 30
def d__law_leaf : He.DefD := ⟨("_law_leaf", none), "_law_leaf", "_law_leaf", L2.defArgs t__law_leaf, L2.defBody t__law_leaf, L2.defScope t__law_leaf, [], []⟩
theorem sc__law_leaf : FnScope ["bag", "right", "some"] ["bag", "right"] (L2.defScope t__law_leaf) := ⟨rfl, rfl, rfl, by decide +kernel, rfl, by decide +kernel, by decide +kernel⟩
def f__law_leaf (c : C) : Env → R Fl :=
  (thenS (ifS (truB (varV 1)) (thenS (retS (callV (hd c) 14 [] [some 0, none] (consI 0 (consA (coV 0 (lstV 0 (consV (coV 0 (tupV (consV (coV 0 (cV (.str (PySem.Str.ofString "grade")))) (consV (coV 0 (cV (.int 0))) (consV (coV 0 (cV (.int 6))) okNil))))) (consV (coV 0 (tupV (consV (coV 0 (cV (.str (PySem.Str.ofString "grade")))) (consV (coV 0 (cV (.int 7))) (consV (coV 0 (cV (.int 0))) okNil))))) (consV (coV 0 (tupV (consV (coV 0 (cV (.str (PySem.Str.ofString "grade")))) (consV (coV 0 (cV (.int 7))) (consV (coV 0 (cV (.int 6))) okNil))))) (consV (coV 0 (tupV (consV (coV 0 (cV (.str (PySem.Str.ofString "points")))) (consV (coV 0 (cV (.int 0))) okNil)))) (consV (coV 0 (tupV (consV (coV 0 (cV (.str (PySem.Str.ofString "points")))) (consV (coV 0 (cV (.int 480))) okNil)))) (consV (coV 0 (tupV (consV (coV 0 (cV (.str (PySem.Str.ofString "and")))) (consV (coV 0 (tupV okNil)) okNil)))) (consV (coV 0 (tupV (consV (coV 0 (cV (.str (PySem.Str.ofString "or")))) (consV (coV 0 (tupV okNil)) okNil)))) okNil))))))))) okNilA)) okNil)) doneS) doneS) (thenS (asgS (coV 0 (lstV 0 (consV (coV 0 (tupV (consV (coV 0 (cV (.str (PySem.Str.ofString "grade")))) (consV (coV 0 (cV (.int 8))) (consV (coV 0 (cV (.int 0))) okNil))))) (consV (coV 0 (tupV (consV (coV 0 (cV (.str (PySem.Str.ofString "grade")))) (consV (coV 0 (cV (.int 7))) (consV (coV 0 (cV (.int 7))) okNil))))) (consV (coV 0 (tupV (consV (coV 0 (cV (.str (PySem.Str.ofString "grade")))) (consV (coV 0 (negV (cV (.int 1)))) (consV (coV 0 (cV (.int 0))) okNil))))) (consV (coV 0 (tupV (consV (coV 0 (cV (.str (PySem.Str.ofString "grade")))) (consV (coV 0 (cV (.int 0))) (consV (coV 0 (negV (cV (.int 1)))) okNil))))) (consV (coV 0 (tupV (consV (coV 0 (cV (.str (PySem.Str.ofString "points")))) (consV (coV 0 (cV (.int 481))) okNil)))) (consV (coV 0 (tupV (consV (coV 0 (cV (.str (PySem.Str.ofString "points")))) (consV (coV 0 (negV (cV (.int 1)))) okNil)))) (consV (coV 0 (tupV (consV (coV 0 (cV (.str (PySem.Str.ofString "points")))) (consV (coV 0 (cV (.bl true))) okNil)))) (consV (coV 0 (tupV (consV (coV 0 (cV (.str (PySem.Str.ofString "grade")))) (consV (coV 0 (cV (.bl false))) (consV (coV 0 (cV (.int 0))) okNil))))) okNil)))))))))) (gN 2)) (thenS (asgS (coV 0 (binV addW (varV 2) (lstV 0 (consV (coV 0 (tupV (consV (coV 0 (cV (.str (PySem.Str.ofString "grade")))) (consV (coV 0 (cV (.int 0))) okNil)))) (consV (coV 0 (tupV (consV (coV 0 (cV (.str (PySem.Str.ofString "points")))) okNil))) (consV (coV 0 (tupV (consV (coV 0 (cV (.str (PySem.Str.ofString "and")))) okNil))) (consV (coV 0 (tupV (consV (coV 0 (cV (.str (PySem.Str.ofString "or")))) (consV (coV 0 (cV (.str (PySem.Str.ofString "")))) okNil)))) (consV (coV 0 (tupV (consV (coV 0 (cV (.str (PySem.Str.ofString "and")))) (consV (coV 0 (cV .non)) okNil)))) (consV (coV 0 (tupV (consV (coV 0 (cV (.str (PySem.Str.ofString "nor")))) (consV (coV 0 (tupV okNil)) okNil)))) (consV (coV 0 (tupV okNil)) (consV (coV 0 (cV .non)) (consV (coV 0 (cV (.str (PySem.Str.ofString "and")))) (consV (coV 0 (cV (.int 7))) (consV (coV 0 (tupV (consV (coV 0 (cV (.str (PySem.Str.ofString "and")))) (consV (coV 0 (tupV okNil)) (consV (coV 0 (tupV okNil)) okNil))))) (consV (coV 0 (tupV (consV (coV 0 (cV (.str (PySem.Str.ofString "points")))) (consV (coV 0 (cV .non)) okNil)))) (consV (coV 0 (tupV (consV (coV 0 (cV (.str (PySem.Str.ofString "grade")))) (consV (coV 0 (cV (.int 0))) (consV (coV 0 (cV (.int 0))) (consV (coV 0 (cV (.int 0))) okNil)))))) okNil)))))))))))))))) (gN 2)) (thenS (retS (callV (hd c) 14 [] [some 0, none] (consI 0 (consA (coV 0 (binV addW (varV 2) (lstV 0 (consV (coV 0 (tupV (consV (coV 0 (cV (.str (PySem.Str.ofString "points")))) (consV (coV 0 (binV powW (cV (.int 10)) (cV (.int 29)))) okNil)))) (consV (coV 0 (tupV (consV (coV 0 (cV (.str (PySem.Str.ofString "and")))) (consV (coV 0 (tupV (consV (coV 0 (cV (.str (PySem.Str.ofString "and")))) (consV (coV 0 (tupV okNil)) okNil)))) okNil)))) (consV (coV 0 (tupV (consV (coV 0 (cV (.str (PySem.Str.ofString "grade")))) (consV (coV 0 (cV (.str (PySem.Str.ofString "0")))) (consV (coV 0 (cV (.int 0))) okNil))))) (consV (coV 0 (tupV (consV (coV 0 (tupV okNil)) (consV (coV 0 (tupV okNil)) okNil)))) okNil))))))) okNilA)) okNil)) doneS))))
abbrev t__law_are_looked_at : Stmt := top 31
def d__law_are_looked_at : He.DefD := ⟨("_law_are_looked_at", none), "_law_are_looked_at", "_law_are_looked_at", L2.defArgs t__law_are_looked_at, L2.defBody t__law_are_looked_at, L2.defScope t__law_are_looked_at, [], []⟩
theorem sc__law_are_looked_at : FnScope ["bag", "leaf", "value", "levels", "parts", "turn", "way", "word", "target", "due", "wrong", "bad", "good", "one"] ["bag"] (L2.defScope t__law_are_looked_at) := ⟨rfl, rfl, rfl, by decide +kernel, rfl, by decide +kernel, by decide +kernel⟩
def f__law_are_looked_at (c : C) : Env → R Fl :=
  (thenS (asgS (coV 0 (callV (hd c) 23 [] [some 0, none] (consI 0 (consA (coV 0 (cV (.bl true))) okNilA)) okNil)) (gN 1)) (thenS (par3V 2 3 4 (consV (coV 0 (ecV (varV 1))) (consV (coV 0 (cV (.int 1))) (consV (coV 0 (cV (.int 1))) okNil)))) (thenS (forV (rngV (consV (coV 0 (callV (hd c) 12 [] [some 0, none] (consI 0 (consA (coV 0 (cV (.int 6))) okNilA)) okNil)) okNil)) (gN 5) (thenS (par2V 6 7 (consV (coV 0 (callV (hd c) 12 [] [some 0, none] (consI 0 (consA (coV 0 (cV (.int 3))) okNilA)) okNil)) (consV (coV 0 (callV (hd c) 14 [] [some 0, none] (consI 0 (consA (coV 0 (lstV 0 (consV (coV 0 (cV (.str (PySem.Str.ofString "and")))) (consV (coV 0 (cV (.str (PySem.Str.ofString "or")))) okNil)))) okNilA)) okNil)) okNil))) (thenS (ifS (andB (truB (cmpV .eq (varV 6) (cV (.int 2)))) (andB1 (truB (cmpV .lt (varV 4) (cV (.int 300)))))) (thenS (par2V 2 4 (consV (coV 0 (tupV (consV (coV 0 (ecV (varV 7))) (consV (coV 0 (tupV (consV (coV 0 (ecV (varV 2))) (consV (coV 0 (ecV (varV 2))) okNil)))) okNil)))) (consV (coV 0 (binV addW (binV mulW (cV (.int 2)) (varV 4)) (cV (.int 1)))) okNil))) doneS) (thenS (par2V 2 4 (consV (coV 0 (tupV (consV (coV 0 (ecV (varV 7))) (consV (coV 0 (tupV (consV (coV 0 (ecV (varV 2))) okNil))) okNil)))) (consV (coV 0 (binV addW (varV 4) (cV (.int 1)))) okNil))) doneS)) (thenS (asgS (coV 0 (binV addW (varV 3) (cV (.int 1)))) (gN 3)) doneS)))) (thenS (asgS (coV 0 (callV (hd c) 14 [] [some 0, none] (consI 0 (consA (coV 0 (lstV 0 (consV (coV 0 (cV (.int 19))) (consV (coV 0 (cV (.int 20))) (consV (coV 0 (cV (.int 20))) (consV (coV 0 (cV (.int 21))) okNil)))))) okNilA)) okNil)) (gN 8)) (thenS (ifS (andB (truB (cmpV .lt (varV 4) (varV 8))) (andB1 (truB (cmpV .lt (varV 3) (cV (.int 7)))))) (thenS (asgS (coV 0 (tupV (consV (coV 0 (cV (.str (PySem.Str.ofString "or")))) (consV (coV 0 (binV addW (tupV (consV (coV 0 (ecV (varV 2))) okNil)) (binV mulW (tupV (consV (coV 0 (ecV (varV 1))) okNil)) (binV subW (binV subW (varV 8) (varV 4)) (cV (.int 1)))))) okNil)))) (gN 2)) (thenS (par2V 3 4 (consV (coV 0 (binV addW (varV 3) (cV (.int 1)))) (consV (coV 0 (ecV (varV 8))) okNil))) doneS)) doneS) (thenS (asgS (coV 0 (andV (cmpV .le (varV 3) (cV (.int 6))) (cmpV .le (varV 4) (cV (.int 20))))) (gN 9)) (thenS (ifS (orB (notB (truB (callV (hd c) 13 [] [none, none] (consA (coV 0 (callV (hd c) 10 [] [none] (consA (coV 0 (ecV (varV 2))) okNilA) okNil)) (consA (coV 0 (ecV (varV 9))) okNilA)) okNil))) (andB1 (notB (truB (callV (hd c) 13 [] [none, none] (consA (coV 0 (callV (hd c) 10 [0] [] okNilA (consV (coV 0 (ecV (varV 2))) okNil))) (consA (coV 0 (ecV (varV 9))) okNilA)) okNil))))) (thenS (retS (cV (.bl false))) doneS) doneS) (thenS (asgS (coV 0 (callV (hd c) 23 [] [some 0, none] (consI 0 (consA (coV 0 (cV (.bl false))) okNilA)) okNil)) (gN 10)) (thenS (asgS (coV 0 (lstV 0 (consV (coV 0 (ecV (varV 10))) (consV (coV 0 (tupV (consV (coV 0 (cV (.str (PySem.Str.ofString "and")))) (consV (coV 0 (tupV (consV (coV 0 (ecV (varV 1))) (consV (coV 0 (ecV (varV 10))) okNil)))) okNil)))) (consV (coV 0 (tupV (consV (coV 0 (cV (.str (PySem.Str.ofString "or")))) (consV (coV 0 (tupV (consV (coV 0 (tupV (consV (coV 0 (cV (.str (PySem.Str.ofString "and")))) (consV (coV 0 (tupV (consV (coV 0 (ecV (varV 10))) okNil))) okNil)))) (consV (coV 0 (ecV (varV 1))) okNil)))) okNil)))) (consV (coV 0 (tupV (consV (coV 0 (cV (.str (PySem.Str.ofString "and")))) (consV (coV 0 (tupV (consV (coV 0 (ecV (varV 10))) (consV (coV 0 (ecV (varV 10))) okNil)))) okNil)))) okNil)))))) (gN 11)) (thenS (asgS (coV 0 (lstV 0 (consV (coV 0 (ecV (varV 1))) (consV (coV 0 (tupV (consV (coV 0 (cV (.str (PySem.Str.ofString "and")))) (consV (coV 0 (tupV (consV (coV 0 (ecV (varV 1))) (consV (coV 0 (ecV (varV 1))) okNil)))) okNil)))) (consV (coV 0 (tupV (consV (coV 0 (cV (.str (PySem.Str.ofString "or")))) (consV (coV 0 (tupV (consV (coV 0 (tupV (consV (coV 0 (cV (.str (PySem.Str.ofString "and")))) (consV (coV 0 (tupV (consV (coV 0 (ecV (varV 1))) okNil))) okNil)))) (consV (coV 0 (ecV (varV 1))) okNil)))) okNil)))) okNil))))) (gN 12)) (thenS (retS (callV (hd c) 13 [] [none, none] (consA (coV 0 (bltV tupleW (consV (lcV 0 [13] (itemsV (coV 0 (binV addW (varV 11) (varV 12)))) (gN 13) yesB (coV 0 (callV (hd c) 10 [] [none] (consA (coV 0 (ecV (varV 13))) okNilA) okNil))) okNil))) (consA (coV 0 (binV addW (binV mulW (tupV (consV (coV 0 (cV (.bl false))) okNil)) (cV (.int 4))) (binV mulW (tupV (consV (coV 0 (cV (.bl true))) okNil)) (cV (.int 3))))) okNilA)) okNil)) doneS)))))))))))
abbrev t__law_lower : Stmt := top 32
def d__law_lower : He.DefD := ⟨("_law_lower", none), "_law_lower", "_law_lower", L2.defArgs t__law_lower, L2.defBody t__law_lower, L2.defScope t__law_lower, [], []⟩
theorem sc__law_lower : FnScope ["bag", "result", "at"] ["bag", "result"] (L2.defScope t__law_lower) := ⟨rfl, rfl, rfl, by decide +kernel, rfl, by decide +kernel, by decide +kernel⟩
def f__law_lower (c : C) : Env → R Fl :=
  (thenS (asgS (coV 0 (callV (hd c) 12 [] [some 0, none] (consI 0 (consA (coV 0 (bltV lenW (consV (varV 1) okNil))) okNilA)) okNil)) (gN 2)) (thenS (ifS (orB (truB (cmpV .eq (subV (subV (varV 1) (varV 2)) (cV (.int 1))) (cV (.int 0)))) (andB1 (andB (truB (cmpV .eq (callV (hd c) 12 [] [some 0, none] (consI 0 (consA (coV 0 (cV (.int 3))) okNilA)) okNil) (cV (.int 0)))) (andB1 (truB (cmpV .gt (bltV lenW (consV (varV 1) okNil)) (cV (.int 1)))))))) (thenS (retS (ifV (truB (cmpV .gt (bltV lenW (consV (varV 1) okNil)) (cV (.int 1)))) (binV addW (slcV (varV 1) noO (yesO (varV 2))) (slcV (varV 1) (yesO (binV addW (varV 2) (cV (.int 1)))) noO)) (ecV (varV 1)))) doneS) doneS) (thenS (retS (binV addW (binV addW (slcV (varV 1) noO (yesO (varV 2))) (tupV (consV (coV 0 (tupV (consV (coV 0 (ecV (subV (subV (varV 1) (varV 2)) (cV (.int 0))))) (consV (coV 0 (binV subW (subV (subV (varV 1) (varV 2)) (cV (.int 1))) (cV (.int 1)))) okNil)))) okNil))) (slcV (varV 1) (yesO (binV addW (varV 2) (cV (.int 1)))) noO))) doneS)))
abbrev t__law_go_along : Stmt := top 33
def d__law_go_along : He.DefD := ⟨("_law_go_along", none), "_law_go_along", "_law_go_along", L2.defArgs t__law_go_along, L2.defBody t__law_go_along, L2.defScope t__law_go_along, [], []⟩
theorem sc__law_go_along : FnScope ["bag", "points", "chain", "step", "grade", "condition", "words", "i", "j", "due", "first", "other", "apart", "k", "one"] ["bag"] (L2.defScope t__law_go_along) := ⟨rfl, rfl, rfl, by decide +kernel, rfl, by decide +kernel, by decide +kernel⟩
def f__law_go_along (c : C) : Env → R Fl :=
  (thenS (asgS (coV 0 (bltV tupleW (consV (bltV (bltD .sorted) (consV (lcV 0 [13] (rngV (consV (coV 0 (cV (.int 7))) okNil)) (gN 13) yesB (coV 0 (callV (hd c) 14 [] [some 0, none] (consI 0 (consA (coV 0 (lstV 0 (consV (coV 0 (cV (.int 0))) (consV (coV 0 (cV (.int 60))) (consV (coV 0 (callV (hd c) 12 [] [some 0, none] (consI 0 (consA (coV 0 (cV (.int 61))) okNilA)) okNil)) okNil))))) okNilA)) okNil))) okNil)) okNil))) (gN 1)) (thenS (asgS (lstV 0 (consV (coV 0 (callV (hd c) 14 [] [some 0, none] (consI 0 (consA (coV 0 (lstV 0 (consV (coV 0 (bltV tupleW (consV (lcV 0 [13] (rngV (consV (coV 0 (cV (.int 8))) okNil)) (gN 13) yesB (coV 0 (tupV (consV (coV 0 (ecV (varV 13))) (consV (coV 0 (cV (.int 6))) okNil))))) okNil))) (consV (coV 0 (callV (hd c) 17 [] [some 0, none] (consI 0 (consA (coV 0 (binV addW (cV (.int 2)) (callV (hd c) 12 [] [some 0, none] (consI 0 (consA (coV 0 (cV (.int 7))) okNilA)) okNil))) okNilA)) okNil)) okNil)))) okNilA)) okNil)) okNil)) (gN 2)) (thenS (forV (rngV (consV (coV 0 (cV (.int 6))) okNil)) (gN 3) (thenS (exS (mutV (.append 0) 2 (plV 2) (consV (coV 0 (callV (hd c) 25 [] [some 0, none] (consI 0 (consA (coV 0 (ecV (subV (varV 2) (negV (cV (.int 1)))))) okNilA)) okNil)) okNil))) doneS)) (thenS (asgS (coV 0 (tupV (consV (coV 0 (cV (.str (PySem.Str.ofString "grade")))) (consV (coV 0 (callV (hd c) 12 [] [some 0, none] (consI 0 (consA (coV 0 (cV (.int 8))) okNilA)) okNil)) (consV (coV 0 (callV (hd c) 12 [] [some 0, none] (consI 0 (consA (coV 0 (cV (.int 7))) okNilA)) okNil)) okNil))))) (gN 4)) (thenS (asgS (coV 0 (tupV (consV (coV 0 (cV (.str (PySem.Str.ofString "or")))) (consV (coV 0 (tupV (consV (coV 0 (tupV (consV (coV 0 (cV (.str (PySem.Str.ofString "points")))) (consV (coV 0 (callV (hd c) 16 [] [none, none] (consA (coV 0 (ecV (varV 1))) (consA (coV 0 (ecV (subV (varV 2) (callV (hd c) 12 [] [some 0, none] (consI 0 (consA (coV 0 (cV (.int 7))) okNilA)) okNil)))) okNilA)) okNil)) okNil)))) (consV (coV 0 (tupV (consV (coV 0 (cV (.str (PySem.Str.ofString "and")))) (consV (coV 0 (tupV (consV (coV 0 (ecV (varV 4))) (consV (coV 0 (tupV (consV (coV 0 (cV (.str (PySem.Str.ofString "points")))) (consV (coV 0 (cV (.int 0))) okNil)))) okNil)))) okNil)))) okNil)))) okNil)))) (gN 5)) (thenS (asgS (coV 0 (lcV 0 [14] (itemsV (varV 2)) (gN 14) yesB (coV 0 (callV (hd c) 4 [] [none, none, none] (consA (coV 0 (ecV (varV 1))) (consA (coV 0 (ecV (varV 5))) (consA (coV 0 (ecV (varV 14))) okNilA))) okNil)))) (gN 6)) (thenS (forV (rngV (consV (coV 0 (cV (.int 7))) okNil)) (gN 7) (thenS (forV (rngV (consV (coV 0 (cV (.int 7))) okNil)) (gN 8) (thenS (asgS (coV 0 (orV (cmpV .ge (varV 7) (varV 8)) (cmpV .eq (subV (varV 2) (varV 7)) (subV (varV 2) (varV 8))))) (gN 9)) (thenS (ifS (orB (notB (truB (callV (hd c) 13 [] [none, none] (consA (coV 0 (callV (hd c) 5 [] [none, none] (consA (coV 0 (ecV (subV (varV 2) (varV 7)))) (consA (coV 0 (ecV (subV (varV 2) (varV 8)))) okNilA)) okNil)) (consA (coV 0 (ecV (varV 9))) okNilA)) okNil))) (andB1 (andB (truB (varV 9)) (andB (truB (cmpV .isT (subV (varV 6) (varV 7)) (cV (.bl true)))) (andB1 (truB (cmpV .notT (subV (varV 6) (varV 8)) (cV (.bl true))))))))) (thenS (retS (cV (.bl false))) doneS) doneS) doneS))) doneS)) (thenS (asgS (coV 0 (ecV (subV (varV 2) (cV (.int 0))))) (gN 10)) (thenS (asgS (coV 0 (bltV tupleW (consV (binV addW (lstV 0 (consV (coV 0 (tupV (consV (coV 0 (ecV (subV (subV (varV 10) (cV (.int 0))) (cV (.int 0))))) (consV (coV 0 (bltV max2W (consV (cV (.int 0)) (consV (binV subW (subV (subV (varV 10) (cV (.int 0))) (cV (.int 1))) (cV (.int 1))) okNil)))) okNil)))) okNil)) (lcV 0 [14] (itemsV (coV 0 (slcV (varV 10) (yesO (cV (.int 1))) noO))) (gN 14) yesB (coV 0 (tupV (consV (coV 0 (ecV (subV (varV 14) (cV (.int 0))))) (consV (coV 0 (bltV min2W (consV (cV (.int 6)) (consV (binV addW (subV (varV 14) (cV (.int 1))) (cV (.int 1))) okNil)))) okNil)))))) okNil))) (gN 11)) (thenS (asgS (coV 0 (andV (cmpV .gt (subV (subV (varV 10) (cV (.int 0))) (cV (.int 1))) (cV (.int 0))) (cmpV .ne (lcV 0 [14] (itemsV (coV 0 (slcV (varV 10) (yesO (cV (.int 1))) noO))) (gN 14) (truB (cmpV .lt (subV (varV 14) (cV (.int 1))) (cV (.int 6)))) (coV 0 (ecV (varV 14)))) (lstV 0 okNil)))) (gN 12)) (thenS (ifS (andB (truB (varV 12)) (andB1 (notB (truB (callV (hd c) 13 [] [none, none] (consA (coV 0 (tupV (consV (coV 0 (callV (hd c) 5 [] [none, none] (consA (coV 0 (ecV (varV 10))) (consA (coV 0 (ecV (varV 11))) okNilA)) okNil)) (consV (coV 0 (callV (hd c) 5 [0, 1] [] okNilA (consV (coV 0 (ecV (varV 11))) (consV (coV 0 (ecV (varV 10))) okNil)))) okNil)))) (consA (coV 0 (tupV (consV (coV 0 (cV (.bl false))) (consV (coV 0 (cV (.bl false))) okNil)))) okNilA)) okNil))))) (thenS (retS (cV (.bl false))) doneS) doneS) (thenS (retS (callV (hd c) 13 [] [none, none] (consA (coV 0 (callV (hd c) 5 [1, 0] [] okNilA (consV (coV 0 (ecV (varV 10))) (consV (coV 0 (ecV (varV 10))) okNil)))) (consA (coV 0 (cV (.bl true))) okNilA)) okNil)) doneS))))))))))))
abbrev t_law : Stmt := top 34
def d_law : He.DefD := ⟨("law", none), "law", "law", L2.defArgs t_law, L2.defBody t_law, L2.defScope t_law, [], []⟩
theorem sc_law : FnScope ["script", "bag"] ["script"] (L2.defScope t_law) := ⟨rfl, rfl, rfl, by decide +kernel, rfl, by decide +kernel, by decide +kernel⟩
def f_law (c : C) : Env → R Fl :=
  (thenS (asgS (callV (hd c) 11 [] [none] (consA (coV 0 (fzV 0)) okNilA) okNil) (gN 1)) (thenS (retS (andV (callV (hd c) 22 [] [some 1] (consI 1 okNilA) okNil) (andV (callV (hd c) 24 [] [some 1] (consI 1 okNilA) okNil) (andV (callV (hd c) 24 [] [some 1] (consI 1 okNilA) okNil) (callV (hd c) 26 [] [some 1] (consI 1 okNilA) okNil))))) doneS))
def tab : List Fn := [⟨[false, false, false], 3, f_is_number⟩, ⟨[false, false], 4, f_points_of⟩, ⟨[false], 4, f_grades_of⟩, ⟨[false, false, false], 5, f_holds_in⟩, ⟨[false, false, false], 3, f_holds⟩, ⟨[false, false], 5, f_lies_under⟩, ⟨[false], 2, f_parts_of_grade⟩, ⟨[false], 1, f_parts_of_points⟩, ⟨[false, false], 5, f_parts_of_many⟩, ⟨[false, false], 2, f_parts_of⟩, ⟨[false], 1, f_check_condition⟩, ⟨[false], 4, f__law_open⟩, ⟨[true, false], 5, f__law_n⟩, ⟨[false, false], 3, f__law_alike⟩, ⟨[true, false], 2, f__law_pick⟩, ⟨[true, false, false], 5, f__law_taken⟩, ⟨[false, false], 4, f__law_sum⟩, ⟨[true, false], 5, f__law_result⟩, ⟨[false, false, false], 4, f__law_many⟩, ⟨[true, false, false], 8, f__law_wrapped⟩, ⟨[false], 2, f__law_parts⟩, ⟨[false], 2, f__law_levels⟩, ⟨[true], 19, f__law_are_held⟩, ⟨[true, false], 3, f__law_leaf⟩, ⟨[true], 14, f__law_are_looked_at⟩, ⟨[true, false], 3, f__law_lower⟩, ⟨[true], 15, f__law_go_along⟩, ⟨[true], 2, f_law⟩]
def defs : List He.DefD := [d_is_number, d_points_of, d_grades_of, d_holds_in, d_holds, d_lies_under, d_parts_of_grade, d_parts_of_points, d_parts_of_many, d_parts_of, d_check_condition, d__law_open, d__law_n, d__law_alike, d__law_pick, d__law_taken, d__law_sum, d__law_result, d__law_many, d__law_wrapped, d__law_parts, d__law_levels, d__law_are_held, d__law_leaf, d__law_are_looked_at, d__law_lower, d__law_go_along, d_law]
/-- what the walk knows of the module -/
structure Lw (K : PySem.W.Frag) (mg : Str → Option Value) (base : Heap) (fa : Nat → Addr) (fd : Nat → FuncData) (ca ta : Nat → Addr) : Prop where
  fn : ∀ (i : Nat) (d : He.DefD), defs[i]? = some d → FunD K d.name d.qual d.params d.body d.scope [] [] (fa i) (fd i)
  gl : ∀ (i : Nat) (d : He.DefD), defs[i]? = some d → mg d.name = some (.ref (fa i))
  cd : ∀ (i : Nat) (d : He.DefD), defs[i]? = some d → (fd i).code = .ref (ca i) ∧ PySem.W.codeHdIn K (ca i) (ta i) = true ∧ GxR.TabB base mg (ca i) (ta i)
  b_abs : mg "abs" = none
  b_all : mg "all" = none
  b_any : mg "any" = none
  b_bool : mg "bool" = none
  b_int : mg "int" = none
  b_isinstance : mg "isinstance" = none
  b_len : mg "len" = none
  b_list : mg "list" = none
  b_max : mg "max" = none
  b_min : mg "min" = none
  b_range : mg "range" = none
  b_sorted : mg "sorted" = none
  b_str : mg "str" = none
  b_sum : mg "sum" = none
  b_tuple : mg "tuple" = none
  c_MOST_LEVELS : ∃ t, mg "MOST_LEVELS" = some (.int 6 t)
  c_MOST_PARTS : ∃ t, mg "MOST_PARTS" = some (.int 20 t)
  c_MOST_POINTS : ∃ t, mg "MOST_POINTS" = some (.int 480 t)
  c_SUBJECTS : ∃ t, mg "SUBJECTS" = some (.int 8 t)
/-- the defs keep their promises to the depth n -/
structure Tb (P : Program) (w : World) (K : PySem.W.Frag) (mg : Str → Option Value) (base : Heap) (fa : Nat → Addr) (fd : Nat → FuncData) (n : Nat) : Prop where
  ok : ∀ (i : Nat) (d : He.DefD), defs[i]? = some d → FnOk P w K mg base CX0 (2 * n) (fa i) (fd i) (psOf d) (FSp K (hd (calls tab n)) i)
theorem bd_is_number {K : PySem.W.Frag} {f : Addr} {fd : FuncData} (F : FunD K d_is_number.name d_is_number.qual d_is_number.params d_is_number.body d_is_number.scope [] [] f fd) : Binds K fd (psOf d_is_number) [] := FunD.bindsN F fun _ _ _ _ _ _ us hl => match us, hl with | [_, _, _], _ => rfl
theorem bd_points_of {K : PySem.W.Frag} {f : Addr} {fd : FuncData} (F : FunD K d_points_of.name d_points_of.qual d_points_of.params d_points_of.body d_points_of.scope [] [] f fd) : Binds K fd (psOf d_points_of) [] := FunD.bindsN F fun _ _ _ _ _ _ us hl => match us, hl with | [_, _], _ => rfl
theorem bd_grades_of {K : PySem.W.Frag} {f : Addr} {fd : FuncData} (F : FunD K d_grades_of.name d_grades_of.qual d_grades_of.params d_grades_of.body d_grades_of.scope [] [] f fd) : Binds K fd (psOf d_grades_of) [] := FunD.bindsN F fun _ _ _ _ _ _ us hl => match us, hl with | [_], _ => rfl
theorem bd_holds_in {K : PySem.W.Frag} {f : Addr} {fd : FuncData} (F : FunD K d_holds_in.name d_holds_in.qual d_holds_in.params d_holds_in.body d_holds_in.scope [] [] f fd) : Binds K fd (psOf d_holds_in) [] := FunD.bindsN F fun _ _ _ _ _ _ us hl => match us, hl with | [_, _, _], _ => rfl
theorem bd_holds {K : PySem.W.Frag} {f : Addr} {fd : FuncData} (F : FunD K d_holds.name d_holds.qual d_holds.params d_holds.body d_holds.scope [] [] f fd) : Binds K fd (psOf d_holds) [] := FunD.bindsN F fun _ _ _ _ _ _ us hl => match us, hl with | [_, _, _], _ => rfl
theorem bd_lies_under {K : PySem.W.Frag} {f : Addr} {fd : FuncData} (F : FunD K d_lies_under.name d_lies_under.qual d_lies_under.params d_lies_under.body d_lies_under.scope [] [] f fd) : Binds K fd (psOf d_lies_under) [] := FunD.bindsN F fun _ _ _ _ _ _ us hl => match us, hl with | [_, _], _ => rfl
theorem bd_parts_of_grade {K : PySem.W.Frag} {f : Addr} {fd : FuncData} (F : FunD K d_parts_of_grade.name d_parts_of_grade.qual d_parts_of_grade.params d_parts_of_grade.body d_parts_of_grade.scope [] [] f fd) : Binds K fd (psOf d_parts_of_grade) [] := FunD.bindsN F fun _ _ _ _ _ _ us hl => match us, hl with | [_], _ => rfl
theorem bd_parts_of_points {K : PySem.W.Frag} {f : Addr} {fd : FuncData} (F : FunD K d_parts_of_points.name d_parts_of_points.qual d_parts_of_points.params d_parts_of_points.body d_parts_of_points.scope [] [] f fd) : Binds K fd (psOf d_parts_of_points) [] := FunD.bindsN F fun _ _ _ _ _ _ us hl => match us, hl with | [_], _ => rfl
theorem bd_parts_of_many {K : PySem.W.Frag} {f : Addr} {fd : FuncData} (F : FunD K d_parts_of_many.name d_parts_of_many.qual d_parts_of_many.params d_parts_of_many.body d_parts_of_many.scope [] [] f fd) : Binds K fd (psOf d_parts_of_many) [] := FunD.bindsN F fun _ _ _ _ _ _ us hl => match us, hl with | [_, _], _ => rfl
theorem bd_parts_of {K : PySem.W.Frag} {f : Addr} {fd : FuncData} (F : FunD K d_parts_of.name d_parts_of.qual d_parts_of.params d_parts_of.body d_parts_of.scope [] [] f fd) : Binds K fd (psOf d_parts_of) [] := FunD.bindsN F fun _ _ _ _ _ _ us hl => match us, hl with | [_, _], _ => rfl
theorem bd_check_condition {K : PySem.W.Frag} {f : Addr} {fd : FuncData} (F : FunD K d_check_condition.name d_check_condition.qual d_check_condition.params d_check_condition.body d_check_condition.scope [] [] f fd) : Binds K fd (psOf d_check_condition) [] := FunD.bindsN F fun _ _ _ _ _ _ us hl => match us, hl with | [_], _ => rfl
theorem bd__law_open {K : PySem.W.Frag} {f : Addr} {fd : FuncData} (F : FunD K d__law_open.name d__law_open.qual d__law_open.params d__law_open.body d__law_open.scope [] [] f fd) : Binds K fd (psOf d__law_open) [] := FunD.bindsN F fun _ _ _ _ _ _ us hl => match us, hl with | [_], _ => rfl
theorem bd__law_n {K : PySem.W.Frag} {f : Addr} {fd : FuncData} (F : FunD K d__law_n.name d__law_n.qual d__law_n.params d__law_n.body d__law_n.scope [] [] f fd) : Binds K fd (psOf d__law_n) [] := FunD.bindsN F fun _ _ _ _ _ _ us hl => match us, hl with | [_, _], _ => rfl
theorem bd__law_alike {K : PySem.W.Frag} {f : Addr} {fd : FuncData} (F : FunD K d__law_alike.name d__law_alike.qual d__law_alike.params d__law_alike.body d__law_alike.scope [] [] f fd) : Binds K fd (psOf d__law_alike) [] := FunD.bindsN F fun _ _ _ _ _ _ us hl => match us, hl with | [_, _], _ => rfl
theorem bd__law_pick {K : PySem.W.Frag} {f : Addr} {fd : FuncData} (F : FunD K d__law_pick.name d__law_pick.qual d__law_pick.params d__law_pick.body d__law_pick.scope [] [] f fd) : Binds K fd (psOf d__law_pick) [] := FunD.bindsN F fun _ _ _ _ _ _ us hl => match us, hl with | [_, _], _ => rfl
theorem bd__law_taken {K : PySem.W.Frag} {f : Addr} {fd : FuncData} (F : FunD K d__law_taken.name d__law_taken.qual d__law_taken.params d__law_taken.body d__law_taken.scope [] [] f fd) : Binds K fd (psOf d__law_taken) [] := FunD.bindsN F fun _ _ _ _ _ _ us hl => match us, hl with | [_, _, _], _ => rfl
theorem bd__law_sum {K : PySem.W.Frag} {f : Addr} {fd : FuncData} (F : FunD K d__law_sum.name d__law_sum.qual d__law_sum.params d__law_sum.body d__law_sum.scope [] [] f fd) : Binds K fd (psOf d__law_sum) [] := FunD.bindsN F fun _ _ _ _ _ _ us hl => match us, hl with | [_, _], _ => rfl
theorem bd__law_result {K : PySem.W.Frag} {f : Addr} {fd : FuncData} (F : FunD K d__law_result.name d__law_result.qual d__law_result.params d__law_result.body d__law_result.scope [] [] f fd) : Binds K fd (psOf d__law_result) [] := FunD.bindsN F fun _ _ _ _ _ _ us hl => match us, hl with | [_, _], _ => rfl
theorem bd__law_many {K : PySem.W.Frag} {f : Addr} {fd : FuncData} (F : FunD K d__law_many.name d__law_many.qual d__law_many.params d__law_many.body d__law_many.scope [] [] f fd) : Binds K fd (psOf d__law_many) [] := FunD.bindsN F fun _ _ _ _ _ _ us hl => match us, hl with | [_, _, _], _ => rfl
theorem bd__law_wrapped {K : PySem.W.Frag} {f : Addr} {fd : FuncData} (F : FunD K d__law_wrapped.name d__law_wrapped.qual d__law_wrapped.params d__law_wrapped.body d__law_wrapped.scope [] [] f fd) : Binds K fd (psOf d__law_wrapped) [] := FunD.bindsN F fun _ _ _ _ _ _ us hl => match us, hl with | [_, _, _], _ => rfl
theorem bd__law_parts {K : PySem.W.Frag} {f : Addr} {fd : FuncData} (F : FunD K d__law_parts.name d__law_parts.qual d__law_parts.params d__law_parts.body d__law_parts.scope [] [] f fd) : Binds K fd (psOf d__law_parts) [] := FunD.bindsN F fun _ _ _ _ _ _ us hl => match us, hl with | [_], _ => rfl
theorem bd__law_levels {K : PySem.W.Frag} {f : Addr} {fd : FuncData} (F : FunD K d__law_levels.name d__law_levels.qual d__law_levels.params d__law_levels.body d__law_levels.scope [] [] f fd) : Binds K fd (psOf d__law_levels) [] := FunD.bindsN F fun _ _ _ _ _ _ us hl => match us, hl with | [_], _ => rfl
theorem bd__law_are_held {K : PySem.W.Frag} {f : Addr} {fd : FuncData} (F : FunD K d__law_are_held.name d__law_are_held.qual d__law_are_held.params d__law_are_held.body d__law_are_held.scope [] [] f fd) : Binds K fd (psOf d__law_are_held) [] := FunD.bindsN F fun _ _ _ _ _ _ us hl => match us, hl with | [_], _ => rfl
theorem bd__law_leaf {K : PySem.W.Frag} {f : Addr} {fd : FuncData} (F : FunD K d__law_leaf.name d__law_leaf.qual d__law_leaf.params d__law_leaf.body d__law_leaf.scope [] [] f fd) : Binds K fd (psOf d__law_leaf) [] := FunD.bindsN F fun _ _ _ _ _ _ us hl => match us, hl with | [_, _], _ => rfl
theorem bd__law_are_looked_at {K : PySem.W.Frag} {f : Addr} {fd : FuncData} (F : FunD K d__law_are_looked_at.name d__law_are_looked_at.qual d__law_are_looked_at.params d__law_are_looked_at.body d__law_are_looked_at.scope [] [] f fd) : Binds K fd (psOf d__law_are_looked_at) [] := FunD.bindsN F fun _ _ _ _ _ _ us hl => match us, hl with | [_], _ => rfl
theorem bd__law_lower {K : PySem.W.Frag} {f : Addr} {fd : FuncData} (F : FunD K d__law_lower.name d__law_lower.qual d__law_lower.params d__law_lower.body d__law_lower.scope [] [] f fd) : Binds K fd (psOf d__law_lower) [] := FunD.bindsN F fun _ _ _ _ _ _ us hl => match us, hl with | [_, _], _ => rfl
theorem bd__law_go_along {K : PySem.W.Frag} {f : Addr} {fd : FuncData} (F : FunD K d__law_go_along.name d__law_go_along.qual d__law_go_along.params d__law_go_along.body d__law_go_along.scope [] [] f fd) : Binds K fd (psOf d__law_go_along) [] := FunD.bindsN F fun _ _ _ _ _ _ us hl => match us, hl with | [_], _ => rfl
theorem bd_law {K : PySem.W.Frag} {f : Addr} {fd : FuncData} (F : FunD K d_law.name d_law.qual d_law.params d_law.body d_law.scope [] [] f fd) : Binds K fd (psOf d_law) [] := FunD.bindsN F fun _ _ _ _ _ _ us hl => match us, hl with | [_], _ => rfl
theorem kb0 {K : PySem.W.Frag} {f : Addr} {fd : FuncData} (F : FunD K d_points_of.name d_points_of.qual d_points_of.params d_points_of.body d_points_of.scope [] [] f fd) : KBn K fd (psOf d_points_of) 0 ["result", "points"] (fun us ws => us ++ pick [1, 0] ws) (fun us ws => us ++ pick [1, 0] ws) := kbn F (fun _ _ _ _ _ _ us ws h1 h2 => match us, ws, h1, h2 with | [], [_, _], _, _ => rfl)
theorem kb1 {K : PySem.W.Frag} {f : Addr} {fd : FuncData} (F : FunD K d_holds.name d_holds.qual d_holds.params d_holds.body d_holds.scope [] [] f fd) : KBn K fd (psOf d_holds) 0 ["result", "condition", "points"] (fun us ws => us ++ pick [2, 1, 0] ws) (fun us ws => us ++ pick [2, 1, 0] ws) := kbn F (fun _ _ _ _ _ _ us ws h1 h2 => match us, ws, h1, h2 with | [], [_, _, _], _, _ => rfl)
theorem kb2 {K : PySem.W.Frag} {f : Addr} {fd : FuncData} (F : FunD K d_check_condition.name d_check_condition.qual d_check_condition.params d_check_condition.body d_check_condition.scope [] [] f fd) : KBn K fd (psOf d_check_condition) 0 ["value"] (fun us ws => us ++ pick [0] ws) (fun us ws => us ++ pick [0] ws) := kbn F (fun _ _ _ _ _ _ us ws h1 h2 => match us, ws, h1, h2 with | [], [_], _, _ => rfl)
theorem kb3 {K : PySem.W.Frag} {f : Addr} {fd : FuncData} (F : FunD K d_lies_under.name d_lies_under.qual d_lies_under.params d_lies_under.body d_lies_under.scope [] [] f fd) : KBn K fd (psOf d_lies_under) 0 ["result", "other"] (fun us ws => us ++ pick [0, 1] ws) (fun us ws => us ++ pick [0, 1] ws) := kbn F (fun _ _ _ _ _ _ us ws h1 h2 => match us, ws, h1, h2 with | [], [_, _], _, _ => rfl)
theorem kb4 {K : PySem.W.Frag} {f : Addr} {fd : FuncData} (F : FunD K d_lies_under.name d_lies_under.qual d_lies_under.params d_lies_under.body d_lies_under.scope [] [] f fd) : KBn K fd (psOf d_lies_under) 0 ["other", "result"] (fun us ws => us ++ pick [1, 0] ws) (fun us ws => us ++ pick [1, 0] ws) := kbn F (fun _ _ _ _ _ _ us ws h1 h2 => match us, ws, h1, h2 with | [], [_, _], _, _ => rfl)
section
variable {P : Program} {w : World} {K : PySem.W.Frag} {mg : Str → Option Value} {base : Heap} {fa : Nat → Addr} {fd : Nat → FuncData} {ca ta : Nat → Addr} {n : Nat}
theorem r_is_number (L : Lw K mg base fa fd ca ta) (T : Tb P w K mg base fa fd n) : FnOk P w K mg base CX0 (2 * n + 2) (fa 0) (fd 0) (psOf d_is_number) (FSp K (hd (calls tab (n + 1))) 0) :=
  have sc := sc_is_number
  def_okC (L.fn 0 d_is_number rfl) sc (fn := ⟨[false, false, false], 3, f_is_number⟩) (c := calls tab n) rfl rfl (fun _ => rfl) (L.cd 0 d_is_number rfl).1 (fun A outer s0 H E hr => ⟨_,
    (s_cons (s_ret (q_and (q_bltB (cb_is is_int) L.b_isinstance bt_isinstance (b_cons (q_v 0) (b_ty L.b_int bt_int))) (q_and (q_not (q_bltB (cb_is is_bool) L.b_isinstance bt_isinstance (b_cons (q_v 0) (b_ty L.b_bool bt_bool)))) (q_one (q_chain .le .le hr (q_v 1) (q_v 0) (q_v 2)))))) s_nil)⟩) (by rfl)
theorem r_points_of (L : Lw K mg base fa fd ca ta) (T : Tb P w K mg base fa fd n) : FnOk P w K mg base CX0 (2 * n + 2) (fa 1) (fd 1) (psOf d_points_of) (FSp K (hd (calls tab (n + 1))) 1) :=
  have sc := sc_points_of
  def_okC (L.fn 1 d_points_of rfl) sc (fn := ⟨[false, false], 4, f_points_of⟩) (c := calls tab n) rfl rfl (fun _ => rfl) (L.cd 1 d_points_of rfl).1 (fun A outer s0 H E hr => ⟨_,
    have G := genP (cc := ca 1) (PP := ta 1) hr sc.nd rfl (L.cd 1 d_points_of rfl)
    (s_cons (s_ret (q_sumG (own := [(("subject" : Str), 3), (("grade" : Str), 2)]) G L.b_sum (w_slot (q_v 1)) (by rfl) (fun _ _ _ _ => (t_tup (t_cons (t_n 3 sc.nd) (t_cons (t_n 2 sc.nd) t_nil)))) (fun _ _ _ _ => x_nil) (fun _ _ _ _ => (q_ec (q_sub (q_v 0) (q_v 2)))))) s_nil)⟩) (by rfl)
theorem r_grades_of (L : Lw K mg base fa fd ca ta) (T : Tb P w K mg base fa fd n) : FnOk P w K mg base CX0 (2 * n + 2) (fa 2) (fd 2) (psOf d_grades_of) (FSp K (hd (calls tab (n + 1))) 2) :=
  have sc := sc_grades_of
  def_okC (L.fn 2 d_grades_of rfl) sc (fn := ⟨[false], 4, f_grades_of⟩) (c := calls tab n) rfl rfl (fun _ => rfl) (L.cd 2 d_grades_of rfl).1 (fun A outer s0 H E hr => ⟨_,
    (s_cons (s_asg (q_bin ob_mul (q_lst (m_cons (q_neg q_int) m_nil)) (q_gi L.c_SUBJECTS)) (t_n 1 sc.nd)) (s_cons (s_for (w_slot (q_v 0)) (t_tup (t_cons (t_n 2 sc.nd) (t_cons (t_n 3 sc.nd) t_nil))) (s_cons (s_set 0 (q_ec (q_v 3)) (l_v 1) (q_v 2)) s_nil)) (s_cons (s_ret (q_mv 1)) s_nil)))⟩) (by rfl)
theorem r_holds_in (L : Lw K mg base fa fd ca ta) (T : Tb P w K mg base fa fd n) : FnOk P w K mg base CX0 (2 * n + 2) (fa 3) (fd 3) (psOf d_holds_in) (FSp K (hd (calls tab (n + 1))) 3) :=
  have sc := sc_holds_in
  def_okC (L.fn 3 d_holds_in rfl) sc (fn := ⟨[false, false, false], 5, f_holds_in⟩) (c := calls tab n) rfl rfl (fun _ => rfl) (L.cd 3 d_holds_in rfl).1 (fun A outer s0 H E hr => ⟨_,
    have G := genP (cc := ca 3) (PP := ta 3) hr sc.nd rfl (L.cd 3 d_holds_in rfl)
    (s_cons (s_asg (q_co 0 (q_ec (q_sub (q_v 0) q_int))) (t_n 3 sc.nd)) (s_cons (s_if (q_cmpB .eq hr (q_v 3) q_str) (s_cons (s_ret (q_cmp .ge hr (q_sub (q_v 1) (q_sub (q_v 0) q_int)) (q_sub (q_v 0) q_int))) s_nil) s_nil) (s_cons (s_if (q_cmpB .eq hr (q_v 3) q_str) (s_cons (s_ret (q_cmp .ge hr (q_v 2) (q_sub (q_v 0) q_int))) s_nil) s_nil) (s_cons (s_if (q_cmpB .eq hr (q_v 3) q_str) (s_cons (s_ret (q_all (own := [(("part" : Str), 4)]) G L.b_all (w_slot (q_sub (q_v 0) q_int)) (by rfl) (fun _ _ _ _ => (t_n 4 sc.nd)) (fun _ _ _ _ => x_nil) (fun _ _ _ _ => (q_call (T.ok 3 d_holds_in rfl) (room_gx hr) (L.gl 3 d_holds_in rfl) (L.fn 3 d_holds_in rfl).kp (bd_holds_in (L.fn 3 d_holds_in rfl)) (c_val (q_ec (q_v 4)) (c_val (q_ec (q_v 1)) (c_val (q_ec (q_v 2)) c_nil))))))) s_nil) s_nil) (s_cons (s_ret (q_any (own := [(("part" : Str), 4)]) G L.b_any (w_slot (q_sub (q_v 0) q_int)) (by rfl) (fun _ _ _ _ => (t_n 4 sc.nd)) (fun _ _ _ _ => x_nil) (fun _ _ _ _ => (q_call (T.ok 3 d_holds_in rfl) (room_gx hr) (L.gl 3 d_holds_in rfl) (L.fn 3 d_holds_in rfl).kp (bd_holds_in (L.fn 3 d_holds_in rfl)) (c_val (q_ec (q_v 4)) (c_val (q_ec (q_v 1)) (c_val (q_ec (q_v 2)) c_nil))))))) s_nil)))))⟩) (by rfl)
theorem r_holds (L : Lw K mg base fa fd ca ta) (T : Tb P w K mg base fa fd n) : FnOk P w K mg base CX0 (2 * n + 2) (fa 4) (fd 4) (psOf d_holds) (FSp K (hd (calls tab (n + 1))) 4) :=
  have sc := sc_holds
  def_okC (L.fn 4 d_holds rfl) sc (fn := ⟨[false, false, false], 3, f_holds⟩) (c := calls tab n) rfl rfl (fun _ => rfl) (L.cd 4 d_holds rfl).1 (fun A outer s0 H E hr => ⟨_,
    (s_cons (s_ret (q_call (T.ok 3 d_holds_in rfl) (room_dn hr) (L.gl 3 d_holds_in rfl) (L.fn 3 d_holds_in rfl).kp (bd_holds_in (L.fn 3 d_holds_in rfl)) (c_val (q_ec (q_v 1)) (c_val (q_call (T.ok 2 d_grades_of rfl) (room_dn hr) (L.gl 2 d_grades_of rfl) (L.fn 2 d_grades_of rfl).kp (bd_grades_of (L.fn 2 d_grades_of rfl)) (c_val (q_ec (q_v 2)) c_nil)) (c_val (q_call (T.ok 1 d_points_of rfl) (room_dn hr) (L.gl 1 d_points_of rfl) (L.fn 1 d_points_of rfl).kp (bd_points_of (L.fn 1 d_points_of rfl)) (c_val (q_ec (q_v 0)) (c_val (q_ec (q_v 2)) c_nil))) c_nil))))) s_nil)⟩) (by rfl)
theorem r_lies_under (L : Lw K mg base fa fd ca ta) (T : Tb P w K mg base fa fd n) : FnOk P w K mg base CX0 (2 * n + 2) (fa 5) (fd 5) (psOf d_lies_under) (FSp K (hd (calls tab (n + 1))) 5) :=
  have sc := sc_lies_under
  def_okC (L.fn 5 d_lies_under rfl) sc (fn := ⟨[false, false], 5, f_lies_under⟩) (c := calls tab n) rfl rfl (fun _ => rfl) (L.cd 5 d_lies_under rfl).1 (fun A outer s0 H E hr => ⟨_,
    have G := genP (cc := ca 5) (PP := ta 5) hr sc.nd rfl (L.cd 5 d_lies_under rfl)
    (s_cons (s_asg (q_co 0 (q_call (T.ok 2 d_grades_of rfl) (room_dn hr) (L.gl 2 d_grades_of rfl) (L.fn 2 d_grades_of rfl).kp (bd_grades_of (L.fn 2 d_grades_of rfl)) (c_val (q_ec (q_v 1)) c_nil))) (t_n 2 sc.nd)) (s_cons (s_ret (q_all (own := [(("subject" : Str), 4), (("grade" : Str), 3)]) G L.b_all (w_slot (q_v 0)) (by rfl) (fun _ _ _ _ => (t_tup (t_cons (t_n 4 sc.nd) (t_cons (t_n 3 sc.nd) t_nil)))) (fun _ _ _ _ => x_nil) (fun _ _ _ _ => (q_cmp .ge (room_gx hr) (q_sub (q_v 2) (q_v 4)) (q_v 3))))) s_nil))⟩) (by rfl)
theorem r_parts_of_grade (L : Lw K mg base fa fd ca ta) (T : Tb P w K mg base fa fd n) : FnOk P w K mg base CX0 (2 * n + 2) (fa 6) (fd 6) (psOf d_parts_of_grade) (FSp K (hd (calls tab (n + 1))) 6) :=
  have sc := sc_parts_of_grade
  def_okC (L.fn 6 d_parts_of_grade rfl) sc (fn := ⟨[false], 2, f_parts_of_grade⟩) (c := calls tab n) rfl rfl (fun _ => rfl) (L.cd 6 d_parts_of_grade rfl).1 (fun A outer s0 H E hr => ⟨_,
    (s_cons (s_asg (q_co 0 (q_and (q_cmp .eq hr (q_bltB cb_len L.b_len bt_len (b_cons (q_v 0) b_nil)) q_int) (q_and (q_call (T.ok 0 d_is_number rfl) (room_dn hr) (L.gl 0 d_is_number rfl) (L.fn 0 d_is_number rfl).kp (bd_is_number (L.fn 0 d_is_number rfl)) (c_val (q_ec (q_sub (q_v 0) q_int)) (c_val q_int (c_val (q_bin ob_sub (q_gi L.c_SUBJECTS) q_int) c_nil)))) (q_one (q_call (T.ok 0 d_is_number rfl) (room_dn hr) (L.gl 0 d_is_number rfl) (L.fn 0 d_is_number rfl).kp (bd_is_number (L.fn 0 d_is_number rfl)) (c_val (q_ec (q_sub (q_v 0) q_int)) (c_val q_int (c_val q_int c_nil)))))))) (t_n 1 sc.nd)) (s_cons (s_ret (q_if (q_tru (q_v 1)) q_int q_int)) s_nil))⟩) (by rfl)
theorem r_parts_of_points (L : Lw K mg base fa fd ca ta) (T : Tb P w K mg base fa fd n) : FnOk P w K mg base CX0 (2 * n + 2) (fa 7) (fd 7) (psOf d_parts_of_points) (FSp K (hd (calls tab (n + 1))) 7) :=
  have sc := sc_parts_of_points
  def_okC (L.fn 7 d_parts_of_points rfl) sc (fn := ⟨[false], 1, f_parts_of_points⟩) (c := calls tab n) rfl rfl (fun _ => rfl) (L.cd 7 d_parts_of_points rfl).1 (fun A outer s0 H E hr => ⟨_,
    (s_cons (s_ret (q_if (w_and (q_cmpB .eq hr (q_bltB cb_len L.b_len bt_len (b_cons (q_v 0) b_nil)) q_int) (w_and1 (q_tru (q_call (T.ok 0 d_is_number rfl) (room_dn hr) (L.gl 0 d_is_number rfl) (L.fn 0 d_is_number rfl).kp (bd_is_number (L.fn 0 d_is_number rfl)) (c_val (q_ec (q_sub (q_v 0) q_int)) (c_val q_int (c_val (q_gi L.c_MOST_POINTS) c_nil))))))).pt q_int q_int)) s_nil)⟩) (by rfl)
theorem r_parts_of_many (L : Lw K mg base fa fd ca ta) (T : Tb P w K mg base fa fd n) : FnOk P w K mg base CX0 (2 * n + 2) (fa 8) (fd 8) (psOf d_parts_of_many) (FSp K (hd (calls tab (n + 1))) 8) :=
  have sc := sc_parts_of_many
  def_okC (L.fn 8 d_parts_of_many rfl) sc (fn := ⟨[false, false], 5, f_parts_of_many⟩) (c := calls tab n) rfl rfl (fun _ => rfl) (L.cd 8 d_parts_of_many rfl).1 (fun A outer s0 H E hr => ⟨_,
    (s_cons (s_if (w_or (q_cmpB .ne hr (q_bltB cb_len L.b_len bt_len (b_cons (q_v 0) b_nil)) q_int) (w_or1 (q_notB (q_tru (q_bltB (cb_is is_tuple) L.b_isinstance bt_isinstance (b_cons (q_sub (q_v 0) q_int) (b_ty L.b_tuple bt_tuple))))))).pt (s_cons (s_ret q_int) s_nil) s_nil) (s_cons (s_asg (q_co 0 q_int) (t_n 2 sc.nd)) (s_cons (s_for (w_slot (q_sub (q_v 0) q_int)) (t_n 3 sc.nd) (s_cons (s_asg (q_co 0 (q_call (T.ok 9 d_parts_of rfl) (room_dn hr) (L.gl 9 d_parts_of rfl) (L.fn 9 d_parts_of rfl).kp (bd_parts_of (L.fn 9 d_parts_of rfl)) (c_val (q_ec (q_v 3)) (c_val (q_bin ob_sub (q_v 1) q_int) c_nil)))) (t_n 4 sc.nd)) (s_cons (s_if (q_cmpB .eq hr (q_v 4) q_int) (s_cons (s_ret q_int) s_nil) s_nil) (s_cons (s_aug 2 sc.nd oi_add (q_v 4)) s_nil)))) (s_cons (s_ret (q_ec (q_v 2))) s_nil))))⟩) (by rfl)
theorem r_parts_of (L : Lw K mg base fa fd ca ta) (T : Tb P w K mg base fa fd n) : FnOk P w K mg base CX0 (2 * n + 2) (fa 9) (fd 9) (psOf d_parts_of) (FSp K (hd (calls tab (n + 1))) 9) :=
  have sc := sc_parts_of
  def_okC (L.fn 9 d_parts_of rfl) sc (fn := ⟨[false, false], 2, f_parts_of⟩) (c := calls tab n) rfl rfl (fun _ => rfl) (L.cd 9 d_parts_of rfl).1 (fun A outer s0 H E hr => ⟨_,
    (s_cons (s_if (w_or (q_cmpB .eq hr (q_v 1) q_int) (w_or (q_notB (q_tru (q_bltB (cb_is is_tuple) L.b_isinstance bt_isinstance (b_cons (q_v 0) (b_ty L.b_tuple bt_tuple))))) (w_or1 (q_notB (q_tru (q_v 0)))))).pt (s_cons (s_ret q_int) s_nil) s_nil) (s_cons (s_if (q_cmpB .eq hr (q_sub (q_v 0) q_int) q_str) (s_cons (s_ret (q_call (T.ok 6 d_parts_of_grade rfl) (room_dn hr) (L.gl 6 d_parts_of_grade rfl) (L.fn 6 d_parts_of_grade rfl).kp (bd_parts_of_grade (L.fn 6 d_parts_of_grade rfl)) (c_val (q_ec (q_v 0)) c_nil))) s_nil) s_nil) (s_cons (s_if (q_cmpB .eq hr (q_sub (q_v 0) q_int) q_str) (s_cons (s_ret (q_call (T.ok 7 d_parts_of_points rfl) (room_dn hr) (L.gl 7 d_parts_of_points rfl) (L.fn 7 d_parts_of_points rfl).kp (bd_parts_of_points (L.fn 7 d_parts_of_points rfl)) (c_val (q_ec (q_v 0)) c_nil))) s_nil) s_nil) (s_cons (s_if (w_or (q_cmpB .eq hr (q_sub (q_v 0) q_int) q_str) (w_or1 (q_cmpB .eq hr (q_sub (q_v 0) q_int) q_str))).pt (s_cons (s_ret (q_call (T.ok 8 d_parts_of_many rfl) (room_dn hr) (L.gl 8 d_parts_of_many rfl) (L.fn 8 d_parts_of_many rfl).kp (bd_parts_of_many (L.fn 8 d_parts_of_many rfl)) (c_val (q_ec (q_v 0)) (c_val (q_ec (q_v 1)) c_nil)))) s_nil) s_nil) (s_cons (s_ret q_int) s_nil)))))⟩) (by rfl)
theorem r_check_condition (L : Lw K mg base fa fd ca ta) (T : Tb P w K mg base fa fd n) : FnOk P w K mg base CX0 (2 * n + 2) (fa 10) (fd 10) (psOf d_check_condition) (FSp K (hd (calls tab (n + 1))) 10) :=
  have sc := sc_check_condition
  def_okC (L.fn 10 d_check_condition rfl) sc (fn := ⟨[false], 1, f_check_condition⟩) (c := calls tab n) rfl rfl (fun _ => rfl) (L.cd 10 d_check_condition rfl).1 (fun A outer s0 H E hr => ⟨_,
    (s_cons (s_ret (q_chain .le .le hr q_int (q_call (T.ok 9 d_parts_of rfl) (room_dn hr) (L.gl 9 d_parts_of rfl) (L.fn 9 d_parts_of rfl).kp (bd_parts_of (L.fn 9 d_parts_of rfl)) (c_val (q_ec (q_v 0)) (c_val (q_gi L.c_MOST_LEVELS) c_nil))) (q_gi L.c_MOST_PARTS))) s_nil)⟩) (by rfl)
theorem r__law_open (L : Lw K mg base fa fd ca ta) (T : Tb P w K mg base fa fd n) : FnOk P w K mg base CX0 (2 * n + 2) (fa 11) (fd 11) (psOf d__law_open) (FSp K (hd (calls tab (n + 1))) 11) :=
  have sc := sc__law_open
  def_okC (L.fn 11 d__law_open rfl) sc (fn := ⟨[false], 4, f__law_open⟩) (c := calls tab n) rfl rfl (fun _ => rfl) (L.cd 11 d__law_open rfl).1 (fun A outer s0 H E hr => ⟨_,
    (s_cons (s_asg (q_bin ob_add (q_lc (own := [(("cell" : Str), 3)]) 0 sc.nd (w_slot (q_v 0)) (by rfl) (fun _ _ _ _ _ => (t_n 3 sc.nd)) (fun _ _ _ _ _ => x_nil) (fun _ _ _ _ _ => (q_bltB cb_abs L.b_abs bt_abs (b_cons (q_bltT cb_int L.b_int bt_int (b_cons (q_v 3) b_nil)) b_nil)))) (q_lst (m_cons q_int m_nil))) (t_n 1 sc.nd)) (s_cons (s_asg (q_lst m_nil) (t_n 2 sc.nd)) (s_cons (s_if (q_cmpB .eq hr (q_bin ob_mod (q_bltT cb_int L.b_int bt_int (b_cons (q_sub (q_v 1) q_int) b_nil)) q_int) q_int) (s_cons (s_setLcO (own := [(("cell" : Str), 3)]) 0 2 sc.nd (w_slot (q_v 1)) (by rfl) (fun _ _ _ _ _ => (t_n 3 sc.nd)) (fun _ _ _ _ _ => (x_one (q_cmpB .ge hr (q_v 3) (q_bin ob_pow q_int q_int)))) (fun _ _ _ _ _ => (q_bin ob_fdiv (q_v 3) q_int))) (s_cons (s_ex (q_reverse (l_v 2))) s_nil)) s_nil) (s_cons (s_ret (q_lst (m_cons q_int (m_cons (q_mv 2) (m_cons (q_mv 1) (m_cons q_int m_nil)))))) s_nil))))⟩) (by rfl)
theorem r__law_n (L : Lw K mg base fa fd ca ta) (T : Tb P w K mg base fa fd n) : FnOk P w K mg base CX0 (2 * n + 2) (fa 12) (fd 12) (psOf d__law_n) (FSp K (hd (calls tab (n + 1))) 12) :=
  have sc := sc__law_n
  def_okC (L.fn 12 d__law_n rfl) sc (fn := ⟨[true, false], 5, f__law_n⟩) (c := calls tab n) rfl rfl (fun _ => rfl) (L.cd 12 d__law_n rfl).1 (fun A outer s0 H E hr => ⟨_,
    (s_cons (s_set 1 (q_bin ob_add (q_sub (q_v 0) q_int) q_int) (l_v 0) q_int) (s_cons (s_if (w_and (q_cmpB .eq hr (q_sub (q_v 0) q_int) q_int) (w_and1 (q_cmpB .ne hr (q_sub (q_v 0) q_int) (q_lst m_nil)))).pt (s_cons (s_set 1 (q_pop (l_sub (l_v 0) q_int)) (l_v 0) q_int) s_nil) s_nil) (s_cons (s_if (q_cmpB .gt hr (q_sub (q_v 0) q_int) q_int) (s_cons (s_asg (q_co 0 (q_bin ob_mod (q_bltT cb_int L.b_int bt_int (b_cons (q_sub (q_v 0) q_int) b_nil)) (q_v 1))) (t_n 2 sc.nd)) (s_cons (s_set 1 (q_bin ob_fdiv (q_sub (q_v 0) q_int) (q_v 1)) (l_v 0) q_int) (s_cons (s_ret (q_ec (q_v 2))) s_nil))) s_nil) (s_cons (s_asg (q_co 0 (q_bin ob_mod (q_bltT cb_int L.b_int bt_int (b_cons (q_sub (q_sub (q_v 0) q_int) (q_bin ob_mod (q_bltT cb_int L.b_int bt_int (b_cons (q_sub (q_v 0) q_int) b_nil)) (q_bltB cb_len L.b_len bt_len (b_cons (q_sub (q_v 0) q_int) b_nil)))) b_nil)) q_int)) (t_n 3 sc.nd)) (s_cons (s_asg (q_co 0 (q_bin ob_mod (q_bltT cb_int L.b_int bt_int (b_cons (q_bin ob_add (q_bin ob_add (q_bin ob_mul (q_v 3) q_int) (q_bin ob_mul (q_sub (q_v 0) q_int) q_int)) q_int) b_nil)) q_int)) (t_n 4 sc.nd)) (s_cons (s_ret (q_bin ob_mod (q_bin ob_fdiv (q_bin ob_mod (q_bltT cb_int L.b_int bt_int (b_cons (q_bin ob_add (q_bin ob_add (q_bin ob_mul (q_v 4) (q_v 4)) (q_bin ob_mul (q_v 4) q_int)) (q_bin ob_mul (q_sub (q_v 0) q_int) q_int)) b_nil)) q_int) q_int) (q_v 1))) s_nil))))))⟩) (by rfl)
theorem r__law_alike (L : Lw K mg base fa fd ca ta) (T : Tb P w K mg base fa fd n) : FnOk P w K mg base CX0 (2 * n + 2) (fa 13) (fd 13) (psOf d__law_alike) (FSp K (hd (calls tab (n + 1))) 13) :=
  have sc := sc__law_alike
  def_okC (L.fn 13 d__law_alike rfl) sc (fn := ⟨[false, false], 3, f__law_alike⟩) (c := calls tab n) rfl rfl (fun _ => rfl) (L.cd 13 d__law_alike rfl).1 (fun A outer s0 H E hr => ⟨_,
    (s_cons (s_if (q_cmpB .isN hr (q_v 1) q_non) (s_cons (s_ret (q_cmp .isN hr (q_v 0) q_non)) s_nil) s_nil) (s_cons (s_if (q_tru (q_bltB (cb_is is_bool) L.b_isinstance bt_isinstance (b_cons (q_v 1) (b_ty L.b_bool bt_bool)))) (s_cons (s_ret (q_and (q_bltB (cb_is is_bool) L.b_isinstance bt_isinstance (b_cons (q_v 0) (b_ty L.b_bool bt_bool))) (q_one (q_cmp .eq hr (q_v 0) (q_v 1))))) s_nil) s_nil) (s_cons (s_if (q_tru (q_bltB (cb_is is_int) L.b_isinstance bt_isinstance (b_cons (q_v 1) (b_ty L.b_int bt_int)))) (s_cons (s_ret (q_and (q_bltB (cb_is is_int) L.b_isinstance bt_isinstance (b_cons (q_v 0) (b_ty L.b_int bt_int))) (q_and (q_not (q_bltB (cb_is is_bool) L.b_isinstance bt_isinstance (b_cons (q_v 0) (b_ty L.b_bool bt_bool)))) (q_one (q_cmp .eq hr (q_v 0) (q_v 1)))))) s_nil) s_nil) (s_cons (s_if (q_tru (q_bltB (cb_is is_str) L.b_isinstance bt_isinstance (b_cons (q_v 1) (b_ty L.b_str bt_str)))) (s_cons (s_ret (q_and (q_bltB (cb_is is_str) L.b_isinstance bt_isinstance (b_cons (q_v 0) (b_ty L.b_str bt_str))) (q_one (q_cmp .eq hr (q_v 0) (q_v 1))))) s_nil) s_nil) (s_cons (s_if (w_or (q_notB (q_tru (q_bltB (cb_is is_tuple) L.b_isinstance bt_isinstance (b_cons (q_v 0) (b_ty L.b_tuple bt_tuple))))) (w_or1 (q_cmpB .ne hr (q_bltB cb_len L.b_len bt_len (b_cons (q_v 0) b_nil)) (q_bltB cb_len L.b_len bt_len (b_cons (q_v 1) b_nil))))).pt (s_cons (s_ret q_bl) s_nil) s_nil) (s_cons (s_for (w_rng1 L.b_range (m_cons (q_bltB cb_len L.b_len bt_len (b_cons (q_v 1) b_nil)) m_nil)) (t_n 2 sc.nd) (s_cons (s_if (q_notB (q_tru (q_call (T.ok 13 d__law_alike rfl) (room_dn hr) (L.gl 13 d__law_alike rfl) (L.fn 13 d__law_alike rfl).kp (bd__law_alike (L.fn 13 d__law_alike rfl)) (c_val (q_ec (q_sub (q_v 0) (q_v 2))) (c_val (q_ec (q_sub (q_v 1) (q_v 2))) c_nil))))) (s_cons (s_ret q_bl) s_nil) s_nil) s_nil)) (s_cons (s_ret q_bl) s_nil)))))))⟩) (by rfl)
theorem r__law_pick (L : Lw K mg base fa fd ca ta) (T : Tb P w K mg base fa fd n) : FnOk P w K mg base CX0 (2 * n + 2) (fa 14) (fd 14) (psOf d__law_pick) (FSp K (hd (calls tab (n + 1))) 14) :=
  have sc := sc__law_pick
  def_okC (L.fn 14 d__law_pick rfl) sc (fn := ⟨[true, false], 2, f__law_pick⟩) (c := calls tab n) rfl rfl (fun _ => rfl) (L.cd 14 d__law_pick rfl).1 (fun A outer s0 H E hr => ⟨_,
    (s_cons (s_ret (q_ec (q_sub (q_v 1) (q_call (T.ok 12 d__law_n rfl) (room_dn hr) (L.gl 12 d__law_n rfl) (L.fn 12 d__law_n rfl).kp (bd__law_n (L.fn 12 d__law_n rfl)) (c_io 0 (c_val (q_bltB cb_len L.b_len bt_len (b_cons (q_v 1) b_nil)) c_nil)))))) s_nil)⟩) (by rfl)
theorem r__law_taken (L : Lw K mg base fa fd ca ta) (T : Tb P w K mg base fa fd n) : FnOk P w K mg base CX0 (2 * n + 2) (fa 15) (fd 15) (psOf d__law_taken) (FSp K (hd (calls tab (n + 1))) 15) :=
  have sc := sc__law_taken
  def_okC (L.fn 15 d__law_taken rfl) sc (fn := ⟨[true, false, false], 5, f__law_taken⟩) (c := calls tab n) rfl rfl (fun _ => rfl) (L.cd 15 d__law_taken rfl).1 (fun A outer s0 H E hr => ⟨_,
    (s_cons (s_asg (q_bltT cb_list L.b_list bt_list (b_cons (q_v 1) b_nil)) (t_n 3 sc.nd)) (s_cons (s_ret (q_lc (own := [(("k" : Str), 4)]) 0 sc.nd (w_rng1 L.b_range (m_cons (q_ec (q_v 2)) m_nil)) (by rfl) (fun _ _ _ _ _ => (t_n 4 sc.nd)) (fun _ _ _ _ _ => x_nil) (fun _ _ _ _ _ => (q_popAt (l_v 3) (q_call (T.ok 12 d__law_n rfl) (room_dn hr) (L.gl 12 d__law_n rfl) (L.fn 12 d__law_n rfl).kp (bd__law_n (L.fn 12 d__law_n rfl)) (c_io 0 (c_val (q_bltB cb_len L.b_len bt_len (b_cons (q_v 3) b_nil)) c_nil))))))) s_nil))⟩) (by rfl)
theorem r__law_sum (L : Lw K mg base fa fd ca ta) (T : Tb P w K mg base fa fd n) : FnOk P w K mg base CX0 (2 * n + 2) (fa 16) (fd 16) (psOf d__law_sum) (FSp K (hd (calls tab (n + 1))) 16) :=
  have sc := sc__law_sum
  def_okC (L.fn 16 d__law_sum rfl) sc (fn := ⟨[false, false], 4, f__law_sum⟩) (c := calls tab n) rfl rfl (fun _ => rfl) (L.cd 16 d__law_sum rfl).1 (fun A outer s0 H E hr => ⟨_,
    (s_cons (s_ret (q_bltB (cb_sum rfl) L.b_sum bt_sum (b_cons (q_lc (own := [(("subject" : Str), 3), (("grade" : Str), 2)]) 0 sc.nd (w_slot (q_v 1)) (by rfl) (fun _ _ _ _ _ => (t_tup (t_cons (t_n 3 sc.nd) (t_cons (t_n 2 sc.nd) t_nil)))) (fun _ _ _ _ _ => x_nil) (fun _ _ _ _ _ => (q_ec (q_sub (q_v 0) (q_v 2))))) b_nil))) s_nil)⟩) (by rfl)
theorem r__law_result (L : Lw K mg base fa fd ca ta) (T : Tb P w K mg base fa fd n) : FnOk P w K mg base CX0 (2 * n + 2) (fa 17) (fd 17) (psOf d__law_result) (FSp K (hd (calls tab (n + 1))) 17) :=
  have sc := sc__law_result
  def_okC (L.fn 17 d__law_result rfl) sc (fn := ⟨[true, false], 5, f__law_result⟩) (c := calls tab n) rfl rfl (fun _ => rfl) (L.cd 17 d__law_result rfl).1 (fun A outer s0 H E hr => ⟨_,
    (s_cons (s_par2 2 3 sc.nd (p_cons (q_co 0 (q_call (T.ok 12 d__law_n rfl) (room_dn hr) (L.gl 12 d__law_n rfl) (L.fn 12 d__law_n rfl).kp (bd__law_n (L.fn 12 d__law_n rfl)) (c_io 0 (c_val q_int c_nil)))) (p_cons (q_lst m_nil) p_nil))) (s_cons (s_for (w_any (q_bltB (cb_sorted rfl) L.b_sorted bt_sorted (b_cons (q_call (T.ok 15 d__law_taken rfl) (room_dn hr) (L.gl 15 d__law_taken rfl) (L.fn 15 d__law_taken rfl).kp (bd__law_taken (L.fn 15 d__law_taken rfl)) (c_io 0 (c_val (q_lrng1 L.b_list L.b_range q_int) (c_val (q_ec (q_v 1)) c_nil)))) b_nil))) (t_n 4 sc.nd) (s_cons (s_ex (q_append 0 (l_v 3) (q_tup (m_cons (q_ec (q_v 4)) (m_cons (q_call (T.ok 14 d__law_pick rfl) (room_dn hr) (L.gl 14 d__law_pick rfl) (L.fn 14 d__law_pick rfl).kp (bd__law_pick (L.fn 14 d__law_pick rfl)) (c_io 0 (c_val (q_lst (m_cons q_int (m_cons q_int (m_cons (q_ec (q_v 2)) (m_cons (q_ec (q_v 2)) (m_cons (q_call (T.ok 12 d__law_n rfl) (room_dn hr) (L.gl 12 d__law_n rfl) (L.fn 12 d__law_n rfl).kp (bd__law_n (L.fn 12 d__law_n rfl)) (c_io 0 (c_val q_int c_nil))) m_nil)))))) c_nil))) m_nil))))) s_nil)) (s_cons (s_ret (q_bltT cb_tuple L.b_tuple bt_tuple (b_cons (q_v 3) b_nil))) s_nil)))⟩) (by rfl)
theorem r__law_many (L : Lw K mg base fa fd ca ta) (T : Tb P w K mg base fa fd n) : FnOk P w K mg base CX0 (2 * n + 2) (fa 18) (fd 18) (psOf d__law_many) (FSp K (hd (calls tab (n + 1))) 18) :=
  have sc := sc__law_many
  def_okC (L.fn 18 d__law_many rfl) sc (fn := ⟨[false, false, false], 4, f__law_many⟩) (c := calls tab n) rfl rfl (fun _ => rfl) (L.cd 18 d__law_many rfl).1 (fun A outer s0 H E hr => ⟨_,
    (s_cons (s_ret (q_bltB cb_len L.b_len bt_len (b_cons (q_lc (own := [(("one" : Str), 3)]) 0 sc.nd (w_slot (q_v 0)) (by rfl) (fun _ _ _ _ _ => (t_n 3 sc.nd)) (fun _ _ _ _ _ => (x_one (w_and (q_cmpB .mem hr (q_sub (q_v 3) q_int) (q_v 1)) (w_and1 (q_cmpB .ge hr (q_sub (q_v 3) q_int) (q_v 2)))).pt)) (fun _ _ _ _ _ => q_int)) b_nil))) s_nil)⟩) (by rfl)
theorem r__law_wrapped (L : Lw K mg base fa fd ca ta) (T : Tb P w K mg base fa fd n) : FnOk P w K mg base CX0 (2 * n + 2) (fa 19) (fd 19) (psOf d__law_wrapped) (FSp K (hd (calls tab (n + 1))) 19) :=
  have sc := sc__law_wrapped
  def_okC (L.fn 19 d__law_wrapped rfl) sc (fn := ⟨[true, false, false], 8, f__law_wrapped⟩) (c := calls tab n) rfl rfl (fun _ => rfl) (L.cd 19 d__law_wrapped rfl).1 (fun A outer s0 H E hr => ⟨_,
    (s_cons (s_par3 3 4 5 sc.nd (p_cons (q_co 0 (q_call (T.ok 20 d__law_parts rfl) (room_dn hr) (L.gl 20 d__law_parts rfl) (L.fn 20 d__law_parts rfl).kp (bd__law_parts (L.fn 20 d__law_parts rfl)) (c_val (q_ec (q_v 1)) c_nil))) (p_cons (q_co 0 (q_tup (m_cons q_str (m_cons (q_tup m_nil) m_nil)))) (p_cons (q_co 0 (q_tup (m_cons q_str (m_cons (q_tup m_nil) m_nil)))) p_nil)))) (s_cons (s_for (w_rng1 L.b_range (m_cons (q_call (T.ok 12 d__law_n rfl) (room_dn hr) (L.gl 12 d__law_n rfl) (L.fn 12 d__law_n rfl).kp (bd__law_n (L.fn 12 d__law_n rfl)) (c_io 0 (c_val (q_bin ob_add (q_bin ob_sub q_int (q_call (T.ok 21 d__law_levels rfl) (room_dn hr) (L.gl 21 d__law_levels rfl) (L.fn 21 d__law_levels rfl).kp (bd__law_levels (L.fn 21 d__law_levels rfl)) (c_val (q_ec (q_v 1)) c_nil))) q_int) c_nil))) m_nil)) (t_n 6 sc.nd) (s_cons (s_asg (q_co 0 (q_call (T.ok 12 d__law_n rfl) (room_dn hr) (L.gl 12 d__law_n rfl) (L.fn 12 d__law_n rfl).kp (bd__law_n (L.fn 12 d__law_n rfl)) (c_io 0 (c_val q_int c_nil)))) (t_n 7 sc.nd)) (s_cons (s_if (w_or (w_and (q_cmpB .gt hr (q_v 7) q_int) (w_and1 (q_cmpB .gt hr (q_v 3) q_int))).pt (w_or (w_and (q_cmpB .gt hr (q_v 7) q_int) (w_and1 (q_cmpB .gt hr (q_v 3) q_int))).pt (w_or1 (q_cmpB .gt hr (q_v 3) q_int)))).pt (s_cons s_brk s_nil) s_nil) (s_cons (s_asg (q_co 0 (q_sub (q_lst (m_cons (q_tup (m_cons q_str (m_cons (q_tup (m_cons (q_ec (q_v 1)) m_nil)) m_nil))) (m_cons (q_tup (m_cons q_str (m_cons (q_tup (m_cons (q_ec (q_v 1)) m_nil)) m_nil))) (m_cons (q_tup (m_cons q_str (m_cons (q_tup (m_cons (q_ec (q_v 1)) (m_cons (q_ec (q_v 4)) m_nil))) m_nil))) (m_cons (q_tup (m_cons q_str (m_cons (q_tup (m_cons (q_ec (q_v 5)) (m_cons (q_ec (q_v 1)) m_nil))) m_nil))) (m_cons (q_tup (m_cons q_str (m_cons (q_tup (m_cons (q_ec (q_v 1)) (m_cons (q_ec (q_v 1)) m_nil))) m_nil))) (m_cons (q_tup (m_cons q_str (m_cons (q_tup (m_cons (q_ec (q_v 1)) (m_cons (q_ec (q_v 1)) m_nil))) m_nil))) m_nil))))))) (q_v 7))) (t_n 1 sc.nd)) (s_cons (s_asg (q_co 0 (q_call (T.ok 20 d__law_parts rfl) (room_dn hr) (L.gl 20 d__law_parts rfl) (L.fn 20 d__law_parts rfl).kp (bd__law_parts (L.fn 20 d__law_parts rfl)) (c_val (q_ec (q_v 1)) c_nil))) (t_n 3 sc.nd)) s_nil))))) (s_cons (s_if (w_and (q_cmpB .lt hr (q_v 3) q_int) (w_and (q_cmpB .lt hr (q_call (T.ok 21 d__law_levels rfl) (room_dn hr) (L.gl 21 d__law_levels rfl) (L.fn 21 d__law_levels rfl).kp (bd__law_levels (L.fn 21 d__law_levels rfl)) (c_val (q_ec (q_v 1)) c_nil)) q_int) (w_and1 (q_cmpB .eq hr (q_call (T.ok 12 d__law_n rfl) (room_dn hr) (L.gl 12 d__law_n rfl) (L.fn 12 d__law_n rfl).kp (bd__law_n (L.fn 12 d__law_n rfl)) (c_io 0 (c_val q_int c_nil))) q_int)))).pt (s_cons (s_if (q_cmpB .eq hr (q_call (T.ok 12 d__law_n rfl) (room_dn hr) (L.gl 12 d__law_n rfl) (L.fn 12 d__law_n rfl).kp (bd__law_n (L.fn 12 d__law_n rfl)) (c_io 0 (c_val q_int c_nil))) q_int) (s_cons (s_ret (q_tup (m_cons (q_tup (m_cons q_str (m_cons (q_tup (m_cons (q_ec (q_v 5)) (m_cons (q_ec (q_v 1)) m_nil))) m_nil))) (m_cons q_bl m_nil)))) s_nil) s_nil) (s_cons (s_ret (q_tup (m_cons (q_tup (m_cons q_str (m_cons (q_tup (m_cons (q_ec (q_v 1)) (m_cons (q_ec (q_v 4)) m_nil))) m_nil))) (m_cons q_bl m_nil)))) s_nil)) s_nil) (s_cons (s_ret (q_tup (m_cons (q_ec (q_v 1)) (m_cons (q_ec (q_v 2)) m_nil)))) s_nil))))⟩) (by rfl)
theorem r__law_parts (L : Lw K mg base fa fd ca ta) (T : Tb P w K mg base fa fd n) : FnOk P w K mg base CX0 (2 * n + 2) (fa 20) (fd 20) (psOf d__law_parts) (FSp K (hd (calls tab (n + 1))) 20) :=
  have sc := sc__law_parts
  def_okC (L.fn 20 d__law_parts rfl) sc (fn := ⟨[false], 2, f__law_parts⟩) (c := calls tab n) rfl rfl (fun _ => rfl) (L.cd 20 d__law_parts rfl).1 (fun A outer s0 H E hr => ⟨_,
    (s_cons (s_if (q_cmpB .mem hr (q_sub (q_v 0) q_int) (q_tup (m_cons q_str (m_cons q_str m_nil)))) (s_cons (s_ret (q_bin ob_add q_int (q_bltB (cb_sum rfl) L.b_sum bt_sum (b_cons (q_lc (own := [(("one" : Str), 1)]) 0 sc.nd (w_slot (q_sub (q_v 0) q_int)) (by rfl) (fun _ _ _ _ _ => (t_n 1 sc.nd)) (fun _ _ _ _ _ => x_nil) (fun _ _ _ _ _ => (q_call (T.ok 20 d__law_parts rfl) (room_dn hr) (L.gl 20 d__law_parts rfl) (L.fn 20 d__law_parts rfl).kp (bd__law_parts (L.fn 20 d__law_parts rfl)) (c_val (q_ec (q_v 1)) c_nil)))) b_nil)))) s_nil) s_nil) (s_cons (s_ret q_int) s_nil))⟩) (by rfl)
theorem r__law_levels (L : Lw K mg base fa fd ca ta) (T : Tb P w K mg base fa fd n) : FnOk P w K mg base CX0 (2 * n + 2) (fa 21) (fd 21) (psOf d__law_levels) (FSp K (hd (calls tab (n + 1))) 21) :=
  have sc := sc__law_levels
  def_okC (L.fn 21 d__law_levels rfl) sc (fn := ⟨[false], 2, f__law_levels⟩) (c := calls tab n) rfl rfl (fun _ => rfl) (L.cd 21 d__law_levels rfl).1 (fun A outer s0 H E hr => ⟨_,
    (s_cons (s_if (q_cmpB .mem hr (q_sub (q_v 0) q_int) (q_tup (m_cons q_str (m_cons q_str m_nil)))) (s_cons (s_ret (q_bin ob_add q_int (q_bltB (cb_maxL rfl) L.b_max bt_max (b_cons (q_bin ob_add (q_lst (m_cons q_int m_nil)) (q_lc (own := [(("one" : Str), 1)]) 0 sc.nd (w_slot (q_sub (q_v 0) q_int)) (by rfl) (fun _ _ _ _ _ => (t_n 1 sc.nd)) (fun _ _ _ _ _ => x_nil) (fun _ _ _ _ _ => (q_call (T.ok 21 d__law_levels rfl) (room_dn hr) (L.gl 21 d__law_levels rfl) (L.fn 21 d__law_levels rfl).kp (bd__law_levels (L.fn 21 d__law_levels rfl)) (c_val (q_ec (q_v 1)) c_nil))))) b_nil)))) s_nil) s_nil) (s_cons (s_ret q_int) s_nil))⟩) (by rfl)
theorem r__law_are_held (L : Lw K mg base fa fd ca ta) (T : Tb P w K mg base fa fd n) : FnOk P w K mg base CX0 (2 * n + 2) (fa 22) (fd 22) (psOf d__law_are_held) (FSp K (hd (calls tab (n + 1))) 22) :=
  have sc := sc__law_are_held
  def_okC (L.fn 22 d__law_are_held rfl) sc (fn := ⟨[true], 19, f__law_are_held⟩) (c := calls tab n) rfl rfl (fun _ => rfl) (L.cd 22 d__law_are_held rfl).1 (fun A outer s0 H E hr => ⟨_,
    (s_cons (s_par3 1 2 3 sc.nd (p_cons (q_co 0 (q_call (T.ok 17 d__law_result rfl) (room_dn hr) (L.gl 17 d__law_result rfl) (L.fn 17 d__law_result rfl).kp (bd__law_result (L.fn 17 d__law_result rfl)) (c_io 0 (c_val (q_bin ob_add q_int (q_call (T.ok 12 d__law_n rfl) (room_dn hr) (L.gl 12 d__law_n rfl) (L.fn 12 d__law_n rfl).kp (bd__law_n (L.fn 12 d__law_n rfl)) (c_io 0 (c_val q_int c_nil)))) c_nil)))) (p_cons (q_co 0 (q_call (T.ok 12 d__law_n rfl) (room_dn hr) (L.gl 12 d__law_n rfl) (L.fn 12 d__law_n rfl).kp (bd__law_n (L.fn 12 d__law_n rfl)) (c_io 0 (c_val q_int c_nil)))) (p_cons (q_co 0 (q_call (T.ok 14 d__law_pick rfl) (room_dn hr) (L.gl 14 d__law_pick rfl) (L.fn 14 d__law_pick rfl).kp (bd__law_pick (L.fn 14 d__law_pick rfl)) (c_io 0 (c_val (q_lst (m_cons q_int (m_cons q_int (m_cons q_int (m_cons q_int m_nil))))) c_nil)))) p_nil)))) (s_cons (s_par2 4 5 sc.nd (p_cons (q_co 0 (q_bin ob_add (q_bin ob_mul (q_tup (m_cons q_int m_nil)) (q_v 2)) (q_bin ob_mul (q_tup (m_cons (q_ec (q_v 3)) m_nil)) (q_bin ob_sub q_int (q_v 2))))) (p_cons (q_co 0 (q_lrng1 L.b_list L.b_range q_int)) p_nil))) (s_cons (s_asg (q_co 0 (q_bin ob_mul (q_v 3) (q_call (T.ok 18 d__law_many rfl) (room_dn hr) (L.gl 18 d__law_many rfl) (L.fn 18 d__law_many rfl).kp (bd__law_many (L.fn 18 d__law_many rfl)) (c_val (q_ec (q_v 1)) (c_val (q_ec (q_v 5)) (c_val (q_ec (q_v 2)) c_nil)))))) (t_n 6 sc.nd)) (s_cons (s_if (w_or (q_notB (q_tru (q_call (T.ok 13 d__law_alike rfl) (room_dn hr) (L.gl 13 d__law_alike rfl) (L.fn 13 d__law_alike rfl).kp (bd__law_alike (L.fn 13 d__law_alike rfl)) (c_val (q_call (T.ok 1 d_points_of rfl) (room_dn hr) (L.gl 1 d_points_of rfl) (L.fn 1 d_points_of rfl).kp (bd_points_of (L.fn 1 d_points_of rfl)) (c_val (q_ec (q_v 4)) (c_val (q_ec (q_v 1)) c_nil))) (c_val (q_ec (q_v 6)) c_nil))))) (w_or1 (q_notB (q_tru (q_call (T.ok 13 d__law_alike rfl) (room_dn hr) (L.gl 13 d__law_alike rfl) (L.fn 13 d__law_alike rfl).kp (bd__law_alike (L.fn 13 d__law_alike rfl)) (c_val (q_callKK [1, 0] (T.ok 1 d_points_of rfl) (room_dn hr) (L.gl 1 d_points_of rfl) (L.fn 1 d_points_of rfl).kp (kb0 (L.fn 1 d_points_of rfl)) (k_cons (q_ec (q_v 1)) (k_cons (q_ec (q_v 4)) k_nil))) (c_val (q_ec (q_v 6)) c_nil))))))).pt (s_cons (s_ret q_bl) s_nil) s_nil) (s_cons (s_setLc (own := [(("k" : Str), 17)]) 0 7 sc.nd (w_any (q_tup (m_cons (q_neg q_int) (m_cons q_int (m_cons q_int (m_cons (q_ec (q_v 3)) m_nil)))))) (by rfl) (fun _ _ _ _ _ => (t_n 17 sc.nd)) (fun _ _ _ _ _ => x_nil) (fun _ _ _ _ _ => (q_tup (m_cons (q_tup (m_cons q_str (m_cons (q_bltB (cb_max2 rfl) L.b_max bt_max (b_cons q_int (b_cons (q_bltB (cb_min2 rfl) L.b_min bt_min (b_cons q_int (b_cons (q_bin ob_add (q_v 6) (q_v 17)) b_nil))) b_nil))) m_nil))) (m_cons (q_cmp .le hr (q_bltB (cb_max2 rfl) L.b_max bt_max (b_cons q_int (b_cons (q_bltB (cb_min2 rfl) L.b_min bt_min (b_cons q_int (b_cons (q_bin ob_add (q_v 6) (q_v 17)) b_nil))) b_nil))) (q_v 6)) m_nil))))) (s_cons (s_asg (q_co 0 (q_bin ob_add (q_v 7) (q_lst (m_cons (q_tup (m_cons (q_tup (m_cons q_str (m_cons q_int m_nil))) (m_cons q_bl m_nil))) (m_cons (q_tup (m_cons (q_tup (m_cons q_str (m_cons q_int m_nil))) (m_cons (q_cmp .eq hr (q_v 6) q_int) m_nil))) m_nil))))) (t_n 7 sc.nd)) (s_cons (s_asg (q_tup (m_cons (q_call (T.ok 15 d__law_taken rfl) (room_dn hr) (L.gl 15 d__law_taken rfl) (L.fn 15 d__law_taken rfl).kp (bd__law_taken (L.fn 15 d__law_taken rfl)) (c_io 0 (c_val (q_ec (q_v 5)) (c_val q_int c_nil)))) (m_cons (q_call (T.ok 12 d__law_n rfl) (room_dn hr) (L.gl 12 d__law_n rfl) (L.fn 12 d__law_n rfl).kp (bd__law_n (L.fn 12 d__law_n rfl)) (c_io 0 (c_val q_int c_nil))) m_nil))) (t_tup (t_cons (t_n 8 sc.nd) (t_cons (t_n 9 sc.nd) t_nil)))) (s_cons (s_setLc (own := [(("subject" : Str), 18)]) 0 10 sc.nd (w_slot (q_v 8)) (by rfl) (fun _ _ _ _ _ => (t_n 18 sc.nd)) (fun _ _ _ _ _ => x_nil) (fun _ _ _ _ _ => (q_tup (m_cons q_str (m_cons (q_ec (q_v 18)) (m_cons (q_ec (q_v 9)) m_nil)))))) (s_cons (s_asg (q_co 0 (q_tup (m_cons q_str (m_cons (q_tup (m_cons (q_tup (m_cons q_str (m_cons (q_tup (m_cons (q_ec (q_sub (q_v 10) q_int)) (m_cons (q_ec (q_sub (q_v 10) q_int)) m_nil))) m_nil))) (m_cons (q_tup (m_cons q_str (m_cons (q_tup (m_cons (q_ec (q_sub (q_v 10) q_int)) (m_cons (q_ec (q_sub (q_v 10) q_int)) m_nil))) m_nil))) (m_cons (q_tup (m_cons q_str (m_cons (q_tup (m_cons (q_ec (q_sub (q_v 10) q_int)) (m_cons (q_ec (q_sub (q_v 10) q_int)) m_nil))) m_nil))) m_nil)))) m_nil)))) (t_n 11 sc.nd)) (s_cons (s_asg (q_co 0 (q_call (T.ok 18 d__law_many rfl) (room_dn hr) (L.gl 18 d__law_many rfl) (L.fn 18 d__law_many rfl).kp (bd__law_many (L.fn 18 d__law_many rfl)) (c_val (q_ec (q_v 1)) (c_val (q_ec (q_v 8)) (c_val (q_ec (q_v 9)) c_nil))))) (t_n 12 sc.nd)) (s_cons (s_asg (q_co 0 (q_bin ob_add (q_v 7) (q_lst (m_cons (q_tup (m_cons (q_ec (q_v 11)) (m_cons (q_cmp .gt hr (q_v 12) q_int) m_nil))) (m_cons (q_tup (m_cons (q_tup (m_cons q_str (m_cons (q_bltT cb_tuple L.b_tuple bt_tuple (b_cons (q_v 10) b_nil)) m_nil))) (m_cons (q_cmp .eq hr (q_v 12) q_int) m_nil))) (m_cons (q_tup (m_cons (q_tup (m_cons q_str (m_cons (q_bltT cb_tuple L.b_tuple bt_tuple (b_cons (q_v 10) b_nil)) m_nil))) (m_cons (q_cmp .gt hr (q_v 12) q_int) m_nil))) (m_cons (q_tup (m_cons (q_tup (m_cons q_str (m_cons (q_tup m_nil) m_nil))) (m_cons q_bl m_nil))) (m_cons (q_tup (m_cons (q_tup (m_cons q_str (m_cons (q_tup m_nil) m_nil))) (m_cons q_bl m_nil))) m_nil)))))))) (t_n 7 sc.nd)) (s_cons (s_for (w_slot (q_v 7)) (t_tup (t_cons (t_n 13 sc.nd) (t_cons (t_n 14 sc.nd) t_nil))) (s_cons (s_asg (q_call (T.ok 19 d__law_wrapped rfl) (room_dn hr) (L.gl 19 d__law_wrapped rfl) (L.fn 19 d__law_wrapped rfl).kp (bd__law_wrapped (L.fn 19 d__law_wrapped rfl)) (c_io 0 (c_val (q_ec (q_v 13)) (c_val (q_ec (q_v 14)) c_nil)))) (t_tup (t_cons (t_n 15 sc.nd) (t_cons (t_n 16 sc.nd) t_nil)))) (s_cons (s_if (w_or (q_notB (q_tru (q_call (T.ok 13 d__law_alike rfl) (room_dn hr) (L.gl 13 d__law_alike rfl) (L.fn 13 d__law_alike rfl).kp (bd__law_alike (L.fn 13 d__law_alike rfl)) (c_val (q_call (T.ok 4 d_holds rfl) (room_dn hr) (L.gl 4 d_holds rfl) (L.fn 4 d_holds rfl).kp (bd_holds (L.fn 4 d_holds rfl)) (c_val (q_ec (q_v 4)) (c_val (q_ec (q_v 15)) (c_val (q_ec (q_v 1)) c_nil)))) (c_val (q_ec (q_v 16)) c_nil))))) (w_or1 (q_notB (q_tru (q_call (T.ok 13 d__law_alike rfl) (room_dn hr) (L.gl 13 d__law_alike rfl) (L.fn 13 d__law_alike rfl).kp (bd__law_alike (L.fn 13 d__law_alike rfl)) (c_val (q_callKK [2, 1, 0] (T.ok 4 d_holds rfl) (room_dn hr) (L.gl 4 d_holds rfl) (L.fn 4 d_holds rfl).kp (kb1 (L.fn 4 d_holds rfl)) (k_cons (q_ec (q_v 1)) (k_cons (q_ec (q_v 13)) (k_cons (q_ec (q_v 4)) k_nil)))) (c_val (q_ec (q_v 14)) c_nil))))))).pt (s_cons (s_ret q_bl) s_nil) s_nil) (s_cons (s_if (q_notB (q_tru (q_call (T.ok 13 d__law_alike rfl) (room_dn hr) (L.gl 13 d__law_alike rfl) (L.fn 13 d__law_alike rfl).kp (bd__law_alike (L.fn 13 d__law_alike rfl)) (c_val (q_call (T.ok 10 d_check_condition rfl) (room_dn hr) (L.gl 10 d_check_condition rfl) (L.fn 10 d_check_condition rfl).kp (bd_check_condition (L.fn 10 d_check_condition rfl)) (c_val (q_ec (q_v 15)) c_nil)) (c_val q_bl c_nil))))) (s_cons (s_ret q_bl) s_nil) s_nil) s_nil)))) (s_cons (s_ret q_bl) s_nil)))))))))))))⟩) (by rfl)
theorem r__law_leaf (L : Lw K mg base fa fd ca ta) (T : Tb P w K mg base fa fd n) : FnOk P w K mg base CX0 (2 * n + 2) (fa 23) (fd 23) (psOf d__law_leaf) (FSp K (hd (calls tab (n + 1))) 23) :=
  have sc := sc__law_leaf
  def_okC (L.fn 23 d__law_leaf rfl) sc (fn := ⟨[true, false], 3, f__law_leaf⟩) (c := calls tab n) rfl rfl (fun _ => rfl) (L.cd 23 d__law_leaf rfl).1 (fun A outer s0 H E hr => ⟨_,
    (s_cons (s_if (q_tru (q_v 1)) (s_cons (s_ret (q_call (T.ok 14 d__law_pick rfl) (room_dn hr) (L.gl 14 d__law_pick rfl) (L.fn 14 d__law_pick rfl).kp (bd__law_pick (L.fn 14 d__law_pick rfl)) (c_io 0 (c_val (q_lst (m_cons (q_tup (m_cons q_str (m_cons q_int (m_cons q_int m_nil)))) (m_cons (q_tup (m_cons q_str (m_cons q_int (m_cons q_int m_nil)))) (m_cons (q_tup (m_cons q_str (m_cons q_int (m_cons q_int m_nil)))) (m_cons (q_tup (m_cons q_str (m_cons q_int m_nil))) (m_cons (q_tup (m_cons q_str (m_cons q_int m_nil))) (m_cons (q_tup (m_cons q_str (m_cons (q_tup m_nil) m_nil))) (m_cons (q_tup (m_cons q_str (m_cons (q_tup m_nil) m_nil))) m_nil)))))))) c_nil)))) s_nil) s_nil) (s_cons (s_asg (q_co 0 (q_lst (m_cons (q_tup (m_cons q_str (m_cons q_int (m_cons q_int m_nil)))) (m_cons (q_tup (m_cons q_str (m_cons q_int (m_cons q_int m_nil)))) (m_cons (q_tup (m_cons q_str (m_cons (q_neg q_int) (m_cons q_int m_nil)))) (m_cons (q_tup (m_cons q_str (m_cons q_int (m_cons (q_neg q_int) m_nil)))) (m_cons (q_tup (m_cons q_str (m_cons q_int m_nil))) (m_cons (q_tup (m_cons q_str (m_cons (q_neg q_int) m_nil))) (m_cons (q_tup (m_cons q_str (m_cons q_bl m_nil))) (m_cons (q_tup (m_cons q_str (m_cons q_bl (m_cons q_int m_nil)))) m_nil)))))))))) (t_n 2 sc.nd)) (s_cons (s_asg (q_co 0 (q_bin ob_add (q_v 2) (q_lst (m_cons (q_tup (m_cons q_str (m_cons q_int m_nil))) (m_cons (q_tup (m_cons q_str m_nil)) (m_cons (q_tup (m_cons q_str m_nil)) (m_cons (q_tup (m_cons q_str (m_cons q_str m_nil))) (m_cons (q_tup (m_cons q_str (m_cons q_non m_nil))) (m_cons (q_tup (m_cons q_str (m_cons (q_tup m_nil) m_nil))) (m_cons (q_tup m_nil) (m_cons q_non (m_cons q_str (m_cons q_int (m_cons (q_tup (m_cons q_str (m_cons (q_tup m_nil) (m_cons (q_tup m_nil) m_nil)))) (m_cons (q_tup (m_cons q_str (m_cons q_non m_nil))) (m_cons (q_tup (m_cons q_str (m_cons q_int (m_cons q_int (m_cons q_int m_nil))))) m_nil)))))))))))))))) (t_n 2 sc.nd)) (s_cons (s_ret (q_call (T.ok 14 d__law_pick rfl) (room_dn hr) (L.gl 14 d__law_pick rfl) (L.fn 14 d__law_pick rfl).kp (bd__law_pick (L.fn 14 d__law_pick rfl)) (c_io 0 (c_val (q_bin ob_add (q_v 2) (q_lst (m_cons (q_tup (m_cons q_str (m_cons (q_bin ob_pow q_int q_int) m_nil))) (m_cons (q_tup (m_cons q_str (m_cons (q_tup (m_cons q_str (m_cons (q_tup m_nil) m_nil))) m_nil))) (m_cons (q_tup (m_cons q_str (m_cons q_str (m_cons q_int m_nil)))) (m_cons (q_tup (m_cons (q_tup m_nil) (m_cons (q_tup m_nil) m_nil))) m_nil)))))) c_nil)))) s_nil))))⟩) (by rfl)
theorem r__law_are_looked_at (L : Lw K mg base fa fd ca ta) (T : Tb P w K mg base fa fd n) : FnOk P w K mg base CX0 (2 * n + 2) (fa 24) (fd 24) (psOf d__law_are_looked_at) (FSp K (hd (calls tab (n + 1))) 24) :=
  have sc := sc__law_are_looked_at
  def_okC (L.fn 24 d__law_are_looked_at rfl) sc (fn := ⟨[true], 14, f__law_are_looked_at⟩) (c := calls tab n) rfl rfl (fun _ => rfl) (L.cd 24 d__law_are_looked_at rfl).1 (fun A outer s0 H E hr => ⟨_,
    (s_cons (s_asg (q_co 0 (q_call (T.ok 23 d__law_leaf rfl) (room_dn hr) (L.gl 23 d__law_leaf rfl) (L.fn 23 d__law_leaf rfl).kp (bd__law_leaf (L.fn 23 d__law_leaf rfl)) (c_io 0 (c_val q_bl c_nil)))) (t_n 1 sc.nd)) (s_cons (s_par3 2 3 4 sc.nd (p_cons (q_co 0 (q_ec (q_v 1))) (p_cons (q_co 0 q_int) (p_cons (q_co 0 q_int) p_nil)))) (s_cons (s_for (w_rng1 L.b_range (m_cons (q_call (T.ok 12 d__law_n rfl) (room_dn hr) (L.gl 12 d__law_n rfl) (L.fn 12 d__law_n rfl).kp (bd__law_n (L.fn 12 d__law_n rfl)) (c_io 0 (c_val q_int c_nil))) m_nil)) (t_n 5 sc.nd) (s_cons (s_par2 6 7 sc.nd (p_cons (q_co 0 (q_call (T.ok 12 d__law_n rfl) (room_dn hr) (L.gl 12 d__law_n rfl) (L.fn 12 d__law_n rfl).kp (bd__law_n (L.fn 12 d__law_n rfl)) (c_io 0 (c_val q_int c_nil)))) (p_cons (q_co 0 (q_call (T.ok 14 d__law_pick rfl) (room_dn hr) (L.gl 14 d__law_pick rfl) (L.fn 14 d__law_pick rfl).kp (bd__law_pick (L.fn 14 d__law_pick rfl)) (c_io 0 (c_val (q_lst (m_cons q_str (m_cons q_str m_nil))) c_nil)))) p_nil))) (s_cons (s_if (w_and (q_cmpB .eq hr (q_v 6) q_int) (w_and1 (q_cmpB .lt hr (q_v 4) q_int))).pt (s_cons (s_par2 2 4 sc.nd (p_cons (q_co 0 (q_tup (m_cons (q_ec (q_v 7)) (m_cons (q_tup (m_cons (q_ec (q_v 2)) (m_cons (q_ec (q_v 2)) m_nil))) m_nil)))) (p_cons (q_co 0 (q_bin ob_add (q_bin ob_mul q_int (q_v 4)) q_int)) p_nil))) s_nil) (s_cons (s_par2 2 4 sc.nd (p_cons (q_co 0 (q_tup (m_cons (q_ec (q_v 7)) (m_cons (q_tup (m_cons (q_ec (q_v 2)) m_nil)) m_nil)))) (p_cons (q_co 0 (q_bin ob_add (q_v 4) q_int)) p_nil))) s_nil)) (s_cons (s_asg (q_co 0 (q_bin ob_add (q_v 3) q_int)) (t_n 3 sc.nd)) s_nil)))) (s_cons (s_asg (q_co 0 (q_call (T.ok 14 d__law_pick rfl) (room_dn hr) (L.gl 14 d__law_pick rfl) (L.fn 14 d__law_pick rfl).kp (bd__law_pick (L.fn 14 d__law_pick rfl)) (c_io 0 (c_val (q_lst (m_cons q_int (m_cons q_int (m_cons q_int (m_cons q_int m_nil))))) c_nil)))) (t_n 8 sc.nd)) (s_cons (s_if (w_and (q_cmpB .lt hr (q_v 4) (q_v 8)) (w_and1 (q_cmpB .lt hr (q_v 3) q_int))).pt (s_cons (s_asg (q_co 0 (q_tup (m_cons q_str (m_cons (q_bin ob_add (q_tup (m_cons (q_ec (q_v 2)) m_nil)) (q_bin ob_mul (q_tup (m_cons (q_ec (q_v 1)) m_nil)) (q_bin ob_sub (q_bin ob_sub (q_v 8) (q_v 4)) q_int))) m_nil)))) (t_n 2 sc.nd)) (s_cons (s_par2 3 4 sc.nd (p_cons (q_co 0 (q_bin ob_add (q_v 3) q_int)) (p_cons (q_co 0 (q_ec (q_v 8))) p_nil))) s_nil)) s_nil) (s_cons (s_asg (q_co 0 (q_and (q_cmp .le hr (q_v 3) q_int) (q_one (q_cmp .le hr (q_v 4) q_int)))) (t_n 9 sc.nd)) (s_cons (s_if (w_or (q_notB (q_tru (q_call (T.ok 13 d__law_alike rfl) (room_dn hr) (L.gl 13 d__law_alike rfl) (L.fn 13 d__law_alike rfl).kp (bd__law_alike (L.fn 13 d__law_alike rfl)) (c_val (q_call (T.ok 10 d_check_condition rfl) (room_dn hr) (L.gl 10 d_check_condition rfl) (L.fn 10 d_check_condition rfl).kp (bd_check_condition (L.fn 10 d_check_condition rfl)) (c_val (q_ec (q_v 2)) c_nil)) (c_val (q_ec (q_v 9)) c_nil))))) (w_or1 (q_notB (q_tru (q_call (T.ok 13 d__law_alike rfl) (room_dn hr) (L.gl 13 d__law_alike rfl) (L.fn 13 d__law_alike rfl).kp (bd__law_alike (L.fn 13 d__law_alike rfl)) (c_val (q_callKK [0] (T.ok 10 d_check_condition rfl) (room_dn hr) (L.gl 10 d_check_condition rfl) (L.fn 10 d_check_condition rfl).kp (kb2 (L.fn 10 d_check_condition rfl)) (k_cons (q_ec (q_v 2)) k_nil)) (c_val (q_ec (q_v 9)) c_nil))))))).pt (s_cons (s_ret q_bl) s_nil) s_nil) (s_cons (s_asg (q_co 0 (q_call (T.ok 23 d__law_leaf rfl) (room_dn hr) (L.gl 23 d__law_leaf rfl) (L.fn 23 d__law_leaf rfl).kp (bd__law_leaf (L.fn 23 d__law_leaf rfl)) (c_io 0 (c_val q_bl c_nil)))) (t_n 10 sc.nd)) (s_cons (s_asg (q_co 0 (q_lst (m_cons (q_ec (q_v 10)) (m_cons (q_tup (m_cons q_str (m_cons (q_tup (m_cons (q_ec (q_v 1)) (m_cons (q_ec (q_v 10)) m_nil))) m_nil))) (m_cons (q_tup (m_cons q_str (m_cons (q_tup (m_cons (q_tup (m_cons q_str (m_cons (q_tup (m_cons (q_ec (q_v 10)) m_nil)) m_nil))) (m_cons (q_ec (q_v 1)) m_nil))) m_nil))) (m_cons (q_tup (m_cons q_str (m_cons (q_tup (m_cons (q_ec (q_v 10)) (m_cons (q_ec (q_v 10)) m_nil))) m_nil))) m_nil)))))) (t_n 11 sc.nd)) (s_cons (s_asg (q_co 0 (q_lst (m_cons (q_ec (q_v 1)) (m_cons (q_tup (m_cons q_str (m_cons (q_tup (m_cons (q_ec (q_v 1)) (m_cons (q_ec (q_v 1)) m_nil))) m_nil))) (m_cons (q_tup (m_cons q_str (m_cons (q_tup (m_cons (q_tup (m_cons q_str (m_cons (q_tup (m_cons (q_ec (q_v 1)) m_nil)) m_nil))) (m_cons (q_ec (q_v 1)) m_nil))) m_nil))) m_nil))))) (t_n 12 sc.nd)) (s_cons (s_ret (q_call (T.ok 13 d__law_alike rfl) (room_dn hr) (L.gl 13 d__law_alike rfl) (L.fn 13 d__law_alike rfl).kp (bd__law_alike (L.fn 13 d__law_alike rfl)) (c_val (q_bltT cb_tuple L.b_tuple bt_tuple (b_cons (q_lc (own := [(("one" : Str), 13)]) 0 sc.nd (w_any (q_bin ob_add (q_v 11) (q_v 12))) (by rfl) (fun _ _ _ _ _ => (t_n 13 sc.nd)) (fun _ _ _ _ _ => x_nil) (fun _ _ _ _ _ => (q_call (T.ok 10 d_check_condition rfl) (room_dn hr) (L.gl 10 d_check_condition rfl) (L.fn 10 d_check_condition rfl).kp (bd_check_condition (L.fn 10 d_check_condition rfl)) (c_val (q_ec (q_v 13)) c_nil)))) b_nil)) (c_val (q_bin ob_add (q_bin ob_mul (q_tup (m_cons q_bl m_nil)) q_int) (q_bin ob_mul (q_tup (m_cons q_bl m_nil)) q_int)) c_nil)))) s_nil)))))))))))⟩) (by rfl)
theorem r__law_lower (L : Lw K mg base fa fd ca ta) (T : Tb P w K mg base fa fd n) : FnOk P w K mg base CX0 (2 * n + 2) (fa 25) (fd 25) (psOf d__law_lower) (FSp K (hd (calls tab (n + 1))) 25) :=
  have sc := sc__law_lower
  def_okC (L.fn 25 d__law_lower rfl) sc (fn := ⟨[true, false], 3, f__law_lower⟩) (c := calls tab n) rfl rfl (fun _ => rfl) (L.cd 25 d__law_lower rfl).1 (fun A outer s0 H E hr => ⟨_,
    (s_cons (s_asg (q_co 0 (q_call (T.ok 12 d__law_n rfl) (room_dn hr) (L.gl 12 d__law_n rfl) (L.fn 12 d__law_n rfl).kp (bd__law_n (L.fn 12 d__law_n rfl)) (c_io 0 (c_val (q_bltB cb_len L.b_len bt_len (b_cons (q_v 1) b_nil)) c_nil)))) (t_n 2 sc.nd)) (s_cons (s_if (w_or (q_cmpB .eq hr (q_sub (q_sub (q_v 1) (q_v 2)) q_int) q_int) (w_or1 (w_and (q_cmpB .eq hr (q_call (T.ok 12 d__law_n rfl) (room_dn hr) (L.gl 12 d__law_n rfl) (L.fn 12 d__law_n rfl).kp (bd__law_n (L.fn 12 d__law_n rfl)) (c_io 0 (c_val q_int c_nil))) q_int) (w_and1 (q_cmpB .gt hr (q_bltB cb_len L.b_len bt_len (b_cons (q_v 1) b_nil)) q_int))).pt)).pt (s_cons (s_ret (q_if (q_cmpB .gt hr (q_bltB cb_len L.b_len bt_len (b_cons (q_v 1) b_nil)) q_int) (q_bin ob_add (q_slc (q_v 1) o_no (o_yes (q_v 2))) (q_slc (q_v 1) (o_yes (q_bin ob_add (q_v 2) q_int)) o_no)) (q_ec (q_v 1)))) s_nil) s_nil) (s_cons (s_ret (q_bin ob_add (q_bin ob_add (q_slc (q_v 1) o_no (o_yes (q_v 2))) (q_tup (m_cons (q_tup (m_cons (q_ec (q_sub (q_sub (q_v 1) (q_v 2)) q_int)) (m_cons (q_bin ob_sub (q_sub (q_sub (q_v 1) (q_v 2)) q_int) q_int) m_nil))) m_nil))) (q_slc (q_v 1) (o_yes (q_bin ob_add (q_v 2) q_int)) o_no))) s_nil)))⟩) (by rfl)
theorem r__law_go_along (L : Lw K mg base fa fd ca ta) (T : Tb P w K mg base fa fd n) : FnOk P w K mg base CX0 (2 * n + 2) (fa 26) (fd 26) (psOf d__law_go_along) (FSp K (hd (calls tab (n + 1))) 26) :=
  have sc := sc__law_go_along
  def_okC (L.fn 26 d__law_go_along rfl) sc (fn := ⟨[true], 15, f__law_go_along⟩) (c := calls tab n) rfl rfl (fun _ => rfl) (L.cd 26 d__law_go_along rfl).1 (fun A outer s0 H E hr => ⟨_,
    (s_cons (s_asg (q_co 0 (q_bltT cb_tuple L.b_tuple bt_tuple (b_cons (q_bltB (cb_sorted rfl) L.b_sorted bt_sorted (b_cons (q_lc (own := [(("k" : Str), 13)]) 0 sc.nd (w_rng1 L.b_range (m_cons q_int m_nil)) (by rfl) (fun _ _ _ _ _ => (t_n 13 sc.nd)) (fun _ _ _ _ _ => x_nil) (fun _ _ _ _ _ => (q_call (T.ok 14 d__law_pick rfl) (room_dn hr) (L.gl 14 d__law_pick rfl) (L.fn 14 d__law_pick rfl).kp (bd__law_pick (L.fn 14 d__law_pick rfl)) (c_io 0 (c_val (q_lst (m_cons q_int (m_cons q_int (m_cons (q_call (T.ok 12 d__law_n rfl) (room_dn hr) (L.gl 12 d__law_n rfl) (L.fn 12 d__law_n rfl).kp (bd__law_n (L.fn 12 d__law_n rfl)) (c_io 0 (c_val q_int c_nil))) m_nil)))) c_nil))))) b_nil)) b_nil))) (t_n 1 sc.nd)) (s_cons (s_asg (q_lst (m_cons (q_call (T.ok 14 d__law_pick rfl) (room_dn hr) (L.gl 14 d__law_pick rfl) (L.fn 14 d__law_pick rfl).kp (bd__law_pick (L.fn 14 d__law_pick rfl)) (c_io 0 (c_val (q_lst (m_cons (q_bltT cb_tuple L.b_tuple bt_tuple (b_cons (q_lc (own := [(("k" : Str), 13)]) 0 sc.nd (w_rng1 L.b_range (m_cons q_int m_nil)) (by rfl) (fun _ _ _ _ _ => (t_n 13 sc.nd)) (fun _ _ _ _ _ => x_nil) (fun _ _ _ _ _ => (q_tup (m_cons (q_ec (q_v 13)) (m_cons q_int m_nil))))) b_nil)) (m_cons (q_call (T.ok 17 d__law_result rfl) (room_dn hr) (L.gl 17 d__law_result rfl) (L.fn 17 d__law_result rfl).kp (bd__law_result (L.fn 17 d__law_result rfl)) (c_io 0 (c_val (q_bin ob_add q_int (q_call (T.ok 12 d__law_n rfl) (room_dn hr) (L.gl 12 d__law_n rfl) (L.fn 12 d__law_n rfl).kp (bd__law_n (L.fn 12 d__law_n rfl)) (c_io 0 (c_val q_int c_nil)))) c_nil))) m_nil))) c_nil))) m_nil)) (t_n 2 sc.nd)) (s_cons (s_for (w_rng1 L.b_range (m_cons q_int m_nil)) (t_n 3 sc.nd) (s_cons (s_ex (q_append 0 (l_v 2) (q_call (T.ok 25 d__law_lower rfl) (room_dn hr) (L.gl 25 d__law_lower rfl) (L.fn 25 d__law_lower rfl).kp (bd__law_lower (L.fn 25 d__law_lower rfl)) (c_io 0 (c_val (q_ec (q_sub (q_v 2) (q_neg q_int))) c_nil))))) s_nil)) (s_cons (s_asg (q_co 0 (q_tup (m_cons q_str (m_cons (q_call (T.ok 12 d__law_n rfl) (room_dn hr) (L.gl 12 d__law_n rfl) (L.fn 12 d__law_n rfl).kp (bd__law_n (L.fn 12 d__law_n rfl)) (c_io 0 (c_val q_int c_nil))) (m_cons (q_call (T.ok 12 d__law_n rfl) (room_dn hr) (L.gl 12 d__law_n rfl) (L.fn 12 d__law_n rfl).kp (bd__law_n (L.fn 12 d__law_n rfl)) (c_io 0 (c_val q_int c_nil))) m_nil))))) (t_n 4 sc.nd)) (s_cons (s_asg (q_co 0 (q_tup (m_cons q_str (m_cons (q_tup (m_cons (q_tup (m_cons q_str (m_cons (q_call (T.ok 16 d__law_sum rfl) (room_dn hr) (L.gl 16 d__law_sum rfl) (L.fn 16 d__law_sum rfl).kp (bd__law_sum (L.fn 16 d__law_sum rfl)) (c_val (q_ec (q_v 1)) (c_val (q_ec (q_sub (q_v 2) (q_call (T.ok 12 d__law_n rfl) (room_dn hr) (L.gl 12 d__law_n rfl) (L.fn 12 d__law_n rfl).kp (bd__law_n (L.fn 12 d__law_n rfl)) (c_io 0 (c_val q_int c_nil))))) c_nil))) m_nil))) (m_cons (q_tup (m_cons q_str (m_cons (q_tup (m_cons (q_ec (q_v 4)) (m_cons (q_tup (m_cons q_str (m_cons q_int m_nil))) m_nil))) m_nil))) m_nil))) m_nil)))) (t_n 5 sc.nd)) (s_cons (s_setLc (own := [(("one" : Str), 14)]) 0 6 sc.nd (w_slot (q_v 2)) (by rfl) (fun _ _ _ _ _ => (t_n 14 sc.nd)) (fun _ _ _ _ _ => x_nil) (fun _ _ _ _ _ => (q_call (T.ok 4 d_holds rfl) (room_dn hr) (L.gl 4 d_holds rfl) (L.fn 4 d_holds rfl).kp (bd_holds (L.fn 4 d_holds rfl)) (c_val (q_ec (q_v 1)) (c_val (q_ec (q_v 5)) (c_val (q_ec (q_v 14)) c_nil)))))) (s_cons (s_for (w_rng1 L.b_range (m_cons q_int m_nil)) (t_n 7 sc.nd) (s_cons (s_for (w_rng1 L.b_range (m_cons q_int m_nil)) (t_n 8 sc.nd) (s_cons (s_asg (q_co 0 (q_or (q_cmp .ge hr (q_v 7) (q_v 8)) (q_one (q_cmp .eq hr (q_sub (q_v 2) (q_v 7)) (q_sub (q_v 2) (q_v 8)))))) (t_n 9 sc.nd)) (s_cons (s_if (w_or (q_notB (q_tru (q_call (T.ok 13 d__law_alike rfl) (room_dn hr) (L.gl 13 d__law_alike rfl) (L.fn 13 d__law_alike rfl).kp (bd__law_alike (L.fn 13 d__law_alike rfl)) (c_val (q_call (T.ok 5 d_lies_under rfl) (room_dn hr) (L.gl 5 d_lies_under rfl) (L.fn 5 d_lies_under rfl).kp (bd_lies_under (L.fn 5 d_lies_under rfl)) (c_val (q_ec (q_sub (q_v 2) (q_v 7))) (c_val (q_ec (q_sub (q_v 2) (q_v 8))) c_nil))) (c_val (q_ec (q_v 9)) c_nil))))) (w_or1 (w_and (q_tru (q_v 9)) (w_and (q_cmpB .isT hr (q_sub (q_v 6) (q_v 7)) q_bl) (w_and1 (q_cmpB .notT hr (q_sub (q_v 6) (q_v 8)) q_bl)))).pt)).pt (s_cons (s_ret q_bl) s_nil) s_nil) s_nil))) s_nil)) (s_cons (s_asg (q_co 0 (q_ec (q_sub (q_v 2) q_int))) (t_n 10 sc.nd)) (s_cons (s_asg (q_co 0 (q_bltT cb_tuple L.b_tuple bt_tuple (b_cons (q_bin ob_add (q_lst (m_cons (q_tup (m_cons (q_ec (q_sub (q_sub (q_v 10) q_int) q_int)) (m_cons (q_bltB (cb_max2 rfl) L.b_max bt_max (b_cons q_int (b_cons (q_bin ob_sub (q_sub (q_sub (q_v 10) q_int) q_int) q_int) b_nil))) m_nil))) m_nil)) (q_lc (own := [(("one" : Str), 14)]) 0 sc.nd (w_any (q_slc (q_v 10) (o_yes q_int) o_no)) (by rfl) (fun _ _ _ _ _ => (t_n 14 sc.nd)) (fun _ _ _ _ _ => x_nil) (fun _ _ _ _ _ => (q_tup (m_cons (q_ec (q_sub (q_v 14) q_int)) (m_cons (q_bltB (cb_min2 rfl) L.b_min bt_min (b_cons q_int (b_cons (q_bin ob_add (q_sub (q_v 14) q_int) q_int) b_nil))) m_nil)))))) b_nil))) (t_n 11 sc.nd)) (s_cons (s_asg (q_co 0 (q_and (q_cmp .gt hr (q_sub (q_sub (q_v 10) q_int) q_int) q_int) (q_one (q_cmp .ne hr (q_lc (own := [(("one" : Str), 14)]) 0 sc.nd (w_any (q_slc (q_v 10) (o_yes q_int) o_no)) (by rfl) (fun _ _ _ _ _ => (t_n 14 sc.nd)) (fun _ _ _ _ _ => (x_one (q_cmpB .lt hr (q_sub (q_v 14) q_int) q_int))) (fun _ _ _ _ _ => (q_ec (q_v 14)))) (q_lst m_nil))))) (t_n 12 sc.nd)) (s_cons (s_if (w_and (q_tru (q_v 12)) (w_and1 (q_notB (q_tru (q_call (T.ok 13 d__law_alike rfl) (room_dn hr) (L.gl 13 d__law_alike rfl) (L.fn 13 d__law_alike rfl).kp (bd__law_alike (L.fn 13 d__law_alike rfl)) (c_val (q_tup (m_cons (q_call (T.ok 5 d_lies_under rfl) (room_dn hr) (L.gl 5 d_lies_under rfl) (L.fn 5 d_lies_under rfl).kp (bd_lies_under (L.fn 5 d_lies_under rfl)) (c_val (q_ec (q_v 10)) (c_val (q_ec (q_v 11)) c_nil))) (m_cons (q_callKK [0, 1] (T.ok 5 d_lies_under rfl) (room_dn hr) (L.gl 5 d_lies_under rfl) (L.fn 5 d_lies_under rfl).kp (kb3 (L.fn 5 d_lies_under rfl)) (k_cons (q_ec (q_v 11)) (k_cons (q_ec (q_v 10)) k_nil))) m_nil))) (c_val (q_tup (m_cons q_bl (m_cons q_bl m_nil))) c_nil))))))).pt (s_cons (s_ret q_bl) s_nil) s_nil) (s_cons (s_ret (q_call (T.ok 13 d__law_alike rfl) (room_dn hr) (L.gl 13 d__law_alike rfl) (L.fn 13 d__law_alike rfl).kp (bd__law_alike (L.fn 13 d__law_alike rfl)) (c_val (q_callKK [1, 0] (T.ok 5 d_lies_under rfl) (room_dn hr) (L.gl 5 d_lies_under rfl) (L.fn 5 d_lies_under rfl).kp (kb4 (L.fn 5 d_lies_under rfl)) (k_cons (q_ec (q_v 10)) (k_cons (q_ec (q_v 10)) k_nil))) (c_val q_bl c_nil)))) s_nil))))))))))))⟩) (by rfl)
theorem r_law (L : Lw K mg base fa fd ca ta) (T : Tb P w K mg base fa fd n) : FnOk P w K mg base CX0 (2 * n + 2) (fa 27) (fd 27) (psOf d_law) (FSp K (hd (calls tab (n + 1))) 27) :=
  have sc := sc_law
  def_okC (L.fn 27 d_law rfl) sc (fn := ⟨[true], 2, f_law⟩) (c := calls tab n) rfl rfl (fun _ => rfl) (L.cd 27 d_law rfl).1 (fun A outer s0 H E hr => ⟨_,
    (s_cons (s_asg (q_call (T.ok 11 d__law_open rfl) (room_dn hr) (L.gl 11 d__law_open rfl) (L.fn 11 d__law_open rfl).kp (bd__law_open (L.fn 11 d__law_open rfl)) (c_val (q_fz 0) c_nil)) (t_n 1 sc.nd)) (s_cons (s_ret (q_and (q_call (T.ok 22 d__law_are_held rfl) (room_dn hr) (L.gl 22 d__law_are_held rfl) (L.fn 22 d__law_are_held rfl).kp (bd__law_are_held (L.fn 22 d__law_are_held rfl)) (c_io 1 c_nil)) (q_and (q_call (T.ok 24 d__law_are_looked_at rfl) (room_dn hr) (L.gl 24 d__law_are_looked_at rfl) (L.fn 24 d__law_are_looked_at rfl).kp (bd__law_are_looked_at (L.fn 24 d__law_are_looked_at rfl)) (c_io 1 c_nil)) (q_and (q_call (T.ok 24 d__law_are_looked_at rfl) (room_dn hr) (L.gl 24 d__law_are_looked_at rfl) (L.fn 24 d__law_are_looked_at rfl).kp (bd__law_are_looked_at (L.fn 24 d__law_are_looked_at rfl)) (c_io 1 c_nil)) (q_one (q_call (T.ok 26 d__law_go_along rfl) (room_dn hr) (L.gl 26 d__law_go_along rfl) (L.fn 26 d__law_go_along rfl).kp (bd__law_go_along (L.fn 26 d__law_go_along rfl)) (c_io 1 c_nil))))))) s_nil))⟩) (by rfl)
theorem tb_next (L : Lw K mg base fa fd ca ta) (T : Tb P w K mg base fa fd n) : Tb P w K mg base fa fd (n + 1) := ⟨fun i d h => by
  match i, h with
  | 0, h => cases h; exact r_is_number L T
  | 1, h => cases h; exact r_points_of L T
  | 2, h => cases h; exact r_grades_of L T
  | 3, h => cases h; exact r_holds_in L T
  | 4, h => cases h; exact r_holds L T
  | 5, h => cases h; exact r_lies_under L T
  | 6, h => cases h; exact r_parts_of_grade L T
  | 7, h => cases h; exact r_parts_of_points L T
  | 8, h => cases h; exact r_parts_of_many L T
  | 9, h => cases h; exact r_parts_of L T
  | 10, h => cases h; exact r_check_condition L T
  | 11, h => cases h; exact r__law_open L T
  | 12, h => cases h; exact r__law_n L T
  | 13, h => cases h; exact r__law_alike L T
  | 14, h => cases h; exact r__law_pick L T
  | 15, h => cases h; exact r__law_taken L T
  | 16, h => cases h; exact r__law_sum L T
  | 17, h => cases h; exact r__law_result L T
  | 18, h => cases h; exact r__law_many L T
  | 19, h => cases h; exact r__law_wrapped L T
  | 20, h => cases h; exact r__law_parts L T
  | 21, h => cases h; exact r__law_levels L T
  | 22, h => cases h; exact r__law_are_held L T
  | 23, h => cases h; exact r__law_leaf L T
  | 24, h => cases h; exact r__law_are_looked_at L T
  | 25, h => cases h; exact r__law_lower L T
  | 26, h => cases h; exact r__law_go_along L T
  | 27, h => cases h; exact r_law L T
  | k + 28, h => simp [defs] at h⟩
theorem tb (L : Lw K mg base fa fd ca ta) : ∀ n, Tb P w K mg base fa fd n
  | 0 => ⟨fun i d h => def_none⟩
  | n + 1 => tb_next L (tb L n)
end
end Q.K80
end
section
set_option Elab.async false
set_option linter.all false
set_option maxRecDepth 100000
set_option maxHeartbeats 4000000
namespace Q.K80
def Bag (w : W) : Prop := ∃ x gs cs y, w = (.lst [.int x, .lst (List.map D.int gs), .lst (List.map D.int cs), .int y], 2) ∧ cs ≠ []
def NP (m : Int) (w : W) (outs : List W) : Prop := ∃ d b', w = (.int d, 0) ∧ 0 ≤ d ∧ d < m ∧ outs = [b'] ∧ Bag b'
theorem n_ok {n : Nat} {b : W} {m : Int} (h : Bag b) (hm : 1 ≤ m) (hmb : m < 1073741824) : Rt (hd (calls tab (n + 1)) 12 [(b, true), ((.int m, 0), false)]) (NP m) := by
  obtain ⟨x, gs, cs, y, rfl, hc⟩ := h
  refine rt_call rfl rfl (by simp) (by simp) ?_
  dsimp only [List.map_cons, List.map_nil, List.length_cons, List.length_nil]
  have m0 : 0 < m := by omega
  have hl : 0 < (cs.length : Int) := by
    cases cs with
    | nil => exact absurd rfl hc
    | cons _ _ => simp
  obtain ⟨c, e1, _⟩ := item_ints (n := 1) (Int.emod_nonneg (y + 1) (by omega)) (Int.emod_lt_of_pos (y + 1) hl)
  have e0 : modW (.int (y + 1), 0) (.int cs.length, 0) = some (.int ((y + 1) % cs.length), 0) := modW_int hl
  show Ev (f__law_n (calls tab n) [some (D.lst [D.int x, D.lst (List.map D.int gs), D.lst (List.map D.int cs), D.int y], 2), some (D.int m, 0), none, none, none]) (Rp [true, false] (NP m))
  by_cases h0 : x = 0
  · subst h0
    by_cases hg : gs = []
    · subst hg
      simp [f__law_n, ixOf, e0, e1, m0, outsOf]
      exact ⟨_, _, rfl, Int.emod_nonneg _ (by omega), Int.emod_lt_of_pos _ m0, rfl, 0, [], cs, y + 1, rfl, hc⟩
    · obtain ⟨gi, gl, rfl⟩ : ∃ gi gl, gs = gi ++ [gl] := ⟨gs.dropLast, gs.getLast hg, (List.dropLast_concat_getLast hg).symm⟩
      by_cases hx : 0 < gl
      · simp [f__law_n, ixOf, hx, m0, hmb, outsOf]
        exact ⟨gl % m, _, rfl, Int.emod_nonneg _ (by omega), Int.emod_lt_of_pos _ m0, rfl, gl / m, gi, cs, y + 1, rfl, hc⟩
      · simp [f__law_n, ixOf, hx, e0, e1, m0, outsOf]
        exact ⟨_, _, rfl, Int.emod_nonneg _ (by omega), Int.emod_lt_of_pos _ m0, rfl, gl, gi, cs, y + 1, rfl, hc⟩
  · have hb : (x == 0) = false := by simp [h0]
    by_cases hx : 0 < x
    · simp [f__law_n, ixOf, hb, hx, m0, hmb, outsOf]
      exact ⟨x % m, _, rfl, Int.emod_nonneg _ (by omega), Int.emod_lt_of_pos _ m0, rfl, x / m, gs, cs, y + 1, rfl, hc⟩
    · simp [f__law_n, ixOf, hb, hx, e0, e1, m0, outsOf]
      exact ⟨_, _, rfl, Int.emod_nonneg _ (by omega), Int.emod_lt_of_pos _ m0, rfl, x, gs, cs, y + 1, rfl, hc⟩
/-- one of some things -/
def PickP (ds : List D) (w : W) (outs : List W) : Prop := ∃ k : Nat, ∃ d b', ds[k]? = some d ∧ w = (d, 0) ∧ outs = [b'] ∧ Bag b'
theorem pick_ok {n : Nat} {b : W} {ds : List D} (h : Bag b) (h0 : 0 < ds.length) (h1 : ds.length < 1073741824) : Rt (hd (calls tab (n + 2)) 14 [(b, true), ((.lst ds, 0), false)]) (PickP ds) := by
  refine rt_call rfl rfl (by simp) (by simp) ?_
  show Ev (f__law_pick (calls tab (n + 1)) [some b, some (D.lst ds, 0)]) (Rp [true, false] (PickP ds))
  simp [f__law_pick]
  rw [ev_callV]
  simp [fill, pick, back]
  refine rt_mono (n_ok h (by omega) (by omega)) ?_
  rintro w outs ⟨d, b', rfl, g0, g1, rfl, hb⟩
  have hk : d.toNat < ds.length := by omega
  have e1 := item_lst (n := 0) (ixOf_nat g0 g1) (List.getElem?_eq_getElem hk)
  simp [e1, ec, outsOf]
  exact ⟨d.toNat, _, _, List.getElem?_eq_getElem hk, rfl, rfl, hb⟩
end Q.K80
end
section
set_option Elab.async false
set_option linter.all false
set_option maxRecDepth 100000
set_option maxHeartbeats 4000000
namespace Q.K80
theorem perm_erase : ∀ {l : List D} {i : Nat} (h : i < l.length), (l[i] :: l.eraseIdx i).Perm l
  | a :: l, 0, _ => by simp
  | a :: l, i + 1, h => by
    have h2 : i < l.length := by simpa using h
    simp only [List.getElem_cons_succ, List.eraseIdx_cons_succ]
    exact (List.Perm.swap a l[i] (l.eraseIdx i)).trans ((perm_erase h2).cons a)
/-- many of some things -/
def TakP (ds : List D) (mi : Int) (w : W) (outs : List W) : Prop := ∃ xs left b', (xs ++ left).Perm ds ∧ xs.length = mi.toNat ∧ w = (.lst xs, 1) ∧ outs = [b'] ∧ Bag b'
theorem taken_ok {n : Nat} {mi : Int} {b : W} {ds : List D} (h : Bag b) (hm : 0 ≤ mi) (h0 : mi ≤ ds.length) (h1 : ds.length < 1024) : Rt (hd (calls tab (n + 2)) 15 [(b, true), ((.lst ds, 0), false), ((.int mi, 0), false)]) (TakP ds mi) := by
  refine rt_call rfl rfl (by simp) (by simp) ?_
  show Ev (f__law_taken (calls tab (n + 1)) [some b, some (D.lst ds, 0), some (D.int mi, 0), none, none]) (Rp [true, false, false] (TakP ds mi))
  simp [f__law_taken, listW, rngR, rngD]
  rw [if_pos ⟨by omega, by omega⟩]
  simp [wip]
  refine ev_lc (fun k done ρ => ∃ b' left z, ρ = [some b', some (D.lst ds, 0), some (D.int mi, 0), some (D.lst left, 1), z] ∧ Bag b' ∧ (done ++ left).Perm ds ∧ done.length = k) ⟨b, ds, none, rfl, h, by simp, rfl⟩ ?_ ?_
  · rintro k d done ρ hd ⟨b', left, z, rfl, hb, hp, hl⟩
    have hk : k < mi.toNat := by
      have := (List.getElem?_eq_some_iff.mp hd).1
      simpa using this
    have hlen := hp.length_eq
    rw [List.length_append] at hlen
    simp [eltV, yesB]
    rw [ev_callV]
    simp [fill, pick, back]
    refine rt_mono (n_ok hb (by omega) (by omega)) ?_
    rintro w outs ⟨q, b2, rfl, g0, g1, rfl, hb2⟩
    have hq : q.toNat < left.length := by omega
    have e1 := ixOf_nat (n := left.length) g0 (by omega)
    have e2 := List.getElem?_eq_getElem hq
    have e3 : -9223372036854775808 ≤ q ∧ q < 9223372036854775808 := ⟨by omega, by omega⟩
    have e4 : mutL .popAt (.lst left, 1) [(.int q, 0)] = some ((left[q.toNat], 0), .lst (left.eraseIdx q.toNat)) := by
      simp only [mutL, e1]
      rw [if_pos (by omega), e2]
      simp
    simp [back, e4, wip]
    refine ⟨b2.1, b2.2, left.eraseIdx q.toNat, ⟨rfl, rfl⟩, hb2, ?_, hl⟩
    exact (List.Perm.append_left done (perm_erase hq)).trans hp
  · rintro l ρ ⟨b', left, z, rfl, hb, hp, hl⟩
    have hlen := hp.length_eq
    rw [List.length_append] at hlen
    simp at hl
    have hn : l.length ≤ line := by
      unfold line
      omega
    simp [hn, rst, outsOf, keepW]
    exact ⟨l, left, b', hp, by omega, rfl, rfl, hb⟩
end Q.K80
end
section
set_option Elab.async false
set_option linter.all false
set_option maxRecDepth 100000
set_option maxHeartbeats 4000000
namespace Q.K80
theorem ints_at {ns : List Int} {k : Nat} {d : D} (h : (ns.map D.int)[k]? = some d) : ∃ i, d = .int i := by
  rw [List.getElem?_map] at h
  cases e : ns[k]? with
  | none => rw [e] at h; cases h
  | some i => rw [e] at h; cases h; exact ⟨i, rfl⟩
theorem open_ok {n : Nat} {ns : List Int} (hl : ns.length < 1024) : Rt (hd (calls tab (n + 1)) 11 [((.lst (ns.map D.int), 0), false)]) (fun w outs => outs = [] ∧ Bag w) := by
  refine rt_call rfl rfl (by simp) (by simp) ?_
  show Ev (f__law_open (calls tab n) [some (D.lst (ns.map D.int), 0), none, none, none]) (Rp [false] (fun w outs => outs = [] ∧ Bag w))
  simp [f__law_open, itemsR, wip, rst]
  refine ev_lc (fun k done ρ => ∃ l z, done = List.map D.int l ∧ l.length = k ∧ ρ = [some (D.lst (ns.map D.int), 0), none, none, z]) ⟨[], none, rfl, rfl, rfl⟩ ?_ ?_
  · rintro k d done ρ hd ⟨l, z, rfl, rfl, rfl⟩
    obtain ⟨i, rfl⟩ := ints_at hd
    simp [eltV, yesB, absW, wip]
    exact ⟨l ++ [if i < 0 then -i else i], by simp, by simp⟩
  · rintro l ρ ⟨l, z, rfl, hk, rfl⟩
    simp at hk
    have hn : ns.length ≤ line := by
      unfold line
      omega
    have hn2 : ns.length + 1 ≤ line := by
      unfold line
      omega
    obtain ⟨a, r, e⟩ : ∃ a r, List.map D.int l ++ [D.int 11] = D.int a :: List.map D.int r := by
      cases l with
      | nil => exact ⟨11, [], rfl⟩
      | cons a r => exact ⟨a, r ++ [11], by simp⟩
    have hline : 1 ≤ line := by
      unfold line
      omega
    simp [hk, rst, keepW, hn, hn2, hline, addW, e]
    cases ha : a % 2 == 0 with
    | false =>
      simp [outsOf, mvV, ha]
      exact ⟨rfl, 0, [], a :: r, 0, rfl, by simp⟩
    | true =>
      simp [itemsR, wip]
      refine ev_lc (fun k done ρ => ∃ l z, done = List.map D.int l ∧ l.length ≤ k ∧ ρ = [some (D.lst (ns.map D.int), 0), some (D.lst (D.int a :: List.map D.int r), 1), some (D.lst [], 1), z]) ⟨[], none, rfl, by simp, rfl⟩ ?_ ?_
      · rintro k d done ρ hd ⟨l, z, rfl, hk, rfl⟩
        obtain ⟨i, rfl⟩ := ints_at (ns := a :: r) hd
        by_cases hi : 1000000000000000000 ≤ i
        · simp [eltV, powW, wip, hi]
          exact ⟨l ++ [i / 2], by simp, by simp; omega⟩
        · simp [eltV, powW, wip, hi]
          exact ⟨l, rfl, by omega⟩
      · rintro l ρ ⟨l, z, rfl, hk, rfl⟩
        simp at hk
        have he := congrArg List.length e
        simp at he
        have hn3 : l.length ≤ line := by
          unfold line
          omega
        simp [hn3, rst, keepW, outsOf, mvV]
        exact ⟨rfl, 0, l.reverse, a :: r, 0, by simp, by simp⟩
end Q.K80
end
section
set_option Elab.async false
set_option linter.all false
set_option maxRecDepth 100000
set_option maxHeartbeats 4000000
namespace Q.K80
/-- a known answer, no changes -/
def Is (d : D) (w : W) (outs : List W) : Prop := w = (d, 0) ∧ outs = []
theorem num_ok {n : Nat} {i lo hi : Int} : Rt (hd (calls tab (n + 1)) 0 [((.int i, 0), false), ((.int lo, 0), false), ((.int hi, 0), false)]) (Is (.bl (decide (lo ≤ i ∧ i ≤ hi)))) := by
  refine rt_call rfl rfl (by simp) (by simp) ?_
  show Ev (f_is_number (calls tab n) [some (D.int i, 0), some (D.int lo, 0), some (D.int hi, 0)]) (Rp [false, false, false] (Is (.bl (decide (lo ≤ i ∧ i ≤ hi)))))
  by_cases h1 : lo ≤ i
  · by_cases h2 : i ≤ hi
    · simp [f_is_number, D.isInt, D.isBl, h1, h2, outsOf]
      exact ⟨rfl, rfl⟩
    · simp [f_is_number, D.isInt, D.isBl, h1, h2, outsOf]
      exact ⟨rfl, rfl⟩
  · simp [f_is_number, D.isInt, D.isBl, h1, outsOf]
    exact ⟨rfl, rfl⟩
theorem alike_bl {n : Nat} {a b : Bool} : Rt (hd (calls tab (n + 1)) 13 [((.bl a, 0), false), ((.bl b, 0), false)]) (Is (.bl (a == b))) := by
  refine rt_call rfl rfl (by simp) (by simp) ?_
  show Ev (f__law_alike (calls tab n) [some (D.bl a, 0), some (D.bl b, 0), none]) (Rp [false, false] (Is (.bl (a == b))))
  cases a <;> cases b <;> simp [f__law_alike, D.isInt, D.isBl, outsOf] <;> exact ⟨rfl, rfl⟩
theorem alike_int {n : Nat} {a b : Int} : Rt (hd (calls tab (n + 1)) 13 [((.int a, 0), false), ((.int b, 0), false)]) (Is (.bl (a == b))) := by
  refine rt_call rfl rfl (by simp) (by simp) ?_
  show Ev (f__law_alike (calls tab n) [some (D.int a, 0), some (D.int b, 0), none]) (Rp [false, false] (Is (.bl (a == b))))
  simp [f__law_alike, D.isInt, D.isBl, outsOf]
  exact ⟨rfl, rfl⟩
end Q.K80
end
section
set_option Elab.async false
set_option linter.all false
set_option maxRecDepth 100000
set_option maxHeartbeats 4000000
namespace Q.K80
/-- conditions -/
inductive Cn where
  | gr (s g : Int) | pt (p : Int) | an (l : List Cn) | or (l : List Cn)
mutual
def Cn.toD : Cn → D
  | .gr s g => .tup [.str (PySem.Str.ofString "grade"), .int s, .int g]
  | .pt p => .tup [.str (PySem.Str.ofString "points"), .int p]
  | .an l => .tup [.str (PySem.Str.ofString "and"), .tup (toDs l)]
  | .or l => .tup [.str (PySem.Str.ofString "or"), .tup (toDs l)]
def toDs : List Cn → List D
  | [] => []
  | c :: r => c.toD :: toDs r
end
mutual
def Cn.parts : Cn → Nat
  | .gr _ _ => 1
  | .pt _ => 1
  | .an l => 1 + partss l
  | .or l => 1 + partss l
def partss : List Cn → Nat
  | [] => 0
  | c :: r => c.parts + partss r
end
mutual
def Cn.lev : Cn → Nat
  | .gr _ _ => 1
  | .pt _ => 1
  | .an l => 1 + levs l
  | .or l => 1 + levs l
def levs : List Cn → Nat
  | [] => 0
  | c :: r => max c.lev (levs r)
end
mutual
def Cn.hold (gs : List Int) (t : Int) : Cn → Bool
  | .gr s g => decide (g ≤ gs.getD s.toNat 0)
  | .pt p => decide (p ≤ t)
  | .an l => holdA gs t l
  | .or l => holdO gs t l
def holdA (gs : List Int) (t : Int) : List Cn → Bool
  | [] => true
  | c :: r => c.hold gs t && holdA gs t r
def holdO (gs : List Int) (t : Int) : List Cn → Bool
  | [] => false
  | c :: r => c.hold gs t || holdO gs t r
end
mutual
def Cn.ok : Cn → Prop
  | .gr s g => 0 ≤ s ∧ s < 8 ∧ 0 ≤ g ∧ g ≤ 6
  | .pt p => 0 ≤ p ∧ p ≤ 480
  | .an l => oks l
  | .or l => oks l
def oks : List Cn → Prop
  | [] => True
  | c :: r => c.ok ∧ oks r
end
end Q.K80
end
section
set_option Elab.async false
set_option linter.all false
set_option maxRecDepth 100000
set_option maxHeartbeats 4000000
namespace Q.K80
theorem parts_grade {n : Nat} {s g : Int} (h : 0 ≤ s ∧ s < 8 ∧ 0 ≤ g ∧ g ≤ 6) : Rt (hd (calls tab (n + 2)) 6 [((Cn.toD (.gr s g), 0), false)]) (Is (.int 1)) := by
  refine rt_call rfl rfl (by simp) (by simp) ?_
  show Ev (f_parts_of_grade (calls tab (n + 1)) [some (.tup [.str (PySem.Str.ofString "grade"), .int s, .int g], 0), none]) (Rp [false] (Is (.int 1)))
  simp [f_parts_of_grade]
  rw [ev_callV]
  simp [fill, pick, back]
  refine rt_mono num_ok ?_
  rintro w outs ⟨rfl, rfl⟩
  have h1 : (0 ≤ s ∧ s ≤ 7) := ⟨by omega, by omega⟩
  simp [back, h1]
  rw [ev_callV]
  simp [fill, pick, back]
  refine rt_mono num_ok ?_
  rintro w outs ⟨rfl, rfl⟩
  simp [back, h.2.2.1, h.2.2.2, outsOf]
  exact ⟨rfl, rfl⟩
theorem parts_points {n : Nat} {p : Int} (h : 0 ≤ p ∧ p ≤ 480) : Rt (hd (calls tab (n + 2)) 7 [((Cn.toD (.pt p), 0), false)]) (Is (.int 1)) := by
  refine rt_call rfl rfl (by simp) (by simp) ?_
  show Ev (f_parts_of_points (calls tab (n + 1)) [some (.tup [.str (PySem.Str.ofString "points"), .int p], 0)]) (Rp [false] (Is (.int 1)))
  simp [f_parts_of_points]
  rw [ev_callV]
  simp [fill, pick, back]
  refine rt_mono num_ok ?_
  rintro w outs ⟨rfl, rfl⟩
  simp [back, h.1, h.2, outsOf]
  exact ⟨rfl, rfl⟩
@[simp] theorem c_grade_grade : cop .eq (.str (PySem.Str.ofString "grade")) (.str (PySem.Str.ofString "grade")) = some true := by decide +kernel
@[simp] theorem c_grade_points : cop .eq (.str (PySem.Str.ofString "grade")) (.str (PySem.Str.ofString "points")) = some false := by decide +kernel
@[simp] theorem c_grade_and : cop .eq (.str (PySem.Str.ofString "grade")) (.str (PySem.Str.ofString "and")) = some false := by decide +kernel
@[simp] theorem c_grade_or : cop .eq (.str (PySem.Str.ofString "grade")) (.str (PySem.Str.ofString "or")) = some false := by decide +kernel
@[simp] theorem c_points_grade : cop .eq (.str (PySem.Str.ofString "points")) (.str (PySem.Str.ofString "grade")) = some false := by decide +kernel
@[simp] theorem c_points_points : cop .eq (.str (PySem.Str.ofString "points")) (.str (PySem.Str.ofString "points")) = some true := by decide +kernel
@[simp] theorem c_points_and : cop .eq (.str (PySem.Str.ofString "points")) (.str (PySem.Str.ofString "and")) = some false := by decide +kernel
@[simp] theorem c_points_or : cop .eq (.str (PySem.Str.ofString "points")) (.str (PySem.Str.ofString "or")) = some false := by decide +kernel
@[simp] theorem c_and_grade : cop .eq (.str (PySem.Str.ofString "and")) (.str (PySem.Str.ofString "grade")) = some false := by decide +kernel
@[simp] theorem c_and_points : cop .eq (.str (PySem.Str.ofString "and")) (.str (PySem.Str.ofString "points")) = some false := by decide +kernel
@[simp] theorem c_and_and : cop .eq (.str (PySem.Str.ofString "and")) (.str (PySem.Str.ofString "and")) = some true := by decide +kernel
@[simp] theorem c_and_or : cop .eq (.str (PySem.Str.ofString "and")) (.str (PySem.Str.ofString "or")) = some false := by decide +kernel
@[simp] theorem c_or_grade : cop .eq (.str (PySem.Str.ofString "or")) (.str (PySem.Str.ofString "grade")) = some false := by decide +kernel
@[simp] theorem c_or_points : cop .eq (.str (PySem.Str.ofString "or")) (.str (PySem.Str.ofString "points")) = some false := by decide +kernel
@[simp] theorem c_or_and : cop .eq (.str (PySem.Str.ofString "or")) (.str (PySem.Str.ofString "and")) = some false := by decide +kernel
@[simp] theorem c_or_or : cop .eq (.str (PySem.Str.ofString "or")) (.str (PySem.Str.ofString "or")) = some true := by decide +kernel
theorem parts_leaf {n : Nat} {c : Cn} {l : Int} (hl : 0 < l) (hc : c.ok) (h : ∀ cs, c ≠ .an cs ∧ c ≠ .or cs) : Rt (hd (calls tab (n + 3)) 9 [((c.toD, 0), false), ((.int l, 0), false)]) (Is (.int 1)) := by
  cases c with
  | an cs => exact absurd rfl (h cs).1
  | or cs => exact absurd rfl (h cs).2
  | gr s g =>
    refine rt_call rfl rfl (by simp) (by simp) ?_
    show Ev (f_parts_of (calls tab (n + 2)) [some (.tup [.str (PySem.Str.ofString "grade"), .int s, .int g], 0), some (.int l, 0)]) (Rp [false, false] (Is (.int 1)))
    have hb : (l == 0) = false := by simp; omega
    simp [f_parts_of, D.isTup, hb]
    rw [ev_callV]
    simp [fill, pick, back]
    refine rt_mono (parts_grade hc) ?_
    rintro w outs ⟨rfl, rfl⟩
    simp [back, outsOf]
    exact ⟨rfl, rfl⟩
  | pt p =>
    refine rt_call rfl rfl (by simp) (by simp) ?_
    show Ev (f_parts_of (calls tab (n + 2)) [some (.tup [.str (PySem.Str.ofString "points"), .int p], 0), some (.int l, 0)]) (Rp [false, false] (Is (.int 1)))
    have hb : (l == 0) = false := by simp; omega
    simp [f_parts_of, D.isTup, hb]
    rw [ev_callV]
    simp [fill, pick, back]
    refine rt_mono (parts_points hc) ?_
    rintro w outs ⟨rfl, rfl⟩
    simp [back, outsOf]
    exact ⟨rfl, rfl⟩
end Q.K80
end
section
set_option Elab.async false
set_option linter.all false
set_option maxRecDepth 100000
set_option maxHeartbeats 4000000
namespace Q.K80
/-- the parts of a condition within so many levels -/
def pw (c : Cn) (l : Int) : Int := if (c.lev : Int) ≤ l then c.parts else 0
theorem lev_pos (c : Cn) : 1 ≤ c.lev := by cases c <;> simp [Cn.lev] <;> omega
theorem parts_pos (c : Cn) : 1 ≤ c.parts := by cases c <;> simp [Cn.parts] <;> omega
theorem parts_none {n : Nat} {c : Cn} : Rt (hd (calls tab (n + 1)) 9 [((c.toD, 0), false), ((.int 0, 0), false)]) (Is (.int 0)) := by
  refine rt_call rfl rfl (by simp) (by simp) ?_
  show Ev (f_parts_of (calls tab n) [some (c.toD, 0), some (.int 0, 0)]) (Rp [false, false] (Is (.int 0)))
  simp [f_parts_of, outsOf]
  exact ⟨rfl, rfl⟩
theorem toDs_map : ∀ l : List Cn, toDs l = l.map Cn.toD
  | [] => rfl
  | c :: r => by simp [toDs, toDs_map r]
theorem lev_le : ∀ {l : List Cn} {c : Cn}, c ∈ l → c.lev ≤ levs l
  | a :: r, c, h => by
    rcases List.mem_cons.mp h with rfl | h
    · simp [levs]; omega
    · have := lev_le h
      simp [levs]; omega
theorem ok_mem : ∀ {l : List Cn} {c : Cn}, oks l → c ∈ l → c.ok
  | a :: r, c, ho, h => by
    rcases List.mem_cons.mp h with rfl | h
    · exact ho.1
    · exact ok_mem ho.2 h
end Q.K80
end
section
set_option Elab.async false
set_option linter.all false
set_option maxRecDepth 100000
set_option maxHeartbeats 4000000
namespace Q.K80
/-- the parts of many, in turn: none if one has none -/
def pws (l : Int) : List Cn → Int
  | [] => 0
  | c :: r => pw c l + pws l r
theorem pws_app {l : Int} {c : Cn} : ∀ {r : List Cn}, pws l (r ++ [c]) = pws l r + pw c l
  | [] => by simp [pws]
  | a :: r => by simp [pws, pws_app (r := r)]; omega
theorem many_ok {n : Nat} {s : PySem.Str} {cs : List Cn} {l : Int} (h : ∀ c ∈ cs, Rt (hd (calls tab n) 9 [((c.toD, 0), false), ((.int (l - 1), 0), false)]) (Is (.int (pw c (l - 1))))) :
    Rt (hd (calls tab (n + 1)) 8 [((.tup [.str s, .tup (cs.map Cn.toD)], 0), false), ((.int l, 0), false)]) (Is (.int (if cs.any (fun c => pw c (l - 1) == 0) then 0 else 1 + pws (l - 1) cs))) := by
  refine rt_call rfl rfl (by simp) (by simp) ?_
  show Ev (f_parts_of_many (calls tab n) [some (.tup [.str s, .tup (cs.map Cn.toD)], 0), some (.int l, 0), none, none, none]) (Rp [false, false] _)
  simp [f_parts_of_many, D.isTup, itemsR, items, rowOf]
  refine ev_for (fun k ρ => ∃ y z, ρ = [some (.tup [.str s, .tup (cs.map Cn.toD)], 0), some (.int l, 0), some (.int (1 + pws (l - 1) (cs.take k)), 0), y, z] ∧ ∀ c ∈ cs.take k, pw c (l - 1) ≠ 0) ⟨none, none, rfl, by simp⟩ ?_ ?_
  · rintro k d ρ hd ⟨y, z, rfl, hz⟩
    rw [List.getElem?_map] at hd
    obtain ⟨c, hc, rfl⟩ := Option.map_eq_some_iff.mp hd
    simp
    rw [ev_callV]
    simp [fill, pick, back]
    refine rt_mono (h c (List.mem_of_getElem? hc)) ?_
    rintro w outs ⟨rfl, rfl⟩
    simp [back]
    have ht : cs.take (k + 1) = cs.take k ++ [c] := by rw [List.take_add_one, hc]; rfl
    cases hp : pw c (l - 1) == 0 with
    | true =>
      have hp2 : pw c (l - 1) = 0 := by simpa using hp
      have he : ∃ x, x ∈ cs ∧ pw x (l - 1) = 0 := ⟨c, List.mem_of_getElem? hc, hp2⟩
      simp [outsOf, he]
      exact ⟨rfl, rfl⟩
    | false =>
      have hp2 : pw c (l - 1) ≠ 0 := by simpa using hp
      simp [ht, pws_app, D.leaf]
      refine ⟨by omega, ?_⟩
      rintro x (hx | rfl)
      · exact hz x hx
      · exact hp2
  · rintro ρ ⟨y, z, rfl, hz⟩
    have he : ¬ ∃ x, x ∈ cs ∧ pw x (l - 1) = 0 := fun ⟨x, hx, h0⟩ => hz x (by simpa using hx) h0
    simp [outsOf, he]
    exact ⟨rfl, rfl⟩
end Q.K80
end
section
set_option Elab.async false
set_option linter.all false
set_option maxRecDepth 100000
set_option maxHeartbeats 4000000
namespace Q.K80
theorem levs_le : ∀ {cs : List Cn} {l : Int}, (levs cs : Int) ≤ l ↔ 0 ≤ l ∧ ∀ c ∈ cs, (c.lev : Int) ≤ l
  | [], l => by simp [levs]
  | a :: r, l => by
    have ih := levs_le (cs := r) (l := l)
    have := lev_pos a
    constructor
    · intro h
      simp only [levs] at h
      have h2 : (levs r : Int) ≤ l := by omega
      refine ⟨(ih.mp h2).1, fun c hc => ?_⟩
      rcases List.mem_cons.mp hc with rfl | hc
      · omega
      · exact (ih.mp h2).2 c hc
    · rintro ⟨h0, h⟩
      have h1 := h a List.mem_cons_self
      have h2 := ih.mpr ⟨h0, fun c hc => h c (List.mem_cons_of_mem _ hc)⟩
      simp only [levs]
      omega
theorem pws_all : ∀ {cs : List Cn} {l : Int}, (∀ c ∈ cs, (c.lev : Int) ≤ l) → pws l cs = partss cs
  | [], l, _ => by simp [pws, partss]
  | a :: r, l, h => by
    have ih := pws_all (cs := r) (l := l) fun c hc => h c (List.mem_cons_of_mem _ hc)
    simp [pws, partss, ih, pw, h a List.mem_cons_self]
theorem many_eq {cs : List Cn} {l : Int} (hl : 0 < l) : (if cs.any (fun c => pw c (l - 1) == 0) then (0 : Int) else 1 + pws (l - 1) cs) = if ((1 + levs cs : Nat) : Int) ≤ l then ((1 + partss cs : Nat) : Int) else 0 := by
  have hk := levs_le (cs := cs) (l := l - 1)
  by_cases h : (levs cs : Int) ≤ l - 1
  · have ha := (hk.mp h).2
    have hn : cs.any (fun c => pw c (l - 1) == 0) = false := by
      rw [List.any_eq_false]
      intro c hc
      have h1 := ha c hc
      have h2 := parts_pos c
      unfold pw
      rw [if_pos h1]
      simp
      omega
    rw [hn, if_neg (by simp), if_pos (by omega), pws_all ha]
    omega
  · have hn : cs.any (fun c => pw c (l - 1) == 0) = true := by
      rw [List.any_eq_true]
      refine Classical.byContradiction fun hh => h (hk.mpr ⟨by omega, fun c hc => Classical.byContradiction fun h1 => hh ⟨c, hc, ?_⟩⟩)
      unfold pw
      rw [if_neg h1]
      rfl
    rw [hn, if_pos rfl, if_neg (by omega)]
theorem parts_all : ∀ (N : Nat) (c : Cn) (m : Nat) (l : Int), c.lev ≤ N → c.ok → 0 ≤ l → 3 * c.lev + 3 ≤ m → Rt (hd (calls tab m) 9 [((c.toD, 0), false), ((.int l, 0), false)]) (Is (.int (pw c l)))
  | 0, c, m, l, h, _, _, _ => by have := lev_pos c; omega
  | N + 1, c, m, l, h, ho, hl, hm => by
    obtain ⟨k, rfl⟩ : ∃ k, m = k + 3 := ⟨m - 3, by omega⟩
    by_cases h0 : l = 0
    · subst h0
      have : pw c 0 = 0 := by unfold pw; rw [if_neg]; have := lev_pos c; omega
      rw [this]
      exact parts_none
    · have hp : 0 < l := by omega
      have leaf : (∀ cs, c ≠ .an cs ∧ c ≠ .or cs) → c.lev = 1 → c.parts = 1 → Rt (hd (calls tab (k + 3)) 9 [((c.toD, 0), false), ((.int l, 0), false)]) (Is (.int (pw c l))) := fun h1 h2 h3 => by
        have : pw c l = 1 := by unfold pw; rw [h2, h3, if_pos (by omega)]; rfl
        rw [this]
        exact parts_leaf hp ho h1
      have hb : (l == 0) = false := by simp; omega
      have go : ∀ cs : List Cn, oks cs → c.lev = 1 + levs cs → Rt (hd (calls tab k) 9 []) (fun _ _ => True) ∨ ∀ x ∈ cs, Rt (hd (calls tab (k + 1)) 9 [((x.toD, 0), false), ((.int (l - 1), 0), false)]) (Is (.int (pw x (l - 1)))) := fun cs ho2 he => Or.inr fun x hx => by
        have := lev_le hx
        exact parts_all N x (k + 1) (l - 1) (by omega) (ok_mem ho2 hx) (by omega) (by omega)
      cases c with
      | gr s g => exact leaf (fun cs => ⟨by simp, by simp⟩) rfl rfl
      | pt p => exact leaf (fun cs => ⟨by simp, by simp⟩) rfl rfl
      | an cs =>
        have hh : ∀ x ∈ cs, Rt (hd (calls tab (k + 1)) 9 [((x.toD, 0), false), ((.int (l - 1), 0), false)]) (Is (.int (pw x (l - 1)))) := fun x hx => by
          have := lev_le hx
          simp only [Cn.lev] at h hm
          exact parts_all N x (k + 1) (l - 1) (by omega) (ok_mem ho hx) (by omega) (by omega)
        refine rt_call rfl rfl (by simp) (by simp) ?_
        show Ev (f_parts_of (calls tab (k + 2)) [some (.tup [.str (PySem.Str.ofString "and"), .tup (toDs cs)], 0), some (.int l, 0)]) (Rp [false, false] (Is (.int (pw (.an cs) l))))
        simp [f_parts_of, D.isTup, hb]
        rw [ev_callV]
        simp [fill, pick, back, toDs_map]
        refine rt_mono (many_ok hh) ?_
        rintro w outs ⟨rfl, rfl⟩
        rw [many_eq hp]
        simp [back, outsOf]
        exact ⟨rfl, rfl⟩
      | or cs =>
        have hh : ∀ x ∈ cs, Rt (hd (calls tab (k + 1)) 9 [((x.toD, 0), false), ((.int (l - 1), 0), false)]) (Is (.int (pw x (l - 1)))) := fun x hx => by
          have := lev_le hx
          simp only [Cn.lev] at h hm
          exact parts_all N x (k + 1) (l - 1) (by omega) (ok_mem ho hx) (by omega) (by omega)
        refine rt_call rfl rfl (by simp) (by simp) ?_
        show Ev (f_parts_of (calls tab (k + 2)) [some (.tup [.str (PySem.Str.ofString "or"), .tup (toDs cs)], 0), some (.int l, 0)]) (Rp [false, false] (Is (.int (pw (.or cs) l))))
        simp [f_parts_of, D.isTup, hb]
        rw [ev_callV]
        simp [fill, pick, back, toDs_map]
        refine rt_mono (many_ok hh) ?_
        rintro w outs ⟨rfl, rfl⟩
        rw [many_eq hp]
        simp [back, outsOf]
        exact ⟨rfl, rfl⟩
theorem check_ok {m : Nat} {c : Cn} (ho : c.ok) (hm : 3 * c.lev + 4 ≤ m) : Rt (hd (calls tab m) 10 [((c.toD, 0), false)]) (Is (.bl (decide (c.lev ≤ 6 ∧ c.parts ≤ 20)))) := by
  obtain ⟨k, rfl⟩ : ∃ k, m = k + 1 := ⟨m - 1, by omega⟩
  refine rt_call rfl rfl (by simp) (by simp) ?_
  show Ev (f_check_condition (calls tab k) [some (c.toD, 0)]) (Rp [false] (Is (.bl (decide (c.lev ≤ 6 ∧ c.parts ≤ 20)))))
  simp [f_check_condition]
  rw [ev_callV]
  simp [fill, pick, back]
  refine rt_mono (parts_all c.lev c k 6 (by omega) ho (by omega) (by omega)) ?_
  rintro w outs ⟨rfl, rfl⟩
  have := parts_pos c
  by_cases h6 : c.lev ≤ 6
  · have : pw c 6 = c.parts := by unfold pw; rw [if_pos (by omega)]
    have h1 : (1 : Int) ≤ c.parts := by omega
    simp [back, this, h1, outsOf, h6]
    refine ⟨?_, rfl⟩
    congr 3
    simp
    omega
  · have : pw c 6 = 0 := by unfold pw; rw [if_neg (by omega)]
    simp [back, this, outsOf, h6]
    exact ⟨rfl, rfl⟩
end Q.K80
end
section
set_option Elab.async false
set_option linter.all false
set_option maxRecDepth 100000
set_option maxHeartbeats 4000000
namespace Q.K80
/-- comprehensions of known items: the slots stay -/
theorem ev_quitM {α : Type} {q : Bool} {f : D → Env → R (Option D)} {ρ : Env} (g : α → D) (v : α → Bool) : ∀ {xs : List α} {P : Bool → Env → Prop}, (∀ x ∈ xs, Ev (f (g x) ρ) fun o ρ' => o = some (.bl (v x)) ∧ ρ' = ρ) → P (if xs.any (fun x => v x == q) then q else !q) ρ → Ev (quitG q f (xs.map g) ρ) P
  | [], P, _, h => h
  | d :: ds, P, hs, h => by
    show Ev (bd (f (g d) ρ) _) P
    rw [ev_bd]
    refine ev_mono (hs d List.mem_cons_self) fun o ρ' ⟨h1, h2⟩ => ?_
    subst h1 h2
    dsimp only
    by_cases hk : v d = q
    · rw [if_pos hk]
      rw [List.any_cons, show (v d == q) = true by simpa using hk, Bool.true_or, if_pos rfl] at h
      exact h
    · rw [if_neg hk]
      rw [List.any_cons, show (v d == q) = false by simpa using hk, Bool.false_or] at h
      exact ev_quitM g v (fun d hd => hs d (List.mem_cons_of_mem _ hd)) h
theorem ev_lcM {α : Type} {f : D → Env → R (Option D)} {ρ : Env} (g v : α → D) : ∀ {xs : List α} {P : List D → Env → Prop}, (∀ x ∈ xs, Ev (f (g x) ρ) fun o ρ' => o = some (v x) ∧ ρ' = ρ) → P (xs.map v) ρ → Ev (lcL f (xs.map g) ρ) P
  | [], P, _, h => h
  | d :: ds, P, hs, h => by
    show Ev (bd (f (g d) ρ) _) P
    rw [ev_bd]
    refine ev_mono (hs d List.mem_cons_self) fun o ρ' ⟨h1, h2⟩ => ?_
    subst h1 h2
    rw [ev_bd]
    exact ev_lcM g v (fun d hd => hs d (List.mem_cons_of_mem _ hd)) h
theorem ev_lcF {α : Type} {f : D → Env → R (Option D)} {ρ : Env} (g v : α → D) (t : α → Bool) : ∀ {xs : List α} {P : List D → Env → Prop}, (∀ x ∈ xs, Ev (f (g x) ρ) fun o ρ' => o = (if t x then some (v x) else none) ∧ ρ' = ρ) → P ((xs.filter t).map v) ρ → Ev (lcL f (xs.map g) ρ) P
  | [], P, _, h => h
  | d :: ds, P, hs, h => by
    show Ev (bd (f (g d) ρ) _) P
    rw [ev_bd]
    refine ev_mono (hs d List.mem_cons_self) fun o ρ' ⟨h1, h2⟩ => ?_
    subst h2
    rw [ev_bd]
    subst h1
    cases ht : t d with
    | true =>
      rw [List.filter_cons, if_pos ht] at h
      exact ev_lcF g v t (fun d hd => hs d (List.mem_cons_of_mem _ hd)) h
    | false =>
      rw [List.filter_cons, if_neg (by simp [ht])] at h
      exact ev_lcF g v t (fun d hd => hs d (List.mem_cons_of_mem _ hd)) h
theorem ev_sumM {α : Type} {f : D → Env → R (Option D)} {ρ : Env} (g : α → D) (v : α → Int) : ∀ {xs : List α} {n : Int} {P : Int → Env → Prop}, (∀ x ∈ xs, Ev (f (g x) ρ) fun o ρ' => o = some (.int (v x)) ∧ ρ' = ρ) → (∀ x ∈ xs, 0 ≤ v x) → 0 ≤ n → n + (xs.map v).sum < 2 ^ 62 → P (n + (xs.map v).sum) ρ → Ev (sumG f (xs.map g) n ρ) P
  | [], n, P, _, _, _, _, h => by simpa [sumG] using h
  | d :: ds, n, P, hs, hz, h0, hl, h => by
    show Ev (bd (f (g d) ρ) _) P
    rw [ev_bd]
    refine ev_mono (hs d List.mem_cons_self) fun o ρ' ⟨h1, h2⟩ => ?_
    subst h1 h2
    dsimp only
    have hd := hz d List.mem_cons_self
    have hpos : 0 ≤ (ds.map v).sum := by
      have : ∀ l : List α, (∀ d ∈ l, 0 ≤ v d) → 0 ≤ (l.map v).sum := fun l => by
        induction l with
        | nil => intro _; simp
        | cons x r ih => intro hx; rw [List.map_cons, List.sum_cons]; have := hx x List.mem_cons_self; have := ih fun d hd => hx d (List.mem_cons_of_mem _ hd); omega
      exact this ds fun d hd => hz d (List.mem_cons_of_mem _ hd)
    rw [List.map_cons, List.sum_cons] at hl h
    rw [if_pos ⟨⟨by omega, by omega⟩, by omega, by omega⟩]
    exact ev_sumM g v (fun d hd => hs d (List.mem_cons_of_mem _ hd)) (fun d hd => hz d (List.mem_cons_of_mem _ hd)) (by omega) (by omega) (by rw [Int.add_assoc]; exact h)
theorem item_at {gs : List Int} {n : Nat} {i : Int} (h0 : 0 ≤ i) (h : i < gs.length) : item (.lst (gs.map D.int), n) (.int i) = some (.int (gs.getD i.toNat 0), 0) := by
  obtain ⟨c, h1, h2⟩ := item_ints (n := n) h0 h
  rw [h1, List.getD_eq_getElem?_getD, h2]
  rfl
theorem item_atT {gs : List Int} {n : Nat} {i : Int} (h0 : 0 ≤ i) (h : i < gs.length) : item (.tup (gs.map D.int), n) (.int i) = some (.int (gs.getD i.toNat 0), 0) := by
  have hk : i.toNat < gs.length := by omega
  rw [item_tup (k := i.toNat) (d := .int gs[i.toNat]) (ixOf_nat h0 (by simpa using h)) (by rw [List.getElem?_map, List.getElem?_eq_getElem hk]; rfl), List.getD_eq_getElem?_getD, List.getElem?_eq_getElem hk]
  rfl
theorem holdA_eq {gs : List Int} {t : Int} : ∀ {cs : List Cn}, (if cs.any (fun x => x.hold gs t == false) then false else !false) = holdA gs t cs
  | [] => rfl
  | a :: r => by
    have ih := holdA_eq (gs := gs) (t := t) (cs := r)
    rw [List.any_cons, holdA, ← ih]
    cases a.hold gs t <;> simp
theorem holdO_eq {gs : List Int} {t : Int} : ∀ {cs : List Cn}, (if cs.any (fun x => x.hold gs t == true) then true else !true) = holdO gs t cs
  | [] => rfl
  | a :: r => by
    have ih := holdO_eq (gs := gs) (t := t) (cs := r)
    rw [List.any_cons, holdO, ← ih]
    cases a.hold gs t <;> simp
theorem holds_in_ok {gs : List Int} {t : Int} (hg : gs.length = 8) : ∀ (N : Nat) (c : Cn) (m : Nat), c.lev ≤ N → c.ok → c.lev ≤ m → Rt (hd (calls tab m) 3 [((c.toD, 0), false), ((.lst (gs.map D.int), 0), false), ((.int t, 0), false)]) (Is (.bl (c.hold gs t)))
  | 0, c, m, h, _, _ => by have := lev_pos c; omega
  | N + 1, c, m, h, ho, hm => by
    obtain ⟨k, rfl⟩ : ∃ k, m = k + 1 := ⟨m - 1, by have := lev_pos c; omega⟩
    cases c with
    | gr s g =>
      refine rt_call rfl rfl (by simp) (by simp) ?_
      show Ev (f_holds_in (calls tab k) [some (.tup [.str (PySem.Str.ofString "grade"), .int s, .int g], 0), some (.lst (gs.map D.int), 0), some (.int t, 0), none, none]) (Rp [false, false, false] (Is (.bl (Cn.hold gs t (.gr s g)))))
      have e := item_at (gs := gs) (n := 0) (i := s) ho.1 (by rw [hg]; exact ho.2.1)
      simp [f_holds_in, e, outsOf]
      exact ⟨rfl, rfl⟩
    | pt p =>
      refine rt_call rfl rfl (by simp) (by simp) ?_
      show Ev (f_holds_in (calls tab k) [some (.tup [.str (PySem.Str.ofString "points"), .int p], 0), some (.lst (gs.map D.int), 0), some (.int t, 0), none, none]) (Rp [false, false, false] (Is (.bl (Cn.hold gs t (.pt p)))))
      simp [f_holds_in, outsOf]
      exact ⟨rfl, rfl⟩
    | an cs =>
      refine rt_call rfl rfl (by simp) (by simp) ?_
      show Ev (f_holds_in (calls tab k) [some (.tup [.str (PySem.Str.ofString "and"), .tup (toDs cs)], 0), some (.lst (gs.map D.int), 0), some (.int t, 0), none, none]) (Rp [false, false, false] (Is (.bl (Cn.hold gs t (.an cs)))))
      simp [f_holds_in, toDs_map, itemsR, items, rowOf, wip]
      refine ev_quitM Cn.toD (fun x => x.hold gs t) (fun x hx => ?_) ?_
      · simp [eltV]
        rw [ev_callV]
        simp [fill, pick, back]
        have := lev_le hx
        simp only [Cn.lev] at h hm
        refine rt_mono (holds_in_ok hg N x k (by omega) (ok_mem ho hx) (by omega)) ?_
        rintro w outs ⟨rfl, rfl⟩
        simp [back, wip]
      · rw [holdA_eq]
        simp [rst, keepW, outsOf]
        exact ⟨rfl, rfl⟩
    | or cs =>
      refine rt_call rfl rfl (by simp) (by simp) ?_
      show Ev (f_holds_in (calls tab k) [some (.tup [.str (PySem.Str.ofString "or"), .tup (toDs cs)], 0), some (.lst (gs.map D.int), 0), some (.int t, 0), none, none]) (Rp [false, false, false] (Is (.bl (Cn.hold gs t (.or cs)))))
      simp [f_holds_in, toDs_map, itemsR, items, rowOf, wip]
      refine ev_quitM Cn.toD (fun x => x.hold gs t) (fun x hx => ?_) ?_
      · simp [eltV]
        rw [ev_callV]
        simp [fill, pick, back]
        have := lev_le hx
        simp only [Cn.lev] at h hm
        refine rt_mono (holds_in_ok hg N x k (by omega) (ok_mem ho hx) (by omega)) ?_
        rintro w outs ⟨rfl, rfl⟩
        simp [back, wip]
      · rw [holdO_eq]
        simp [rst, keepW, outsOf]
        exact ⟨rfl, rfl⟩
end Q.K80
end
section
set_option Elab.async false
set_option linter.all false
set_option maxRecDepth 100000
set_option maxHeartbeats 4000000
namespace Q.K80
abbrev Res := List (Int × Int)
def Good (r : Res) : Prop := (∀ p ∈ r, 0 ≤ p.1 ∧ p.1 < 8 ∧ 0 ≤ p.2 ∧ p.2 ≤ 6) ∧ r.Pairwise (fun a b => a.1 < b.1)
/-- the grade in a subject -/
def look : Res → Int → Int
  | [], _ => -1
  | p :: r, s => if p.1 = s then p.2 else look r s
def put (g : List Int) (p : Int × Int) : List Int := g.set p.1.toNat p.2
def gsF (g : List Int) (r : Res) : List Int := r.foldl put g
def g0 : List Int := List.replicate 8 (-1)
theorem g0_len : g0.length = 8 := rfl
def gsOf (r : Res) : List Int := gsF g0 r
theorem look_none : ∀ {r : Res} {s : Int}, (∀ p ∈ r, p.1 ≠ s) → look r s = -1
  | [], _, _ => rfl
  | p :: r, s, h => by
    unfold look
    rw [if_neg (h p List.mem_cons_self)]
    exact look_none fun q hq => h q (List.mem_cons_of_mem _ hq)
theorem gsF_len : ∀ {r : Res} {g : List Int}, (gsF g r).length = g.length
  | [], _ => rfl
  | p :: r, g => by
    show (gsF (put g p) r).length = _
    rw [gsF_len]
    simp [put]
theorem gsF_at : ∀ {r : Res} {g : List Int} {s : Int}, Good r → g.length = 8 → 0 ≤ s → s < 8 → (gsF g r).getD s.toNat 0 = if (∃ p ∈ r, p.1 = s) then look r s else g.getD s.toNat 0
  | [], g, s, _, _, _, _ => by simp [gsF]
  | p :: r, g, s, hg, hl, h0, h8 => by
    obtain ⟨hm, hp⟩ := hg
    rw [List.pairwise_cons] at hp
    have hr : Good r := ⟨fun q hq => hm q (List.mem_cons_of_mem _ hq), hp.2⟩
    show (gsF (put g p) r).getD s.toNat 0 = _
    rw [gsF_at hr (by simp [put, hl]) h0 h8]
    by_cases he : p.1 = s
    · have hn : ¬ ∃ q ∈ r, q.1 = s := fun ⟨q, hq, e⟩ => by
        have := hp.1 q hq
        omega
      rw [if_neg hn, if_pos ⟨p, List.mem_cons_self, he⟩]
      subst he
      have hlt : p.1.toNat < g.length := by omega
      simp [put, look, hlt]
    · have hne : p.1.toNat ≠ s.toNat := by
        have := hm p List.mem_cons_self
        omega
      have : (∃ q ∈ p :: r, q.1 = s) ↔ ∃ q ∈ r, q.1 = s := by simp [he]
      simp only [this]
      simp [put, look, he, List.getElem?_set, hne]
theorem gsOf_at {r : Res} {s : Int} (hg : Good r) (h0 : 0 ≤ s) (h8 : s < 8) : (gsOf r).getD s.toNat 0 = look r s := by
  unfold gsOf
  rw [gsF_at hg g0_len h0 h8]
  split
  · rfl
  · next h =>
    rw [look_none fun p hp e => h ⟨p, hp, e⟩]
    have : s.toNat < 8 := by omega
    show (List.replicate 8 (-1 : Int)).getD s.toNat 0 = -1
    rw [List.getD_eq_getElem?_getD, List.getElem?_replicate, if_pos this]
    rfl
theorem look_mem : ∀ {r : Res} {p : Int × Int}, Good r → p ∈ r → look r p.1 = p.2
  | q :: r, p, hg, h => by
    obtain ⟨hm, hp⟩ := hg
    rw [List.pairwise_cons] at hp
    have hr : Good r := ⟨fun q hq => hm q (List.mem_cons_of_mem _ hq), hp.2⟩
    rcases List.mem_cons.mp h with rfl | h
    · simp [look]
    · have := hp.1 p h
      rw [look, if_neg (by omega)]
      exact look_mem hr h
theorem mem_look : ∀ {r : Res} {s : Int}, 0 ≤ look r s → ∃ p ∈ r, p.1 = s ∧ p.2 = look r s
  | [], s, h => by simp [look] at h
  | q :: r, s, h => by
    by_cases e : q.1 = s
    · exact ⟨q, List.mem_cons_self, e, by simp [look, e]⟩
    · rw [look, if_neg e] at h ⊢
      obtain ⟨p, hp, h1, h2⟩ := mem_look h
      exact ⟨p, List.mem_cons_of_mem _ hp, h1, h2⟩
def Under (a b : Res) : Prop := ∀ p ∈ a, p.2 ≤ look b p.1
instance {a b : Res} : Decidable (Under a b) := by unfold Under; infer_instance
theorem under_refl {a : Res} (h : Good a) : Under a a := fun p hp => by rw [look_mem h hp]; exact Int.le_refl _
theorem under_trans {a b c : Res} (ha : Good a) (h1 : Under a b) (h2 : Under b c) : Under a c := fun p hp => by
  have h3 := h1 p hp
  have h4 := (ha.1 p hp).2.2.1
  obtain ⟨q, hq, e1, e2⟩ := mem_look (r := b) (s := p.1) (by omega)
  have := h2 q hq
  rw [e1] at this
  omega
theorem eq_of_mem : ∀ {a b : Res}, a.Pairwise (fun x y => x.1 < y.1) → b.Pairwise (fun x y => x.1 < y.1) → (∀ p, p ∈ a ↔ p ∈ b) → a = b
  | [], [], _, _, _ => rfl
  | [], q :: b, _, _, h => by simpa using (h q).mpr List.mem_cons_self
  | p :: a, [], _, _, h => by simpa using (h p).mp List.mem_cons_self
  | p :: a, q :: b, ha, hb, h => by
    rw [List.pairwise_cons] at ha hb
    have h1 := (h p).mp List.mem_cons_self
    have h2 := (h q).mpr List.mem_cons_self
    have e : p = q := by
      rcases List.mem_cons.mp h1 with e | h1
      · exact e
      · rcases List.mem_cons.mp h2 with e | h2
        · exact e.symm
        · have := ha.1 q h2
          have := hb.1 p h1
          omega
    subst e
    congr 1
    refine eq_of_mem ha.2 hb.2 fun x => ⟨fun hx => ?_, fun hx => ?_⟩
    · rcases List.mem_cons.mp ((h x).mp (List.mem_cons_of_mem _ hx)) with e | h3
      · subst e
        have := ha.1 x hx
        omega
      · exact h3
    · rcases List.mem_cons.mp ((h x).mpr (List.mem_cons_of_mem _ hx)) with e | h3
      · subst e
        have := hb.1 x hx
        omega
      · exact h3
theorem under_mem {a b : Res} (ha : Good a) (hb : Good b) (h1 : Under a b) (h2 : Under b a) {p : Int × Int} (hp : p ∈ a) : p ∈ b := by
  have h3 := h1 p hp
  have h4 := (ha.1 p hp).2.2.1
  obtain ⟨q, hq, e1, e2⟩ := mem_look (r := b) (s := p.1) (by omega)
  have h5 := h2 q hq
  rw [e1, look_mem ha hp] at h5
  have : q = p := Prod.ext e1 (by omega)
  rw [← this]
  exact hq
theorem under_anti {a b : Res} (ha : Good a) (hb : Good b) (h1 : Under a b) (h2 : Under b a) : a = b := eq_of_mem ha.2 hb.2 fun p => ⟨under_mem ha hb h1 h2, under_mem hb ha h2 h1⟩
/-- points -/
def ptOf (pts : List Int) (g : Int) : Int := pts.getD g.toNat 0
def ptSum (pts : List Int) (r : Res) : Int := (r.map fun p => ptOf pts p.2).sum
def manyOf (r : Res) (S : List Int) (g : Int) : Nat := (r.filter fun p => decide (p.1 ∈ S) && decide (g ≤ p.2)).length
theorem many_three : ∀ {r : Res} {x y z g : Int}, Good r → 0 ≤ g → x ≠ y → x ≠ z → y ≠ z → (manyOf r [x, y, z] g) = (if g ≤ look r x then 1 else 0) + (if g ≤ look r y then 1 else 0) + (if g ≤ look r z then 1 else 0)
  | [], x, y, z, g, _, h, _, _, _ => by
    have : ¬ g ≤ -1 := by omega
    simp [manyOf, look, this]
  | p :: r, x, y, z, g, hg, h, h1, h2, h3 => by
    obtain ⟨hm, hp⟩ := hg
    rw [List.pairwise_cons] at hp
    have hr : Good r := ⟨fun q hq => hm q (List.mem_cons_of_mem _ hq), hp.2⟩
    have ih := many_three (x := x) (y := y) (z := z) hr h h1 h2 h3
    have hn : look r p.1 = -1 := look_none fun q hq e => by
      have := hp.1 q hq
      omega
    have hng : ¬ g ≤ -1 := by omega
    have hc : manyOf (p :: r) [x, y, z] g = (if (p.1 = x ∨ p.1 = y ∨ p.1 = z) ∧ g ≤ p.2 then 1 else 0) + manyOf r [x, y, z] g := by
      unfold manyOf
      rw [List.filter_cons]
      by_cases hh : (p.1 = x ∨ p.1 = y ∨ p.1 = z) ∧ g ≤ p.2
      · rw [if_pos hh, if_pos (by simpa using hh)]; simp; omega
      · rw [if_neg hh, if_neg (by simpa using hh)]; simp
    rw [hc, ih]
    by_cases e1 : p.1 = x
    · subst e1
      rw [hn]
      simp only [look, if_true, if_neg h1, if_neg h2, if_neg hng]
      by_cases hp2 : g ≤ p.2 <;> simp [hp2] <;> omega
    · by_cases e2 : p.1 = y
      · subst e2
        rw [hn]
        simp only [look, if_true, if_neg e1, if_neg h3, if_neg hng]
        by_cases hp2 : g ≤ p.2 <;> simp [hp2] <;> omega
      · by_cases e3 : p.1 = z
        · subst e3
          rw [hn]
          simp only [look, if_true, if_neg e1, if_neg e2, if_neg hng]
          by_cases hp2 : g ≤ p.2 <;> simp [hp2] <;> omega
        · simp [look, e1, e2, e3]

theorem good_len' : ∀ {r : Res} {a : Int}, 0 ≤ a → a ≤ 8 → (∀ p ∈ r, a ≤ p.1 ∧ p.1 < 8) → r.Pairwise (fun x y => x.1 < y.1) → (r.length : Int) ≤ 8 - a
  | [], a, h0, h8, _, _ => by simp; omega
  | p :: r, a, h0, h8, hm, hp => by
    rw [List.pairwise_cons] at hp
    have h1 := hm p List.mem_cons_self
    have ih := good_len' (r := r) (a := p.1 + 1) (by omega) (by omega) (fun q hq => ⟨by have := hp.1 q hq; omega, (hm q (List.mem_cons_of_mem _ hq)).2⟩) hp.2
    simp only [List.length_cons]
    omega
theorem good_len {r : Res} (h : Good r) : r.length ≤ 8 := by
  have := good_len' (a := 0) (by omega) (by omega) (fun p hp => ⟨(h.1 p hp).1, (h.1 p hp).2.1⟩) h.2
  omega
theorem sum_bound {α : Type} {v : α → Int} {b : Int} : ∀ {l : List α}, (∀ x ∈ l, 0 ≤ v x ∧ v x ≤ b) → 0 ≤ (l.map v).sum ∧ (l.map v).sum ≤ b * l.length
  | [], _ => by simp
  | x :: r, h => by
    have h1 := h x List.mem_cons_self
    have ih := sum_bound (l := r) fun y hy => h y (List.mem_cons_of_mem _ hy)
    rw [List.map_cons, List.sum_cons, List.length_cons]
    have : b * ((r.length + 1 : Nat) : Int) = b * r.length + b := by
      rw [Int.natCast_add, Int.mul_add]; simp
    omega
theorem good_cons {p : Int × Int} {r : Res} (h : Good (p :: r)) : Good r := ⟨fun q hq => h.1 q (List.mem_cons_of_mem _ hq), (List.pairwise_cons.mp h.2).2⟩
end Q.K80
end
section
set_option Elab.async false
set_option linter.all false
set_option maxRecDepth 100000
set_option maxHeartbeats 4000000
namespace Q.K80
def pD (p : Int × Int) : D := .tup [.int p.1, .int p.2]
def rD (r : Res) : D := .tup (r.map pD)
/-- points of grades: seven numbers from 0 to 60 -/
def Pts (pts : List Int) : Prop := pts.length = 7 ∧ ∀ x ∈ pts, 0 ≤ x ∧ x ≤ 60
theorem pts_at {pts : List Int} (h : Pts pts) {g : Int} (h0 : 0 ≤ g) (h6 : g ≤ 6) : 0 ≤ ptOf pts g ∧ ptOf pts g ≤ 60 := by
  have hk : g.toNat < pts.length := by rw [h.1]; omega
  unfold ptOf
  rw [List.getD_eq_getElem?_getD, List.getElem?_eq_getElem hk]
  exact h.2 _ (List.getElem_mem hk)
theorem points_ok {n : Nat} {pts : List Int} {r : Res} (hp : Pts pts) (hr : Good r) : Rt (hd (calls tab (n + 1)) 1 [((.tup (pts.map D.int), 0), false), ((rD r, 0), false)]) (Is (.int (ptSum pts r))) := by
  refine rt_call rfl rfl (by simp) (by simp) ?_
  show Ev (f_points_of (calls tab n) [some (.tup (pts.map D.int), 0), some (.tup (r.map pD), 0), none, none]) (Rp [false, false] (Is (.int (ptSum pts r))))
  simp [f_points_of, wip]
  have hb := sum_bound (l := r) (v := fun p => ptOf pts p.2) (b := 60) fun p hm => pts_at hp (hr.1 p hm).2.2.1 (hr.1 p hm).2.2.2
  have hl := good_len hr
  refine ev_sumM pD (fun p => ptOf pts p.2) (fun p hm => ?_) (fun p hm => (pts_at hp (hr.1 p hm).2.2.1 (hr.1 p hm).2.2.2).1) (by omega) (by omega) ?_
  · have e := item_atT (gs := pts) (n := 0) (i := p.2) (hr.1 p hm).2.2.1 (by rw [hp.1]; have := (hr.1 p hm).2.2.2; omega)
    simp [eltV, pD, e, wip, ptOf]
  · simp [rst, keepW, outsOf]
    exact ⟨rfl, rfl⟩
theorem gsF_snoc {g : List Int} {r : Res} {p : Int × Int} : gsF g (r ++ [p]) = put (gsF g r) p := by simp [gsF]
theorem grades_ok {n : Nat} {r : Res} (hr : Good r) : Rt (hd (calls tab (n + 1)) 2 [((rD r, 0), false)]) (fun w outs => w = (.lst ((gsOf r).map D.int), 1) ∧ outs = []) := by
  refine rt_call rfl rfl (by simp) (by simp) ?_
  show Ev (f_grades_of (calls tab n) [some (.tup (r.map pD), 0), none, none, none]) (Rp [false] (fun w outs => w = (.lst ((gsOf r).map D.int), 1) ∧ outs = []))
  have e0 : mulW (.lst [.int (-1)], 1) (.int 8, 0) = some (.lst (g0.map D.int), 1) := by
    simp [mulW, line, g0]
  have e1 : (1 : Nat) ≤ line := by unfold line; omega
  simp only [f_grades_of, thenS_e, asgS_e, binV_e, lstV_e, consV_e, coV_e, negV_e, cV_e, okNil_eq, ev_bd, ev_ok, co_int, co_0, List.length_cons, List.length_nil, List.map_cons, List.map_nil, Nat.zero_add, e1, if_true, e0, gN_e, Nat.lt_irrefl]
  simp
  refine ev_for (fun k ρ => ∃ y z, ρ = [some (.tup (r.map pD), 0), some (.lst ((gsF g0 (r.take k)).map D.int), 1), y, z]) ⟨none, none, by simp [gsF]⟩ ?_ ?_
  · rintro k d ρ hd ⟨y, z, rfl⟩
    rw [List.getElem?_map] at hd
    obtain ⟨p, hp, rfl⟩ := Option.map_eq_some_iff.mp hd
    have hm := hr.1 p (List.mem_of_getElem? hp)
    have ht : r.take (k + 1) = r.take k ++ [p] := by rw [List.take_add_one, hp]; rfl
    have hl : (gsF g0 (r.take k)).length = 8 := by rw [gsF_len]; rfl
    have hx : ixOf 8 p.1 = some p.1.toNat := ixOf_nat (n := 8) hm.1 (by omega)
    rw [ht, gsF_snoc]
    simp [pD, hl, hx, put]
  · rintro ρ ⟨y, z, rfl⟩
    simp [outsOf]
    exact rfl
theorem gsOf_len {r : Res} : (gsOf r).length = 8 := by unfold gsOf; rw [gsF_len]; rfl
theorem holds_ok {m : Nat} {pts : List Int} {c : Cn} {r : Res} (hp : Pts pts) (hr : Good r) (hc : c.ok) (hm : c.lev + 2 ≤ m) : Rt (hd (calls tab m) 4 [((.tup (pts.map D.int), 0), false), ((c.toD, 0), false), ((rD r, 0), false)]) (Is (.bl (c.hold (gsOf r) (ptSum pts r)))) := by
  obtain ⟨k, rfl⟩ : ∃ k, m = k + 2 := ⟨m - 2, by omega⟩
  refine rt_call rfl rfl (by simp) (by simp) ?_
  show Ev (f_holds (calls tab (k + 1)) [some (.tup (pts.map D.int), 0), some (c.toD, 0), some (rD r, 0)]) (Rp [false, false, false] (Is (.bl (c.hold (gsOf r) (ptSum pts r)))))
  simp [f_holds]
  rw [ev_callV]
  simp [fill, pick, back]
  rw [ev_callV]
  simp [fill, pick, back]
  refine rt_mono (grades_ok hr) ?_
  rintro w outs ⟨rfl, rfl⟩
  simp [back]
  rw [ev_callV]
  simp [fill, pick, back]
  refine rt_mono (points_ok hp hr) ?_
  rintro w outs ⟨rfl, rfl⟩
  simp [back]
  refine rt_mono (holds_in_ok gsOf_len c.lev c (k + 1) (by omega) hc (by omega)) ?_
  rintro w outs ⟨rfl, rfl⟩
  simp [back, outsOf]
  exact ⟨rfl, rfl⟩
theorem under_ok {n : Nat} {a b : Res} (ha : Good a) (hb : Good b) : Rt (hd (calls tab (n + 2)) 5 [((rD a, 0), false), ((rD b, 0), false)]) (Is (.bl (decide (Under a b)))) := by
  refine rt_call rfl rfl (by simp) (by simp) ?_
  show Ev (f_lies_under (calls tab (n + 1)) [some (.tup (a.map pD), 0), some (rD b, 0), none, none, none]) (Rp [false, false] (Is (.bl (decide (Under a b)))))
  simp [f_lies_under]
  rw [ev_callV]
  simp [fill, pick, back]
  refine rt_mono (grades_ok hb) ?_
  rintro w outs ⟨rfl, rfl⟩
  simp [back, wip]
  refine ev_quitM pD (fun p => decide (p.2 ≤ look b p.1)) (fun p hm => ?_) ?_
  · have h1 := ha.1 p hm
    have e := item_at (gs := gsOf b) (n := 0) (i := p.1) h1.1 (by rw [gsOf_len]; exact h1.2.1)
    rw [gsOf_at hb h1.1 h1.2.1] at e
    simp [eltV, pD, e, wip]
  · have e : (if a.any (fun x => decide (x.2 ≤ look b x.1) == false) then false else !false) = decide (Under a b) := by
      by_cases h : Under a b
      · have : a.any (fun x => decide (x.2 ≤ look b x.1) == false) = false := by
          rw [List.any_eq_false]
          intro x hx
          have := h x hx
          simp [this]
        rw [this]
        simp [h]
      · have : a.any (fun x => decide (x.2 ≤ look b x.1) == false) = true := by
          rw [List.any_eq_true]
          refine Classical.byContradiction fun hh => h fun p hp => Classical.byContradiction fun h1 => hh ⟨p, hp, by simp [h1]⟩
        rw [this]
        simp [h]
    rw [e]
    simp [rst, keepW, outsOf]
    exact ⟨rfl, rfl⟩
end Q.K80
end
section
set_option Elab.async false
set_option linter.all false
set_option maxRecDepth 100000
set_option maxHeartbeats 4000000
namespace Q.K80
theorem intsOf_map {α : Type} {f : α → Int} : ∀ {l : List α}, intsOf (l.map fun x => D.int (f x)) = some (l.map f)
  | [] => rfl
  | a :: r => by
    have ih := intsOf_map (f := f) (l := r)
    simp only [List.map_cons, intsOf, ih]
theorem intsOf_ints : ∀ {l : List Int}, intsOf (l.map D.int) = some l
  | [] => rfl
  | a :: r => by
    have ih := intsOf_ints (l := r)
    simp only [List.map_cons, intsOf, ih]
theorem mem_ints {i : Int} {l : List Int} : cop .mem (.int i) (.lst (l.map D.int)) = some (decide (i ∈ l)) := by
  have h : (l.map D.int).all (okD 63) = true := by simp
  show (if _ then _ else _) = _
  rw [h]
  simp
  rw [Bool.eq_iff_iff]
  simp
theorem sum_ok {n : Nat} {pts : List Int} {r : Res} (hp : Pts pts) (hr : Good r) : Rt (hd (calls tab (n + 1)) 16 [((.tup (pts.map D.int), 0), false), ((rD r, 0), false)]) (Is (.int (ptSum pts r))) := by
  refine rt_call rfl rfl (by simp) (by simp) ?_
  show Ev (f__law_sum (calls tab n) [some (.tup (pts.map D.int), 0), some (.tup (r.map pD), 0), none, none]) (Rp [false, false] (Is (.int (ptSum pts r))))
  simp [f__law_sum, wip]
  refine ev_lcM pD (fun p => .int (ptOf pts p.2)) (fun p hm => ?_) ?_
  · have e := item_atT (gs := pts) (n := 0) (i := p.2) (hr.1 p hm).2.2.1 (by rw [hp.1]; have := (hr.1 p hm).2.2.2; omega)
    simp [eltV, pD, e, wip, ptOf]
  · have hl : r.length ≤ line := by have := good_len hr; unfold line; omega
    simp [hl, rst, keepW, bltD, overInts, intsOf_map, outsOf]
    exact ⟨rfl, rfl⟩
theorem many_ok2 {n : Nat} {S : List Int} {g : Int} {r : Res} (hr : Good r) : Rt (hd (calls tab (n + 1)) 18 [((rD r, 0), false), ((.lst (S.map D.int), 0), false), ((.int g, 0), false)]) (Is (.int (manyOf r S g))) := by
  refine rt_call rfl rfl (by simp) (by simp) ?_
  show Ev (f__law_many (calls tab n) [some (.tup (r.map pD), 0), some (.lst (S.map D.int), 0), some (.int g, 0), none]) (Rp [false, false, false] (Is (.int (manyOf r S g))))
  simp [f__law_many, wip]
  refine ev_lcF pD (fun p => .int 1) (fun p => decide (p.1 ∈ S) && decide (g ≤ p.2)) (fun p hm => ?_) ?_
  · simp [eltV, pD, mem_ints, wip]
    by_cases h1 : p.1 ∈ S
    · by_cases h2 : g ≤ p.2 <;> simp [h1, h2]
    · simp [h1]
  · have h1 := List.length_filter_le (fun p : Int × Int => decide (p.1 ∈ S) && decide (g ≤ p.2)) r
    have hl : (r.filter (fun p : Int × Int => decide (p.1 ∈ S) && decide (g ≤ p.2))).length ≤ line := by have := good_len hr; unfold line; omega
    simp [hl, rst, keepW, outsOf]
    exact ⟨rfl, rfl⟩
theorem m_and : cop .mem (.str (PySem.Str.ofString "and")) (.tup [.str (PySem.Str.ofString "and"), .str (PySem.Str.ofString "or")]) = some true := by decide +kernel
theorem m_or : cop .mem (.str (PySem.Str.ofString "or")) (.tup [.str (PySem.Str.ofString "and"), .str (PySem.Str.ofString "or")]) = some true := by decide +kernel
theorem m_gr : cop .mem (.str (PySem.Str.ofString "grade")) (.tup [.str (PySem.Str.ofString "and"), .str (PySem.Str.ofString "or")]) = some false := by decide +kernel
theorem m_pt : cop .mem (.str (PySem.Str.ofString "points")) (.tup [.str (PySem.Str.ofString "and"), .str (PySem.Str.ofString "or")]) = some false := by decide +kernel
theorem two_line : (2 : Nat) ≤ line := by unfold line; omega
theorem partss_len : ∀ {cs : List Cn}, cs.length ≤ partss cs
  | [] => by simp [partss]
  | a :: r => by
    have := partss_len (cs := r)
    have := parts_pos a
    simp [partss]
    omega
theorem parts_mem : ∀ {cs : List Cn} {c : Cn}, c ∈ cs → c.parts ≤ partss cs
  | a :: r, c, h => by
    rcases List.mem_cons.mp h with rfl | h
    · simp [partss]
    · have := parts_mem h
      simp [partss]; omega
theorem partss_sum : ∀ {cs : List Cn}, (cs.map fun c => (c.parts : Int)).sum = partss cs
  | [] => rfl
  | a :: r => by
    have := partss_sum (cs := r)
    simp [partss, this]
theorem lawparts_ok : ∀ (N : Nat) (c : Cn) (m : Nat), c.lev ≤ N → c.lev ≤ m → c.parts ≤ 1000 → Rt (hd (calls tab m) 20 [((c.toD, 0), false)]) (Is (.int c.parts))
  | 0, c, m, h, _, _ => by have := lev_pos c; omega
  | N + 1, c, m, h, hm, hpp => by
    obtain ⟨k, rfl⟩ : ∃ k, m = k + 1 := ⟨m - 1, by have := lev_pos c; omega⟩
    cases c with
    | gr s g =>
      refine rt_call rfl rfl (by simp) (by simp) ?_
      show Ev (f__law_parts (calls tab k) [some (.tup [.str (PySem.Str.ofString "grade"), .int s, .int g], 0), none]) (Rp [false] (Is (.int 1)))
      simp [f__law_parts, two_line, m_gr, outsOf]
      exact ⟨rfl, rfl⟩
    | pt p =>
      refine rt_call rfl rfl (by simp) (by simp) ?_
      show Ev (f__law_parts (calls tab k) [some (.tup [.str (PySem.Str.ofString "points"), .int p], 0), none]) (Rp [false] (Is (.int 1)))
      simp [f__law_parts, two_line, m_pt, outsOf]
      exact ⟨rfl, rfl⟩
    | an cs =>
      refine rt_call rfl rfl (by simp) (by simp) ?_
      show Ev (f__law_parts (calls tab k) [some (.tup [.str (PySem.Str.ofString "and"), .tup (toDs cs)], 0), none]) (Rp [false] (Is (.int (1 + partss cs : Nat))))
      simp only [Cn.lev, Cn.parts] at h hm hpp
      simp [f__law_parts, two_line, m_and, toDs_map, itemsR, items, rowOf, wip]
      refine ev_lcM Cn.toD (fun x => .int x.parts) (fun x hx => ?_) ?_
      · simp [eltV]
        rw [ev_callV]
        simp [fill, pick, back]
        have := lev_le hx
        have := parts_mem hx
        refine rt_mono (lawparts_ok N x k (by omega) (by omega) (by omega)) ?_
        rintro w outs ⟨rfl, rfl⟩
        simp [back, wip]
      · have hl : cs.length ≤ line := by have := partss_len (cs := cs); unfold line; omega
        simp [hl, rst, keepW, bltD, overInts, intsOf_map, partss_sum, outsOf]
        exact ⟨rfl, rfl⟩
    | or cs =>
      refine rt_call rfl rfl (by simp) (by simp) ?_
      show Ev (f__law_parts (calls tab k) [some (.tup [.str (PySem.Str.ofString "or"), .tup (toDs cs)], 0), none]) (Rp [false] (Is (.int (1 + partss cs : Nat))))
      simp only [Cn.lev, Cn.parts] at h hm hpp
      simp [f__law_parts, two_line, m_or, toDs_map, itemsR, items, rowOf, wip]
      refine ev_lcM Cn.toD (fun x => .int x.parts) (fun x hx => ?_) ?_
      · simp [eltV]
        rw [ev_callV]
        simp [fill, pick, back]
        have := lev_le hx
        have := parts_mem hx
        refine rt_mono (lawparts_ok N x k (by omega) (by omega) (by omega)) ?_
        rintro w outs ⟨rfl, rfl⟩
        simp [back, wip]
      · have hl : cs.length ≤ line := by have := partss_len (cs := cs); unfold line; omega
        simp [hl, rst, keepW, bltD, overInts, intsOf_map, partss_sum, outsOf]
        exact ⟨rfl, rfl⟩
theorem maxI_levs : ∀ {cs : List Cn}, maxI (0 :: cs.map fun c => (c.lev : Int)) = some (levs cs : Int) ∧ (cs ≠ [] → maxI (cs.map fun c => (c.lev : Int)) = some (levs cs : Int))
  | [] => ⟨rfl, fun h => absurd rfl h⟩
  | a :: r => by
    have h2 : maxI ((a :: r).map fun c => (c.lev : Int)) = some (levs (a :: r) : Int) := by
      cases r with
      | nil => simp [maxI, levs]
      | cons b r =>
        have ih := (maxI_levs (cs := b :: r)).2 (by simp)
        rw [List.map_cons] at ih ⊢
        rw [List.map_cons]
        show ((maxI _).map _) = _
        rw [ih]
        simp [levs]
        split <;> omega
    refine ⟨?_, fun _ => h2⟩
    rw [List.map_cons] at h2 ⊢
    show ((maxI _).map _) = _
    rw [h2]
    simp
    have := lev_pos a
    simp [levs]
    omega
theorem lawlevels_ok : ∀ (N : Nat) (c : Cn) (m : Nat), c.lev ≤ N → c.lev ≤ m → c.parts ≤ 1000 → Rt (hd (calls tab m) 21 [((c.toD, 0), false)]) (Is (.int c.lev))
  | 0, c, m, h, _, _ => by have := lev_pos c; omega
  | N + 1, c, m, h, hm, hpp => by
    obtain ⟨k, rfl⟩ : ∃ k, m = k + 1 := ⟨m - 1, by have := lev_pos c; omega⟩
    have o_line : (1 : Nat) ≤ line := by unfold line; omega
    cases c with
    | gr s g =>
      refine rt_call rfl rfl (by simp) (by simp) ?_
      show Ev (f__law_levels (calls tab k) [some (.tup [.str (PySem.Str.ofString "grade"), .int s, .int g], 0), none]) (Rp [false] (Is (.int 1)))
      simp [f__law_levels, two_line, m_gr, outsOf]
      exact ⟨rfl, rfl⟩
    | pt p =>
      refine rt_call rfl rfl (by simp) (by simp) ?_
      show Ev (f__law_levels (calls tab k) [some (.tup [.str (PySem.Str.ofString "points"), .int p], 0), none]) (Rp [false] (Is (.int 1)))
      simp [f__law_levels, two_line, m_pt, outsOf]
      exact ⟨rfl, rfl⟩
    | an cs =>
      refine rt_call rfl rfl (by simp) (by simp) ?_
      show Ev (f__law_levels (calls tab k) [some (.tup [.str (PySem.Str.ofString "and"), .tup (toDs cs)], 0), none]) (Rp [false] (Is (.int (1 + levs cs : Nat))))
      simp only [Cn.lev, Cn.parts] at h hm hpp
      simp [f__law_levels, two_line, m_and, toDs_map, itemsR, items, rowOf, wip, o_line]
      refine ev_lcM Cn.toD (fun x => .int x.lev) (fun x hx => ?_) ?_
      · simp [eltV]
        rw [ev_callV]
        simp [fill, pick, back]
        have := lev_le hx
        have := parts_mem hx
        refine rt_mono (lawlevels_ok N x k (by omega) (by omega) (by omega)) ?_
        rintro w outs ⟨rfl, rfl⟩
        simp [back, wip]
      · have hl : cs.length ≤ line := by have := partss_len (cs := cs); unfold line; omega
        have hl2 : 1 + cs.length ≤ line := by have := partss_len (cs := cs); unfold line; omega
        have hx : intsOf (D.int 0 :: cs.map fun x => D.int x.lev) = some (0 :: cs.map fun x => (x.lev : Int)) := by rw [intsOf, intsOf_map]
        have hl3 : 1 + cs.length ≤ line := by omega
        simp [hl, hl3, rst, keepW, addW, bltD, overInts, hx, maxI_levs.1, outsOf]
        exact ⟨rfl, rfl⟩
    | or cs =>
      refine rt_call rfl rfl (by simp) (by simp) ?_
      show Ev (f__law_levels (calls tab k) [some (.tup [.str (PySem.Str.ofString "or"), .tup (toDs cs)], 0), none]) (Rp [false] (Is (.int (1 + levs cs : Nat))))
      simp only [Cn.lev, Cn.parts] at h hm hpp
      simp [f__law_levels, two_line, m_or, toDs_map, itemsR, items, rowOf, wip, o_line]
      refine ev_lcM Cn.toD (fun x => .int x.lev) (fun x hx => ?_) ?_
      · simp [eltV]
        rw [ev_callV]
        simp [fill, pick, back]
        have := lev_le hx
        have := parts_mem hx
        refine rt_mono (lawlevels_ok N x k (by omega) (by omega) (by omega)) ?_
        rintro w outs ⟨rfl, rfl⟩
        simp [back, wip]
      · have hl : cs.length ≤ line := by have := partss_len (cs := cs); unfold line; omega
        have hx : intsOf (D.int 0 :: cs.map fun x => D.int x.lev) = some (0 :: cs.map fun x => (x.lev : Int)) := by rw [intsOf, intsOf_map]
        have hl3 : 1 + cs.length ≤ line := by have := partss_len (cs := cs); unfold line; omega
        simp [hl, hl3, rst, keepW, addW, bltD, overInts, hx, maxI_levs.1, outsOf]
        exact ⟨rfl, rfl⟩
end Q.K80
end
section
set_option Elab.async false
set_option linter.all false
set_option maxRecDepth 100000
set_option maxHeartbeats 4000000
namespace Q.K80
theorem ins_perm {i : Int} : ∀ {l : List Int}, (insInt i l).Perm (i :: l)
  | [] => by simp [insInt]
  | j :: r => by
    unfold insInt
    split
    · exact List.Perm.refl _
    · exact ((ins_perm (i := i) (l := r)).cons j).trans (List.Perm.swap i j r)
theorem sort_perm : ∀ {l : List Int}, (sortInts l).Perm l
  | [] => List.Perm.refl _
  | i :: r => by
    show (insInt i (sortInts r)).Perm _
    exact ins_perm.trans ((sort_perm (l := r)).cons i)
theorem ins_sorted {i : Int} : ∀ {l : List Int}, l.Pairwise (· ≤ ·) → (insInt i l).Pairwise (· ≤ ·)
  | [], _ => by simp [insInt]
  | j :: r, h => by
    rw [List.pairwise_cons] at h
    unfold insInt
    split
    · next hle =>
      refine List.pairwise_cons.mpr ⟨fun x hx => ?_, List.pairwise_cons.mpr h⟩
      rcases List.mem_cons.mp hx with rfl | hx
      · exact hle
      · have := h.1 x hx; omega
    · next hle =>
      refine List.pairwise_cons.mpr ⟨fun x hx => ?_, ins_sorted h.2⟩
      rcases List.mem_cons.mp (ins_perm.mem_iff.mp hx) with rfl | hx
      · omega
      · exact h.1 x hx
theorem sort_sorted : ∀ {l : List Int}, (sortInts l).Pairwise (· ≤ ·)
  | [] => List.Pairwise.nil
  | i :: r => ins_sorted (sort_sorted (l := r))
theorem sort_strict {l : List Int} (h : l.Nodup) : (sortInts l).Pairwise (· < ·) := by
  have h1 := sort_sorted (l := l)
  have h2 : (sortInts l).Nodup := sort_perm.nodup_iff.mpr h
  have h3 := List.Pairwise.and h1 h2
  exact h3.imp fun {a b} ⟨x, y⟩ => by omega
def S8 : List Int := [0, 1, 2, 3, 4, 5, 6, 7]
def toI : D → Int
  | .int i => i
  | _ => 0
theorem tak_ints {S : List Int} {mi : Int} {w : W} {outs : List W} (h : TakP (S.map D.int) mi w outs) : ∃ (ys zs : List Int) (b' : W), (ys ++ zs).Perm S ∧ ys.length = mi.toNat ∧ w = (.lst (ys.map D.int), 1) ∧ outs = [b'] ∧ Bag b' := by
  obtain ⟨xs, left, b', hp, hl, rfl, rfl, hb⟩ := h
  have hx : ∀ x ∈ xs, (D.int (toI x)) = x := fun x hx => by
    have : x ∈ S.map D.int := hp.mem_iff.mp (List.mem_append_left _ hx)
    obtain ⟨i, _, rfl⟩ := List.mem_map.mp this
    rfl
  refine ⟨xs.map toI, left.map toI, b', ?_, by simp [hl], ?_, rfl, hb⟩
  · have := hp.map toI
    rw [List.map_append, List.map_map] at this
    have e : S.map (toI ∘ D.int) = S := by
      rw [show (toI ∘ D.int) = id from rfl, List.map_id]
    rw [e] at this
    exact this
  · congr 2
    rw [List.map_map]
    conv => lhs; rw [← List.map_id xs]
    exact List.map_congr_left fun x hx2 => (hx x hx2).symm
theorem five_line : (5 : Nat) ≤ line := by unfold line; omega
theorem e8 : (List.range 8).map (fun (k : Nat) => D.int (k : Int)) = S8.map D.int := rfl
def ResP (mi : Int) (w : W) (outs : List W) : Prop := ∃ r b', w = (rD r, 0) ∧ Good r ∧ (r.length : Int) = mi ∧ outs = [b'] ∧ Bag b'
def ResI (mi gr : Int) (ss : List Int) (k : Nat) (ρ : Env) : Prop := ∃ (b' : W) (r : Res) (y : Option W), ρ = [some b', some (.int mi, 0), some (.int gr, 0), some (.lst (r.map pD), 1), y] ∧ Bag b' ∧ r.map (·.1) = ss.take k ∧ ∀ p ∈ r, 0 ≤ p.2 ∧ p.2 ≤ 6
theorem result_ok {n : Nat} {b : W} {mi : Int} (h : Bag b) (h0 : 0 ≤ mi) (h8 : mi ≤ 8) : Rt (hd (calls tab (n + 4)) 17 [(b, true), ((.int mi, 0), false)]) (ResP mi) := by
  refine rt_call rfl rfl (by simp) (by simp) ?_
  show Ev (f__law_result (calls tab (n + 3)) [some b, some (.int mi, 0), none, none, none]) (Rp [true, false] (ResP mi))
  have el : (8 : Nat) ≤ line := by unfold line; omega
  simp only [f__law_result, thenS_e, par2V_e, consV_e, coV_e, ev_bd]
  rw [ev_callV]
  simp [fill, pick, back]
  refine rt_mono (n_ok h (by omega) (by omega)) ?_
  rintro w outs ⟨gr, b1, rfl, g0, g1, rfl, hb1⟩
  simp [back]
  rw [ev_callV]
  simp [fill, pick, back, rngD, el, e8]
  refine rt_mono (taken_ok hb1 h0 (by simp [S8]; omega) (by simp [S8])) ?_
  intro w outs ht
  obtain ⟨ys, zs, b2, hp, hl, rfl, rfl, hb2⟩ := tak_ints ht
  have hnd : ys.Nodup := (List.nodup_append.mp (hp.nodup_iff.mpr (by decide))).1
  have hmem : ∀ y ∈ ys, 0 ≤ y ∧ y < 8 := fun y hy => by
    have : y ∈ S8 := hp.mem_iff.mp (List.mem_append_left _ hy)
    simp [S8] at this
    omega
  simp [back, bltD, overInts, intsOf_ints]
  have hss := sort_strict hnd
  have hsm : ∀ y ∈ sortInts ys, 0 ≤ y ∧ y < 8 := fun y hy => hmem y (sort_perm.mem_iff.mp hy)
  have hsl : (sortInts ys).length = mi.toNat := by rw [sort_perm.length_eq, hl]
  generalize sortInts ys = ss at hss hsm hsl
  refine ev_for (ResI mi gr ss) ⟨b2, [], none, rfl, hb2, by simp, by simp⟩ ?_ ?_
  · rintro k d ρ hd ⟨b', r, y, rfl, hb', hk, hr⟩
    rw [List.getElem?_map] at hd
    obtain ⟨s, hs, rfl⟩ := Option.map_eq_some_iff.mp hd
    simp
    rw [ev_callV]
    simp
    rw [ev_callV]
    simp [fill, pick, back]
    refine rt_mono (n_ok hb' (by omega) (by omega)) ?_
    rintro w outs ⟨g2, b3, rfl, g20, g21, rfl, hb3⟩
    simp [back, five_line]
    refine rt_mono (pick_ok hb3 (by simp) (by simp)) ?_
    rintro w outs ⟨j, d, b4, hj, rfl, rfl, hb4⟩
    obtain ⟨q, rfl, q0, q6⟩ : ∃ q, d = .int q ∧ 0 ≤ q ∧ q ≤ 6 := by
      have := List.mem_of_getElem? hj
      simp at this
      rcases this with rfl | rfl | rfl | rfl
      · exact ⟨_, rfl, by omega, by omega⟩
      · exact ⟨_, rfl, by omega, by omega⟩
      · exact ⟨_, rfl, by omega, by omega⟩
      · exact ⟨_, rfl, by omega, by omega⟩
    have hlr : r.length ≤ k := by
      have := congrArg List.length hk
      simp at this
      omega
    have hk8 : k < ss.length := (List.getElem?_eq_some_iff.mp hs).1
    have hln : (r.map pD).length < line := by simp; unfold line; omega
    simp [back, two_line, mutL_append hln]
    exact ⟨b4, r ++ [(s, q)], some (.int s, 0), by simp [pD], hb4, by rw [List.map_append, hk, List.take_add_one, hs]; rfl, fun p hp => by
      rcases List.mem_append.mp hp with hp | hp
      · exact hr p hp
      · rw [List.mem_singleton.mp hp]
        exact ⟨q0, q6⟩⟩
  · rintro ρ ⟨b', r, y, rfl, hb', hk, hr⟩
    rw [List.length_map, List.take_length] at hk
    have hgood : Good r := ⟨fun p hp => by
      have h1 := hsm p.1 (by rw [← hk]; exact List.mem_map_of_mem hp)
      have h2 := hr p hp
      omega, by
      rw [← List.pairwise_map (f := fun p : Int × Int => p.1) (R := fun x y => x < y), hk]
      exact hss⟩
    have hrl : (r.length : Int) = mi := by
      have := congrArg List.length hk
      simp at this
      omega
    simp [tupleW, outsOf]
    exact ⟨r, b', rfl, hgood, hrl, rfl, hb'⟩
end Q.K80
end
section
set_option Elab.async false
set_option linter.all false
set_option maxRecDepth 100000
set_option maxHeartbeats 4000000
namespace Q.K80
abbrev sAnd : D := .str (PySem.Str.ofString "and")
abbrev sOr : D := .str (PySem.Str.ofString "or")
def WrI (c : Cn) (tr : Bool) (lev0 : Nat) (k : Nat) (ρ : Env) : Prop := ∃ (b' : W) (c' : Cn) (z6 z7 : Option W), ρ = [some b', some (c'.toD, 0), some (.bl tr, 0), some (.int c'.parts, 0), some (.tup [sAnd, .tup []], 0), some (.tup [sOr, .tup []], 0), z6, z7] ∧ Bag b' ∧ c'.ok ∧ c'.lev ≤ lev0 + k ∧ c'.parts ≤ 19 ∧ (∀ gs t, c'.hold gs t = c.hold gs t)
def WrE (c : Cn) (tr : Bool) (lev0 : Nat) (l : Fl) (ρ : Env) : Prop := l = .nx ∧ ∃ k, lev0 + k ≤ 6 ∧ WrI c tr lev0 k ρ
def WrapP (c : Cn) (tr : Bool) (w : W) (outs : List W) : Prop := ∃ (c' : Cn) (t' : Bool) (b' : W), w = (.tup [c'.toD, .bl t'], 0) ∧ c'.ok ∧ c'.lev ≤ 6 ∧ c'.parts ≤ 20 ∧ (∀ gs t, c.hold gs t = tr → c'.hold gs t = t') ∧ outs = [b'] ∧ Bag b'
theorem item_l4 {a b c d e : D} {r : List D} {n : Nat} : item (.lst (a :: b :: c :: d :: e :: r), n) (.int 4) = some (sink n e) := by simp [item, ixOf]
theorem item_l5 {a b c d e f : D} {r : List D} {n : Nat} : item (.lst (a :: b :: c :: d :: e :: f :: r), n) (.int 5) = some (sink n f) := by simp [item, ixOf]
theorem n_ok' {m : Nat} {b : W} {q : Int} (hm : 1 ≤ m) (h : Bag b) (h1 : 1 ≤ q) (h2 : q < 1073741824) : Rt (hd (calls tab m) 12 [(b, true), ((.int q, 0), false)]) (NP q) := by
  obtain ⟨n, rfl⟩ : ∃ n, m = n + 1 := ⟨m - 1, by omega⟩
  exact n_ok h h1 h2
theorem pick_ok' {m : Nat} {b : W} {ds : List D} (hm : 2 ≤ m) (h : Bag b) (h0 : 0 < ds.length) (h1 : ds.length < 1073741824) : Rt (hd (calls tab m) 14 [(b, true), ((.lst ds, 0), false)]) (PickP ds) := by
  obtain ⟨n, rfl⟩ : ∃ n, m = n + 2 := ⟨m - 2, by omega⟩
  exact pick_ok h h0 h1
theorem six_line : (6 : Nat) ≤ line := by unfold line; omega
theorem one_line : (1 : Nat) ≤ line := by unfold line; omega
theorem wrapped_ok {m : Nat} {b : W} {c : Cn} {tr : Bool} (h : Bag b) (ho : c.ok) (h3 : c.lev ≤ 3) (hp : c.parts ≤ 10) (hm : 10 ≤ m) : Rt (hd (calls tab m) 19 [(b, true), ((c.toD, 0), false), ((.bl tr, 0), false)]) (WrapP c tr) := by
  obtain ⟨n, rfl⟩ : ∃ n, m = n + 1 := ⟨m - 1, by omega⟩
  refine rt_call rfl rfl (by simp) (by simp) ?_
  show Ev (f__law_wrapped (calls tab n) [some b, some (c.toD, 0), some (.bl tr, 0), none, none, none, none, none]) (Rp [true, false, false] (WrapP c tr))
  have zl : (0 : Nat) ≤ line := Nat.zero_le _
  simp only [f__law_wrapped, thenS_e, par3V_e, consV_e, coV_e, ev_bd]
  rw [ev_callV]
  simp [fill, pick, back]
  refine rt_mono (lawparts_ok c.lev c n (by omega) (by omega) (by omega)) ?_
  rintro w outs ⟨rfl, rfl⟩
  simp [back, two_line]
  rw [ev_callV]
  simp [fill, pick, back]
  rw [ev_callV]
  simp [fill, pick, back]
  refine rt_mono (lawlevels_ok c.lev c n (by omega) (by omega) (by omega)) ?_
  rintro w outs ⟨rfl, rfl⟩
  have l1 := lev_pos c
  simp [back, fill]
  refine rt_mono (n_ok' (by omega) h (by omega) (by omega)) ?_
  rintro w outs ⟨d, b1, rfl, d0, d1, rfl, hb1⟩
  simp [back, rngR, rngD]
  rw [if_pos ⟨by omega, by omega⟩]
  simp
  refine ev_mono (P := WrE c tr c.lev) (ev_for (WrI c tr c.lev) ⟨b1, c, none, none, rfl, hb1, ho, by omega, by omega, fun _ _ => rfl⟩ ?_ ?_) ?_
  · rintro k d' ρ hd' hI
    obtain ⟨b', c', z6, z7, rfl, hb', ho', hl', hp', hh'⟩ := id hI
    have hk : k < d.toNat := by
      have := (List.getElem?_eq_some_iff.mp hd').1
      simpa using this
    simp
    rw [ev_callV]
    simp [fill, pick, back]
    refine rt_mono (n_ok' (by omega) hb' (by omega) (by omega)) ?_
    rintro w outs ⟨way, b2, rfl, w0, w1, rfl, hb2⟩
    simp [back, one_line, two_line, six_line]
    have ways : way = 0 ∨ way = 1 ∨ way = 2 ∨ way = 3 ∨ way = 4 ∨ way = 5 := by omega
    have rng : (c'.parts ≤ 9) ∨ (10 ≤ c'.parts ∧ c'.parts ≤ 17) ∨ c'.parts = 18 ∨ c'.parts = 19 := by omega
    rcases ways with rfl | rfl | rfl | rfl | rfl | rfl
    · rcases rng with hr | hr | hr | hr
      · have q1 : ¬ (17 : Int) < c'.parts := by omega
        have q2 : ¬ (9 : Int) < c'.parts := by omega
        have q3 : ¬ (18 : Int) < c'.parts := by omega
        simp [q1, q2, q3, one_line, two_line, six_line, item_l4, item_l5]
        rw [ev_callV]
        simp [fill, pick, back]
        refine rt_mono (lawparts_ok (Cn.lev (.an [c'])) (.an [c']) n (by omega) (by simp [Cn.lev, levs]; omega) (by simp [Cn.parts, partss]; omega)) ?_
        rintro w outs ⟨rfl, rfl⟩
        simp [back]
        exact ⟨b2, .an [c'], _, _, rfl, hb2, by simp [Cn.ok, oks, ho'], by simp [Cn.lev, levs]; omega, by simp [Cn.parts, partss]; omega, fun gs t => by simp [Cn.hold, holdA, holdO, hh']⟩
      · have q1 : ¬ (17 : Int) < c'.parts := by omega
        have q2 : (9 : Int) < c'.parts := by omega
        have q3 : ¬ (18 : Int) < c'.parts := by omega
        simp [q1, q2, q3, one_line, two_line, six_line, item_l4, item_l5]
        rw [ev_callV]
        simp [fill, pick, back]
        refine rt_mono (lawparts_ok (Cn.lev (.an [c'])) (.an [c']) n (by omega) (by simp [Cn.lev, levs]; omega) (by simp [Cn.parts, partss]; omega)) ?_
        rintro w outs ⟨rfl, rfl⟩
        simp [back]
        exact ⟨b2, .an [c'], _, _, rfl, hb2, by simp [Cn.ok, oks, ho'], by simp [Cn.lev, levs]; omega, by simp [Cn.parts, partss]; omega, fun gs t => by simp [Cn.hold, holdA, holdO, hh']⟩
      · have q1 : (17 : Int) < c'.parts := by omega
        have q2 : (9 : Int) < c'.parts := by omega
        have q3 : ¬ (18 : Int) < c'.parts := by omega
        simp [q1, q2, q3, one_line, two_line, six_line, item_l4, item_l5]
        rw [ev_callV]
        simp [fill, pick, back]
        refine rt_mono (lawparts_ok (Cn.lev (.an [c'])) (.an [c']) n (by omega) (by simp [Cn.lev, levs]; omega) (by simp [Cn.parts, partss]; omega)) ?_
        rintro w outs ⟨rfl, rfl⟩
        simp [back]
        exact ⟨b2, .an [c'], _, _, rfl, hb2, by simp [Cn.ok, oks, ho'], by simp [Cn.lev, levs]; omega, by simp [Cn.parts, partss]; omega, fun gs t => by simp [Cn.hold, holdA, holdO, hh']⟩
      · have q1 : (17 : Int) < c'.parts := by omega
        have q2 : (9 : Int) < c'.parts := by omega
        have q3 : (18 : Int) < c'.parts := by omega
        simp [q1, q2, q3]
        exact ⟨rfl, k, by omega, b2, c', _, _, rfl, hb2, ho', hl', hp', hh'⟩
    · rcases rng with hr | hr | hr | hr
      · have q1 : ¬ (17 : Int) < c'.parts := by omega
        have q2 : ¬ (9 : Int) < c'.parts := by omega
        have q3 : ¬ (18 : Int) < c'.parts := by omega
        simp [q1, q2, q3, one_line, two_line, six_line, item_l4, item_l5]
        rw [ev_callV]
        simp [fill, pick, back]
        refine rt_mono (lawparts_ok (Cn.lev (.or [c'])) (.or [c']) n (by omega) (by simp [Cn.lev, levs]; omega) (by simp [Cn.parts, partss]; omega)) ?_
        rintro w outs ⟨rfl, rfl⟩
        simp [back]
        exact ⟨b2, .or [c'], _, _, rfl, hb2, by simp [Cn.ok, oks, ho'], by simp [Cn.lev, levs]; omega, by simp [Cn.parts, partss]; omega, fun gs t => by simp [Cn.hold, holdA, holdO, hh']⟩
      · have q1 : ¬ (17 : Int) < c'.parts := by omega
        have q2 : (9 : Int) < c'.parts := by omega
        have q3 : ¬ (18 : Int) < c'.parts := by omega
        simp [q1, q2, q3, one_line, two_line, six_line, item_l4, item_l5]
        rw [ev_callV]
        simp [fill, pick, back]
        refine rt_mono (lawparts_ok (Cn.lev (.or [c'])) (.or [c']) n (by omega) (by simp [Cn.lev, levs]; omega) (by simp [Cn.parts, partss]; omega)) ?_
        rintro w outs ⟨rfl, rfl⟩
        simp [back]
        exact ⟨b2, .or [c'], _, _, rfl, hb2, by simp [Cn.ok, oks, ho'], by simp [Cn.lev, levs]; omega, by simp [Cn.parts, partss]; omega, fun gs t => by simp [Cn.hold, holdA, holdO, hh']⟩
      · have q1 : (17 : Int) < c'.parts := by omega
        have q2 : (9 : Int) < c'.parts := by omega
        have q3 : ¬ (18 : Int) < c'.parts := by omega
        simp [q1, q2, q3, one_line, two_line, six_line, item_l4, item_l5]
        rw [ev_callV]
        simp [fill, pick, back]
        refine rt_mono (lawparts_ok (Cn.lev (.or [c'])) (.or [c']) n (by omega) (by simp [Cn.lev, levs]; omega) (by simp [Cn.parts, partss]; omega)) ?_
        rintro w outs ⟨rfl, rfl⟩
        simp [back]
        exact ⟨b2, .or [c'], _, _, rfl, hb2, by simp [Cn.ok, oks, ho'], by simp [Cn.lev, levs]; omega, by simp [Cn.parts, partss]; omega, fun gs t => by simp [Cn.hold, holdA, holdO, hh']⟩
      · have q1 : (17 : Int) < c'.parts := by omega
        have q2 : (9 : Int) < c'.parts := by omega
        have q3 : (18 : Int) < c'.parts := by omega
        simp [q1, q2, q3]
        exact ⟨rfl, k, by omega, b2, c', _, _, rfl, hb2, ho', hl', hp', hh'⟩
    · rcases rng with hr | hr | hr | hr
      · have q1 : ¬ (17 : Int) < c'.parts := by omega
        have q2 : ¬ (9 : Int) < c'.parts := by omega
        have q3 : ¬ (18 : Int) < c'.parts := by omega
        simp [q1, q2, q3, one_line, two_line, six_line, item_l4, item_l5]
        rw [ev_callV]
        simp [fill, pick, back]
        refine rt_mono (lawparts_ok (Cn.lev (.an [c', .an []])) (.an [c', .an []]) n (by omega) (by simp [Cn.lev, levs]; omega) (by simp [Cn.parts, partss]; omega)) ?_
        rintro w outs ⟨rfl, rfl⟩
        simp [back]
        exact ⟨b2, .an [c', .an []], _, _, rfl, hb2, by simp [Cn.ok, oks, ho'], by simp [Cn.lev, levs]; omega, by simp [Cn.parts, partss]; omega, fun gs t => by simp [Cn.hold, holdA, holdO, hh']⟩
      · have q1 : ¬ (17 : Int) < c'.parts := by omega
        have q2 : (9 : Int) < c'.parts := by omega
        have q3 : ¬ (18 : Int) < c'.parts := by omega
        simp [q1, q2, q3, one_line, two_line, six_line, item_l4, item_l5]
        rw [ev_callV]
        simp [fill, pick, back]
        refine rt_mono (lawparts_ok (Cn.lev (.an [c', .an []])) (.an [c', .an []]) n (by omega) (by simp [Cn.lev, levs]; omega) (by simp [Cn.parts, partss]; omega)) ?_
        rintro w outs ⟨rfl, rfl⟩
        simp [back]
        exact ⟨b2, .an [c', .an []], _, _, rfl, hb2, by simp [Cn.ok, oks, ho'], by simp [Cn.lev, levs]; omega, by simp [Cn.parts, partss]; omega, fun gs t => by simp [Cn.hold, holdA, holdO, hh']⟩
      · have q1 : (17 : Int) < c'.parts := by omega
        have q2 : (9 : Int) < c'.parts := by omega
        have q3 : ¬ (18 : Int) < c'.parts := by omega
        simp [q1, q2, q3]
        exact ⟨rfl, k, by omega, b2, c', _, _, rfl, hb2, ho', hl', hp', hh'⟩
      · have q1 : (17 : Int) < c'.parts := by omega
        have q2 : (9 : Int) < c'.parts := by omega
        have q3 : (18 : Int) < c'.parts := by omega
        simp [q1, q2, q3]
        exact ⟨rfl, k, by omega, b2, c', _, _, rfl, hb2, ho', hl', hp', hh'⟩
    · rcases rng with hr | hr | hr | hr
      · have q1 : ¬ (17 : Int) < c'.parts := by omega
        have q2 : ¬ (9 : Int) < c'.parts := by omega
        have q3 : ¬ (18 : Int) < c'.parts := by omega
        simp [q1, q2, q3, one_line, two_line, six_line, item_l4, item_l5]
        rw [ev_callV]
        simp [fill, pick, back]
        refine rt_mono (lawparts_ok (Cn.lev (.or [.or [], c'])) (.or [.or [], c']) n (by omega) (by simp [Cn.lev, levs]; omega) (by simp [Cn.parts, partss]; omega)) ?_
        rintro w outs ⟨rfl, rfl⟩
        simp [back]
        exact ⟨b2, .or [.or [], c'], _, _, rfl, hb2, by simp [Cn.ok, oks, ho'], by simp [Cn.lev, levs]; omega, by simp [Cn.parts, partss]; omega, fun gs t => by simp [Cn.hold, holdA, holdO, hh']⟩
      · have q1 : ¬ (17 : Int) < c'.parts := by omega
        have q2 : (9 : Int) < c'.parts := by omega
        have q3 : ¬ (18 : Int) < c'.parts := by omega
        simp [q1, q2, q3, one_line, two_line, six_line, item_l4, item_l5]
        rw [ev_callV]
        simp [fill, pick, back]
        refine rt_mono (lawparts_ok (Cn.lev (.or [.or [], c'])) (.or [.or [], c']) n (by omega) (by simp [Cn.lev, levs]; omega) (by simp [Cn.parts, partss]; omega)) ?_
        rintro w outs ⟨rfl, rfl⟩
        simp [back]
        exact ⟨b2, .or [.or [], c'], _, _, rfl, hb2, by simp [Cn.ok, oks, ho'], by simp [Cn.lev, levs]; omega, by simp [Cn.parts, partss]; omega, fun gs t => by simp [Cn.hold, holdA, holdO, hh']⟩
      · have q1 : (17 : Int) < c'.parts := by omega
        have q2 : (9 : Int) < c'.parts := by omega
        have q3 : ¬ (18 : Int) < c'.parts := by omega
        simp [q1, q2, q3]
        exact ⟨rfl, k, by omega, b2, c', _, _, rfl, hb2, ho', hl', hp', hh'⟩
      · have q1 : (17 : Int) < c'.parts := by omega
        have q2 : (9 : Int) < c'.parts := by omega
        have q3 : (18 : Int) < c'.parts := by omega
        simp [q1, q2, q3]
        exact ⟨rfl, k, by omega, b2, c', _, _, rfl, hb2, ho', hl', hp', hh'⟩
    · rcases rng with hr | hr | hr | hr
      · have q1 : ¬ (17 : Int) < c'.parts := by omega
        have q2 : ¬ (9 : Int) < c'.parts := by omega
        have q3 : ¬ (18 : Int) < c'.parts := by omega
        simp [q1, q2, q3, one_line, two_line, six_line, item_l4, item_l5]
        rw [ev_callV]
        simp [fill, pick, back]
        refine rt_mono (lawparts_ok (Cn.lev (.an [c', c'])) (.an [c', c']) n (by omega) (by simp [Cn.lev, levs]; omega) (by simp [Cn.parts, partss]; omega)) ?_
        rintro w outs ⟨rfl, rfl⟩
        simp [back]
        exact ⟨b2, .an [c', c'], _, _, rfl, hb2, by simp [Cn.ok, oks, ho'], by simp [Cn.lev, levs]; omega, by simp [Cn.parts, partss]; omega, fun gs t => by simp [Cn.hold, holdA, holdO, hh']⟩
      · have q1 : ¬ (17 : Int) < c'.parts := by omega
        have q2 : (9 : Int) < c'.parts := by omega
        have q3 : ¬ (18 : Int) < c'.parts := by omega
        simp [q1, q2, q3]
        exact ⟨rfl, k, by omega, b2, c', _, _, rfl, hb2, ho', hl', hp', hh'⟩
      · have q1 : (17 : Int) < c'.parts := by omega
        have q2 : (9 : Int) < c'.parts := by omega
        have q3 : ¬ (18 : Int) < c'.parts := by omega
        simp [q1, q2, q3]
        exact ⟨rfl, k, by omega, b2, c', _, _, rfl, hb2, ho', hl', hp', hh'⟩
      · have q1 : (17 : Int) < c'.parts := by omega
        have q2 : (9 : Int) < c'.parts := by omega
        have q3 : (18 : Int) < c'.parts := by omega
        simp [q1, q2, q3]
        exact ⟨rfl, k, by omega, b2, c', _, _, rfl, hb2, ho', hl', hp', hh'⟩
    · rcases rng with hr | hr | hr | hr
      · have q1 : ¬ (17 : Int) < c'.parts := by omega
        have q2 : ¬ (9 : Int) < c'.parts := by omega
        have q3 : ¬ (18 : Int) < c'.parts := by omega
        simp [q1, q2, q3, one_line, two_line, six_line, item_l4, item_l5]
        rw [ev_callV]
        simp [fill, pick, back]
        refine rt_mono (lawparts_ok (Cn.lev (.or [c', c'])) (.or [c', c']) n (by omega) (by simp [Cn.lev, levs]; omega) (by simp [Cn.parts, partss]; omega)) ?_
        rintro w outs ⟨rfl, rfl⟩
        simp [back]
        exact ⟨b2, .or [c', c'], _, _, rfl, hb2, by simp [Cn.ok, oks, ho'], by simp [Cn.lev, levs]; omega, by simp [Cn.parts, partss]; omega, fun gs t => by simp [Cn.hold, holdA, holdO, hh']⟩
      · have q1 : ¬ (17 : Int) < c'.parts := by omega
        have q2 : (9 : Int) < c'.parts := by omega
        have q3 : ¬ (18 : Int) < c'.parts := by omega
        simp [q1, q2, q3]
        exact ⟨rfl, k, by omega, b2, c', _, _, rfl, hb2, ho', hl', hp', hh'⟩
      · have q1 : (17 : Int) < c'.parts := by omega
        have q2 : (9 : Int) < c'.parts := by omega
        have q3 : ¬ (18 : Int) < c'.parts := by omega
        simp [q1, q2, q3]
        exact ⟨rfl, k, by omega, b2, c', _, _, rfl, hb2, ho', hl', hp', hh'⟩
      · have q1 : (17 : Int) < c'.parts := by omega
        have q2 : (9 : Int) < c'.parts := by omega
        have q3 : (18 : Int) < c'.parts := by omega
        simp [q1, q2, q3]
        exact ⟨rfl, k, by omega, b2, c', _, _, rfl, hb2, ho', hl', hp', hh'⟩
  · rintro ρ hI
    refine ⟨rfl, d.toNat, by omega, ?_⟩
    simpa using hI
  · rintro l ρ ⟨rfl, k, hk, b', c', z6, z7, rfl, hb', ho', hl', hp', hh'⟩
    have fin : WrapP c tr (.tup [c'.toD, .bl tr], 0) [b'] := ⟨c', tr, b', rfl, ho', by omega, by omega, fun gs t hc => by rw [hh', hc], rfl, hb'⟩
    have fin2 : ∀ b2, Bag b2 → WrapP c tr (.tup [c'.toD, .bl tr], 0) [b2] := fun b2 hb2 => ⟨c', tr, b2, rfl, ho', by omega, by omega, fun gs t hc => by rw [hh', hc], rfl, hb2⟩
    by_cases h18 : (c'.parts : Int) < 18
    · simp [h18]
      rw [ev_callV]
      simp [fill, pick, back]
      have ll := lev_pos c'
      refine rt_mono (lawlevels_ok c'.lev c' n (by omega) (by omega) (by omega)) ?_
      rintro w outs ⟨rfl, rfl⟩
      simp [back]
      by_cases h6 : (c'.lev : Int) < 6
      · simp [h6]
        rw [ev_callV]
        simp [fill, pick, back]
        refine rt_mono (n_ok' (by omega) hb' (by omega) (by omega)) ?_
        rintro w outs ⟨q, b2, rfl, q0, q1, rfl, hb2⟩
        simp [back]
        by_cases hq : q = 0
        · simp [hq]
          rw [ev_callV]
          simp [fill, pick, back]
          refine rt_mono (n_ok' (by omega) hb2 (by omega) (by omega)) ?_
          rintro w outs ⟨q2, b3, rfl, q20, q21, rfl, hb3⟩
          simp [back]
          by_cases hq2 : q2 = 0
          · simp [hq2, two_line, outsOf]
            exact ⟨.an [.or [], c'], false, b3, rfl, by simp [Cn.ok, oks, ho'], by simp [Cn.lev, levs]; omega, by simp [Cn.parts, partss]; omega, fun gs t _ => by simp [Cn.hold, holdA, holdO], rfl, hb3⟩
          · have e2 : (q2 == 0) = false := by simp [hq2]
            simp [e2, two_line, outsOf]
            exact ⟨.or [c', .an []], true, b3, rfl, by simp [Cn.ok, oks, ho'], by simp [Cn.lev, levs]; omega, by simp [Cn.parts, partss]; omega, fun gs t _ => by simp [Cn.hold, holdA, holdO], rfl, hb3⟩
        · have e2 : (q == 0) = false := by simp [hq]
          simp [e2, two_line, outsOf]
          exact fin2 b2 hb2
      · simp [h6, two_line, outsOf]
        exact fin
    · simp [h18, two_line, outsOf]
      exact fin
end Q.K80
end
section
set_option Elab.async false
set_option linter.all false
set_option maxRecDepth 100000
set_option maxHeartbeats 4000000
namespace Q.K80
abbrev sGr : D := .str (PySem.Str.ofString "grade")
abbrev sPt : D := .str (PySem.Str.ofString "points")
/-- what parts_of gives -/
def PO (m : Nat) (d : D) (l v : Int) : Prop := Rt (hd (calls tab m) 9 [((d, 0), false), ((.int l, 0), false)]) (Is (.int v))
theorem many_bad {n : Nat} {s : PySem.Str} {vs : List (D × Int)} {l : Int} (h : ∀ p ∈ vs, PO n p.1 (l - 1) p.2) (hz : ∃ p ∈ vs, p.2 = 0) :
    Rt (hd (calls tab (n + 1)) 8 [((.tup [.str s, .tup (vs.map Prod.fst)], 0), false), ((.int l, 0), false)]) (Is (.int 0)) := by
  refine rt_call rfl rfl (by simp) (by simp) ?_
  show Ev (f_parts_of_many (calls tab n) [some (.tup [.str s, .tup (vs.map Prod.fst)], 0), some (.int l, 0), none, none, none]) (Rp [false, false] _)
  simp [f_parts_of_many, D.isTup, itemsR, items, rowOf]
  refine ev_for (fun k ρ => ∃ u y z, ρ = [some (.tup [.str s, .tup (vs.map Prod.fst)], 0), some (.int l, 0), some (.int u, 0), y, z] ∧ ∀ p ∈ vs.take k, p.2 ≠ 0) ⟨1, none, none, rfl, by simp⟩ ?_ ?_
  · rintro k d ρ hd ⟨u, y, z, rfl, hk⟩
    rw [List.getElem?_map] at hd
    obtain ⟨p, hc, rfl⟩ := Option.map_eq_some_iff.mp hd
    simp
    rw [ev_callV]
    simp [fill, pick, back]
    refine rt_mono (h p (List.mem_of_getElem? hc)) ?_
    rintro w outs ⟨rfl, rfl⟩
    simp [back]
    have ht : vs.take (k + 1) = vs.take k ++ [p] := by rw [List.take_add_one, hc]; rfl
    cases hp : p.2 == 0 with
    | true =>
      simp [outsOf]
      exact ⟨rfl, rfl⟩
    | false =>
      have hp2 : p.2 ≠ 0 := by simpa using hp
      simp [D.leaf]
      rw [ht]
      intro a b hx
      rcases List.mem_append.mp hx with hx | hx
      · exact hk _ hx
      · rw [← List.mem_singleton.mp hx] at hp2
        exact hp2
  · rintro ρ ⟨u, y, z, rfl, hk⟩
    obtain ⟨p, hp, e⟩ := hz
    exact absurd e (hk p (by rw [List.length_map, List.take_length]; exact hp))
theorem and_bad {n : Nat} {vs : List (D × Int)} {l : Int} (hl : 0 < l) (h : ∀ p ∈ vs, PO n p.1 (l - 1) p.2) (hz : ∃ p ∈ vs, p.2 = 0) : PO (n + 2) (.tup [sAnd, .tup (vs.map Prod.fst)]) l 0 := by
  refine rt_call rfl rfl (by simp) (by simp) ?_
  show Ev (f_parts_of (calls tab (n + 1)) [some (.tup [sAnd, .tup (vs.map Prod.fst)], 0), some (.int l, 0)]) (Rp [false, false] (Is (.int 0)))
  have hb : (l == 0) = false := by simp; omega
  simp [f_parts_of, D.isTup, hb]
  rw [ev_callV]
  simp [fill, pick, back]
  refine rt_mono (many_bad h hz) ?_
  rintro w outs ⟨rfl, rfl⟩
  simp [back, outsOf]
  exact ⟨rfl, rfl⟩
theorem or_bad {n : Nat} {vs : List (D × Int)} {l : Int} (hl : 0 < l) (h : ∀ p ∈ vs, PO n p.1 (l - 1) p.2) (hz : ∃ p ∈ vs, p.2 = 0) : PO (n + 2) (.tup [sOr, .tup (vs.map Prod.fst)]) l 0 := by
  refine rt_call rfl rfl (by simp) (by simp) ?_
  show Ev (f_parts_of (calls tab (n + 1)) [some (.tup [sOr, .tup (vs.map Prod.fst)], 0), some (.int l, 0)]) (Rp [false, false] (Is (.int 0)))
  have hb : (l == 0) = false := by simp; omega
  simp [f_parts_of, D.isTup, hb]
  rw [ev_callV]
  simp [fill, pick, back]
  refine rt_mono (many_bad h hz) ?_
  rintro w outs ⟨rfl, rfl⟩
  simp [back, outsOf]
  exact ⟨rfl, rfl⟩
theorem check_bad {n : Nat} {d : D} (h : PO n d 6 0) : Rt (hd (calls tab (n + 1)) 10 [((d, 0), false)]) (Is (.bl false)) := by
  refine rt_call rfl rfl (by simp) (by simp) ?_
  show Ev (f_check_condition (calls tab n) [some (d, 0)]) (Rp [false] (Is (.bl false)))
  simp [f_check_condition]
  rw [ev_callV]
  simp [fill, pick, back]
  refine rt_mono h ?_
  rintro w outs ⟨rfl, rfl⟩
  simp [back, outsOf]
  exact ⟨rfl, rfl⟩
/-- the right leaves -/
def RL : List Cn := [.gr 0 6, .gr 7 0, .gr 7 6, .pt 0, .pt 480, .an [], .or []]
theorem rl_ok {c : Cn} (h : c ∈ RL) : c.ok ∧ c.lev = 1 ∧ c.parts = 1 := by
  simp [RL] at h
  rcases h with rfl | rfl | rfl | rfl | rfl | rfl | rfl <;> simp [Cn.ok, oks, Cn.lev, levs, Cn.parts, partss]
def WR1 : List D := [.tup [sGr, .int 8, .int 0], .tup [sGr, .int 7, .int 7], .tup [sGr, .int (-1), .int 0], .tup [sGr, .int 0, .int (-1)], .tup [sPt, .int 481], .tup [sPt, .int (-1)], .tup [sPt, .bl true], .tup [sGr, .bl false, .int 0]]
def WR2 : List D := [.tup [sGr, .int 0], .tup [sPt], .tup [sAnd], .tup [sOr, .str (PySem.Str.ofString "")], .tup [sAnd, .non], .tup [.str (PySem.Str.ofString "nor"), .tup []], .tup [], .non, sAnd, .int 7, .tup [sAnd, .tup [], .tup []], .tup [sPt, .non], .tup [sGr, .int 0, .int 0, .int 0]]
def WR3 : List D := [.tup [sPt, .int (10 ^ 29)], .tup [sAnd, .tup [sAnd, .tup []]], .tup [sGr, .str (PySem.Str.ofString "0"), .int 0], .tup [.tup [], .tup []]]
def WR : List D := WR1 ++ WR2 ++ WR3
def ret0 : CR → Bool
  | .ret (.int i, 0) [] => i == 0
  | _ => false
theorem ret0_of {r : CR} (h : ret0 r = true) : Rt r (Is (.int 0)) := by
  unfold ret0 at h
  split at h
  · next i =>
    have : i = (0 : Int) := by simpa using h
    subst this
    exact ⟨rfl, rfl⟩
  · cases h
theorem wr_6 : (WR.all fun d => ret0 (hd (calls tab 97) 9 [((d, 0), false), ((.int 6, 0), false)])) = true := by decide +kernel
theorem wr_5 : (WR.all fun d => ret0 (hd (calls tab 95) 9 [((d, 0), false), ((.int 5, 0), false)])) = true := by decide +kernel
theorem wr_4 : (WR.all fun d => ret0 (hd (calls tab 93) 9 [((d, 0), false), ((.int 4, 0), false)])) = true := by decide +kernel
theorem rngR_int {z : Int} {ρ : Env} (h0 : 0 ≤ z) (h : z < 1000) : rngR [(.int z, 0)] ρ = .ok ((List.range z.toNat).map fun (k : Nat) => D.int k) ρ := by
  have e : rngD [D.int z] = some ((List.range z.toNat).map fun (k : Nat) => D.int k) := by
    show (if _ then _ else _) = _
    rw [if_pos ⟨by omega, by omega⟩]
  unfold rngR
  show (match rngD [D.int z] with | some ds => R.ok ds ρ | none => R.no) = _
  rw [e]
theorem tl_1 {d : D} {xs : List D} {y : Option W} : truB (cmpV .isN (varV 1) (cV .non)) [some (d, 0), some (.tup xs, 0), y] = .ok false [some (d, 0), some (.tup xs, 0), y] := rfl
theorem tl_2 {d : D} {xs : List D} {y : Option W} : truB (bltV (isW D.isBl) (consV (varV 1) okNil)) [some (d, 0), some (.tup xs, 0), y] = .ok false [some (d, 0), some (.tup xs, 0), y] := rfl
theorem tl_3 {d : D} {xs : List D} {y : Option W} : truB (bltV (isW D.isInt) (consV (varV 1) okNil)) [some (d, 0), some (.tup xs, 0), y] = .ok false [some (d, 0), some (.tup xs, 0), y] := rfl
theorem tl_4 {d : D} {xs : List D} {y : Option W} : truB (bltV (isW D.isStr) (consV (varV 1) okNil)) [some (d, 0), some (.tup xs, 0), y] = .ok false [some (d, 0), some (.tup xs, 0), y] := rfl
theorem tl_7 {L : List W → Option W} {xs : List D} {ρ : Env} {z : Int} (hz : L [(.tup xs, 0)] = some (.int z, 0)) : orB (notB (truB (bltV (isW D.isTup) (consV (varV 0) okNil)))) (andB1 (truB (cmpV .ne (bltV L (consV (varV 0) okNil)) (bltV L (consV (varV 1) okNil))))) (some (.tup xs, 0) :: some (.tup xs, 0) :: ρ) = .ok false (some (.tup xs, 0) :: some (.tup xs, 0) :: ρ) := by
  have e0 : bltV L (consV (varV 0) okNil) (some (.tup xs, 0) :: some (.tup xs, 0) :: ρ) = .ok (.int z, 0) (some (.tup xs, 0) :: some (.tup xs, 0) :: ρ) := by
    show (match L [(.tup xs, 0)] with | some w => R.ok w _ | none => R.no) = _
    rw [hz]
  have e1 : bltV L (consV (varV 1) okNil) (some (.tup xs, 0) :: some (.tup xs, 0) :: ρ) = .ok (.int z, 0) (some (.tup xs, 0) :: some (.tup xs, 0) :: ρ) := by
    show (match L [(.tup xs, 0)] with | some w => R.ok w _ | none => R.no) = _
    rw [hz]
  have e : truB (cmpV .ne (bltV L (consV (varV 0) okNil)) (bltV L (consV (varV 1) okNil))) (some (.tup xs, 0) :: some (.tup xs, 0) :: ρ) = .ok false (some (.tup xs, 0) :: some (.tup xs, 0) :: ρ) := by
    show bd (bd (bltV L (consV (varV 0) okNil) _) _) _ = _
    rw [e0]
    show bd (bd (bltV L (consV (varV 1) okNil) _) _) _ = _
    rw [e1]
    have c : cop .ne (.int z) (.int z) = some false := by simp
    show bd (match cop .ne (.int z) (.int z) with | some k => R.ok (D.bl k, 0) (some (D.tup xs, 0) :: some (D.tup xs, 0) :: ρ) | none => R.no) tru = _
    rw [c]
    rfl
  generalize truB (cmpV .ne (bltV L (consV (varV 0) okNil)) (bltV L (consV (varV 1) okNil))) = q at e
  show bd (q _) (fun k ρ => (match k with
    | true => R.ok true ρ
    | false => R.ok false ρ)) = _
  rw [e]
  rfl
theorem th_1 {p : Env → R Bool} {f g : Env → R Fl} {ρ : Env} (h : p ρ = .ok false ρ) : thenS (ifS p f doneS) g ρ = g ρ := by
  show bd (bd (p ρ) _) _ = _
  rw [h]
  rfl
theorem alike_bls {n : Nat} {bs : List Bool} (hl : bs.length < 1000) : Rt (hd (calls tab (n + 2)) 13 [((.tup (bs.map D.bl), 0), false), ((.tup (bs.map D.bl), 0), false)]) (Is (.bl true)) := by
  refine rt_call rfl rfl (by simp) (by simp) ?_
  show Ev (f__law_alike (calls tab (n + 1)) [some (.tup (bs.map D.bl), 0), some (.tup (bs.map D.bl), 0), none]) (Rp [false, false] (Is (.bl true)))
  have hC : ∀ b : Bool, Rt (hd (calls tab (n + 1)) 13 [((.bl b, 0), false), ((.bl b, 0), false)]) (Is (.bl (b == b))) := fun b => alike_bl
  unfold f__law_alike
  obtain ⟨z, hz, z0, z1, z2⟩ : ∃ z : Int, lenW [(.tup (bs.map D.bl), 0)] = some (.int z, 0) ∧ 0 ≤ z ∧ z < 1000 ∧ z.toNat = bs.length := ⟨_, lenW_tup, by omega, by simp; omega, by simp⟩
  have he : ∀ i : Nat, (h : i < bs.length) → item (.tup (bs.map D.bl), 0) (.int i) = some (.bl bs[i], 0) := fun i h => item_tup (k := i) (ixOf_nat (by omega) (by simp; omega)) (by rw [List.getElem?_map, List.getElem?_eq_getElem h]; rfl)
  generalize bs.map D.bl = xs at hz he ⊢
  generalize calls tab (n + 1) = C at hC ⊢
  generalize lenW = L at hz ⊢
  rw [th_1 tl_1, th_1 tl_2, th_1 tl_3, th_1 tl_4, th_1 (tl_7 hz)]
  have e0 : rngV (consV (coV 0 (bltV L (consV (varV 1) okNil))) okNil) [some (.tup xs, 0), some (.tup xs, 0), none] = .ok ((List.range z.toNat).map fun (k : Nat) => D.int k) [some (.tup xs, 0), some (.tup xs, 0), none] := by
    show bd (bd (bd (match L [(D.tup xs, 0)] with | some w => R.ok w _ | none => R.no) _) _) rngR = _
    rw [hz]
    exact rngR_int z0 z1
  rw [thenS_e, ev_bd, forV_e, ev_bd, e0, ev_ok]
  refine ev_for (fun k ρ => ∃ y, ρ = [some (.tup xs, 0), some (.tup xs, 0), y]) ⟨none, rfl⟩ ?_ ?_
  · rintro k d ρ hd ⟨y, rfl⟩
    rw [List.getElem?_map] at hd
    obtain ⟨i, hi, rfl⟩ := Option.map_eq_some_iff.mp hd
    have hlt : i < bs.length := by
      have := List.mem_of_getElem? hi
      rw [z2] at this
      simpa using this
    have e := he i hlt
    simp
    rw [ev_callV]
    simp [e, fill, pick, back]
    refine rt_mono (hC _) ?_
    rintro w outs ⟨rfl, rfl⟩
    simp [back]
  · rintro ρ ⟨y, rfl⟩
    simp [outsOf]
    exact ⟨rfl, rfl⟩
end Q.K80
end
section
set_option Elab.async false
set_option linter.all false
set_option maxRecDepth 100000
set_option maxHeartbeats 4000000
namespace Q.K80
theorem line_1000 {n : Nat} (h : n ≤ 1000) : n ≤ line := by unfold line; omega
def LeafP (w : W) (outs : List W) : Prop := ∃ (c : Cn) (b' : W), c ∈ RL ∧ w = (c.toD, 0) ∧ outs = [b'] ∧ Bag b'
def WrongP (w : W) (outs : List W) : Prop := ∃ (d : D) (b' : W), d ∈ WR ∧ w = (d, 0) ∧ outs = [b'] ∧ Bag b'
theorem leaf_right {n : Nat} {b : W} (h : Bag b) : Rt (hd (calls tab (n + 3)) 23 [(b, true), ((.bl true, 0), false)]) LeafP := by
  refine rt_call rfl rfl (by simp) (by simp) ?_
  show Ev (f__law_leaf (calls tab (n + 2)) [some b, some (.bl true, 0), none]) (Rp [true, false] LeafP)
  simp only [f__law_leaf, thenS_e, ifS_e, truB_e, varV_e, gt_0, gt_s, ev_bd, ev_ok, tru_bl, retS_e]
  rw [ev_callV]
  simp [line_1000, fill, pick, back]
  refine rt_mono (pick_ok h (by simp) (by simp)) ?_
  rintro w outs ⟨j, d, b4, hj, rfl, rfl, hb4⟩
  have hj2 : d ∈ RL.map Cn.toD := List.mem_of_getElem? hj
  obtain ⟨c, hc, rfl⟩ := List.mem_map.mp hj2
  simp [back, outsOf]
  exact ⟨c, b4, hc, rfl, rfl, hb4⟩
theorem leaf_wrong {n : Nat} {b : W} (h : Bag b) : Rt (hd (calls tab (n + 3)) 23 [(b, true), ((.bl false, 0), false)]) WrongP := by
  refine rt_call rfl rfl (by simp) (by simp) ?_
  show Ev (f__law_leaf (calls tab (n + 2)) [some b, some (.bl false, 0), none]) (Rp [true, false] WrongP)
  simp only [f__law_leaf, thenS_e, ifS_e, truB_e, varV_e, gt_0, gt_s, ev_bd, ev_ok, tru_bl, retS_e, doneS_e]
  simp [line_1000, addW, powW]
  rw [ev_callV]
  simp [line_1000, addW, powW, fill, pick, back]
  refine rt_mono (pick_ok h (by simp) (by simp)) ?_
  rintro w outs ⟨j, d, b4, hj, rfl, rfl, hb4⟩
  have hj2 : d ∈ WR := List.mem_of_getElem? hj
  simp [back, outsOf]
  exact ⟨d, b4, hj2, rfl, rfl, hb4⟩
end Q.K80
end
section
set_option Elab.async false
set_option linter.all false
set_option maxRecDepth 100000
set_option maxHeartbeats 4000000
namespace Q.K80
def s24_0 (c : C) : Env → R Fl := (asgS (coV 0 (callV (hd c) 23 [] [some 0, none] (consI 0 (consA (coV 0 (cV (.bl true))) okNilA)) okNil)) (gN 1))
def s24_1 (c : C) : Env → R Fl := (par3V 2 3 4 (consV (coV 0 (ecV (varV 1))) (consV (coV 0 (cV (.int 1))) (consV (coV 0 (cV (.int 1))) okNil))))
def s24_2 (c : C) : Env → R Fl := (forV (rngV (consV (coV 0 (callV (hd c) 12 [] [some 0, none] (consI 0 (consA (coV 0 (cV (.int 6))) okNilA)) okNil)) okNil)) (gN 5) (thenS (par2V 6 7 (consV (coV 0 (callV (hd c) 12 [] [some 0, none] (consI 0 (consA (coV 0 (cV (.int 3))) okNilA)) okNil)) (consV (coV 0 (callV (hd c) 14 [] [some 0, none] (consI 0 (consA (coV 0 (lstV 0 (consV (coV 0 (cV (.str (PySem.Str.ofString "and")))) (consV (coV 0 (cV (.str (PySem.Str.ofString "or")))) okNil)))) okNilA)) okNil)) okNil))) (thenS (ifS (andB (truB (cmpV .eq (varV 6) (cV (.int 2)))) (andB1 (truB (cmpV .lt (varV 4) (cV (.int 300)))))) (thenS (par2V 2 4 (consV (coV 0 (tupV (consV (coV 0 (ecV (varV 7))) (consV (coV 0 (tupV (consV (coV 0 (ecV (varV 2))) (consV (coV 0 (ecV (varV 2))) okNil)))) okNil)))) (consV (coV 0 (binV addW (binV mulW (cV (.int 2)) (varV 4)) (cV (.int 1)))) okNil))) doneS) (thenS (par2V 2 4 (consV (coV 0 (tupV (consV (coV 0 (ecV (varV 7))) (consV (coV 0 (tupV (consV (coV 0 (ecV (varV 2))) okNil))) okNil)))) (consV (coV 0 (binV addW (varV 4) (cV (.int 1)))) okNil))) doneS)) (thenS (asgS (coV 0 (binV addW (varV 3) (cV (.int 1)))) (gN 3)) doneS))))
def s24_3 (c : C) : Env → R Fl := (asgS (coV 0 (callV (hd c) 14 [] [some 0, none] (consI 0 (consA (coV 0 (lstV 0 (consV (coV 0 (cV (.int 19))) (consV (coV 0 (cV (.int 20))) (consV (coV 0 (cV (.int 20))) (consV (coV 0 (cV (.int 21))) okNil)))))) okNilA)) okNil)) (gN 8))
def s24_4 (c : C) : Env → R Fl := (ifS (andB (truB (cmpV .lt (varV 4) (varV 8))) (andB1 (truB (cmpV .lt (varV 3) (cV (.int 7)))))) (thenS (asgS (coV 0 (tupV (consV (coV 0 (cV (.str (PySem.Str.ofString "or")))) (consV (coV 0 (binV addW (tupV (consV (coV 0 (ecV (varV 2))) okNil)) (binV mulW (tupV (consV (coV 0 (ecV (varV 1))) okNil)) (binV subW (binV subW (varV 8) (varV 4)) (cV (.int 1)))))) okNil)))) (gN 2)) (thenS (par2V 3 4 (consV (coV 0 (binV addW (varV 3) (cV (.int 1)))) (consV (coV 0 (ecV (varV 8))) okNil))) doneS)) doneS)
def s24_5 (c : C) : Env → R Fl := (asgS (coV 0 (andV (cmpV .le (varV 3) (cV (.int 6))) (cmpV .le (varV 4) (cV (.int 20))))) (gN 9))
def s24_6 (c : C) : Env → R Fl := (ifS (orB (notB (truB (callV (hd c) 13 [] [none, none] (consA (coV 0 (callV (hd c) 10 [] [none] (consA (coV 0 (ecV (varV 2))) okNilA) okNil)) (consA (coV 0 (ecV (varV 9))) okNilA)) okNil))) (andB1 (notB (truB (callV (hd c) 13 [] [none, none] (consA (coV 0 (callV (hd c) 10 [0] [] okNilA (consV (coV 0 (ecV (varV 2))) okNil))) (consA (coV 0 (ecV (varV 9))) okNilA)) okNil))))) (thenS (retS (cV (.bl false))) doneS) doneS)
def s24_7 (c : C) : Env → R Fl := (asgS (coV 0 (callV (hd c) 23 [] [some 0, none] (consI 0 (consA (coV 0 (cV (.bl false))) okNilA)) okNil)) (gN 10))
def s24_8 (c : C) : Env → R Fl := (asgS (coV 0 (lstV 0 (consV (coV 0 (ecV (varV 10))) (consV (coV 0 (tupV (consV (coV 0 (cV (.str (PySem.Str.ofString "and")))) (consV (coV 0 (tupV (consV (coV 0 (ecV (varV 1))) (consV (coV 0 (ecV (varV 10))) okNil)))) okNil)))) (consV (coV 0 (tupV (consV (coV 0 (cV (.str (PySem.Str.ofString "or")))) (consV (coV 0 (tupV (consV (coV 0 (tupV (consV (coV 0 (cV (.str (PySem.Str.ofString "and")))) (consV (coV 0 (tupV (consV (coV 0 (ecV (varV 10))) okNil))) okNil)))) (consV (coV 0 (ecV (varV 1))) okNil)))) okNil)))) (consV (coV 0 (tupV (consV (coV 0 (cV (.str (PySem.Str.ofString "and")))) (consV (coV 0 (tupV (consV (coV 0 (ecV (varV 10))) (consV (coV 0 (ecV (varV 10))) okNil)))) okNil)))) okNil)))))) (gN 11))
def s24_9 (c : C) : Env → R Fl := (asgS (coV 0 (lstV 0 (consV (coV 0 (ecV (varV 1))) (consV (coV 0 (tupV (consV (coV 0 (cV (.str (PySem.Str.ofString "and")))) (consV (coV 0 (tupV (consV (coV 0 (ecV (varV 1))) (consV (coV 0 (ecV (varV 1))) okNil)))) okNil)))) (consV (coV 0 (tupV (consV (coV 0 (cV (.str (PySem.Str.ofString "or")))) (consV (coV 0 (tupV (consV (coV 0 (tupV (consV (coV 0 (cV (.str (PySem.Str.ofString "and")))) (consV (coV 0 (tupV (consV (coV 0 (ecV (varV 1))) okNil))) okNil)))) (consV (coV 0 (ecV (varV 1))) okNil)))) okNil)))) okNil))))) (gN 12))
def s24_10 (c : C) : Env → R Fl := (retS (callV (hd c) 13 [] [none, none] (consA (coV 0 (bltV tupleW (consV (lcV 0 [13] (itemsV (coV 0 (binV addW (varV 11) (varV 12)))) (gN 13) yesB (coV 0 (callV (hd c) 10 [] [none] (consA (coV 0 (ecV (varV 13))) okNilA) okNil))) okNil))) (consA (coV 0 (binV addW (binV mulW (tupV (consV (coV 0 (cV (.bl false))) okNil)) (cV (.int 4))) (binV mulW (tupV (consV (coV 0 (cV (.bl true))) okNil)) (cV (.int 3))))) okNilA)) okNil))
theorem f24_eq (c : C) : f__law_are_looked_at c = (thenS (s24_0 c) (thenS (s24_1 c) (thenS (s24_2 c) (thenS (s24_3 c) (thenS (s24_4 c) (thenS (s24_5 c) (thenS (s24_6 c) (thenS (s24_7 c) (thenS (s24_8 c) (thenS (s24_9 c) (thenS (s24_10 c) doneS))))))))))) := rfl
def s22_0 (c : C) : Env → R Fl := (par3V 1 2 3 (consV (coV 0 (callV (hd c) 17 [] [some 0, none] (consI 0 (consA (coV 0 (binV addW (cV (.int 1)) (callV (hd c) 12 [] [some 0, none] (consI 0 (consA (coV 0 (cV (.int 8))) okNilA)) okNil))) okNilA)) okNil)) (consV (coV 0 (callV (hd c) 12 [] [some 0, none] (consI 0 (consA (coV 0 (cV (.int 8))) okNilA)) okNil)) (consV (coV 0 (callV (hd c) 14 [] [some 0, none] (consI 0 (consA (coV 0 (lstV 0 (consV (coV 0 (cV (.int 1))) (consV (coV 0 (cV (.int 2))) (consV (coV 0 (cV (.int 7))) (consV (coV 0 (cV (.int 60))) okNil)))))) okNilA)) okNil)) okNil))))
def s22_1 (c : C) : Env → R Fl := (par2V 4 5 (consV (coV 0 (binV addW (binV mulW (tupV (consV (coV 0 (cV (.int 0))) okNil)) (varV 2)) (binV mulW (tupV (consV (coV 0 (ecV (varV 3))) okNil)) (binV subW (cV (.int 7)) (varV 2))))) (consV (coV 0 (lrngV (consV (coV 0 (cV (.int 8))) okNil))) okNil)))
def s22_2 (c : C) : Env → R Fl := (asgS (coV 0 (binV mulW (varV 3) (callV (hd c) 18 [] [none, none, none] (consA (coV 0 (ecV (varV 1))) (consA (coV 0 (ecV (varV 5))) (consA (coV 0 (ecV (varV 2))) okNilA))) okNil))) (gN 6))
def s22_3 (c : C) : Env → R Fl := (ifS (orB (notB (truB (callV (hd c) 13 [] [none, none] (consA (coV 0 (callV (hd c) 1 [] [none, none] (consA (coV 0 (ecV (varV 4))) (consA (coV 0 (ecV (varV 1))) okNilA)) okNil)) (consA (coV 0 (ecV (varV 6))) okNilA)) okNil))) (andB1 (notB (truB (callV (hd c) 13 [] [none, none] (consA (coV 0 (callV (hd c) 1 [1, 0] [] okNilA (consV (coV 0 (ecV (varV 1))) (consV (coV 0 (ecV (varV 4))) okNil)))) (consA (coV 0 (ecV (varV 6))) okNilA)) okNil))))) (thenS (retS (cV (.bl false))) doneS) doneS)
def s22_4 (c : C) : Env → R Fl := (asgS (coV 0 (lcV 0 [17] (itemsV (coV 0 (tupV (consV (coV 0 (negV (cV (.int 1)))) (consV (coV 0 (cV (.int 0))) (consV (coV 0 (cV (.int 1))) (consV (coV 0 (ecV (varV 3))) okNil))))))) (gN 17) yesB (coV 0 (tupV (consV (coV 0 (tupV (consV (coV 0 (cV (.str (PySem.Str.ofString "points")))) (consV (coV 0 (bltV max2W (consV (cV (.int 0)) (consV (bltV min2W (consV (cV (.int 480)) (consV (binV addW (varV 6) (varV 17)) okNil))) okNil)))) okNil)))) (consV (coV 0 (cmpV .le (bltV max2W (consV (cV (.int 0)) (consV (bltV min2W (consV (cV (.int 480)) (consV (binV addW (varV 6) (varV 17)) okNil))) okNil))) (varV 6))) okNil)))))) (gN 7))
def s22_5 (c : C) : Env → R Fl := (asgS (coV 0 (binV addW (varV 7) (lstV 0 (consV (coV 0 (tupV (consV (coV 0 (tupV (consV (coV 0 (cV (.str (PySem.Str.ofString "points")))) (consV (coV 0 (cV (.int 0))) okNil)))) (consV (coV 0 (cV (.bl true))) okNil)))) (consV (coV 0 (tupV (consV (coV 0 (tupV (consV (coV 0 (cV (.str (PySem.Str.ofString "points")))) (consV (coV 0 (cV (.int 480))) okNil)))) (consV (coV 0 (cmpV .eq (varV 6) (cV (.int 480)))) okNil)))) okNil))))) (gN 7))
def s22_6 (c : C) : Env → R Fl := (asgS (tupV (consV (coV 0 (callV (hd c) 15 [] [some 0, none, none] (consI 0 (consA (coV 0 (ecV (varV 5))) (consA (coV 0 (cV (.int 3))) okNilA))) okNil)) (consV (coV 0 (callV (hd c) 12 [] [some 0, none] (consI 0 (consA (coV 0 (cV (.int 7))) okNilA)) okNil)) okNil))) (gT (gCons (gN 8) (gCons (gN 9) gNil))))
def s22_7 (c : C) : Env → R Fl := (asgS (coV 0 (lcV 0 [18] (itemsV (varV 8)) (gN 18) yesB (coV 0 (tupV (consV (coV 0 (cV (.str (PySem.Str.ofString "grade")))) (consV (coV 0 (ecV (varV 18))) (consV (coV 0 (ecV (varV 9))) okNil))))))) (gN 10))
def s22_8 (c : C) : Env → R Fl := (asgS (coV 0 (tupV (consV (coV 0 (cV (.str (PySem.Str.ofString "or")))) (consV (coV 0 (tupV (consV (coV 0 (tupV (consV (coV 0 (cV (.str (PySem.Str.ofString "and")))) (consV (coV 0 (tupV (consV (coV 0 (ecV (subV (varV 10) (cV (.int 0))))) (consV (coV 0 (ecV (subV (varV 10) (cV (.int 1))))) okNil)))) okNil)))) (consV (coV 0 (tupV (consV (coV 0 (cV (.str (PySem.Str.ofString "and")))) (consV (coV 0 (tupV (consV (coV 0 (ecV (subV (varV 10) (cV (.int 1))))) (consV (coV 0 (ecV (subV (varV 10) (cV (.int 2))))) okNil)))) okNil)))) (consV (coV 0 (tupV (consV (coV 0 (cV (.str (PySem.Str.ofString "and")))) (consV (coV 0 (tupV (consV (coV 0 (ecV (subV (varV 10) (cV (.int 0))))) (consV (coV 0 (ecV (subV (varV 10) (cV (.int 2))))) okNil)))) okNil)))) okNil))))) okNil)))) (gN 11))
def s22_9 (c : C) : Env → R Fl := (asgS (coV 0 (callV (hd c) 18 [] [none, none, none] (consA (coV 0 (ecV (varV 1))) (consA (coV 0 (ecV (varV 8))) (consA (coV 0 (ecV (varV 9))) okNilA))) okNil)) (gN 12))
def s22_10 (c : C) : Env → R Fl := (asgS (coV 0 (binV addW (varV 7) (lstV 0 (consV (coV 0 (tupV (consV (coV 0 (ecV (varV 11))) (consV (coV 0 (cmpV .gt (varV 12) (cV (.int 1)))) okNil)))) (consV (coV 0 (tupV (consV (coV 0 (tupV (consV (coV 0 (cV (.str (PySem.Str.ofString "and")))) (consV (coV 0 (bltV tupleW (consV (varV 10) okNil))) okNil)))) (consV (coV 0 (cmpV .eq (varV 12) (cV (.int 3)))) okNil)))) (consV (coV 0 (tupV (consV (coV 0 (tupV (consV (coV 0 (cV (.str (PySem.Str.ofString "or")))) (consV (coV 0 (bltV tupleW (consV (varV 10) okNil))) okNil)))) (consV (coV 0 (cmpV .gt (varV 12) (cV (.int 0)))) okNil)))) (consV (coV 0 (tupV (consV (coV 0 (tupV (consV (coV 0 (cV (.str (PySem.Str.ofString "and")))) (consV (coV 0 (tupV okNil)) okNil)))) (consV (coV 0 (cV (.bl true))) okNil)))) (consV (coV 0 (tupV (consV (coV 0 (tupV (consV (coV 0 (cV (.str (PySem.Str.ofString "or")))) (consV (coV 0 (tupV okNil)) okNil)))) (consV (coV 0 (cV (.bl false))) okNil)))) okNil)))))))) (gN 7))
def s22_11 (c : C) : Env → R Fl := (forV (itemsV (varV 7)) (gT (gCons (gN 13) (gCons (gN 14) gNil))) (thenS (asgS (callV (hd c) 19 [] [some 0, none, none] (consI 0 (consA (coV 0 (ecV (varV 13))) (consA (coV 0 (ecV (varV 14))) okNilA))) okNil) (gT (gCons (gN 15) (gCons (gN 16) gNil)))) (thenS (ifS (orB (notB (truB (callV (hd c) 13 [] [none, none] (consA (coV 0 (callV (hd c) 4 [] [none, none, none] (consA (coV 0 (ecV (varV 4))) (consA (coV 0 (ecV (varV 15))) (consA (coV 0 (ecV (varV 1))) okNilA))) okNil)) (consA (coV 0 (ecV (varV 16))) okNilA)) okNil))) (andB1 (notB (truB (callV (hd c) 13 [] [none, none] (consA (coV 0 (callV (hd c) 4 [2, 1, 0] [] okNilA (consV (coV 0 (ecV (varV 1))) (consV (coV 0 (ecV (varV 13))) (consV (coV 0 (ecV (varV 4))) okNil))))) (consA (coV 0 (ecV (varV 14))) okNilA)) okNil))))) (thenS (retS (cV (.bl false))) doneS) doneS) (thenS (ifS (notB (truB (callV (hd c) 13 [] [none, none] (consA (coV 0 (callV (hd c) 10 [] [none] (consA (coV 0 (ecV (varV 15))) okNilA) okNil)) (consA (coV 0 (cV (.bl true))) okNilA)) okNil))) (thenS (retS (cV (.bl false))) doneS) doneS) doneS))))
def s22_12 (c : C) : Env → R Fl := (retS (cV (.bl true)))
theorem f22_eq (c : C) : f__law_are_held c = (thenS (s22_0 c) (thenS (s22_1 c) (thenS (s22_2 c) (thenS (s22_3 c) (thenS (s22_4 c) (thenS (s22_5 c) (thenS (s22_6 c) (thenS (s22_7 c) (thenS (s22_8 c) (thenS (s22_9 c) (thenS (s22_10 c) (thenS (s22_11 c) (thenS (s22_12 c) doneS))))))))))))) := rfl
def s26_0 (c : C) : Env → R Fl := (asgS (coV 0 (bltV tupleW (consV (bltV (bltD .sorted) (consV (lcV 0 [13] (rngV (consV (coV 0 (cV (.int 7))) okNil)) (gN 13) yesB (coV 0 (callV (hd c) 14 [] [some 0, none] (consI 0 (consA (coV 0 (lstV 0 (consV (coV 0 (cV (.int 0))) (consV (coV 0 (cV (.int 60))) (consV (coV 0 (callV (hd c) 12 [] [some 0, none] (consI 0 (consA (coV 0 (cV (.int 61))) okNilA)) okNil)) okNil))))) okNilA)) okNil))) okNil)) okNil))) (gN 1))
def s26_1 (c : C) : Env → R Fl := (asgS (lstV 0 (consV (coV 0 (callV (hd c) 14 [] [some 0, none] (consI 0 (consA (coV 0 (lstV 0 (consV (coV 0 (bltV tupleW (consV (lcV 0 [13] (rngV (consV (coV 0 (cV (.int 8))) okNil)) (gN 13) yesB (coV 0 (tupV (consV (coV 0 (ecV (varV 13))) (consV (coV 0 (cV (.int 6))) okNil))))) okNil))) (consV (coV 0 (callV (hd c) 17 [] [some 0, none] (consI 0 (consA (coV 0 (binV addW (cV (.int 2)) (callV (hd c) 12 [] [some 0, none] (consI 0 (consA (coV 0 (cV (.int 7))) okNilA)) okNil))) okNilA)) okNil)) okNil)))) okNilA)) okNil)) okNil)) (gN 2))
def s26_2 (c : C) : Env → R Fl := (forV (rngV (consV (coV 0 (cV (.int 6))) okNil)) (gN 3) (thenS (exS (mutV (.append 0) 2 (plV 2) (consV (coV 0 (callV (hd c) 25 [] [some 0, none] (consI 0 (consA (coV 0 (ecV (subV (varV 2) (negV (cV (.int 1)))))) okNilA)) okNil)) okNil))) doneS))
def s26_3 (c : C) : Env → R Fl := (asgS (coV 0 (tupV (consV (coV 0 (cV (.str (PySem.Str.ofString "grade")))) (consV (coV 0 (callV (hd c) 12 [] [some 0, none] (consI 0 (consA (coV 0 (cV (.int 8))) okNilA)) okNil)) (consV (coV 0 (callV (hd c) 12 [] [some 0, none] (consI 0 (consA (coV 0 (cV (.int 7))) okNilA)) okNil)) okNil))))) (gN 4))
def s26_4 (c : C) : Env → R Fl := (asgS (coV 0 (tupV (consV (coV 0 (cV (.str (PySem.Str.ofString "or")))) (consV (coV 0 (tupV (consV (coV 0 (tupV (consV (coV 0 (cV (.str (PySem.Str.ofString "points")))) (consV (coV 0 (callV (hd c) 16 [] [none, none] (consA (coV 0 (ecV (varV 1))) (consA (coV 0 (ecV (subV (varV 2) (callV (hd c) 12 [] [some 0, none] (consI 0 (consA (coV 0 (cV (.int 7))) okNilA)) okNil)))) okNilA)) okNil)) okNil)))) (consV (coV 0 (tupV (consV (coV 0 (cV (.str (PySem.Str.ofString "and")))) (consV (coV 0 (tupV (consV (coV 0 (ecV (varV 4))) (consV (coV 0 (tupV (consV (coV 0 (cV (.str (PySem.Str.ofString "points")))) (consV (coV 0 (cV (.int 0))) okNil)))) okNil)))) okNil)))) okNil)))) okNil)))) (gN 5))
def s26_5 (c : C) : Env → R Fl := (asgS (coV 0 (lcV 0 [14] (itemsV (varV 2)) (gN 14) yesB (coV 0 (callV (hd c) 4 [] [none, none, none] (consA (coV 0 (ecV (varV 1))) (consA (coV 0 (ecV (varV 5))) (consA (coV 0 (ecV (varV 14))) okNilA))) okNil)))) (gN 6))
def s26_6 (c : C) : Env → R Fl := (forV (rngV (consV (coV 0 (cV (.int 7))) okNil)) (gN 7) (thenS (forV (rngV (consV (coV 0 (cV (.int 7))) okNil)) (gN 8) (thenS (asgS (coV 0 (orV (cmpV .ge (varV 7) (varV 8)) (cmpV .eq (subV (varV 2) (varV 7)) (subV (varV 2) (varV 8))))) (gN 9)) (thenS (ifS (orB (notB (truB (callV (hd c) 13 [] [none, none] (consA (coV 0 (callV (hd c) 5 [] [none, none] (consA (coV 0 (ecV (subV (varV 2) (varV 7)))) (consA (coV 0 (ecV (subV (varV 2) (varV 8)))) okNilA)) okNil)) (consA (coV 0 (ecV (varV 9))) okNilA)) okNil))) (andB1 (andB (truB (varV 9)) (andB (truB (cmpV .isT (subV (varV 6) (varV 7)) (cV (.bl true)))) (andB1 (truB (cmpV .notT (subV (varV 6) (varV 8)) (cV (.bl true))))))))) (thenS (retS (cV (.bl false))) doneS) doneS) doneS))) doneS))
def s26_7 (c : C) : Env → R Fl := (asgS (coV 0 (ecV (subV (varV 2) (cV (.int 0))))) (gN 10))
def s26_8 (c : C) : Env → R Fl := (asgS (coV 0 (bltV tupleW (consV (binV addW (lstV 0 (consV (coV 0 (tupV (consV (coV 0 (ecV (subV (subV (varV 10) (cV (.int 0))) (cV (.int 0))))) (consV (coV 0 (bltV max2W (consV (cV (.int 0)) (consV (binV subW (subV (subV (varV 10) (cV (.int 0))) (cV (.int 1))) (cV (.int 1))) okNil)))) okNil)))) okNil)) (lcV 0 [14] (itemsV (coV 0 (slcV (varV 10) (yesO (cV (.int 1))) noO))) (gN 14) yesB (coV 0 (tupV (consV (coV 0 (ecV (subV (varV 14) (cV (.int 0))))) (consV (coV 0 (bltV min2W (consV (cV (.int 6)) (consV (binV addW (subV (varV 14) (cV (.int 1))) (cV (.int 1))) okNil)))) okNil)))))) okNil))) (gN 11))
def s26_9 (c : C) : Env → R Fl := (asgS (coV 0 (andV (cmpV .gt (subV (subV (varV 10) (cV (.int 0))) (cV (.int 1))) (cV (.int 0))) (cmpV .ne (lcV 0 [14] (itemsV (coV 0 (slcV (varV 10) (yesO (cV (.int 1))) noO))) (gN 14) (truB (cmpV .lt (subV (varV 14) (cV (.int 1))) (cV (.int 6)))) (coV 0 (ecV (varV 14)))) (lstV 0 okNil)))) (gN 12))
def s26_10 (c : C) : Env → R Fl := (ifS (andB (truB (varV 12)) (andB1 (notB (truB (callV (hd c) 13 [] [none, none] (consA (coV 0 (tupV (consV (coV 0 (callV (hd c) 5 [] [none, none] (consA (coV 0 (ecV (varV 10))) (consA (coV 0 (ecV (varV 11))) okNilA)) okNil)) (consV (coV 0 (callV (hd c) 5 [0, 1] [] okNilA (consV (coV 0 (ecV (varV 11))) (consV (coV 0 (ecV (varV 10))) okNil)))) okNil)))) (consA (coV 0 (tupV (consV (coV 0 (cV (.bl false))) (consV (coV 0 (cV (.bl false))) okNil)))) okNilA)) okNil))))) (thenS (retS (cV (.bl false))) doneS) doneS)
def s26_11 (c : C) : Env → R Fl := (retS (callV (hd c) 13 [] [none, none] (consA (coV 0 (callV (hd c) 5 [1, 0] [] okNilA (consV (coV 0 (ecV (varV 10))) (consV (coV 0 (ecV (varV 10))) okNil)))) (consA (coV 0 (cV (.bl true))) okNilA)) okNil))
theorem f26_eq (c : C) : f__law_go_along c = (thenS (s26_0 c) (thenS (s26_1 c) (thenS (s26_2 c) (thenS (s26_3 c) (thenS (s26_4 c) (thenS (s26_5 c) (thenS (s26_6 c) (thenS (s26_7 c) (thenS (s26_8 c) (thenS (s26_9 c) (thenS (s26_10 c) (thenS (s26_11 c) doneS)))))))))))) := rfl
theorem ev_then {f g : Env → R Fl} {ρ : Env} {Q : Env → Prop} {P : Fl → Env → Prop} (h : Ev (f ρ) (fun l ρ' => l = .nx ∧ Q ρ')) (k : ∀ ρ', Q ρ' → Ev (g ρ') P) : Ev (thenS f g ρ) P := by
  show Ev (bd (f ρ) _) P
  rw [ev_bd]
  refine ev_mono h ?_
  rintro l ρ' ⟨rfl, hq⟩
  exact k ρ' hq
end Q.K80
end
section
set_option Elab.async false
set_option linter.all false
set_option maxRecDepth 100000
set_option maxHeartbeats 4000000
namespace Q.K80
/-- what the calls must give -/
structure LkF (C : C) : Prop where
  n : ∀ {b : W} {q : Int}, Bag b → 1 ≤ q → q < 1073741824 → Rt (hd C 12 [(b, true), ((.int q, 0), false)]) (NP q)
  pk : ∀ {b : W} {ds : List D}, Bag b → 0 < ds.length → ds.length < 1073741824 → Rt (hd C 14 [(b, true), ((.lst ds, 0), false)]) (PickP ds)
  lr : ∀ {b : W}, Bag b → Rt (hd C 23 [(b, true), ((.bl true, 0), false)]) LeafP
  lw : ∀ {b : W}, Bag b → Rt (hd C 23 [(b, true), ((.bl false, 0), false)]) WrongP
  ck : ∀ {c : Cn}, c.ok → c.lev ≤ 8 → Rt (hd C 10 [((c.toD, 0), false)]) (Is (.bl (decide (c.lev ≤ 6 ∧ c.parts ≤ 20))))
  cb : ∀ {d : D}, PO 97 d 6 0 → Rt (hd C 10 [((d, 0), false)]) (Is (.bl false))
  al : ∀ {a b : Bool}, Rt (hd C 13 [((.bl a, 0), false), ((.bl b, 0), false)]) (Is (.bl (a == b)))
  als : ∀ {bs : List Bool}, bs.length < 1000 → Rt (hd C 13 [((.tup (bs.map D.bl), 0), false), ((.tup (bs.map D.bl), 0), false)]) (Is (.bl true))
theorem lkF : LkF (calls tab 98) where
  n := fun h a b => n_ok' (by omega) h a b
  pk := fun h a b => pick_ok' (by omega) h a b
  lr := fun h => leaf_right (n := 95) h
  lw := fun h => leaf_wrong (n := 95) h
  ck := fun h a => check_ok h (by omega)
  cb := fun h => check_bad (n := 97) h
  al := alike_bl (n := 97)
  als := fun h => alike_bls (n := 96) h
theorem wr_all {d : D} (h : d ∈ WR) : PO 97 d 6 0 ∧ PO 95 d 5 0 ∧ PO 93 d 4 0 := ⟨ret0_of (List.all_eq_true.mp wr_6 d h), ret0_of (List.all_eq_true.mp wr_5 d h), ret0_of (List.all_eq_true.mp wr_4 d h)⟩
theorem rl_po {c : Cn} (h : c ∈ RL) {m : Nat} {l : Int} (hl : 0 < l) (hm : 6 ≤ m) : PO m c.toD l 1 := by
  obtain ⟨h1, h2, h3⟩ := rl_ok h
  have := parts_all 1 c m l (by omega) h1 (by omega) (by omega)
  have e : pw c l = 1 := by unfold pw; rw [h2, h3, if_pos (by omega)]; rfl
  rw [e] at this
  exact this
theorem bad_2 {c : Cn} {d : D} (hc : c ∈ RL) (h : d ∈ WR) : PO 97 (.tup [sAnd, .tup [c.toD, d]]) 6 0 := by
  refine and_bad (n := 95) (vs := [(c.toD, 1), (d, 0)]) (by omega) (fun p hp => ?_) ⟨_, List.mem_cons_of_mem _ List.mem_cons_self, rfl⟩
  rcases List.mem_cons.mp hp with rfl | hp
  · exact rl_po hc (by omega) (by omega)
  · rw [List.mem_singleton.mp hp]
    exact (wr_all h).2.1
theorem bad_3 {c : Cn} {d : D} (hc : c ∈ RL) (h : d ∈ WR) : PO 97 (.tup [sOr, .tup [.tup [sAnd, .tup [d]], c.toD]]) 6 0 := by
  refine or_bad (n := 95) (vs := [(.tup [sAnd, .tup [d]], 0), (c.toD, 1)]) (by omega) (fun p hp => ?_) ⟨_, List.mem_cons_self, rfl⟩
  rcases List.mem_cons.mp hp with rfl | hp
  · refine and_bad (n := 93) (vs := [(d, 0)]) (by omega) (fun p hp => ?_) ⟨_, List.mem_cons_self, rfl⟩
    rw [List.mem_singleton.mp hp]
    exact (wr_all h).2.2
  · rw [List.mem_singleton.mp hp]
    exact rl_po hc (by omega) (by omega)
theorem bad_4 {d : D} (h : d ∈ WR) : PO 97 (.tup [sAnd, .tup [d, d]]) 6 0 := by
  refine and_bad (n := 95) (vs := [(d, 0), (d, 0)]) (by omega) (fun p hp => ?_) ⟨_, List.mem_cons_self, rfl⟩
  have : p = (d, 0) := by simpa using hp
  rw [this]
  exact (wr_all h).2.1
theorem lev1_an {c : Cn} : (((Cn.an [c]).lev : Nat) : Int) = c.lev + 1 := by simp [Cn.lev, levs]; omega
theorem lev2_an {c : Cn} : (((Cn.an [c, c]).lev : Nat) : Int) = c.lev + 1 := by simp [Cn.lev, levs]; omega
theorem parts1_an {c : Cn} : (((Cn.an [c]).parts : Nat) : Int) = c.parts + 1 := by simp [Cn.parts, partss]; omega
theorem parts2_an {c : Cn} : (((Cn.an [c, c]).parts : Nat) : Int) = 2 * c.parts + 1 := by simp [Cn.parts, partss]; omega
theorem lev1_or {c : Cn} : (((Cn.or [c]).lev : Nat) : Int) = c.lev + 1 := by simp [Cn.lev, levs]; omega
theorem lev2_or {c : Cn} : (((Cn.or [c, c]).lev : Nat) : Int) = c.lev + 1 := by simp [Cn.lev, levs]; omega
theorem parts1_or {c : Cn} : (((Cn.or [c]).parts : Nat) : Int) = c.parts + 1 := by simp [Cn.parts, partss]; omega
theorem parts2_or {c : Cn} : (((Cn.or [c, c]).parts : Nat) : Int) = 2 * c.parts + 1 := by simp [Cn.parts, partss]; omega
theorem reps {d : D} : ∀ {n : Nat}, (List.replicate n [d]).flatten = List.replicate n d
  | 0 => rfl
  | n + 1 => by rw [List.replicate_succ, List.flatten_cons, reps, List.replicate_succ]; rfl
theorem oks_rep {c : Cn} (h : c.ok) : ∀ {n : Nat}, oks (List.replicate n c)
  | 0 => trivial
  | n + 1 => ⟨h, oks_rep h⟩
theorem levs_rep {c : Cn} (h : c.lev = 1) : ∀ {n : Nat}, levs (List.replicate n c) ≤ 1
  | 0 => by simp [levs]
  | n + 1 => by
    have := levs_rep h (n := n)
    rw [List.replicate_succ, levs, h]
    omega
theorem partss_rep {c : Cn} (h : c.parts = 1) : ∀ {n : Nat}, partss (List.replicate n c) = n
  | 0 => rfl
  | n + 1 => by rw [List.replicate_succ, partss, h, partss_rep h]; omega
def DoneP (w : W) (outs : List W) : Prop := ∃ b' : W, w = (.bl true, 0) ∧ outs = [b'] ∧ Bag b'
def LkI (lf : Cn) (k : Nat) (ρ : Env) : Prop := ∃ (b' : W) (c : Cn) (z5 z6 z7 : Option W), ρ = [some b', some (lf.toD, 0), some (c.toD, 0), some (.int c.lev, 0), some (.int c.parts, 0), z5, z6, z7, none, none, none, none, none, none] ∧ Bag b' ∧ c.ok ∧ c.lev ≤ 1 + k
theorem looked_012 {C : C} (F : LkF C) {b : W} (h : Bag b) {G : Env → R Fl} {P : Fl → Env → Prop} (hG : ∀ lf k ρ, lf ∈ RL → k ≤ 5 → LkI lf k ρ → Ev (G ρ) P) : Ev ((thenS (s24_0 C) (thenS (s24_1 C) (thenS (s24_2 C) G))) [some b, none, none, none, none, none, none, none, none, none, none, none, none, none]) P := by
  simp only [s24_0, s24_1, s24_2, thenS_e, asgS_e, coV_e, ev_bd]
  rw [ev_callV]
  simp [fill, pick, back]
  refine rt_mono (F.lr h) ?_
  rintro w outs ⟨lf, b1, hlf, rfl, rfl, hb1⟩
  obtain ⟨lo, ll, lp⟩ := rl_ok hlf
  simp [back]
  rw [ev_callV]
  simp [fill, pick, back]
  refine rt_mono (F.n hb1 (by omega) (by omega)) ?_
  rintro w outs ⟨d, b2, rfl, d0, d1, rfl, hb2⟩
  simp [back]
  rw [rngR_int d0 (by omega), ev_ok]
  refine ev_mono (P := fun l ρ => l = .nx ∧ ∃ k, k ≤ 5 ∧ LkI lf k ρ) (ev_for (LkI lf) ⟨b2, lf, none, none, none, by rw [ll, lp]; rfl, hb2, lo, by omega⟩ ?_ ?_) ?_
  · rintro k d' ρ hd' ⟨b', c, z5, z6, z7, rfl, hb', ho, hl⟩
    simp
    rw [ev_callV]
    simp [fill, pick, back]
    refine rt_mono (F.n hb' (by omega) (by omega)) ?_
    rintro w outs ⟨way, b3, rfl, w0, w1, rfl, hb3⟩
    simp [back]
    rw [ev_callV]
    simp [fill, pick, back, two_line]
    refine rt_mono (F.pk hb3 (by simp) (by simp)) ?_
    rintro w outs ⟨j, wd, b4, hj, rfl, rfl, hb4⟩
    have hwd : wd = sAnd ∨ wd = sOr := by
      have := List.mem_of_getElem? hj
      simpa using this
    simp [back]
    rcases hwd with rfl | rfl
    · cases hw : way == 2 with
      | true =>
        by_cases h3 : (c.parts : Int) < 300
        · simp [h3, one_line, two_line]
          exact ⟨b4, .an [c, c], some (d', 0), some (.int way, 0), some (sAnd, 0), by rw [lev2_an, parts2_an]; rfl, hb4, by simp [Cn.ok, oks, ho], by simp [Cn.lev, levs]; omega⟩
        · simp [h3, one_line, two_line]
          exact ⟨b4, .an [c], some (d', 0), some (.int way, 0), some (sAnd, 0), by rw [lev1_an, parts1_an]; rfl, hb4, by simp [Cn.ok, oks, ho], by simp [Cn.lev, levs]; omega⟩
      | false =>
        simp [one_line, two_line]
        exact ⟨b4, .an [c], some (d', 0), some (.int way, 0), some (sAnd, 0), by rw [lev1_an, parts1_an]; rfl, hb4, by simp [Cn.ok, oks, ho], by simp [Cn.lev, levs]; omega⟩
    · cases hw : way == 2 with
      | true =>
        by_cases h3 : (c.parts : Int) < 300
        · simp [h3, one_line, two_line]
          exact ⟨b4, .or [c, c], some (d', 0), some (.int way, 0), some (sOr, 0), by rw [lev2_or, parts2_or]; rfl, hb4, by simp [Cn.ok, oks, ho], by simp [Cn.lev, levs]; omega⟩
        · simp [h3, one_line, two_line]
          exact ⟨b4, .or [c], some (d', 0), some (.int way, 0), some (sOr, 0), by rw [lev1_or, parts1_or]; rfl, hb4, by simp [Cn.ok, oks, ho], by simp [Cn.lev, levs]; omega⟩
      | false =>
        simp [one_line, two_line]
        exact ⟨b4, .or [c], some (d', 0), some (.int way, 0), some (sOr, 0), by rw [lev1_or, parts1_or]; rfl, hb4, by simp [Cn.ok, oks, ho], by simp [Cn.lev, levs]; omega⟩
  · rintro ρ hI
    exact ⟨rfl, d.toNat, by omega, by simpa using hI⟩
  · rintro l ρ ⟨rfl, k, hk, hI⟩
    exact hG lf k ρ hlf hk hI
def LkJ (lf : Cn) (ρ : Env) : Prop := ∃ (b' : W) (c : Cn) (z5 z6 z7 z8 : Option W), ρ = [some b', some (lf.toD, 0), some (c.toD, 0), some (.int c.lev, 0), some (.int c.parts, 0), z5, z6, z7, z8, none, none, none, none, none] ∧ Bag b' ∧ c.ok ∧ c.lev ≤ 8
theorem looked_34 {C : C} (F : LkF C) {lf : Cn} {k : Nat} {ρ : Env} (hlf : lf ∈ RL) (hk : k ≤ 5) (hI : LkI lf k ρ) {G : Env → R Fl} {P : Fl → Env → Prop} (hG : ∀ ρ, LkJ lf ρ → Ev (G ρ) P) : Ev ((thenS (s24_3 C) (thenS (s24_4 C) G)) ρ) P := by
  obtain ⟨lo, ll, lp⟩ := rl_ok hlf
  obtain ⟨b', c, z5, z6, z7, rfl, hb', ho, hl⟩ := hI
  simp only [s24_3, s24_4, thenS_e, asgS_e, coV_e, ev_bd]
  rw [ev_callV]
  simp [fill, pick, back, line_1000]
  refine rt_mono (F.pk hb' (by simp) (by simp)) ?_
  rintro w outs ⟨j, td, b3, hj, rfl, rfl, hb3⟩
  obtain ⟨t, rfl, t0, t1⟩ : ∃ t : Int, td = .int t ∧ 19 ≤ t ∧ t ≤ 21 := by
    have := List.mem_of_getElem? hj
    simp at this
    rcases this with rfl | rfl | rfl
    · exact ⟨_, rfl, by omega, by omega⟩
    · exact ⟨_, rfl, by omega, by omega⟩
    · exact ⟨_, rfl, by omega, by omega⟩
  simp [back]
  have same : LkJ lf [some b3, some (lf.toD, 0), some (c.toD, 0), some (.int c.lev, 0), some (.int c.parts, 0), z5, z6, z7, some (.int t, 0), none, none, none, none, none] := ⟨b3, c, z5, z6, z7, _, rfl, hb3, ho, by omega⟩
  by_cases h1 : (c.parts : Int) < t
  · by_cases h2 : (c.lev : Int) < 7
    · have pp := parts_pos c
      have hj0 : 0 ≤ t - c.parts - 1 := by omega
      have hj1 : t - c.parts - 1 ≤ 21 := by omega
      obtain ⟨q, hq⟩ : ∃ q : Nat, t - c.parts - 1 = q := ⟨(t - c.parts - 1).toNat, by omega⟩
      have em : mulW (.tup [lf.toD], 0) (.int (t - c.parts - 1), 0) = some (.tup (List.replicate q lf.toD), 0) := by
        rw [← reps]
        have : (t - c.parts - 1).toNat = q := by omega
        rw [← this]
        generalize t - (c.parts : Int) - 1 = u at hj0 hj1
        show (if _ then _ else _) = _
        rw [if_pos ⟨by omega, by omega, by unfold line; simp; omega⟩]
      have ea : addW (.tup [c.toD], 0) (.tup (List.replicate q lf.toD), 0) = some (.tup (c.toD :: List.replicate q lf.toD), 0) := by
        show (if _ then _ else _) = _
        rw [if_pos (by unfold line; simp; omega)]
        rfl
      simp [h1, h2, one_line, two_line, em, ea]
      refine hG _ ⟨b3, .or (c :: List.replicate q lf), z5, z6, z7, some (.int t, 0), ?_, hb3, ⟨ho, oks_rep lo⟩, ?_⟩
      · have e1 : (((Cn.or (c :: List.replicate q lf)).lev : Nat) : Int) = c.lev + 1 := by
          have := levs_rep ll (n := q)
          have := lev_pos c
          simp [Cn.lev, levs]
          omega
        have e2 : (((Cn.or (c :: List.replicate q lf)).parts : Nat) : Int) = t := by
          simp [Cn.parts, partss, partss_rep lp]
          omega
        have e3 : (Cn.or (c :: List.replicate q lf)).toD = .tup [sOr, .tup (c.toD :: List.replicate q lf.toD)] := by
          show D.tup [sOr, .tup (c.toD :: toDs (List.replicate q lf))] = _
          rw [toDs_map, List.map_replicate]
        rw [e1, e2, e3]
      · have := levs_rep ll (n := q)
        have := lev_pos c
        simp [Cn.lev, levs]
        omega
    · simp [h1, h2]
      exact hG _ same
  · simp [h1]
    exact hG _ same
def LkK (lf : Cn) (ρ : Env) : Prop := ∃ (b' : W) (z2 z3 z4 z5 z6 z7 z8 z9 : Option W), ρ = [some b', some (lf.toD, 0), z2, z3, z4, z5, z6, z7, z8, z9, none, none, none, none] ∧ Bag b'
theorem looked_56 {C : C} (F : LkF C) {lf : Cn} {ρ : Env} (hI : LkJ lf ρ) {G : Env → R Fl} {P : Fl → Env → Prop} (hG : ∀ ρ, LkK lf ρ → Ev (G ρ) P) : Ev ((thenS (s24_5 C) (thenS (s24_6 C) G)) ρ) P := by
  obtain ⟨b', c, z5, z6, z7, z8, rfl, hb', ho, hl⟩ := hI
  have ck := F.ck ho (by omega)
  obtain ⟨v, hv⟩ : ∃ v, decide (c.lev ≤ 6 ∧ c.parts ≤ 20) = v := ⟨_, rfl⟩
  rw [hv] at ck
  have e5 : Ev (s24_5 C [some b', some (lf.toD, 0), some (c.toD, 0), some (.int c.lev, 0), some (.int c.parts, 0), z5, z6, z7, z8, none, none, none, none, none]) (fun l ρ' => l = .nx ∧ ρ' = [some b', some (lf.toD, 0), some (c.toD, 0), some (.int c.lev, 0), some (.int c.parts, 0), z5, z6, z7, z8, some (.bl v, 0), none, none, none, none]) := by
    by_cases h6 : (c.lev : Int) ≤ 6
    · simp [s24_5, h6]
      rw [← hv]
      have : c.lev ≤ 6 := by omega
      have e : decide (c.lev ≤ 6 ∧ c.parts ≤ 20) = decide ((c.parts : Int) ≤ 20) := by
        by_cases h20 : c.parts ≤ 20
        · have : (c.parts : Int) ≤ 20 := by omega
          simp [*]
        · have : ¬ (c.parts : Int) ≤ 20 := by omega
          simp [*]
      rw [e]
    · simp [s24_5, h6]
      rw [← hv]
      have : ¬ c.lev ≤ 6 := by omega
      simp [this]
  refine ev_then (Q := fun ρ' => ρ' = [some b', some (lf.toD, 0), some (c.toD, 0), some (.int c.lev, 0), some (.int c.parts, 0), z5, z6, z7, z8, some (.bl v, 0), none, none, none, none]) e5 ?_
  rintro ρ rfl
  simp [s24_6]
  rw [ev_callV]
  simp
  rw [ev_callV]
  simp [fill, pick, back]
  refine rt_mono ck ?_
  rintro w outs ⟨rfl, rfl⟩
  simp [back, fill]
  refine rt_mono F.al ?_
  rintro w outs ⟨rfl, rfl⟩
  simp [back]
  rw [ev_callV]
  simp
  rw [ev_callV]
  simp [fill, pick, back]
  refine rt_mono ck ?_
  rintro w outs ⟨rfl, rfl⟩
  simp [back, fill]
  refine rt_mono F.al ?_
  rintro w outs ⟨rfl, rfl⟩
  simp [back]
  exact hG _ ⟨b', _, _, _, _, _, _, _, _, rfl, hb'⟩
theorem looked_7 {C : C} (F : LkF C) {lf : Cn} (hlf : lf ∈ RL) {ρ : Env} (hI : LkK lf ρ) : Ev ((thenS (s24_7 C) (thenS (s24_8 C) (thenS (s24_9 C) (thenS (s24_10 C) doneS)))) ρ) (Rp [true] DoneP) := by
  obtain ⟨b', z2, z3, z4, z5, z6, z7, z8, z9, rfl, hb'⟩ := hI
  simp only [s24_7, thenS_e, asgS_e, coV_e, ev_bd]
  rw [ev_callV]
  simp [fill, pick, back]
  refine rt_mono (F.lw hb') ?_
  rintro w outs ⟨d, b1, hd, rfl, rfl, hb1⟩
  simp [back, s24_8, s24_9, s24_10, line_1000]
  rw [ev_callV]
  simp [addW, line_1000, itemsR, items, rowOf, wip, rst]
  have gd := fun (c : Cn) (h1 : c.ok) (h2 : c.lev ≤ 6) (h3 : c.parts ≤ 20) => (show Rt (Q.hd C 10 [((c.toD, 0), false)]) (Is (.bl true)) from by
    have := F.ck h1 (by omega)
    rw [show decide (c.lev ≤ 6 ∧ c.parts ≤ 20) = true by simp [h2, h3]] at this
    exact this)
  obtain ⟨lo, ll, lp⟩ := rl_ok hlf
  have hall : ∀ p ∈ [(d, false), (D.tup [sAnd, .tup [lf.toD, d]], false), (D.tup [sOr, .tup [.tup [sAnd, .tup [d]], lf.toD]], false), (D.tup [sAnd, .tup [d, d]], false), (lf.toD, true), (D.tup [sAnd, .tup [lf.toD, lf.toD]], true), (D.tup [sOr, .tup [.tup [sAnd, .tup [lf.toD]], lf.toD]], true)], Rt (Q.hd C 10 [((p.1, 0), false)]) (Is (.bl p.2)) := by
    intro p hp
    simp only [List.mem_cons, List.not_mem_nil, or_false] at hp
    rcases hp with rfl | rfl | rfl | rfl | rfl | rfl | rfl
    · exact F.cb (wr_all hd).1
    · exact F.cb (bad_2 hlf hd)
    · exact F.cb (bad_3 hlf hd)
    · exact F.cb (bad_4 hd)
    · exact gd lf lo (by omega) (by omega)
    · exact gd (.an [lf, lf]) (by simp [Cn.ok, oks, lo]) (by simp [Cn.lev, levs]; omega) (by simp [Cn.parts, partss]; omega)
    · exact gd (.or [.an [lf], lf]) (by simp [Cn.ok, oks, lo]) (by simp [Cn.lev, levs]; omega) (by simp [Cn.parts, partss]; omega)
  refine ev_lcM (xs := [(d, false), (D.tup [sAnd, .tup [lf.toD, d]], false), (D.tup [sOr, .tup [.tup [sAnd, .tup [d]], lf.toD]], false), (D.tup [sAnd, .tup [d, d]], false), (lf.toD, true), (D.tup [sAnd, .tup [lf.toD, lf.toD]], true), (D.tup [sOr, .tup [.tup [sAnd, .tup [lf.toD]], lf.toD]], true)]) Prod.fst (fun p => .bl p.2) (fun p hp => ?_) ?_
  · have hp2 := hall p hp
    clear hall hp
    simp [eltV]
    rw [ev_callV]
    simp [fill, pick, back]
    refine rt_mono hp2 ?_
    rintro w outs ⟨rfl, rfl⟩
    simp [back, wip]
  · clear hall
    have m4 : mulW (.tup [.bl false], 0) (.int 4, 0) = some (.tup [.bl false, .bl false, .bl false, .bl false], 0) := by simp [mulW, line]
    have m3 : mulW (.tup [.bl true], 0) (.int 3, 0) = some (.tup [.bl true, .bl true, .bl true], 0) := by simp [mulW, line]
    simp [line_1000, tupleW, m4, m3, addW, fill, pick, back, keepW]
    refine rt_mono (F.als (bs := [false, false, false, false, true, true, true]) (by simp)) ?_
    rintro w outs ⟨rfl, rfl⟩
    simp [back, outsOf]
    exact ⟨b1, rfl, rfl, hb1⟩
theorem looked_ok {b : W} (h : Bag b) : Rt (hd (calls tab 99) 24 [(b, true)]) DoneP := by
  refine rt_call (n := 98) rfl rfl (by simp) (by simp) ?_
  show Ev (f__law_are_looked_at (calls tab 98) [some b, none, none, none, none, none, none, none, none, none, none, none, none, none]) (Rp [true] DoneP)
  have F := lkF
  generalize calls tab 98 = C at F ⊢
  rw [f24_eq]
  refine looked_012 F h fun lf k ρ hlf hk hI => looked_34 F hlf hk hI fun ρ hI => looked_56 F hI fun ρ hI => looked_7 F hlf hI
end Q.K80
end
section
set_option Elab.async false
set_option linter.all false
set_option maxRecDepth 100000
set_option maxHeartbeats 4000000
namespace Q.K80
def pts (e q : Int) : List Int := List.replicate e.toNat 0 ++ List.replicate (7 - e).toNat q
theorem pts_ok {e q : Int} (e0 : 0 ≤ e) (e7 : e ≤ 7) (q0 : 0 ≤ q) (q6 : q ≤ 60) : Pts (pts e q) := by
  refine ⟨by simp [pts]; omega, fun x hx => ?_⟩
  rcases List.mem_append.mp hx with hx | hx
  · rw [List.eq_of_mem_replicate hx]; omega
  · rw [List.eq_of_mem_replicate hx]; omega
theorem pts_get {e q g : Int} (e0 : 0 ≤ e) (e7 : e ≤ 7) (g0 : 0 ≤ g) (g6 : g ≤ 6) : ptOf (pts e q) g = if e ≤ g then q else 0 := by
  unfold ptOf pts
  rw [List.getD_eq_getElem?_getD]
  by_cases h : e ≤ g
  · rw [if_pos h, List.getElem?_append_right (by simp; omega), List.getElem?_replicate, if_pos (by simp; omega)]
    rfl
  · rw [if_neg h, List.getElem?_append_left (by simp; omega), List.getElem?_replicate, if_pos (by omega)]
    rfl
theorem many_all {e q : Int} (e0 : 0 ≤ e) (e7 : e ≤ 7) : ∀ {r : Res}, Good r → q * (manyOf r S8 e : Int) = ptSum (pts e q) r
  | [], _ => by simp [manyOf, ptSum]
  | p :: r, h => by
    have ih := many_all (q := q) e0 e7 (good_cons h)
    have h1 := h.1 p List.mem_cons_self
    have hm : p.1 ∈ S8 := by simp [S8]; omega
    have hs : ptSum (pts e q) (p :: r) = ptOf (pts e q) p.2 + ptSum (pts e q) r := by simp [ptSum]
    rw [hs, pts_get e0 e7 h1.2.2.1 h1.2.2.2]
    by_cases he : e ≤ p.2
    · have hc : manyOf (p :: r) S8 e = manyOf r S8 e + 1 := by simp [manyOf, List.filter_cons, hm, he]
      rw [hc, if_pos he, ← ih]
      have : q * ((manyOf r S8 e + 1 : Nat) : Int) = q * (manyOf r S8 e : Int) + q := by
        rw [Int.natCast_add, Int.mul_add]; simp
      omega
    · have hc : manyOf (p :: r) S8 e = manyOf r S8 e := by simp [manyOf, List.filter_cons, he]
      rw [hc, if_neg he, ← ih]
      omega
theorem mul1 {d : D} {e : Int} (e0 : 0 ≤ e) (e1 : e < 1000) : mulW (.tup [d], 0) (.int e, 0) = some (.tup (List.replicate e.toNat d), 0) := by
  show (if _ then _ else _) = _
  rw [if_pos ⟨by omega, by omega, by unfold line; simp; omega⟩, reps]
theorem add_tup {x y : List D} {m n : Nat} (h : x.length + y.length ≤ 1000) : addW (.tup x, m) (.tup y, n) = some (.tup (x ++ y), 0) := by
  show (if _ then _ else _) = _
  rw [if_pos (line_1000 h)]
theorem add_lst {x y : List D} {m n : Nat} (h : x.length + y.length ≤ 1000) (hm : m ≤ 1) (hn : n ≤ 1) : addW (.lst x, m) (.lst y, n) = some (.lst (x ++ y), 1) := by
  show (if _ then _ else _) = _
  rw [if_pos ⟨line_1000 h, hm, hn⟩]
theorem max2W_int {i j : Int} {m n : Nat} : max2W [(.int i, m), (.int j, n)] = some (.int (if j > i then j else i), 0) := rfl
theorem min2W_int {i j : Int} {m n : Nat} : min2W [(.int i, m), (.int j, n)] = some (.int (if j < i then j else i), 0) := rfl
/-- what the calls must give -/
structure HdF (C : C) : Prop where
  n : ∀ {b : W} {q : Int}, Bag b → 1 ≤ q → q < 1073741824 → Rt (hd C 12 [(b, true), ((.int q, 0), false)]) (NP q)
  pk : ∀ {b : W} {ds : List D}, Bag b → 0 < ds.length → ds.length < 1073741824 → Rt (hd C 14 [(b, true), ((.lst ds, 0), false)]) (PickP ds)
  tk : ∀ {b : W} {ds : List D} {mi : Int}, Bag b → 0 ≤ mi → mi ≤ ds.length → ds.length < 1024 → Rt (hd C 15 [(b, true), ((.lst ds, 0), false), ((.int mi, 0), false)]) (TakP ds mi)
  rs : ∀ {b : W} {mi : Int}, Bag b → 0 ≤ mi → mi ≤ 8 → Rt (hd C 17 [(b, true), ((.int mi, 0), false)]) (ResP mi)
  mn : ∀ {S : List Int} {g : Int} {r : Res}, Good r → Rt (hd C 18 [((rD r, 0), false), ((.lst (S.map D.int), 0), false), ((.int g, 0), false)]) (Is (.int (manyOf r S g)))
  pt : ∀ {ps : List Int} {r : Res}, Pts ps → Good r → Rt (hd C 1 [((.tup (ps.map D.int), 0), false), ((rD r, 0), false)]) (Is (.int (ptSum ps r)))
  sm : ∀ {ps : List Int} {r : Res}, Pts ps → Good r → Rt (hd C 16 [((.tup (ps.map D.int), 0), false), ((rD r, 0), false)]) (Is (.int (ptSum ps r)))
  hl : ∀ {ps : List Int} {c : Cn} {r : Res}, Pts ps → Good r → c.ok → c.lev ≤ 8 → Rt (hd C 4 [((.tup (ps.map D.int), 0), false), ((c.toD, 0), false), ((rD r, 0), false)]) (Is (.bl (c.hold (gsOf r) (ptSum ps r))))
  un : ∀ {a b : Res}, Good a → Good b → Rt (hd C 5 [((rD a, 0), false), ((rD b, 0), false)]) (Is (.bl (decide (Under a b))))
  ck : ∀ {c : Cn}, c.ok → c.lev ≤ 8 → Rt (hd C 10 [((c.toD, 0), false)]) (Is (.bl (decide (c.lev ≤ 6 ∧ c.parts ≤ 20))))
  wr : ∀ {b : W} {c : Cn} {tr : Bool}, Bag b → c.ok → c.lev ≤ 3 → c.parts ≤ 10 → Rt (hd C 19 [(b, true), ((c.toD, 0), false), ((.bl tr, 0), false)]) (WrapP c tr)
  al : ∀ {a b : Bool}, Rt (hd C 13 [((.bl a, 0), false), ((.bl b, 0), false)]) (Is (.bl (a == b)))
  ai : ∀ {a b : Int}, Rt (hd C 13 [((.int a, 0), false), ((.int b, 0), false)]) (Is (.bl (a == b)))
  als : ∀ {bs : List Bool}, bs.length < 1000 → Rt (hd C 13 [((.tup (bs.map D.bl), 0), false), ((.tup (bs.map D.bl), 0), false)]) (Is (.bl true))
theorem hdF : HdF (calls tab 98) where
  n := fun h a b => n_ok' (by omega) h a b
  pk := fun h a b => pick_ok' (by omega) h a b
  tk := fun h a b d => taken_ok (n := 96) h a b d
  rs := fun h a b => result_ok (n := 94) h a b
  mn := fun h => many_ok2 (n := 97) h
  pt := fun h a => points_ok (n := 97) h a
  sm := fun h a => sum_ok (n := 97) h a
  hl := fun h a b d => holds_ok h a b (by omega)
  un := fun h a => under_ok (n := 96) h a
  ck := fun h a => check_ok h (by omega)
  wr := fun h a b d => wrapped_ok h a b d (by omega)
  al := alike_bl (n := 97)
  ai := alike_int (n := 97)
  als := fun h => alike_bls (n := 96) h
theorem manyOf_le {r : Res} {S : List Int} {g : Int} (h : Good r) : manyOf r S g ≤ 8 := Nat.le_trans (List.length_filter_le _ _) (good_len h)
def HA (ρ : Env) : Prop := ∃ (b : W) (r : Res) (e q : Int), ρ = [some b, some (rD r, 0), some (.int e, 0), some (.int q, 0), some (.tup ((pts e q).map D.int), 0), some (.lst (S8.map D.int), 0), some (.int (ptSum (pts e q) r), 0), none, none, none, none, none, none, none, none, none, none, none, none] ∧ Bag b ∧ Good r ∧ 0 ≤ e ∧ e ≤ 7 ∧ 1 ≤ q ∧ q ≤ 60
theorem held_012 {C : C} (F : HdF C) {b : W} (h : Bag b) {G : Env → R Fl} {P : Fl → Env → Prop} (hG : ∀ ρ, HA ρ → Ev (G ρ) P) : Ev ((thenS (s22_0 C) (thenS (s22_1 C) (thenS (s22_2 C) G))) [some b, none, none, none, none, none, none, none, none, none, none, none, none, none, none, none, none, none, none]) P := by
  simp only [s22_0, thenS_e, par3V_e, consV_e, coV_e, ev_bd]
  rw [ev_callV]
  simp
  rw [ev_callV]
  simp [fill, pick, back]
  refine rt_mono (F.n h (by omega) (by omega)) ?_
  rintro w outs ⟨d, b1, rfl, d0, d1, rfl, hb1⟩
  simp [back, fill]
  refine rt_mono (F.rs hb1 (by omega) (by omega)) ?_
  rintro w outs ⟨r, b2, rfl, hr, hrl, rfl, hb2⟩
  simp [back]
  rw [ev_callV]
  simp [fill, pick, back]
  refine rt_mono (F.n hb2 (by omega) (by omega)) ?_
  rintro w outs ⟨e, b3, rfl, e0, e1, rfl, hb3⟩
  simp [back]
  rw [ev_callV]
  simp [fill, pick, back, line_1000]
  refine rt_mono (F.pk hb3 (by simp) (by simp)) ?_
  rintro w outs ⟨j, qd, b4, hj, rfl, rfl, hb4⟩
  obtain ⟨q, rfl, q0, q1⟩ : ∃ t : Int, qd = .int t ∧ 1 ≤ t ∧ t ≤ 60 := by
    have := List.mem_of_getElem? hj
    simp at this
    rcases this with rfl | rfl | rfl | rfl
    · exact ⟨_, rfl, by omega, by omega⟩
    · exact ⟨_, rfl, by omega, by omega⟩
    · exact ⟨_, rfl, by omega, by omega⟩
    · exact ⟨_, rfl, by omega, by omega⟩
  have m1 := mul1 (d := .int 0) e0 (by omega)
  have m2 := mul1 (d := .int q) (e := 7 - e) (by omega) (by omega)
  have hpt : (List.replicate e.toNat (D.int 0) ++ List.replicate (7 - e).toNat (D.int q)) = (pts e q).map D.int := by simp [pts]
  have a1 := add_tup (x := List.replicate e.toNat (D.int 0)) (y := List.replicate (7 - e).toNat (D.int q)) (m := 0) (n := 0) (by simp; omega)
  rw [hpt] at a1
  have s8l : S8.length ≤ line := line_1000 (by simp [S8])
  simp [back, s22_1, line_1000, m1, m2, a1, rngD, e8, s8l]
  simp [s22_2]
  rw [ev_callV]
  simp [fill, pick, back]
  refine rt_mono (F.mn hr) ?_
  rintro w outs ⟨rfl, rfl⟩
  have mm : ∀ k : Int, 0 ≤ k → k ≤ 8 → mulW (.int q, 0) (.int k, 0) = some (.int (q * k), 0) := fun k k0 k8 => mulW_int (Or.inl ⟨by omega, by omega⟩)
  have mk := manyOf_le (S := S8) (g := e) hr
  have m3 := mm (manyOf r S8 e) (by omega) (by omega)
  rw [many_all e0 (by omega) hr] at m3
  simp [back, m3]
  exact hG _ ⟨b4, r, e, q, rfl, hb4, hr, e0, by omega, q0, q1⟩
theorem held_3 {C : C} (F : HdF C) {ρ : Env} (h : HA ρ) {G : Env → R Fl} {P : Fl → Env → Prop} (hG : ∀ ρ, HA ρ → Ev (G ρ) P) : Ev ((thenS (s22_3 C) G) ρ) P := by
  have h' := h
  obtain ⟨b, r, e, q, rfl, hb, hr, e0, e7, q0, q1⟩ := h
  have hp := pts_ok e0 e7 (by omega) q1
  simp only [s22_3]
  simp
  rw [ev_callV]
  simp
  rw [ev_callV]
  simp [fill, pick, back]
  refine rt_mono (F.pt hp hr) ?_
  rintro w outs ⟨rfl, rfl⟩
  simp [back, fill]
  refine rt_mono F.ai ?_
  rintro w outs ⟨rfl, rfl⟩
  simp [back]
  rw [ev_callV]
  simp
  rw [ev_callV]
  simp [fill, pick, back]
  refine rt_mono (F.pt hp hr) ?_
  rintro w outs ⟨rfl, rfl⟩
  simp [back, fill]
  refine rt_mono F.ai ?_
  rintro w outs ⟨rfl, rfl⟩
  simp [back]
  exact hG _ h'
/-- what is asked -/
def aD (p : Cn × Bool) : D := .tup [p.1.toD, .bl p.2]
def Ask (r : Res) (T : Int) (L : List (Cn × Bool)) : Prop := ∀ p ∈ L, p.1.ok ∧ p.1.lev ≤ 3 ∧ p.1.parts ≤ 10 ∧ p.1.hold (gsOf r) T = p.2
def cl (x : Int) : Int := if (if x < 480 then x else 480) > 0 then (if x < 480 then x else 480) else 0
def HB (ρ : Env) : Prop := ∃ (b : W) (r : Res) (e q : Int) (L : List (Cn × Bool)), ρ = [some b, some (rD r, 0), some (.int e, 0), some (.int q, 0), some (.tup ((pts e q).map D.int), 0), some (.lst (S8.map D.int), 0), some (.int (ptSum (pts e q) r), 0), some (.lst (L.map aD), 0), none, none, none, none, none, none, none, none, none, none, none] ∧ Bag b ∧ Good r ∧ 0 ≤ e ∧ e ≤ 7 ∧ 1 ≤ q ∧ q ≤ 60 ∧ L.length ≤ 10 ∧ Ask r (ptSum (pts e q) r) L
theorem cl_ok {x : Int} : 0 ≤ cl x ∧ cl x ≤ 480 := by
  unfold cl
  repeat' split
  all_goals omega
theorem ask_pt {r : Res} {T x : Int} : Ask r T [(.pt (cl x), decide (cl x ≤ T))] := fun p hp => by
  rw [List.mem_singleton.mp hp]
  exact ⟨cl_ok, by simp [Cn.lev], by simp [Cn.parts], rfl⟩
theorem sum_480 {ps : List Int} {r : Res} (hp : Pts ps) (hr : Good r) : 0 ≤ ptSum ps r ∧ ptSum ps r ≤ 480 := by
  have hb := sum_bound (l := r) (v := fun p => ptOf ps p.2) (b := 60) fun p hm => pts_at hp (hr.1 p hm).2.2.1 (hr.1 p hm).2.2.2
  have hl := good_len hr
  unfold ptSum
  omega
theorem held_45 {C : C} (F : HdF C) {ρ : Env} (h : HA ρ) {G : Env → R Fl} {P : Fl → Env → Prop} (hG : ∀ ρ, HB ρ → Ev (G ρ) P) : Ev ((thenS (s22_4 C) (thenS (s22_5 C) G)) ρ) P := by
  obtain ⟨b, r, e, q, rfl, hb, hr, e0, e7, q0, q1⟩ := h
  have hp := pts_ok e0 e7 (by omega) q1
  obtain ⟨t0, t1⟩ := sum_480 hp hr
  generalize hT : ptSum (pts e q) r = T at t0 t1
  simp only [s22_4]
  simp [line_1000, itemsR, items, rowOf, wip, rst]
  refine ev_lcM (xs := [-1, 0, 1, q]) D.int (fun x => aD (.pt (cl (T + x)), decide (cl (T + x) ≤ T))) (fun x hx => ?_) ?_
  · simp [eltV, min2W_int, max2W_int, two_line, wip]
    rfl
  · simp [line_1000, keepW, s22_5]
    rw [add_lst (by simp) (by omega) (by omega)]
    simp
    subst hT
    refine hG _ ⟨b, r, e, q, [(.pt (cl (ptSum (pts e q) r + -1)), decide (cl (ptSum (pts e q) r + -1) ≤ ptSum (pts e q) r)), (.pt (cl (ptSum (pts e q) r)), decide (cl (ptSum (pts e q) r) ≤ ptSum (pts e q) r)), (.pt (cl (ptSum (pts e q) r + 1)), decide (cl (ptSum (pts e q) r + 1) ≤ ptSum (pts e q) r)), (.pt (cl (ptSum (pts e q) r + q)), decide (cl (ptSum (pts e q) r + q) ≤ ptSum (pts e q) r)), (.pt 0, true), (.pt 480, ptSum (pts e q) r == 480)], rfl, hb, hr, e0, e7, q0, q1, by simp, ?_⟩
    intro p hp
    simp only [List.mem_cons, List.not_mem_nil, or_false] at hp
    rcases hp with rfl | rfl | rfl | rfl | rfl | rfl
    · exact ask_pt _ List.mem_cons_self
    · exact ask_pt _ List.mem_cons_self
    · exact ask_pt _ List.mem_cons_self
    · exact ask_pt _ List.mem_cons_self
    · exact ⟨⟨by omega, by omega⟩, by simp [Cn.lev], by simp [Cn.parts], by simp [Cn.hold, t0]⟩
    · refine ⟨⟨by omega, by omega⟩, by simp [Cn.lev], by simp [Cn.parts], ?_⟩
      simp only [Cn.hold]
      by_cases h : ptSum (pts e q) r = 480
      · simp [h]
      · have : ¬ (480 ≤ ptSum (pts e q) r) := by omega
        simp [h, this]
def HC (ρ : Env) : Prop := ∃ (b : W) (r : Res) (e q : Int) (L : List (Cn × Bool)) (z8 z9 z10 z11 z12 : Option W), ρ = [some b, some (rD r, 0), some (.int e, 0), some (.int q, 0), some (.tup ((pts e q).map D.int), 0), some (.lst (S8.map D.int), 0), some (.int (ptSum (pts e q) r), 0), some (.lst (L.map aD), 0), z8, z9, z10, z11, z12, none, none, none, none, none, none] ∧ Bag b ∧ Good r ∧ 0 ≤ e ∧ e ≤ 7 ∧ 1 ≤ q ∧ q ≤ 60 ∧ Ask r (ptSum (pts e q) r) L
theorem hold_gr {r : Res} {T s g : Int} (hr : Good r) (h0 : 0 ≤ s) (h8 : s < 8) : (Cn.gr s g).hold (gsOf r) T = decide (g ≤ look r s) := by
  simp only [Cn.hold]
  rw [gsOf_at hr h0 h8]
theorem held_6 {C : C} (F : HdF C) {ρ : Env} (h : HB ρ) {G : Env → R Fl} {P : Fl → Env → Prop} (hG : ∀ ρ, HC ρ → Ev (G ρ) P) : Ev ((thenS (s22_6 C) (thenS (s22_7 C) (thenS (s22_8 C) (thenS (s22_9 C) (thenS (s22_10 C) G))))) ρ) P := by
  obtain ⟨b, r, e, q, L, rfl, hb, hr, e0, e7, q0, q1, hL, hA⟩ := h
  simp only [s22_6, thenS_e, asgS_e, tupV_e, consV_e, coV_e, ev_bd]
  rw [ev_callV]
  simp [fill, pick, back]
  refine rt_mono (F.tk hb (by omega) (by simp [S8]) (by simp [S8])) ?_
  intro w outs ht
  obtain ⟨ys, zs, b2, hp, hl, rfl, rfl, hb2⟩ := tak_ints ht
  clear ht
  obtain ⟨x, y, z, rfl⟩ : ∃ x y z, ys = [x, y, z] := by
    match ys, hl with
    | [x, y, z], _ => exact ⟨x, y, z, rfl⟩
  have hnd : [x, y, z].Nodup := (List.nodup_append.mp (hp.nodup_iff.mpr (by decide))).1
  have hm : ∀ s ∈ [x, y, z], 0 ≤ s ∧ s < 8 := fun s hs => by
    have : s ∈ S8 := hp.mem_iff.mp (List.mem_append_left _ hs)
    simp [S8] at this
    omega
  simp at hnd
  obtain ⟨⟨n1, n2⟩, n3⟩ := hnd
  have hx := hm x (by simp)
  have hy := hm y (by simp)
  have hz := hm z (by simp)
  simp [back]
  rw [ev_callV]
  simp [fill, pick, back]
  refine rt_mono (F.n hb2 (by omega) (by omega)) ?_
  rintro w outs ⟨g, b3, rfl, g0, g1, rfl, hb3⟩
  simp [back, two_line, s22_7, itemsR, items, rowOf, wip, rst]
  refine ev_lcM (xs := [x, y, z]) D.int (fun s => Cn.toD (.gr s g)) (fun s hs => ?_) ?_
  · simp [eltV, line_1000, wip]
    rfl
  · simp [line_1000, keepW, s22_8, s22_9]
    rw [ev_callV]
    simp [fill, pick, back]
    refine rt_mono (F.mn (S := [x, y, z]) hr) ?_
    rintro w outs ⟨rfl, rfl⟩
    simp [back, s22_10, line_1000, tupleW]
    rw [add_lst (by simp; omega) (by omega) (by omega)]
    simp
    have hm3 := many_three hr g0 n1 n2 n3
    generalize manyOf r [x, y, z] g = m at hm3
    generalize hT : ptSum (pts e q) r = T at hA
    have eX := hold_gr (T := T) (g := g) hr hx.1 hx.2
    have eY := hold_gr (T := T) (g := g) hr hy.1 hy.2
    have eZ := hold_gr (T := T) (g := g) hr hz.1 hz.2
    have oX : (Cn.gr x g).ok := ⟨hx.1, hx.2, g0, by omega⟩
    have oY : (Cn.gr y g).ok := ⟨hy.1, hy.2, g0, by omega⟩
    have oZ : (Cn.gr z g).ok := ⟨hz.1, hz.2, g0, by omega⟩
    have lv : ∀ s : Int, (Cn.gr s g).lev = 1 := fun _ => rfl
    have pv : ∀ s : Int, (Cn.gr s g).parts = 1 := fun _ => rfl
    refine hG _ ⟨b3, r, e, q, L ++ [(.or [.an [.gr x g, .gr y g], .an [.gr y g, .gr z g], .an [.gr x g, .gr z g]], decide (1 < (m : Int))), (.an [.gr x g, .gr y g, .gr z g], (m : Int) == 3), (.or [.gr x g, .gr y g, .gr z g], decide (0 < m)), (.an [], true), (.or [], false)], _, _, _, _, _, by rw [List.map_append, hT]; rfl, hb3, hr, e0, e7, q0, q1, ?_⟩
    rw [hT]
    intro p hp
    rcases List.mem_append.mp hp with hp | hp
    · exact hA p hp
    · simp only [List.mem_cons, List.not_mem_nil, or_false] at hp
      rcases hp with rfl | rfl | rfl | rfl | rfl
      · refine ⟨by simp [Cn.ok, oks] at *; simp [oX, oY, oZ, *], by simp [Cn.lev, levs], by simp [Cn.parts, partss], ?_⟩
        simp only [Cn.hold, holdA, holdO] at eX eY eZ ⊢
        rw [eX, eY, eZ]
        by_cases h1 : g ≤ look r x <;> by_cases h2 : g ≤ look r y <;> by_cases h3 : g ≤ look r z <;> simp [h1, h2, h3] at hm3 ⊢ <;> subst hm3 <;> simp
      · refine ⟨by simp [Cn.ok, oks] at *; simp [oX, oY, oZ, *], by simp [Cn.lev, levs], by simp [Cn.parts, partss], ?_⟩
        simp only [Cn.hold, holdA, holdO] at eX eY eZ ⊢
        rw [eX, eY, eZ]
        by_cases h1 : g ≤ look r x <;> by_cases h2 : g ≤ look r y <;> by_cases h3 : g ≤ look r z <;> simp [h1, h2, h3] at hm3 ⊢ <;> subst hm3 <;> simp
      · refine ⟨by simp [Cn.ok, oks] at *; simp [oX, oY, oZ, *], by simp [Cn.lev, levs], by simp [Cn.parts, partss], ?_⟩
        simp only [Cn.hold, holdA, holdO] at eX eY eZ ⊢
        rw [eX, eY, eZ]
        by_cases h1 : g ≤ look r x <;> by_cases h2 : g ≤ look r y <;> by_cases h3 : g ≤ look r z <;> simp [h1, h2, h3] at hm3 ⊢ <;> subst hm3 <;> simp
      · exact ⟨trivial, by simp [Cn.lev, levs], by simp [Cn.parts, partss], rfl⟩
      · exact ⟨trivial, by simp [Cn.lev, levs], by simp [Cn.parts, partss], rfl⟩
def HL (r : Res) (e q : Int) (L : List (Cn × Bool)) (k : Nat) (ρ : Env) : Prop := ∃ (b : W) (z8 z9 z10 z11 z12 z13 z14 z15 z16 z17 z18 : Option W), ρ = [some b, some (rD r, 0), some (.int e, 0), some (.int q, 0), some (.tup ((pts e q).map D.int), 0), some (.lst (S8.map D.int), 0), some (.int (ptSum (pts e q) r), 0), some (.lst (L.map aD), 0), z8, z9, z10, z11, z12, z13, z14, z15, z16, z17, z18] ∧ Bag b
theorem held_11 {C : C} (F : HdF C) {ρ : Env} (h : HC ρ) : Ev ((thenS (s22_11 C) (thenS (s22_12 C) doneS)) ρ) (Rp [true] DoneP) := by
  obtain ⟨b, r, e, q, L, z8, z9, z10, z11, z12, rfl, hb, hr, e0, e7, q0, q1, hA⟩ := h
  have hp := pts_ok e0 e7 (by omega) q1
  simp only [s22_11]
  simp [itemsR, items, rowOf]
  refine ev_for (HL r e q L) ⟨b, _, _, _, _, _, _, _, _, _, _, _, rfl, hb⟩ ?_ ?_
  · rintro k d ρ hd ⟨b1, z8, z9, z10, z11, z12, z13, z14, z15, z16, z17, z18, rfl, hb1⟩
    rw [List.getElem?_map] at hd
    obtain ⟨p, hpk, rfl⟩ := Option.map_eq_some_iff.mp hd
    obtain ⟨ho, hl3, hp10, hh⟩ := hA p (List.mem_of_getElem? hpk)
    simp [aD]
    rw [ev_callV]
    simp [fill, pick, back]
    refine rt_mono (F.wr hb1 ho hl3 hp10) ?_
    rintro w outs ⟨c', t', b2, rfl, ho', hl', hp', hh', rfl, hb2⟩
    have h1 := F.hl hp hr ho' (by omega)
    rw [hh' _ _ hh] at h1
    have h2 := F.hl hp hr ho (by omega)
    rw [hh] at h2
    have h3 := F.ck ho' (by omega)
    rw [show decide (c'.lev ≤ 6 ∧ c'.parts ≤ 20) = true by simp [hl', hp']] at h3
    simp [back]
    rw [ev_callV]
    simp
    rw [ev_callV]
    simp [fill, pick, back]
    refine rt_mono h1 ?_
    rintro w outs ⟨rfl, rfl⟩
    simp [back, fill]
    refine rt_mono F.al ?_
    rintro w outs ⟨rfl, rfl⟩
    simp [back]
    rw [ev_callV]
    simp
    rw [ev_callV]
    simp [fill, pick, back]
    refine rt_mono h2 ?_
    rintro w outs ⟨rfl, rfl⟩
    simp [back, fill]
    refine rt_mono F.al ?_
    rintro w outs ⟨rfl, rfl⟩
    simp [back]
    rw [ev_callV]
    simp
    rw [ev_callV]
    simp [fill, pick, back]
    refine rt_mono h3 ?_
    rintro w outs ⟨rfl, rfl⟩
    simp [back, fill]
    refine rt_mono F.al ?_
    rintro w outs ⟨rfl, rfl⟩
    simp [back]
    exact ⟨b2, _, _, _, _, _, _, _, _, _, _, _, rfl, hb2⟩
  · rintro ρ ⟨b1, z8, z9, z10, z11, z12, z13, z14, z15, z16, z17, z18, rfl, hb1⟩
    simp [s22_12, outsOf]
    exact ⟨b1, rfl, rfl, hb1⟩
theorem held_ok {b : W} (h : Bag b) : Rt (hd (calls tab 99) 22 [(b, true)]) DoneP := by
  refine rt_call (n := 98) rfl rfl (by simp) (by simp) ?_
  show Ev (f__law_are_held (calls tab 98) [some b, none, none, none, none, none, none, none, none, none, none, none, none, none, none, none, none, none, none]) (Rp [true] DoneP)
  have F := hdF
  generalize calls tab 98 = C at F ⊢
  rw [f22_eq]
  exact held_012 F h fun ρ h => held_3 F h fun ρ h => held_45 F h fun ρ h => held_6 F h fun ρ h => held_11 F h
end Q.K80
end
section
set_option Elab.async false
set_option linter.all false
set_option maxRecDepth 100000
set_option maxHeartbeats 4000000
namespace Q.K80
/-- a result and one a step lower -/
def Dn (a b : Res) : Prop := b = a ∨ (∃ u p v, a = u ++ p :: v ∧ b = u ++ v) ∨ ∃ u p v, a = u ++ p :: v ∧ 0 < p.2 ∧ b = u ++ (p.1, p.2 - 1) :: v
def PtsS (ps : List Int) : Prop := Pts ps ∧ ps.Pairwise (· ≤ ·)
theorem pts_mono {ps : List Int} (h : PtsS ps) {i j : Int} (i0 : 0 ≤ i) (ij : i ≤ j) (j6 : j ≤ 6) : ptOf ps i ≤ ptOf ps j := by
  have hi : i.toNat < ps.length := by rw [h.1.1]; omega
  have hj : j.toNat < ps.length := by rw [h.1.1]; omega
  unfold ptOf
  rw [List.getD_eq_getElem?_getD, List.getElem?_eq_getElem hi, List.getD_eq_getElem?_getD, List.getElem?_eq_getElem hj]
  show ps[i.toNat] ≤ ps[j.toNat]
  by_cases e : i = j
  · subst e; exact Int.le_refl _
  · exact List.pairwise_iff_getElem.mp h.2 _ _ hi hj (by omega)
theorem good_of {r r' : Res} (h : Good r) (h1 : r'.map (·.1) = r.map (·.1)) (h2 : ∀ p ∈ r', 0 ≤ p.2 ∧ p.2 ≤ 6) : Good r' := by
  refine ⟨fun p hp => ?_, ?_⟩
  · have : p.1 ∈ r.map (·.1) := by rw [← h1]; exact List.mem_map_of_mem hp
    obtain ⟨q, hq, e⟩ := List.mem_map.mp this
    have := h.1 q hq
    have := h2 p hp
    omega
  · have := h.2
    rw [← List.pairwise_map (f := fun p : Int × Int => p.1) (R := fun x y => x < y)] at this ⊢
    rw [h1]
    exact this
theorem good_sub {r r' : Res} (h : Good r) (h1 : r'.Sublist r) : Good r' := ⟨fun p hp => h.1 p (h1.subset hp), h.2.sublist h1⟩
theorem ptSum_app {ps : List Int} {u v : Res} : ptSum ps (u ++ v) = ptSum ps u + ptSum ps v := by simp [ptSum]
theorem ptSum_cons {ps : List Int} {p : Int × Int} {v : Res} : ptSum ps (p :: v) = ptOf ps p.2 + ptSum ps v := by simp [ptSum]
theorem dn_ok {ps : List Int} (hp : PtsS ps) {a b : Res} (ha : Good a) (h : Dn a b) : Good b ∧ Under b a ∧ ptSum ps b ≤ ptSum ps a := by
  rcases h with rfl | ⟨u, p, v, rfl, rfl⟩ | ⟨u, p, v, rfl, h0, rfl⟩
  · exact ⟨ha, under_refl ha, Int.le_refl _⟩
  · have hs : (u ++ v).Sublist (u ++ p :: v) := List.Sublist.append (List.Sublist.refl _) (List.sublist_cons_self _ _)
    refine ⟨good_sub ha hs, fun q hq => ?_, ?_⟩
    · rw [look_mem ha (hs.subset hq)]
      exact Int.le_refl _
    · have h1 := ha.1 p (by simp)
      have := pts_at hp.1 h1.2.2.1 h1.2.2.2
      rw [ptSum_app, ptSum_app, ptSum_cons]
      omega
  · have h1 := ha.1 p (by simp)
    refine ⟨good_of ha (by simp) fun q hq => ?_, fun q hq => ?_, ?_⟩
    · rcases List.mem_append.mp hq with hq | hq
      · exact (ha.1 q (by simp [hq])).2.2
      · rcases List.mem_cons.mp hq with rfl | hq
        · dsimp only; omega
        · exact (ha.1 q (by simp [hq])).2.2
    · rcases List.mem_append.mp hq with hq | hq
      · rw [look_mem ha (by simp [hq])]; exact Int.le_refl _
      · rcases List.mem_cons.mp hq with rfl | hq
        · rw [look_mem ha (p := p) (by simp)]; dsimp only; omega
        · rw [look_mem ha (by simp [hq])]; exact Int.le_refl _
    · have := pts_mono hp (i := p.2 - 1) (j := p.2) (by omega) (by omega) h1.2.2.2
      rw [ptSum_app, ptSum_app, ptSum_cons, ptSum_cons]
      dsimp only
      omega
theorem cut_hi {xs : List D} {a : Int} (h0 : 0 ≤ a) (h : a ≤ xs.length) : cut xs none (some a) = xs.take a.toNat := by
  unfold cut sHi sLo sIx
  simp only [h0, if_true, List.drop_zero]
  rw [Nat.min_eq_left (by omega)]
theorem cut_lo {xs : List D} {a : Int} (h0 : 0 ≤ a) (h : a ≤ xs.length) : cut xs (some a) none = xs.drop a.toNat := by
  unfold cut sHi sLo sIx
  simp only [h0, if_true, List.take_length]
  rw [Nat.min_eq_left (by omega)]
theorem slice_tup {xs : List D} {lo hi : Option Int} {n : Nat} : slice (.tup xs, n) lo hi = some (.tup (cut xs lo hi), 0) := rfl
def LowP (r : Res) (w : W) (outs : List W) : Prop := ∃ (r' : Res) (b' : W), w = (rD r', 0) ∧ Dn r r' ∧ r' ≠ [] ∧ outs = [b'] ∧ Bag b'
theorem lower_ok {n : Nat} {b : W} {r : Res} (h : Bag b) (hr : Good r) (h0 : r ≠ []) : Rt (hd (calls tab (n + 2)) 25 [(b, true), ((rD r, 0), false)]) (LowP r) := by
  refine rt_call rfl rfl (by simp) (by simp) ?_
  show Ev (f__law_lower (calls tab (n + 1)) [some b, some (.tup (r.map pD), 0), none]) (Rp [true, false] (LowP r))
  have hn : ∀ {b : W} {q : Int}, Bag b → 1 ≤ q → q < 1073741824 → Rt (hd (calls tab (n + 1)) 12 [(b, true), ((.int q, 0), false)]) (NP q) := fun h h1 h2 => n_ok h h1 h2
  generalize calls tab (n + 1) = C at hn
  have hl8 := good_len hr
  have hl1 : 0 < r.length := by cases r with | nil => exact absurd rfl h0 | cons _ _ => simp
  simp only [f__law_lower, thenS_e, asgS_e, coV_e, ev_bd]
  rw [ev_callV]
  simp [fill, pick, back]
  refine rt_mono (hn h (by omega) (by omega)) ?_
  rintro w outs ⟨at', b1, rfl, a0, a1, rfl, hb1⟩
  have hk : at'.toNat < r.length := by omega
  obtain ⟨p, hp⟩ : ∃ p, r[at'.toNat]? = some p := ⟨_, List.getElem?_eq_getElem hk⟩
  have ea : r = r.take at'.toNat ++ p :: r.drop (at'.toNat + 1) := by
    have e2 : r[at'.toNat] = p := by
      rw [List.getElem?_eq_getElem hk] at hp
      injection hp
    rw [← e2, ← List.drop_eq_getElem_cons hk, List.take_append_drop]
  have ei : item (.tup (r.map pD), 0) (.int at') = some (pD p, 0) := item_tup (k := at'.toNat) (ixOf_nat a0 (by simp; omega)) (by rw [List.getElem?_map, hp]; rfl)
  have hpm : p ∈ r := List.mem_of_getElem? hp
  have hp2 := hr.1 p hpm
  have c1 : slice (.tup (r.map pD), 0) none (some at') = some (.tup ((r.take at'.toNat).map pD), 0) := by rw [slice_tup, cut_hi a0 (by simp; omega), List.map_take]
  have c2 : slice (.tup (r.map pD), 0) (some (at' + 1)) none = some (.tup ((r.drop (at'.toNat + 1)).map pD), 0) := by
    rw [slice_tup, cut_lo (by omega) (by simp; omega), List.map_drop]
    congr 5
    omega
  have d1 := add_tup (x := (r.take at'.toNat).map pD) (y := (r.drop (at'.toNat + 1)).map pD) (m := 0) (n := 0) (by simp; omega)
  have d2 := add_tup (x := (r.take at'.toNat).map pD) (y := [D.tup [.int p.1, .int (p.2 - 1)]]) (m := 0) (n := 0) (by simp; omega)
  have d3 := add_tup (x := (r.take at'.toNat).map pD ++ [D.tup [.int p.1, .int (p.2 - 1)]]) (y := (r.drop (at'.toNat + 1)).map pD) (m := 0) (n := 0) (by simp; omega)
  have fin1 : ∀ b2, Bag b2 → LowP r (.tup (r.map pD), 0) [b2] := fun b2 hb2 => ⟨r, b2, rfl, Or.inl rfl, h0, rfl, hb2⟩
  have fin2 : ∀ b2, Bag b2 → (1 : Int) < r.length → LowP r (.tup ((r.take at'.toNat).map pD ++ (r.drop (at'.toNat + 1)).map pD), 0) [b2] := fun b2 hb2 h1 => ⟨r.take at'.toNat ++ r.drop (at'.toNat + 1), b2, by simp [rD], Or.inr (Or.inl ⟨_, p, _, ea, rfl⟩), by
    intro e
    have e3 : (r.take at'.toNat ++ r.drop (at'.toNat + 1)).length = 0 := by rw [e]; rfl
    rw [List.length_append, List.length_take, List.length_drop] at e3
    omega, rfl, hb2⟩
  have fin3 : ∀ b2, Bag b2 → p.2 ≠ 0 → LowP r (.tup ((r.take at'.toNat).map pD ++ [D.tup [.int p.1, .int (p.2 - 1)]] ++ (r.drop (at'.toNat + 1)).map pD), 0) [b2] := fun b2 hb2 h1 => ⟨r.take at'.toNat ++ (p.1, p.2 - 1) :: r.drop (at'.toNat + 1), b2, by simp [rD, pD], Or.inr (Or.inr ⟨_, p, _, ea, by omega, rfl⟩), by simp, rfl, hb2⟩
  generalize (r.take at'.toNat).map pD = U at c1 d1 d2 d3 fin2 fin3
  generalize (r.drop (at'.toNat + 1)).map pD = V at c2 d1 d3 fin2 fin3
  simp only [pD] at ei
  have hX : (r.map pD).length = r.length := by simp
  generalize r.map pD = X at c1 c2 ei fin1 hX
  simp [back, ei]
  by_cases hl : (1 : Int) < X.length
  · have hl' : 1 < X.length := by omega
    cases hz : p.2 == 0 with
    | true =>
      simp [hl, hl', c1, c2, d1, outsOf]
      exact fin2 b1 hb1 (by omega)
    | false =>
      have hz2 : p.2 ≠ 0 := by simpa using hz
      simp
      rw [ev_callV]
      simp [fill, pick, back]
      refine rt_mono (hn hb1 (by omega) (by omega)) ?_
      rintro w outs ⟨q, b2, rfl, q0, q1, rfl, hb2⟩
      simp [back]
      cases hq : q == 0 with
      | true =>
        simp [hl, hl', c1, c2, d1, outsOf]
        exact fin2 b2 hb2 (by omega)
      | false =>
        simp [hl, hl', c1, c2, ei, pD, line_1000, d2]
        rw [d3]
        simp [outsOf]
        have := fin3 b2 hb2 hz2
        simpa using this
  · have hl' : ¬ 1 < X.length := by omega
    cases hz : p.2 == 0 with
    | true =>
      simp [hl, hl', outsOf]
      exact fin1 b1 hb1
    | false =>
      have hz2 : p.2 ≠ 0 := by simpa using hz
      simp
      rw [ev_callV]
      simp [fill, pick, back]
      refine rt_mono (hn hb1 (by omega) (by omega)) ?_
      rintro w outs ⟨q, b2, rfl, q0, q1, rfl, hb2⟩
      simp [back]
      cases hq : q == 0 with
      | true =>
        simp [hl, hl', c1, c2, ei, pD, line_1000, d2]
        rw [d3]
        simp [outsOf]
        have := fin3 b2 hb2 hz2
        simpa using this
      | false =>
        simp [hl, hl', c1, c2, ei, pD, line_1000, d2]
        rw [d3]
        simp [outsOf]
        have := fin3 b2 hb2 hz2
        simpa using this
end Q.K80
end
section
set_option Elab.async false
set_option linter.all false
set_option maxRecDepth 100000
set_option maxHeartbeats 4000000
namespace Q.K80
def Ch (ps : List Int) (rs : List Res) : Prop := (∀ r ∈ rs, Good r ∧ r ≠ []) ∧ rs.Pairwise (fun a b => Under b a ∧ ptSum ps b ≤ ptSum ps a)
theorem ch_one {ps : List Int} {r : Res} (h : Good r) (h0 : r ≠ []) : Ch ps [r] := ⟨fun x hx => by rw [List.mem_singleton.mp hx]; exact ⟨h, h0⟩, by simp⟩
theorem ch_snoc {ps : List Int} (hp : PtsS ps) {ini : List Res} {la r : Res} (h : Ch ps (ini ++ [la])) (hd : Dn la r) (h0 : r ≠ []) : Ch ps ((ini ++ [la]) ++ [r]) := by
  have hla := h.1 la (by simp)
  obtain ⟨d1, d2, d3⟩ := dn_ok hp hla.1 hd
  refine ⟨fun x hx => ?_, ?_⟩
  · rcases List.mem_append.mp hx with hx | hx
    · exact h.1 x hx
    · rw [List.mem_singleton.mp hx]; exact ⟨d1, h0⟩
  · refine List.pairwise_append.mpr ⟨h.2, by simp, fun a ha b hb => ?_⟩
    rw [List.mem_singleton.mp hb]
    have hal : Under la a ∧ ptSum ps la ≤ ptSum ps a := by
      rcases List.mem_append.mp ha with ha | ha
      · exact (List.pairwise_append.mp h.2).2.2 a ha la (by simp)
      · rw [List.mem_singleton.mp ha]; exact ⟨under_refl hla.1, Int.le_refl _⟩
    exact ⟨under_trans d1 d2 hal.1, Int.le_trans d3 hal.2⟩
theorem ch_at {ps : List Int} {rs : List Res} (h : Ch ps rs) {i j : Nat} (hi : i < rs.length) (hj : j < rs.length) (hle : j ≤ i) : Under rs[i] rs[j] ∧ ptSum ps rs[i] ≤ ptSum ps rs[j] := by
  by_cases e : j = i
  · subst e; exact ⟨under_refl (h.1 _ (List.getElem_mem hj)).1, Int.le_refl _⟩
  · exact List.pairwise_iff_getElem.mp h.2 j i hj hi (by omega)
theorem ch_un {ps : List Int} {rs : List Res} (h : Ch ps rs) {i j : Nat} (hi : i < rs.length) (hj : j < rs.length) : decide (Under rs[i] rs[j]) = (decide (j ≤ i) || decide (rs[i] = rs[j])) := by
  by_cases hle : j ≤ i
  · simp [hle, (ch_at h hi hj hle).1]
  · have h1 := (ch_at h hj hi (by omega)).1
    have gi := (h.1 _ (List.getElem_mem hi)).1
    have gj := (h.1 _ (List.getElem_mem hj)).1
    by_cases e : rs[i] = rs[j]
    · have : Under rs[i] rs[j] := by rw [e]; exact under_refl gj
      simp [e, this]
      exact under_refl gj
    · have : ¬ Under rs[i] rs[j] := fun h2 => e (under_anti gi gj h2 h1)
      simp [hle, e, this]
/-- the condition asked along the chain -/
def cc (S s g : Int) : Cn := .or [.pt S, .an [.gr s g, .pt 0]]
def hw (ps : List Int) (c : Cn) (r : Res) : Bool := c.hold (gsOf r) (ptSum ps r)
theorem cc_mono {ps : List Int} (hp : Pts ps) {S s g : Int} (s0 : 0 ≤ s) (s8 : s < 8) (g0 : 0 ≤ g) {a b : Res} (ha : Good a) (hb : Good b) (hu : Under a b) (hs : ptSum ps a ≤ ptSum ps b) (h : hw ps (cc S s g) a = true) : hw ps (cc S s g) b = true := by
  have e1 := hold_gr (T := ptSum ps a) (g := g) ha s0 s8
  have e2 := hold_gr (T := ptSum ps b) (g := g) hb s0 s8
  have t1 := (sum_480 hp ha).1
  have t2 := (sum_480 hp hb).1
  simp only [hw, cc, Cn.hold, holdA, holdO] at h e1 e2 ⊢
  rw [e1] at h
  rw [e2]
  simp [t1, t2] at h ⊢
  rcases h with h | h
  · left; omega
  · right
    obtain ⟨p, hpa, p1, p2⟩ := mem_look (r := a) (s := s) (by omega)
    have := hu p hpa
    rw [p1] at this
    omega
theorem deqs_pD : ∀ {a b : Res}, deqs (a.map pD) (b.map pD) = decide (a = b)
  | [], [] => rfl
  | [], q :: b => by simp [deqs]
  | p :: a, [] => by simp [deqs]
  | p :: a, q :: b => by
    have ih := deqs_pD (a := a) (b := b)
    simp only [List.map_cons, deqs, ih]
    have e : deq (pD p) (pD q) = decide (p = q) := by
      obtain ⟨p1, p2⟩ := p
      obtain ⟨q1, q2⟩ := q
      simp [pD, deq, deqs]
      rw [Bool.eq_iff_iff]
      simp
    rw [e]
    rw [Bool.eq_iff_iff]
    simp
theorem eq_rD {a b : Res} : cop .eq (rD a) (rD b) = some (decide (a = b)) := by
  have o : ∀ r : Res, okD 64 (rD r) = true := fun r => by simp [rD, okD, pD]
  have e : deq (rD a) (rD b) = decide (a = b) := by
    show deq (.tup _) (.tup _) = _
    simp only [deq]
    exact deqs_pD
  show (if _ then _ else _) = _
  rw [o, o, e]
  rfl
theorem ne_pDs {l : Res} : cop .ne (.lst (l.map pD)) (.lst []) = some (!l.isEmpty) := by
  have o : okD 64 (.lst (l.map pD)) = true := by simp [okD, pD]
  have o2 : okD 64 (.lst []) = true := by simp [okD]
  have e : deq (.lst (l.map pD)) (.lst []) = l.isEmpty := by
    cases l <;> simp [deq, deqs]
  show (if _ then _ else _) = _
  rw [o, o2, e]
  rfl
def full8 : Res := S8.map fun s => (s, 6)
theorem full8_good : Good full8 := by
  refine ⟨?_, ?_⟩
  · decide
  · decide
/-- the calls -/
structure GoF (C : C) : Prop extends HdF C where
  lo : ∀ {b : W} {r : Res}, Bag b → Good r → r ≠ [] → Rt (hd C 25 [(b, true), ((rD r, 0), false)]) (LowP r)
theorem goF : GoF (calls tab 98) := { hdF with lo := fun h a b => lower_ok (n := 96) h a b }
def G0I (k : Nat) (done : List D) (ρ : Env) : Prop := ∃ (b : W) (l : List Int), ρ = [some b, none, none, none, none, none, none, none, none, none, none, none, none, none, none] ∧ Bag b ∧ done = l.map D.int ∧ l.length = k ∧ ∀ x ∈ l, 0 ≤ x ∧ x ≤ 60
def GA (ps : List Int) (ρ : Env) : Prop := ∃ (b : W), ρ = [some b, some (.tup (ps.map D.int), 0), none, none, none, none, none, none, none, none, none, none, none, none, none] ∧ Bag b
theorem go_0 {C : C} (F : GoF C) {b : W} (h : Bag b) {G : Env → R Fl} {P : Fl → Env → Prop} (hG : ∀ ps ρ, PtsS ps → GA ps ρ → Ev (G ρ) P) : Ev ((thenS (s26_0 C) G) [some b, none, none, none, none, none, none, none, none, none, none, none, none, none, none]) P := by
  simp only [s26_0]
  simp [wip, rst]
  rw [rngR_int (by omega) (by omega), ev_ok]
  refine ev_lc G0I ⟨b, [], rfl, h, rfl, rfl, by simp⟩ ?_ ?_
  · rintro k d done ρ hd ⟨b1, l, rfl, hb1, rfl, hk, hl⟩
    simp [eltV]
    rw [ev_callV]
    simp
    rw [ev_callV]
    simp [fill, pick, back]
    refine rt_mono (F.n hb1 (by omega) (by omega)) ?_
    rintro w outs ⟨q, b2, rfl, q0, q1, rfl, hb2⟩
    simp [back, line_1000, fill]
    refine rt_mono (F.pk hb2 (by simp) (by simp)) ?_
    rintro w outs ⟨j, xd, b3, hj, rfl, rfl, hb3⟩
    obtain ⟨x, rfl, x0, x1⟩ : ∃ t : Int, xd = .int t ∧ 0 ≤ t ∧ t ≤ 60 := by
      have := List.mem_of_getElem? hj
      simp at this
      rcases this with rfl | rfl | rfl
      · exact ⟨_, rfl, by omega, by omega⟩
      · exact ⟨_, rfl, by omega, by omega⟩
      · exact ⟨_, rfl, by omega, by omega⟩
    simp [back, wip]
    refine ⟨b3, l ++ [x], rfl, hb3, by simp, by simp [hk], fun y hy => ?_⟩
    rcases List.mem_append.mp hy with hy | hy
    · exact hl y hy
    · rw [List.mem_singleton.mp hy]; exact ⟨x0, x1⟩
  · rintro l' ρ ⟨b1, l, rfl, hb1, rfl, hk, hl⟩
    have hk7 : l.length = 7 := by simpa using hk
    have hll : l.length ≤ line := line_1000 (by omega)
    simp [hll, keepW, bltD, overInts, intsOf_ints, tupleW]
    refine hG (sortInts l) _ ⟨⟨by rw [sort_perm.length_eq, hk7], fun x hx => hl x (sort_perm.mem_iff.mp hx)⟩, sort_sorted⟩ ⟨b1, rfl, hb1⟩
def GC (ps : List Int) (k : Nat) (ρ : Env) : Prop := ∃ (b : W) (ini : List Res) (la : Res) (z3 : Option W), ρ = [some b, some (.tup (ps.map D.int), 0), some (.lst ((ini ++ [la]).map rD), 1), z3, none, none, none, none, none, none, none, none, none, none, none] ∧ Bag b ∧ ini.length = k ∧ Ch ps (ini ++ [la])
theorem go_1 {C : C} (F : GoF C) {ps : List Int} {ρ : Env} (h : GA ps ρ) {G : Env → R Fl} {P : Fl → Env → Prop} (hG : ∀ ρ, GC ps 0 ρ → Ev (G ρ) P) : Ev ((thenS (s26_1 C) G) ρ) P := by
  obtain ⟨b, rfl, hb⟩ := h
  simp only [s26_1, thenS_e, asgS_e, lstV_e, consV_e, coV_e, ev_bd]
  rw [ev_callV]
  simp [wip, rst]
  rw [rngR_int (by omega) (by omega), ev_ok]
  refine ev_lcM (xs := S8) D.int (fun s => pD (s, 6)) (fun s hs => ?_) ?_
  · simp [eltV, two_line, wip, pD]
  · have hll : S8.length ≤ line := line_1000 (by simp [S8])
    simp [hll, tupleW, keepW]
    rw [ev_callV]
    simp
    rw [ev_callV]
    simp [fill, pick, back]
    refine rt_mono (F.n hb (by omega) (by omega)) ?_
    rintro w outs ⟨q, b2, rfl, q0, q1, rfl, hb2⟩
    simp [back, fill]
    refine rt_mono (F.rs hb2 (by omega) (by omega)) ?_
    rintro w outs ⟨r, b3, rfl, hr, hrl, rfl, hb3⟩
    simp [back, two_line, fill]
    refine rt_mono (F.pk hb3 (by simp) (by simp)) ?_
    rintro w outs ⟨j, xd, b4, hj, rfl, rfl, hb4⟩
    obtain ⟨x, rfl, x0, x1⟩ : ∃ x : Res, xd = rD x ∧ Good x ∧ x ≠ [] := by
      have := List.mem_of_getElem? hj
      simp at this
      rcases this with rfl | rfl
      · exact ⟨full8, by simp [rD, full8, S8], full8_good, by simp [full8, S8]⟩
      · exact ⟨r, rfl, hr, fun e => by rw [e] at hrl; simp at hrl; omega⟩
    simp [back, one_line]
    exact hG _ ⟨b4, [], x, none, rfl, hb4, rfl, ch_one x0 x1⟩
theorem go_2 {C : C} (F : GoF C) {ps : List Int} (hp : PtsS ps) {ρ : Env} (h : GC ps 0 ρ) {G : Env → R Fl} {P : Fl → Env → Prop} (hG : ∀ ρ, GC ps 6 ρ → Ev (G ρ) P) : Ev ((thenS (s26_2 C) G) ρ) P := by
  have h0 := h
  obtain ⟨b, ini, la, z3, rfl, hb, hk, hc⟩ := h
  simp only [s26_2, thenS_e, forV_e, rngV_e, consV_e, coV_e, cV_e, okNil_eq, ev_bd, ev_ok, co_int]
  rw [rngR_int (by omega) (by omega), ev_ok]
  refine ev_mono (P := fun l ρ => l = .nx ∧ GC ps 6 ρ) (ev_for (GC ps) h0 ?_ fun ρ hI => ⟨rfl, by simpa using hI⟩) ?_
  · rintro k d ρ hd ⟨b, ini, la, z3, rfl, hb, hk, hc⟩
    have hk7 : k < 6 := by
      have := (List.getElem?_eq_some_iff.mp hd).1
      simpa using this
    have ei : item (.lst ((ini ++ [la]).map rD), 1) (.int (-1)) = some (rD la, 0) := by
      have e1 : ixOf ((ini ++ [la]).map rD).length (-1) = some ini.length := by
        simp [ixOf]
        omega
      rw [item_lst e1 (d := rD la) (by simp)]
      rfl
    have ea : mutL (.append 0) (.lst ((ini ++ [la]).map rD), 1) = fun ws => mutL (.append 0) (.lst ((ini ++ [la]).map rD), 1) ws := rfl
    have hln : ((ini ++ [la]).map rD).length < line := by simp; unfold line; omega
    have hla := hc.1 la (by simp)
    generalize hX : (ini ++ [la]).map rD = X at ei hln ea
    simp [ei]
    rw [ev_callV]
    simp [ei, fill, pick, back]
    refine rt_mono (F.lo hb hla.1 hla.2) ?_
    rintro w outs ⟨r', b2, rfl, hdn, hr0, rfl, hb2⟩
    simp [back, mutL_append hln]
    refine ⟨b2, ini ++ [la], r', _, by rw [List.map_append (l₁ := ini ++ [la]), hX]; rfl, hb2, by simp [hk], ch_snoc hp hc hdn hr0⟩
  · rintro l ρ ⟨rfl, hI⟩
    exact hG ρ hI
end Q.K80
end
section
set_option Elab.async false
set_option linter.all false
set_option maxRecDepth 100000
set_option maxHeartbeats 4000000
namespace Q.K80
def GD (ps : List Int) (rs : List Res) (c : Cn) (ρ : Env) : Prop := ∃ (b : W) (z3 z4 z7 z8 z9 : Option W), ρ = [some b, some (.tup (ps.map D.int), 0), some (.lst (rs.map rD), 1), z3, z4, some (c.toD, 0), some (.lst (rs.map fun r => .bl (hw ps c r)), 0), z7, z8, z9, none, none, none, none, none] ∧ Bag b
theorem go_345 {C : C} (F : GoF C) {ps : List Int} (hp : PtsS ps) {ρ : Env} (h : GC ps 6 ρ) {G : Env → R Fl} {P : Fl → Env → Prop} (hG : ∀ rs S s g ρ, rs.length = 7 → Ch ps rs → 0 ≤ s → s < 8 → 0 ≤ g → GD ps rs (cc S s g) ρ → Ev (G ρ) P) : Ev ((thenS (s26_3 C) (thenS (s26_4 C) (thenS (s26_5 C) G))) ρ) P := by
  obtain ⟨b, ini, la, z3, rfl, hb, hk, hc⟩ := h
  have hl7 : (ini ++ [la]).length = 7 := by simp [hk]
  generalize ini ++ [la] = rs at hc hl7
  simp only [s26_3, thenS_e, asgS_e, coV_e, tupV_e, consV_e, cV_e, ev_bd, ev_ok, co_0]
  rw [ev_callV]
  simp [fill, pick, back]
  refine rt_mono (F.n hb (by omega) (by omega)) ?_
  rintro w outs ⟨s, b1, rfl, s0, s1, rfl, hb1⟩
  simp [back]
  rw [ev_callV]
  simp [fill, pick, back]
  refine rt_mono (F.n hb1 (by omega) (by omega)) ?_
  rintro w outs ⟨g, b2, rfl, g0, g1, rfl, hb2⟩
  simp [back, line_1000, s26_4]
  rw [ev_callV]
  simp
  rw [ev_callV]
  simp [fill, pick, back]
  refine rt_mono (F.n hb2 (by omega) (by omega)) ?_
  rintro w outs ⟨i, b3, rfl, i0, i1, rfl, hb3⟩
  have hi : i.toNat < rs.length := by omega
  have ei : item (.lst (rs.map rD), 1) (.int i) = some (rD rs[i.toNat], 0) := by
    rw [item_lst (k := i.toNat) (d := rD rs[i.toNat]) (ixOf_nat i0 (by simp; omega)) (by rw [List.getElem?_map, List.getElem?_eq_getElem hi]; rfl)]
    rfl
  have hri := (hc.1 _ (List.getElem_mem hi)).1
  simp [back, ei, fill]
  refine rt_mono (F.sm hp.1 hri) ?_
  rintro w outs ⟨rfl, rfl⟩
  simp [back, line_1000, two_line]
  have hS := sum_480 hp.1 hri
  generalize ptSum ps rs[i.toNat] = S at hS
  have hcc : (cc S s g).ok := by simp [cc, Cn.ok, oks]; omega
  have hcl : (cc S s g).lev ≤ 8 := by simp [cc, Cn.lev, levs]
  have hD : (cc S s g).toD = .tup [sOr, .tup [.tup [sPt, .int S], .tup [sAnd, .tup [.tup [sGr, .int s, .int g], .tup [sPt, .int 0]]]]] := rfl
  rw [← hD]
  simp only [s26_5]
  simp [itemsR, items, rowOf, wip, rst]
  refine ev_lcM (xs := rs) rD (fun r => .bl (hw ps (cc S s g) r)) (fun r hr => ?_) ?_
  · simp [eltV]
    rw [ev_callV]
    simp [fill, pick, back]
    refine rt_mono (F.hl hp.1 (hc.1 r hr).1 hcc hcl) ?_
    rintro w outs ⟨rfl, rfl⟩
    simp [back, wip]
    rfl
  · have hll : rs.length ≤ line := line_1000 (by omega)
    simp [hll, keepW]
    exact hG rs S s g _ hl7 hc s0 s1 g0 ⟨b3, _, _, none, none, none, rfl, hb3⟩
def GDi (ps : List Int) (rs : List Res) (c : Cn) (i : Nat) (ρ : Env) : Prop := ∃ (b : W) (z3 z4 z8 z9 : Option W), ρ = [some b, some (.tup (ps.map D.int), 0), some (.lst (rs.map rD), 1), z3, z4, some (c.toD, 0), some (.lst (rs.map fun r => .bl (hw ps c r)), 0), some (.int i, 0), z8, z9, none, none, none, none, none] ∧ Bag b
theorem go_6 {C : C} (F : GoF C) {ps : List Int} (hp : PtsS ps) {rs : List Res} {S s g : Int} {ρ : Env} (h7 : rs.length = 7) (hc : Ch ps rs) (s0 : 0 ≤ s) (s8 : s < 8) (g0 : 0 ≤ g) (h : GD ps rs (cc S s g) ρ) {G : Env → R Fl} {io : List Bool} {P : W → List W → Prop} (hG : ∀ ρ, GD ps rs (cc S s g) ρ → Ev (G ρ) (Rp io P)) : Ev ((thenS (s26_6 C) G) ρ) (Rp io P) := by
  have h0 := h
  have hm : ∀ i j : Nat, (hi : i < rs.length) → (hj : j < rs.length) → (decide (j ≤ i) || decide (rs[i] = rs[j])) = true → hw ps (cc S s g) rs[i] = true → hw ps (cc S s g) rs[j] = true := fun i j hi hj hd hw1 => by
    have gi := (hc.1 _ (List.getElem_mem hi)).1
    have gj := (hc.1 _ (List.getElem_mem hj)).1
    simp at hd
    rcases hd with hd | hd
    · have := ch_at hc hi hj hd
      exact cc_mono hp.1 s0 s8 g0 gi gj this.1 this.2 hw1
    · rw [← hd]; exact hw1
  have ii : ∀ i : Nat, (hi : i < rs.length) → item (.lst (rs.map rD), 1) (.int i) = some (rD rs[i], 0) := fun i hi => by
    rw [item_lst (k := i) (d := rD rs[i]) (ixOf_nat (by omega) (by simp; omega)) (by rw [List.getElem?_map, List.getElem?_eq_getElem hi]; rfl)]
    rfl
  have iw : ∀ (c : Cn) (i : Nat), (hi : i < rs.length) → item (.lst (rs.map fun r => .bl (hw ps c r)), 0) (.int i) = some (.bl (hw ps c rs[i]), 0) := fun c i hi => by
    rw [item_lst (k := i) (d := .bl (hw ps c rs[i])) (ixOf_nat (by omega) (by simp; omega)) (by rw [List.getElem?_map, List.getElem?_eq_getElem hi]; rfl)]
    rfl
  generalize cc S s g = c at h h0 hG hm
  obtain ⟨b, z3, z4, z7, z8, z9, rfl, hb⟩ := h
  simp only [s26_6, thenS_e, forV_e, rngV_e, consV_e, coV_e, cV_e, okNil_eq, ev_bd, ev_ok, co_int]
  rw [rngR_int (by omega) (by omega), ev_ok]
  refine ev_mono (P := fun l ρ => l = .nx ∧ GD ps rs c ρ) (ev_for (fun _ => GD ps rs c) h0 ?_ fun ρ hI => ⟨rfl, hI⟩) ?_
  · rintro k d ρ hd ⟨b, z3, z4, z7, z8, z9, rfl, hb⟩
    rw [List.getElem?_map] at hd
    obtain ⟨i, hi, rfl⟩ := Option.map_eq_some_iff.mp hd
    have hi7 : i < rs.length := by
      have := List.mem_of_getElem? hi
      rw [h7]
      simpa using this
    simp only [gN_e, List.length_cons, List.length_nil]
    simp
    rw [rngR_int (by omega) (by omega), ev_ok]
    refine ev_mono (P := fun l ρ => l = .nx ∧ GDi ps rs c i ρ) (ev_for (fun _ => GDi ps rs c i) ⟨b, z3, z4, _, _, rfl, hb⟩ ?_ fun ρ hI => ⟨rfl, hI⟩) ?_
    · rintro k2 d ρ hd ⟨b, z3, z4, z8, z9, rfl, hb⟩
      rw [List.getElem?_map] at hd
      obtain ⟨j, hj, rfl⟩ := Option.map_eq_some_iff.mp hd
      have hj7 : j < rs.length := by
        have := List.mem_of_getElem? hj
        rw [h7]
        simpa using this
      have hun := F.un (hc.1 _ (List.getElem_mem hi7)).1 (hc.1 _ (List.getElem_mem hj7)).1
      rw [ch_un hc hi7 hj7] at hun
      have hmm := hm i j hi7 hj7
      have i1 := ii i hi7
      have i2 := ii j hj7
      have w1 := iw c i hi7
      have w2 := iw c j hj7
      generalize rs[i] = ri at hun hmm i1 w1
      generalize rs[j] = rj at hun hmm i2 w2
      generalize hX : rs.map rD = X at i1 i2
      generalize hY : (rs.map fun r => D.bl (hw ps c r)) = Y at w1 w2
      generalize hw ps c ri = wi at hmm w1
      generalize hw ps c rj = wj at hmm w2
      have fin : ∀ z8 z9, GDi ps rs c i [some b, some (.tup (ps.map D.int), 0), some (.lst X, 1), z3, z4, some (c.toD, 0), some (.lst Y, 0), some (.int i, 0), z8, z9, none, none, none, none, none] := fun z8 z9 => ⟨b, z3, z4, z8, z9, by rw [hX, hY], hb⟩
      have eqr := eq_rD (a := ri) (b := rj)
      generalize hdue : (decide (j ≤ i) || decide (ri = rj)) = due at hun hmm
      have est : Ev (asgS (coV 0 (orV (cmpV .ge (varV 7) (varV 8)) (cmpV .eq (subV (varV 2) (varV 7)) (subV (varV 2) (varV 8))))) (gN 9) [some b, some (.tup (ps.map D.int), 0), some (.lst X, 1), z3, z4, some (c.toD, 0), some (.lst Y, 0), some (.int i, 0), some (.int j, 0), z9, none, none, none, none, none]) (fun l ρ' => l = .nx ∧ ρ' = [some b, some (.tup (ps.map D.int), 0), some (.lst X, 1), z3, z4, some (c.toD, 0), some (.lst Y, 0), some (.int i, 0), some (.int j, 0), some (.bl due, 0), none, none, none, none, none]) := by
        rw [← hdue]
        by_cases hji : j ≤ i
        · have hji' : (j : Int) ≤ i := by omega
          simp [hji, hji']
        · have hji' : ¬ (j : Int) ≤ i := by omega
          simp [hji, hji', i1, i2, eqr]
      refine ev_then (Q := fun ρ' => ρ' = [some b, some (.tup (ps.map D.int), 0), some (.lst X, 1), z3, z4, some (c.toD, 0), some (.lst Y, 0), some (.int i, 0), some (.int j, 0), some (.bl due, 0), none, none, none, none, none]) est ?_
      rintro ρ rfl
      simp
      rw [ev_callV]
      simp
      rw [ev_callV]
      simp [i1, i2, fill, pick, back]
      refine rt_mono hun ?_
      rintro w outs ⟨rfl, rfl⟩
      simp [back, fill]
      refine rt_mono F.al ?_
      rintro w outs ⟨rfl, rfl⟩
      simp [back]
      cases due with
      | false =>
        simp
        exact fin _ _
      | true =>
        cases wi with
        | false =>
          simp [w1, cop]
          exact fin _ _
        | true =>
          have := hmm rfl rfl
          subst this
          simp [w1, w2, cop]
          exact fin _ _
    · rintro l ρ ⟨rfl, b, z3, z4, z8, z9, rfl, hb⟩
      simp
      exact ⟨b, z3, z4, _, _, _, rfl, hb⟩
  · rintro l ρ ⟨rfl, hI⟩
    exact hG ρ hI
end Q.K80
end
section
set_option Elab.async false
set_option linter.all false
set_option maxRecDepth 100000
set_option maxHeartbeats 4000000
namespace Q.K80
def raised (q : Int × Int) : Int × Int := (q.1, if q.2 + 1 < 6 then q.2 + 1 else 6)
def other (p : Int × Int) (t : Res) : Res := (p.1, if 1 < p.2 then p.2 - 1 else 0) :: t.map raised
theorem other_good {p : Int × Int} {t : Res} (h : Good (p :: t)) : Good (other p t) := by
  refine good_of h (by simp [other, raised]) fun q hq => ?_
  have hp := h.1 p List.mem_cons_self
  rcases List.mem_cons.mp hq with rfl | hq
  · dsimp only
    split <;> omega
  · obtain ⟨x, hx, rfl⟩ := List.mem_map.mp hq
    have hxx := h.1 x (List.mem_cons_of_mem _ hx)
    simp only [raised]
    split <;> omega
theorem other_1 {p : Int × Int} {t : Res} (h : Good (p :: t)) (h0 : 0 < p.2) : ¬ Under (p :: t) (other p t) := fun hu => by
  have := hu p List.mem_cons_self
  simp only [other, look, if_true] at this
  split at this <;> omega
theorem other_2 {p : Int × Int} {t : Res} (h : Good (p :: t)) {q : Int × Int} (hq : q ∈ t) (h6 : q.2 < 6) : ¬ Under (other p t) (p :: t) := fun hu => by
  have := hu (raised q) (List.mem_cons_of_mem _ (List.mem_map_of_mem hq))
  have e : look (p :: t) (raised q).1 = q.2 := look_mem h (p := q) (List.mem_cons_of_mem _ hq)
  rw [e] at this
  simp only [raised] at this
  split at this <;> omega
def GE (f : Res) (ρ : Env) : Prop := ∃ (b : W) (z1 z2 z3 z4 z5 z6 z7 z8 z9 z11 z12 : Option W), ρ = [some b, z1, z2, z3, z4, z5, z6, z7, z8, z9, some (rD f, 0), z11, z12, none, none] ∧ Bag b
theorem go_7 {C : C} (F : GoF C) {ps : List Int} {rs : List Res} {c : Cn} {ρ : Env} (h7 : rs.length = 7) (hc : Ch ps rs) (h : GD ps rs c ρ) {G : Env → R Fl} {P : Fl → Env → Prop} (hG : ∀ p t ρ, Good (p :: t) → GE (p :: t) ρ → Ev (G ρ) P) : Ev ((thenS (s26_7 C) G) ρ) P := by
  obtain ⟨b, z3, z4, z7, z8, z9, rfl, hb⟩ := h
  match rs, h7, hc with
  | f :: rest, _, hc =>
    obtain ⟨hf, hf0⟩ := hc.1 f List.mem_cons_self
    match f, hf, hf0 with
    | p :: t, hf, _ =>
      simp [s26_7]
      exact hG p t _ hf ⟨b, _, _, _, _, _, _, _, _, _, _, _, rfl, hb⟩
theorem drop_1 {x : D} {xs : List D} {n : Nat} : slice (.tup (x :: xs), n) (some 1) none = some (.tup xs, 0) := by
  rw [slice_tup, cut_lo (by omega) (by simp; omega)]
  rfl
theorem zero_line : (0 : Nat) ≤ line := Nat.zero_le _
theorem go_8 {C : C} (F : GoF C) {p : Int × Int} {t : Res} {ρ : Env} (hf : Good (p :: t)) (h : GE (p :: t) ρ) {io : List Bool} {P : W → List W → Prop} (hG : ∀ ρ, GE (p :: t) ρ → Ev (thenS (s26_11 C) doneS ρ) (Rp io P)) : Ev ((thenS (s26_8 C) (thenS (s26_9 C) (thenS (s26_10 C) (thenS (s26_11 C) doneS)))) ρ) (Rp io P) := by
  obtain ⟨b, z1, z2, z3, z4, z5, z6, z7, z8, z9, z11, z12, rfl, hb⟩ := h
  have hrD : rD (p :: t) = .tup (.tup [.int p.1, .int p.2] :: t.map pD) := rfl
  have hl8 := good_len hf
  have hll : (t.map pD).length ≤ line := line_1000 (by simp at hl8 ⊢; omega)
  have hgo := other_good hf
  simp only [s26_8]
  simp [hrD, one_line, two_line, max2W_int, drop_1, itemsR, items, rowOf, wip, rst]
  refine ev_lcM (xs := t) pD (fun q => pD (raised q)) (fun q hq => ?_) ?_
  · simp [eltV, pD, min2W_int, two_line, wip, raised]
  · have hlt : t.length ≤ line := line_1000 (by simp at hl8; omega)
    simp [hlt, keepW]
    have eo : ([D.tup [D.int p.1, D.int (if 1 < p.2 then p.2 - 1 else 0)]] ++ t.map fun q => pD (raised q)) = (other p t).map pD := by simp [other, pD]
    rw [add_lst (by simp at hl8 ⊢; omega) (by omega) (by omega), eo]
    simp [tupleW]
    rw [← hrD]
    have hro : D.tup ((other p t).map pD) = rD (other p t) := rfl
    rw [hro]
    have est : Ev (s26_9 C [some b, z1, z2, z3, z4, z5, z6, z7, z8, z9, some (rD (p :: t), 0), some (rD (other p t), 0), z12, none, none]) (fun l ρ' => l = .nx ∧ ρ' = [some b, z1, z2, z3, z4, z5, z6, z7, z8, z9, some (rD (p :: t), 0), some (rD (other p t), 0), some (.bl (decide (0 < p.2) && !(t.filter fun q => decide (q.2 < 6)).isEmpty), 0), none, none]) := by
      generalize rD (other p t) = O
      simp only [s26_9]
      rw [hrD]
      by_cases h0 : 0 < p.2
      · simp [h0, drop_1, itemsR, items, rowOf, wip, rst]
        refine ev_lcF (xs := t) pD pD (fun q => decide (q.2 < 6)) (fun q hq => ?_) ?_
        · by_cases h6 : q.2 < 6
          · simp [eltV, pD, h6, wip]
          · simp [eltV, pD, h6, wip]
        · have hfl : (t.filter fun q => decide (q.2 < 6)).length ≤ line := Nat.le_trans (List.length_filter_le _ _) hlt
          have hne := ne_pDs (l := t.filter fun q => decide (q.2 < 6))
          generalize (t.filter fun q => decide (q.2 < 6)) = T at hfl hne
          simp [hfl, keepW, zero_line, hne]
      · simp [h0]
    refine ev_mono est ?_
    rintro l ρ ⟨rfl, rfl⟩
    dsimp only
    have u1 := F.un hf hgo
    have u2 := F.un hgo hf
    have hap : (decide (0 < p.2) && !(t.filter fun q => decide (q.2 < 6)).isEmpty) = true → decide (Under (p :: t) (other p t)) = false ∧ decide (Under (other p t) (p :: t)) = false := fun ha => by
      simp at ha
      obtain ⟨h0, a, q2, hq, h6⟩ := ha
      have e1 := other_1 hf h0
      have e2 := other_2 hf (q := (a, q2)) hq h6
      exact ⟨by simp [e1], by simp [e2]⟩
    generalize (decide (0 < p.2) && !(t.filter fun q => decide (q.2 < 6)).isEmpty) = ap at hap
    have fin : ∀ ρ, ρ = [some b, z1, z2, z3, z4, z5, z6, z7, z8, z9, some (rD (p :: t), 0), some (rD (other p t), 0), some (.bl ap, 0), none, none] → Ev (thenS (s26_11 C) doneS ρ) (Rp io P) := fun ρ e => hG ρ ⟨b, z1, z2, z3, z4, z5, z6, z7, z8, z9, _, _, e, hb⟩
    generalize s26_11 C = s11 at fin hG
    simp only [s26_10]
    cases ap with
    | false =>
      simp
      have := fin _ rfl
      simpa using this
    | true =>
      obtain ⟨h1, h2⟩ := hap rfl
      rw [h1] at u1
      rw [h2] at u2
      generalize rD (p :: t) = X at u1 u2 fin
      generalize rD (other p t) = Y at u1 u2 fin
      simp
      rw [ev_callV]
      simp
      rw [ev_callV]
      simp [fill, pick, back]
      refine rt_mono u1 ?_
      rintro w outs ⟨rfl, rfl⟩
      simp [back]
      rw [ev_callV]
      simp [fill, pick, back]
      refine rt_mono u2 ?_
      rintro w outs ⟨rfl, rfl⟩
      simp [back, two_line, fill]
      refine rt_mono (F.als (bs := [false, false]) (by simp)) ?_
      rintro w outs ⟨rfl, rfl⟩
      simp [back]
      have := fin _ rfl
      simpa using this
theorem go_11 {C : C} (F : GoF C) {p : Int × Int} {t : Res} {ρ : Env} (hf : Good (p :: t)) (h : GE (p :: t) ρ) : Ev (thenS (s26_11 C) doneS ρ) (Rp [true] DoneP) := by
  obtain ⟨b, z1, z2, z3, z4, z5, z6, z7, z8, z9, z11, z12, rfl, hb⟩ := h
  have u1 := F.un hf hf
  rw [show decide (Under (p :: t) (p :: t)) = true by simp [under_refl hf]] at u1
  generalize rD (p :: t) = X at u1
  simp only [s26_11]
  simp
  rw [ev_callV]
  simp
  rw [ev_callV]
  simp [fill, pick, back]
  refine rt_mono u1 ?_
  rintro w outs ⟨rfl, rfl⟩
  simp [back, fill]
  refine rt_mono F.al ?_
  rintro w outs ⟨rfl, rfl⟩
  simp [back, outsOf]
  exact ⟨b, rfl, rfl, hb⟩
theorem go_ok {b : W} (h : Bag b) : Rt (hd (calls tab 99) 26 [(b, true)]) DoneP := by
  refine rt_call (n := 98) rfl rfl (by simp) (by simp) ?_
  show Ev (f__law_go_along (calls tab 98) [some b, none, none, none, none, none, none, none, none, none, none, none, none, none, none]) (Rp [true] DoneP)
  have F := goF
  generalize calls tab 98 = C at F ⊢
  rw [f26_eq]
  exact go_0 F h fun ps ρ hp h => go_1 F h fun ρ h => go_2 F hp h fun ρ h => go_345 F hp h fun rs S s g ρ h7 hc s0 s8 g0 h => go_6 F hp h7 hc s0 s8 g0 h fun ρ h => go_7 F h7 hc h fun p t ρ hf h => go_8 F hf h fun ρ h => go_11 F hf h
/-- the law, in plain Lean -/
theorem law_ok (ns : List Int) (m : Nat) (hl : ns.length ≤ 63) (hm : m ≤ 1) : ∃ outs, callB (calls tab 99) ⟨[true], 2, f_law⟩ [((.lst (ns.map D.int), m), true)] = .ret (.bl true, 0) outs := by
  have ho : Rt (hd (calls tab 99) 11 [((.lst (ns.map D.int), 0), false)]) (fun w outs => outs = [] ∧ Bag w) := open_ok (n := 98) (by omega)
  have h22 := fun {b : W} (h : Bag b) => held_ok h
  have h24 := fun {b : W} (h : Bag b) => looked_ok h
  have h26 := fun {b : W} (h : Bag b) => go_ok h
  have e : Ev (f_law (calls tab 99) [some (.lst (ns.map D.int), m), none]) (Rp [true] (fun w _ => w = (.bl true, 0))) := by
    generalize calls tab 99 = C at ho h22 h24 h26
    generalize ns.map D.int = X at ho
    simp only [f_law, thenS_e, asgS_e, ev_bd]
    rw [ev_callV]
    simp [fill, pick, back]
    refine rt_mono ho ?_
    rintro w outs ⟨rfl, hb⟩
    simp [back]
    rw [ev_callV]
    simp [fill, pick, back]
    refine rt_mono (h22 hb) ?_
    rintro w outs ⟨b1, rfl, rfl, hb1⟩
    simp [back]
    rw [ev_callV]
    simp [fill, pick, back]
    refine rt_mono (h24 hb1) ?_
    rintro w outs ⟨b2, rfl, rfl, hb2⟩
    simp [back]
    rw [ev_callV]
    simp [fill, pick, back]
    refine rt_mono (h24 hb2) ?_
    rintro w outs ⟨b3, rfl, rfl, hb3⟩
    simp [back]
    rw [ev_callV]
    simp [fill, pick, back]
    refine rt_mono (h26 hb3) ?_
    rintro w outs ⟨b4, rfl, rfl, hb4⟩
    simp [back, outsOf]
  obtain ⟨l, ρ, h1, h2⟩ := ev_iff.mp e
  unfold callB
  rw [if_pos ⟨rfl, by simp, by simp⟩]
  have e3 : (⟨[true], 2, f_law⟩ : Fn).body (calls tab 99) (List.map (fun a => some a.1) [((D.lst (ns.map D.int), m), true)] ++ List.replicate ((⟨[true], 2, f_law⟩ : Fn).n - [((D.lst (ns.map D.int), m), true)].length) none) = .ok l ρ := h1
  rw [e3]
  cases l with
  | rt w =>
    rw [rp_rt] at h2
    dsimp only
    cases e2 : outsOf [true] ρ with
    | none => rw [e2] at h2; exact h2.elim
    | some outs => rw [e2] at h2; dsimp only at h2; rw [h2]; exact ⟨_, rfl⟩
  | nx =>
    rw [rp_nx] at h2
    cases e2 : outsOf [true] ρ with
    | none => rw [e2] at h2; exact h2.elim
    | some outs => rw [e2] at h2; cases h2
  | _ => exact h2.elim
end Q.K80
end
section
set_option Elab.async false
set_option linter.all false
set_option maxRecDepth 100000
set_option maxHeartbeats 0
namespace Q.K80
open PySem PySem.Spec PyProof.Rows
open L2 (V Hp Inv Cx FnOk FunD CX0 Room)
def fas : List He.Fa := defs.map (fun d => He.Fa.glo d.name) ++ [.free "abs", .free "all", .free "any", .free "bool", .free "int", .free "isinstance", .free "len", .free "list", .free "max", .free "min", .free "range", .free "sorted", .free "str", .free "sum", .free "tuple", .int "MOST_LEVELS" 6, .int "MOST_PARTS" 20, .int "MOST_POINTS" 480, .int "SUBJECTS" 8]
theorem plain (i : Nat) (d : He.DefD) (h : defs[i]? = some d) : d.dfl = [] ∧ d.kwd = [] ∧ d.at_ = (d.name, none) ∧ fas[i]? = some (.glo d.name) := by
  match i, h with
  | 0, h => cases h; exact ⟨rfl, rfl, rfl, rfl⟩
  | 1, h => cases h; exact ⟨rfl, rfl, rfl, rfl⟩
  | 2, h => cases h; exact ⟨rfl, rfl, rfl, rfl⟩
  | 3, h => cases h; exact ⟨rfl, rfl, rfl, rfl⟩
  | 4, h => cases h; exact ⟨rfl, rfl, rfl, rfl⟩
  | 5, h => cases h; exact ⟨rfl, rfl, rfl, rfl⟩
  | 6, h => cases h; exact ⟨rfl, rfl, rfl, rfl⟩
  | 7, h => cases h; exact ⟨rfl, rfl, rfl, rfl⟩
  | 8, h => cases h; exact ⟨rfl, rfl, rfl, rfl⟩
  | 9, h => cases h; exact ⟨rfl, rfl, rfl, rfl⟩
  | 10, h => cases h; exact ⟨rfl, rfl, rfl, rfl⟩
  | 11, h => cases h; exact ⟨rfl, rfl, rfl, rfl⟩
  | 12, h => cases h; exact ⟨rfl, rfl, rfl, rfl⟩
  | 13, h => cases h; exact ⟨rfl, rfl, rfl, rfl⟩
  | 14, h => cases h; exact ⟨rfl, rfl, rfl, rfl⟩
  | 15, h => cases h; exact ⟨rfl, rfl, rfl, rfl⟩
  | 16, h => cases h; exact ⟨rfl, rfl, rfl, rfl⟩
  | 17, h => cases h; exact ⟨rfl, rfl, rfl, rfl⟩
  | 18, h => cases h; exact ⟨rfl, rfl, rfl, rfl⟩
  | 19, h => cases h; exact ⟨rfl, rfl, rfl, rfl⟩
  | 20, h => cases h; exact ⟨rfl, rfl, rfl, rfl⟩
  | 21, h => cases h; exact ⟨rfl, rfl, rfl, rfl⟩
  | 22, h => cases h; exact ⟨rfl, rfl, rfl, rfl⟩
  | 23, h => cases h; exact ⟨rfl, rfl, rfl, rfl⟩
  | 24, h => cases h; exact ⟨rfl, rfl, rfl, rfl⟩
  | 25, h => cases h; exact ⟨rfl, rfl, rfl, rfl⟩
  | 26, h => cases h; exact ⟨rfl, rfl, rfl, rfl⟩
  | 27, h => cases h; exact ⟨rfl, rfl, rfl, rfl⟩
  | k + 28, h => simp [defs] at h
theorem lw {K : PySem.W.Frag} {mg : Str → Option Value} {base h : Heap} {ts : List (Addr × Addr)} (c : SaysQ fas defs K ts h) (G : h.Ns mainGlobals mg) {fd : Nat → FuncData}
    (hfd : ∀ (i : Nat) (d : He.DefD), defs[i]? = some d → d.dfl = [] → d.kwd = [] → FunD K d.name d.qual d.params d.body d.scope [] [] (faQ K defs i) (fd i) ∧ (fd i).code = .ref (caQ K defs i)) (tb : ∀ p ∈ ts, GxR.TabB base mg p.1 p.2) : Lw K mg base (faQ K defs) fd (caQ K defs) (taQ ts) where
  fn := fun i d e => (hfd i d e (plain i d e).1 (plain i d e).2.1).1
  gl := fun i d e => glo_at c G e (plain i d e).2.2.2 (plain i d e).2.2.1
  cd := fun i d e => ⟨(hfd i d e (plain i d e).1 (plain i d e).2.1).2, code_at c tb e⟩
  b_abs := He.free_ok c.kin G (c.says.fact 28 (f := .free "abs") rfl)
  b_all := He.free_ok c.kin G (c.says.fact 29 (f := .free "all") rfl)
  b_any := He.free_ok c.kin G (c.says.fact 30 (f := .free "any") rfl)
  b_bool := He.free_ok c.kin G (c.says.fact 31 (f := .free "bool") rfl)
  b_int := He.free_ok c.kin G (c.says.fact 32 (f := .free "int") rfl)
  b_isinstance := He.free_ok c.kin G (c.says.fact 33 (f := .free "isinstance") rfl)
  b_len := He.free_ok c.kin G (c.says.fact 34 (f := .free "len") rfl)
  b_list := He.free_ok c.kin G (c.says.fact 35 (f := .free "list") rfl)
  b_max := He.free_ok c.kin G (c.says.fact 36 (f := .free "max") rfl)
  b_min := He.free_ok c.kin G (c.says.fact 37 (f := .free "min") rfl)
  b_range := He.free_ok c.kin G (c.says.fact 38 (f := .free "range") rfl)
  b_sorted := He.free_ok c.kin G (c.says.fact 39 (f := .free "sorted") rfl)
  b_str := He.free_ok c.kin G (c.says.fact 40 (f := .free "str") rfl)
  b_sum := He.free_ok c.kin G (c.says.fact 41 (f := .free "sum") rfl)
  b_tuple := He.free_ok c.kin G (c.says.fact 42 (f := .free "tuple") rfl)
  c_MOST_LEVELS := He.int_ok c.kin G (c.says.fact 43 (f := .int "MOST_LEVELS" 6) rfl)
  c_MOST_PARTS := He.int_ok c.kin G (c.says.fact 44 (f := .int "MOST_PARTS" 20) rfl)
  c_MOST_POINTS := He.int_ok c.kin G (c.says.fact 45 (f := .int "MOST_POINTS" 480) rfl)
  c_SUBJECTS := He.int_ok c.kin G (c.says.fact 46 (f := .int "SUBJECTS" 8) rfl)
abbrev R : PySem.W.OpenRow := PySem.W.OpenLaw.row PySem.Challenge.rw_alliedoffers_k80_results_and_conditions
abbrev hk : PySem.W.Hook := hookQ 4 fas defs
def ob (s : PySem.W.SharedT) : AlQ := obsQG 4 fas defs (HandSHeadRun.getT s)
theorem ob_eq (s : PySem.W.SharedT) : ob s = hk.obs s.abs := obsQG_eq (HandSHeadRun.getT_eq s)
def nm0 : List Str := ["is_number", "SUBJECTS", "MOST_POINTS", "MOST_LEVELS", "MOST_PARTS", "points_of", "grades_of", "holds_in", "holds", "lies_under", "parts_of_grade", "parts_of_points", "parts_of_many", "parts_of", "check_condition", "_law_open", "_law_n", "_law_alike", "_law_pick", "_law_taken", "_law_sum", "_law_result", "_law_many", "_law_wrapped", "_law_parts", "_law_levels", "_law_are_held", "_law_leaf", "_law_are_looked_at", "_law_lower"]
def nm1 : List Str := ["_law_go_along"]
def names : List Str := nm0 ++ nm1
theorem run (w : World) : HandSHeadRun.RunEq R (PySem.W.view R.prog [34]) hk ob 3000 names w := by
  intro os
  kernel_rfl
theorem holds_of (hL : ∀ (ns : List Int) (m : Nat), ns.length ≤ 63 → (∀ z ∈ ns, Builtin.Int.intBits z ≤ 1048576) → m ≤ 1 → ∃ outs, callB (calls tab 99) ⟨[true], 2, f_law⟩ [((.lst (ns.map D.int), m), true)] = .ret (.bl true, 0) outs) : PySem.Challenge.rw_alliedoffers_k80_results_and_conditions.Holds := by
  w_on; o_law
  refine HandSHeadRun.head_any (r := PySem.W.OpenLaw.row PySem.Challenge.rw_alliedoffers_k80_results_and_conditions) (q := PySem.W.view (PySem.W.OpenLaw.row PySem.Challenge.rw_alliedoffers_k80_results_and_conditions).prog [34]) (H := hk) (ob := ob) (M := 3000) (loose := names) (d := HandSHeadRun.topDef (PySem.W.OpenLaw.row PySem.Challenge.rw_alliedoffers_k80_results_and_conditions).prog 34) (kwd := []) ob_eq
    (by kernel_rfl) (fun s => by kernel_rfl) run (by kernel_rfl) (by kernel_rfl) (by kernel_rfl) (by rfl) (by first | assumption | decide +kernel) (by decide +kernel) ⟨rfl, rfl, rfl, rfl, rfl, by decide +kernel⟩ ?hw ?hc
  case hw => w_witness2
  case hc =>
    refine LamX.walk_ofTsE (l := PySem.Challenge.rw_alliedoffers_k80_results_and_conditions) (n := 63) (k := 200) (x := "script") (CX := fun _ => CX0) rfl (by decide) (by kernel_rfl) ⟨rfl, by decide, by decide⟩ ?F (fun _ _ _ _ _ z => z)
    intro w mg fa h Y G hmg0
    obtain ⟨K, ts, c⟩ := Y
    refine ⟨K, c.kin, ?_⟩
    have hmg : mg ("law" : PySem.Str) = some (.ref fa) := by
      have e : (HandSHeadRun.topDef (PySem.W.OpenLaw.row PySem.Challenge.rw_alliedoffers_k80_results_and_conditions).prog 34).name = ("law" : PySem.Str) := by kernel_rfl
      rw [← e]
      exact hmg0
    obtain ⟨fd, hfd⟩ := facts_of c
    have F := (hfd 27 d_law rfl rfl rfl).1
    have e1 : fa = faQ K defs 27 := by
      have := (glo_at c G (i := 27) (d := d_law) rfl rfl rfl).symm.trans hmg
      cases this
      rfl
    rw [e1]
    refine law_at (fd := fd 27) (cr := hd (calls tab 100)) (ix := 27) c (fun s u => L2.FunD.bindsA (ps := ["script"]) F (fun _ _ _ _ _ _ us hl => match us, hl with | [_], _ => rfl) s [u] rfl) (fun base h1 h2 h3 => ?_) hL
    exact r_law (lw c G hfd h3) (tb (lw c G hfd h3) 99)
end Q.K80
end
set_option maxRecDepth 100000
theorem PySem.Challenge.cw_alliedoffers_k80_results_and_conditions_holds : PySem.Challenge.rw_alliedoffers_k80_results_and_conditions.Holds := by
  exact Q.K80.holds_of fun ns m hl hz hm => Q.K80.law_ok ns m hl hm
